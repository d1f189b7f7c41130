import PyProof.Rows.All
import Wide.All
import OpenK.AllK
import Wide.FinOn
import HandS.ForMost
import HandS.ForExc
import HandS.TupAny
import HandS.TupLe
import HandS.Style
import HandS.Wide
import HandS.Deep
import KE.LtData
import HandS.Star
import HandS.SortInts
import HandS.More
import HandS.SortRule
import HandS.Small
import HandS.Zip
import HandS.CallSlots
import HandS.ExcOwn
import HandS.Ends
import HandS.SetFor
import HandS.Strs
import HandS.TupSets
import HandS.RaiseMore
import KE.KIndexOf
import KE.OsSetLaws
import PyProof.ReprRoads
import HandS.ForSpec
import KE.KExcSuper
import HandS.ExcSuper
import HandS.TryMany
import KE.GoesEnum
import KE.GoesMore
import HandS.TryOnly
import KE.SortData
import KE.DataMinMax
import KE.RegKSuper
import KE.RegKTryMore
import PySem.Challenge.RW_truebidsbest_k05_main_rules_paid_exactly
set_option Elab.async false
set_option linter.all false
set_option maxRecDepth 100000
namespace G
open PySem PySem.Spec PyProof.Rows L2

abbrev D := PyData
abbrev Frg := PySem.W.Frag
abbrev MgT := Str → Option Value
abbrev St := L2.St

/-- what running a piece comes to: a value, an own error with its number, or nothing told -/
inductive R (α : Type) where
  | ok (a : α)
  | ex (c : String) (n : Int)
  | no
def R.bind {α β : Type} : R α → (α → R β) → R β
  | .ok a, f => f a
  | .ex c n, _ => .ex c n
  | .no, _ => .no
def R.map {α β : Type} (f : α → β) : R α → R β
  | .ok a => .ok (f a)
  | .ex c n => .ex c n
  | .no => .no
@[simp] theorem R.bind_ok {α β : Type} (a : α) (f : α → R β) : (R.ok a).bind f = f a := rfl
@[simp] theorem R.bind_ex {α β : Type} (c : String) (n : Int) (f : α → R β) : (R.ex c n).bind f = .ex c n := rfl
@[simp] theorem R.bind_no {α β : Type} (f : α → R β) : (R.no : R α).bind f = .no := rfl

/-- a slot: data that nobody changes any more; a list or dict that this frame alone holds; a caught error -/
inductive Sl where
  | v (d : D)
  | own (t : Bool) (d : D)
  | er (c : String) (n : Int)
  | sc (ns : List Int)
abbrev En := List (Option Sl)

/-! ### data in the abstract heap -/
def kD : Key → D
  | .inl i => .int i
  | .inr z => .str z
def TupK (K : Frg) (a : Addr) (vs : List V) : Prop :=
  ∃ (o : Obj) (its : Array Value) (n : Nat), K.lookup a = some o ∧ o.cls = .type "tuple" ∧ o.data = .seq its n ∧ its.size ≤ sizeLine ∧ Vals vs its.toList
mutual
inductive Rep (K : Frg) (H : Hp) (A : List Addr) : V → D → Prop
  | non : Rep K H A .non .none
  | bl (b : Bool) : Rep K H A (.bl b) (.bool b)
  | int (i : Int) : Rep K H A (.int i) (.int i)
  | str (z : Str) : Rep K H A (.str z) (.str z)
  | lst {a : Addr} {vs : List V} {ds : List D} : a ∉ A → H a = some (.lst vs) → RepL K H A vs ds → Rep K H A (.ref a) (.list ds)
  | tup {a : Addr} {vs : List V} {ds : List D} : a ∉ A → H a = some (.tup vs) → RepL K H A vs ds → Rep K H A (.ref a) (.tuple ds)
  | dk {a : Addr} {kvs : List (Key × V)} {ds : List (D × D)} : a ∉ A → Rd H a (.dK kvs) → RepK K H A kvs ds → Rep K H A (.ref a) (.dict ds)
  | dt {a : Addr} {kvs : List (List Key × V)} {ds : List (D × D)} : a ∉ A → Rd H a (.dT kvs) → RepT K H A kvs ds → Rep K H A (.ref a) (.dict ds)
inductive RepL (K : Frg) (H : Hp) (A : List Addr) : List V → List D → Prop
  | nil : RepL K H A [] []
  | cons {v : V} {vs : List V} {d : D} {ds : List D} : Rep K H A v d → RepL K H A vs ds → RepL K H A (v :: vs) (d :: ds)
inductive RepK (K : Frg) (H : Hp) (A : List Addr) : List (Key × V) → List (D × D) → Prop
  | nil : RepK K H A [] []
  | cons {k : Key} {v : V} {vs : List (Key × V)} {d : D} {ds : List (D × D)} : Rep K H A v d → RepK K H A vs ds → RepK K H A ((k, v) :: vs) ((kD k, d) :: ds)
inductive RepT (K : Frg) (H : Hp) (A : List Addr) : List (List Key × V) → List (D × D) → Prop
  | nil : RepT K H A [] []
  | cons {k : List Key} {v : V} {vs : List (List Key × V)} {d : D} {ds : List (D × D)} : Rep K H A v d → RepT K H A vs ds → RepT K H A ((k, v) :: vs) ((.tuple (k.map kD), d) :: ds)
end

/-- from one state to a later one: what is not ours alone stays; what is ours alone later was so, or is new -/
structure Tr (A : List Addr) (H : Hp) (A' : List Addr) (H' : Hp) : Prop where
  keep : ∀ b o, H b = some o → b ∉ A → H' b = some o
  new : ∀ a ∈ A', a ∈ A ∨ H a = none
theorem Tr.refl (A : List Addr) (H : Hp) : Tr A H A H := ⟨fun _ _ h _ => h, fun _ h => .inl h⟩
theorem Tr.same {A : List Addr} {H H' : Hp} (h : Same H H') : Tr A H A H' := ⟨fun b o q _ => h b o q, fun _ h => .inl h⟩
theorem Tr.out {A A' : List Addr} {H H' : Hp} (t : Tr A H A' H') {b : Addr} {o : HO} (h : H b = some o) (n : b ∉ A) : b ∉ A' := fun q => by
  rcases t.new b q with z | z
  · exact n z
  · rw [h] at z; cases z
theorem Tr.trans {A A1 A2 : List Addr} {H H1 H2 : Hp} (t : Tr A H A1 H1) (u : Tr A1 H1 A2 H2) : Tr A H A2 H2 where
  keep := fun b o h n => u.keep b o (t.keep b o h n) (t.out h n)
  new := fun a ha => by
    rcases u.new a ha with z | z
    · exact t.new a z
    · by_cases hA : a ∈ A
      · exact .inl hA
      · refine .inr ?_
        cases q : H a with
        | none => rfl
        | some o => rw [t.keep a o q hA] at z; cases z
theorem Tr.write {A : List Addr} {H : Hp} {a : Addr} {x : HO} (h : a ∈ A) : Tr A H A (upd H a x) := ⟨fun c y q n => by rw [upd_ne (show c ≠ a from fun z => n (by rw [z]; exact h))]; exact q, fun c hc => .inl hc⟩
theorem Tr.sub {A A' : List Addr} {H : Hp} (h : ∀ a ∈ A', a ∈ A) : Tr A H A' H := ⟨fun _ _ h _ => h, fun a ha => .inl (h a ha)⟩

/-- the law's script: a list of ints that is only read -/
def LRep (K : Frg) (H : Hp) (A : List Addr) (a : Addr) (vs : List V) : Prop := (a ∉ A ∧ Rd H a (.lst vs)) ∨
  ∃ (o : Obj) (its : Array Value) (n : Nat), K.lookup a = some o ∧ o.cls = .type "list" ∧ o.dict = none ∧ o.data = .seq its n ∧ its.size ≤ sizeLine ∧ Vals vs its.toList
theorem LRep.sq {K : Frg} {H : Hp} {A : List Addr} {a : Addr} {vs : List V} : LRep K H A a vs → SqL K H a vs
  | .inl h => .inl h.2
  | .inr h => .inr h
section
variable {K : Frg} {H H' : Hp} {A A' : List Addr}
theorem LRep.tr (t : Tr A H A' H') {a : Addr} {vs : List V} : LRep K H A a vs → LRep K H' A' a vs
  | .inl ⟨n, .inl h⟩ => .inl ⟨t.out h n, .inl (t.keep _ _ h n)⟩
  | .inl ⟨n, .inr ⟨o, h⟩⟩ => .inl ⟨t.out h n, .inr ⟨o, t.keep _ _ h n⟩⟩
  | .inr h => .inr h
mutual
theorem Rep.tr (t : Tr A H A' H') : ∀ {v : V} {d : D}, Rep K H A v d → Rep K H' A' v d
  | _, _, .non => .non
  | _, _, .bl b => .bl b
  | _, _, .int i => .int i
  | _, _, .str z => .str z
  | _, _, .lst n h r => .lst (t.out h n) (t.keep _ _ h n) (RepL.tr t r)
  | _, _, .tup n h r => .tup (t.out h n) (t.keep _ _ h n) (RepL.tr t r)
  | _, _, .dk n h r => .dk (by rcases h with h | ⟨o, h⟩ <;> exact t.out h n) (by rcases h with h | ⟨o, h⟩; exact .inl (t.keep _ _ h n); exact .inr ⟨o, t.keep _ _ h n⟩) (RepK.tr t r)
  | _, _, .dt n h r => .dt (by rcases h with h | ⟨o, h⟩ <;> exact t.out h n) (by rcases h with h | ⟨o, h⟩; exact .inl (t.keep _ _ h n); exact .inr ⟨o, t.keep _ _ h n⟩) (RepT.tr t r)
theorem RepL.tr (t : Tr A H A' H') : ∀ {v : List V} {d : List D}, RepL K H A v d → RepL K H' A' v d
  | _, _, .nil => .nil
  | _, _, .cons a b => .cons (Rep.tr t a) (RepL.tr t b)
theorem RepK.tr (t : Tr A H A' H') : ∀ {v : List (Key × V)} {d : List (D × D)}, RepK K H A v d → RepK K H' A' v d
  | _, _, .nil => .nil
  | _, _, .cons a b => .cons (Rep.tr t a) (RepK.tr t b)
theorem RepT.tr (t : Tr A H A' H') : ∀ {v : List (List Key × V)} {d : List (D × D)}, RepT K H A v d → RepT K H' A' v d
  | _, _, .nil => .nil
  | _, _, .cons a b => .cons (Rep.tr t a) (RepT.tr t b)
end
theorem Rep.same (s : Same H H') {v : V} {d : D} (h : Rep K H A v d) : Rep K H' A v d := h.tr (Tr.same s)
theorem RepL.same (s : Same H H') {v : List V} {d : List D} (h : RepL K H A v d) : RepL K H' A v d := h.tr (Tr.same s)
theorem Rep.sub (s : ∀ a ∈ A', a ∈ A) {v : V} {d : D} (h : Rep K H A v d) : Rep K H A' v d := h.tr (Tr.sub s)
theorem RepL.sub (s : ∀ a ∈ A', a ∈ A) {v : List V} {d : List D} (h : RepL K H A v d) : RepL K H A' v d := h.tr (Tr.sub s)
theorem RepL.length : ∀ {vs : List V} {ds : List D}, RepL K H A vs ds → vs.length = ds.length
  | _, _, .nil => rfl
  | _, _, .cons _ t => by rw [List.length_cons, List.length_cons, RepL.length t]
theorem RepL.get : ∀ {vs : List V} {ds : List D} {i : Nat} {d : D}, RepL K H A vs ds → ds[i]? = some d → ∃ v, vs[i]? = some v ∧ Rep K H A v d
  | _, _, _, _, .nil, h => by simp at h
  | _, _, 0, _, .cons a _, h => by simp at h; subst h; exact ⟨_, rfl, a⟩
  | _, _, i + 1, _, .cons _ t, h => by
    obtain ⟨v, h1, h2⟩ := RepL.get (i := i) t (by simpa using h)
    exact ⟨v, by simpa using h1, h2⟩
theorem RepL.append : ∀ {vs us : List V} {ds es : List D}, RepL K H A vs ds → RepL K H A us es → RepL K H A (vs ++ us) (ds ++ es)
  | _, _, _, _, .nil, s => s
  | _, _, _, _, .cons a t, s => .cons a (RepL.append t s)
theorem RepL.set : ∀ {vs : List V} {ds : List D} {v : V} {d : D} (i : Nat), RepL K H A vs ds → Rep K H A v d → RepL K H A (vs.set i v) (ds.set i d)
  | _, _, _, _, _, .nil, _ => .nil
  | _, _, _, _, 0, .cons _ t, r => .cons r t
  | _, _, _, _, i + 1, .cons a t, r => .cons a (RepL.set i t r)
theorem RepL.take : ∀ {vs : List V} {ds : List D} (n : Nat), RepL K H A vs ds → RepL K H A (vs.take n) (ds.take n)
  | _, _, 0, _ => by rw [List.take_zero, List.take_zero]; exact .nil
  | _, _, _ + 1, .nil => .nil
  | _, _, n + 1, .cons r t => .cons r (RepL.take n t)
theorem RepL.drop : ∀ {vs : List V} {ds : List D} (n : Nat), RepL K H A vs ds → RepL K H A (vs.drop n) (ds.drop n)
  | _, _, 0, r => r
  | _, _, _ + 1, .nil => .nil
  | _, _, n + 1, .cons _ t => RepL.drop n t
theorem RepL.reverse : ∀ {vs : List V} {ds : List D}, RepL K H A vs ds → RepL K H A vs.reverse ds.reverse
  | _, _, .nil => .nil
  | _, _, .cons a t => by rw [List.reverse_cons, List.reverse_cons]; exact (RepL.reverse t).append (.cons a .nil)
theorem RepL.one {v : V} {d : D} (h : Rep K H A v d) : RepL K H A [v] [d] := .cons h .nil
theorem RepL.flatRep {vs : List V} {ds : List D} (h : RepL K H A vs ds) : ∀ n : Nat, RepL K H A (List.replicate n vs).flatten (List.replicate n ds).flatten
  | 0 => .nil
  | n + 1 => by rw [List.replicate_succ, List.replicate_succ, List.flatten_cons, List.flatten_cons]; exact h.append (flatRep h n)
theorem RepL.getV : ∀ {vs : List V} {ds : List D} {i : Nat} {v : V}, RepL K H A vs ds → vs[i]? = some v → ∃ d, ds[i]? = some d ∧ Rep K H A v d
  | _, _, _, _, .nil, h => by simp at h
  | _, _, 0, _, .cons a _, h => by simp at h; subst h; exact ⟨_, rfl, a⟩
  | _, _, i + 1, _, .cons _ t, h => by
    obtain ⟨v, h1, h2⟩ := RepL.getV (i := i) t (by simpa using h)
    exact ⟨v, by simpa using h1, h2⟩

/-- a list or dict of which the frame alone holds the object (t: a dict whose keys are tuples) -/
def ORep (K : Frg) (H : Hp) (A : List Addr) (a : Addr) (t : Bool) : D → Prop
  | .list ds => ∃ vs, H a = some (.lst vs) ∧ RepL K H A vs ds
  | .dict ds => (t = false ∧ ∃ kvs, H a = some (.dK kvs) ∧ RepK K H A kvs ds) ∨ (t = true ∧ ∃ kvs, H a = some (.dT kvs) ∧ RepT K H A kvs ds)
  | _ => False
/-- read, not kept -/
def RepB (K : Frg) (H : Hp) (A : List Addr) (v : V) (d : D) : Prop := Rep K H A v d ∨ (∃ a, v = .ref a ∧ a ∈ A ∧ ∃ t, ORep K H A a t d) ∨ ∃ a vs ds, v = .ref a ∧ d = .tuple ds ∧ TupK K a vs ∧ RepL K H A vs ds
theorem ORep.tr (s : Same H H') (u : Tr A H A' H') {a : Addr} {t : Bool} : ∀ {d : D}, ORep K H A a t d → ORep K H' A' a t d
  | .list _, ⟨vs, h, r⟩ => ⟨vs, s _ _ h, r.tr u⟩
  | .dict _, .inl ⟨e, vs, h, r⟩ => .inl ⟨e, vs, s _ _ h, r.tr u⟩
  | .dict _, .inr ⟨e, vs, h, r⟩ => .inr ⟨e, vs, s _ _ h, r.tr u⟩
  | .none, h => h.elim
  | .bool _, h => h.elim
  | .int _, h => h.elim
  | .str _, h => h.elim
  | .tuple _, h => h.elim
theorem ORep.same (s : Same H H') {a : Addr} {t : Bool} {d : D} (h : ORep K H A a t d) : ORep K H' A a t d := h.tr s (Tr.same s)
theorem RepB.same (s : Same H H') {v : V} {d : D} : RepB K H A v d → RepB K H' A v d
  | .inl h => .inl (h.same s)
  | .inr (.inl ⟨a, e, m, t, h⟩) => .inr (.inl ⟨a, e, m, t, h.same s⟩)
  | .inr (.inr ⟨a, vs, ds, e, e2, h, r⟩) => .inr (.inr ⟨a, vs, ds, e, e2, h, r.same s⟩)
theorem ORep.some {a : Addr} {t : Bool} : ∀ {d : D}, ORep K H A a t d → ∃ o, H a = Option.some o ∧ Mut (Option.some o)
  | .list _, ⟨vs, h, r⟩ => ⟨_, h, trivial⟩
  | .dict _, .inl ⟨_, vs, h, r⟩ => ⟨_, h, trivial⟩
  | .dict _, .inr ⟨_, vs, h, r⟩ => ⟨_, h, trivial⟩
  | .none, h => h.elim
  | .bool _, h => h.elim
  | .int _, h => h.elim
  | .str _, h => h.elim
  | .tuple _, h => h.elim
/-- the object at another place was changed -/
theorem ORep.other {a b : Addr} {t : Bool} {o : HO} (n : a ≠ b) (hb : b ∈ A) : ∀ {d : D}, ORep K H A a t d → ORep K (upd H b o) A a t d := by
  have u : Tr A H A (upd H b o) := ⟨fun c x h q => by rw [upd_ne (show c ≠ b from fun z => q (by rw [z]; exact hb))]; exact h, fun c h => .inl h⟩
  intro d h
  cases d with
  | list ds => obtain ⟨vs, h, r⟩ := h; exact ⟨vs, by rw [upd_ne n]; exact h, r.tr u⟩
  | dict ds =>
    rcases h with ⟨e, vs, h, r⟩ | ⟨e, vs, h, r⟩
    · exact .inl ⟨e, vs, by rw [upd_ne n]; exact h, r.tr u⟩
    · exact .inr ⟨e, vs, by rw [upd_ne n]; exact h, r.tr u⟩
  | _ => exact h.elim
/-- let go: from now on it is data that nobody changes -/
theorem ORep.free {a : Addr} {t : Bool} (ha : a ∉ A') (s : ∀ b ∈ A', b ∈ A) : ∀ {d : D}, ORep K H A a t d → Rep K H A' (.ref a) d
  | .list _, ⟨vs, h, r⟩ => .lst ha h (r.sub s)
  | .dict _, .inl ⟨_, vs, h, r⟩ => .dk ha (.inl h) (r.tr (Tr.sub s))
  | .dict _, .inr ⟨_, vs, h, r⟩ => .dt ha (.inl h) (r.tr (Tr.sub s))
  | .none, h => h.elim
  | .bool _, h => h.elim
  | .int _, h => h.elim
  | .str _, h => h.elim
  | .tuple _, h => h.elim
theorem ORep.sub {a : Addr} {t : Bool} (s : ∀ b ∈ A', b ∈ A) {d : D} (h : ORep K H A a t d) : ORep K H A' a t d := h.tr (Same.refl H) (Tr.sub s)
end

/-! ### the state as the meanings see it -/
def SRep (K : Frg) (H0 : Hp) (A0 A : List Addr) (H : Hp) (v : V) : Sl → Prop
  | .v d => Rep K H A v d
  | .own t d => ∃ a, v = .ref a ∧ a ∈ A ∧ (H0 a = none ∧ a ∉ A0) ∧ ORep K H A a t d
  | .er _ _ => True
  | .sc ns => ∃ a, v = .ref a ∧ LRep K H A a (ns.map V.int)
structure Ok (K : Frg) (H0 : Hp) (A0 A : List Addr) (ρ : En) (σ : St) (H : Hp) : Prop where
  len : σ.length = ρ.length
  ext : Same H0 H
  sub : ∀ a ∈ A0, a ∈ A
  new : ∀ a ∈ A, a ∈ A0 ∨ H0 a = none
  has : ∀ a ∈ A, H a ≠ none
  slot : ∀ (i : Nat) (s : Sl), ρ[i]? = some (some s) → ∃ v, σ[i]? = some (some v) ∧ SRep K H0 A0 A H v s
  dis : ∀ (i j : Nat) (a : Addr) (t t' : Bool) (d d' : D), i ≠ j → ρ[i]? = some (some (.own t d)) → ρ[j]? = some (some (.own t' d')) → σ[i]? = some (some (.ref a)) → σ[j]? ≠ some (some (.ref a))
theorem SRep.same {K : Frg} {H0 H H' : Hp} {A0 A : List Addr} (s : Same H H') {v : V} : ∀ {x : Sl}, SRep K H0 A0 A H v x → SRep K H0 A0 A H' v x
  | .v _, h => Rep.same s h
  | .own _ _, ⟨a, e, m, n, h⟩ => ⟨a, e, m, n, h.same s⟩
  | .er _ _, _ => trivial
  | .sc _, ⟨a, e, h⟩ => ⟨a, e, h.tr (Tr.same s)⟩
theorem Ok.same {K : Frg} {H0 H H' : Hp} {A0 A : List Addr} {ρ : En} {σ : St} (o : Ok K H0 A0 A ρ σ H) (s : Same H H') : Ok K H0 A0 A ρ σ H' :=
  ⟨o.len, o.ext.trans s, o.sub, o.new, fun a ha z => o.has a ha (s.free z), fun i x h => let ⟨v, h1, h2⟩ := o.slot i x h; ⟨v, h1, h2.same s⟩, o.dis⟩
theorem Ok.fresh {K : Frg} {H0 H : Hp} {A0 A : List Addr} {ρ : En} {σ : St} (o : Ok K H0 A0 A ρ σ H) {p : Addr} (h : H p = none) : p ∉ A := fun z => o.has p z h

/-! ### meanings -/
section
variable (K : Frg) (mg : MgT) (W : WX)
/-- an own error of the class named c, its number n, in the later heap H' -/
def ErrAt (c : String) (n : Int) (u : Value) (p : Addr) (H' : Hp) : Prop := mg (Str.ofString c) = some u ∧ H' p = some (.xd [("at", .int n)])
def Post {α : Type} (σ : St) (H : Hp) (P : α → Hp → Prop) : R α → Prop
  | .ok a => ∀ H', Same H H' → P a H'
  | .ex c n => ∀ u p H', Same H H' → H p = none → ErrAt mg c n u p H' → W u (some p) σ H'
  | .no => False
end
section
variable {mg : MgT} {W : WX} {α β : Type} {σ : St} {H H1 : Hp} {P P' : α → Hp → Prop} {r : R α}
theorem Post.same (h : Post mg W σ H P r) (s : Same H H1) : Post mg W σ H1 P r := by
  cases r with
  | ok a => exact fun H' s' => h H' (s.trans s')
  | ex c n => exact fun u p H' s' f e => h u p H' (s.trans s') (s.free f) e
  | no => exact h
theorem Post.mono (h : Post mg W σ H P r) (m : ∀ a H1, Same H H1 → P a H1 → P' a H1) : Post mg W σ H P' r := by
  cases r with
  | ok a => exact fun H' s' => m a H' s' (h H' s')
  | ex c n => exact h
  | no => exact h
theorem Post.bind {Pb : β → Hp → Prop} {k : α → R β} (h : Post mg W σ H Pb (r.bind k)) : Post mg W σ H (fun a H1 => Post mg W σ H1 Pb (k a)) r := by
  cases r with
  | ok a => exact fun H' s' => Post.same (r := k a) h s'
  | ex c n => exact h
  | no => exact h
theorem Post.at {a : α} (h : Post mg W σ H P (.ok a)) : P a H := h H (Same.refl H)
end
section
variable (K : Frg) (mg : MgT) (W : WX)
def tF (f : En → R D) : TE := fun σ H Q => ∃ H0 A0 A ρ, Ok K H0 A0 A ρ σ H ∧ Post mg W σ H (fun d H' => ∀ v, Rep K H' A v d → Q v H') (f ρ)
def tFB (f : En → R D) : TE := fun σ H Q => ∃ H0 A0 A ρ, Ok K H0 A0 A ρ σ H ∧ Post mg W σ H (fun d H' => ∀ v, RepB K H' A v d → Q v H') (f ρ)
/-- a new list or dict, which nothing else holds -/
def RepN (K : Frg) (t : Bool) (H H' : Hp) (A : List Addr) (v : V) (d : D) : Prop := ∃ a, v = .ref a ∧ H a = none ∧ ORep K H' (a :: A) a t d
def tFN (t : Bool) (f : En → R D) : TE := fun σ H Q => ∃ H0 A0 A ρ, Ok K H0 A0 A ρ σ H ∧ Post mg W σ H (fun d H' => ∀ v, RepN K t H H' A v d → Q v H') (f ρ)
def tFT (f : En → R Bool) : TT := fun σ H Q => ∃ H0 A0 A ρ, Ok K H0 A0 A ρ σ H ∧ Post mg W σ H (fun b H' => Q b H') (f ρ)
def tFA (f : En → R (List D)) : TA := fun σ H Q => ∃ H0 A0 A ρ, Ok K H0 A0 A ρ σ H ∧ Post mg W σ H (fun ds H' => ∀ vs, RepL K H' A vs ds → Q vs H') (f ρ)
def tFAB (f : En → R (List D)) : TA := fun σ H Q => ∃ H0 A0 A ρ, Ok K H0 A0 A ρ σ H ∧ Post mg W σ H (fun ds H' => ∀ vs, Paired (RepB K H' A) vs ds → Q vs H') (f ρ)
end
/-- what a statement comes to -/
inductive SR where
  | nx (ρ : En)
  | rt (d : D)
  | bk (ρ : En)
  | ct (ρ : En)
  | ex (c : String) (n : Int) (ρ : En)
  | no
section
variable (K : Frg) (mg : MgT) (W : WX)
def PostS (H0 : Hp) (A0 A : List Addr) (H : Hp) (E : Ends) : SR → Prop
  | .nx ρ' => ∀ σ' H' A', Ok K H0 A0 A' ρ' σ' H' → Tr A H A' H' → E.nx σ' H'
  | .rt d => ∀ v H', Same H0 H' → Rep K H' A0 v d → E.rt v H'
  | .bk ρ' => ∀ σ' H' A', Ok K H0 A0 A' ρ' σ' H' → Tr A H A' H' → E.bk σ' H'
  | .ct ρ' => ∀ σ' H' A', Ok K H0 A0 A' ρ' σ' H' → Tr A H A' H' → E.ct σ' H'
  | .ex c n ρ' => ∀ u p σ' H' A', Ok K H0 A0 A' ρ' σ' H' → Tr A H A' H' → H0 p = none → ErrAt mg c n u p H' → W u (some p) σ' H'
  | .no => False
def tFS (g : En → SR) : TS := fun E σ H => ∃ H0 A0 A ρ, Ok K H0 A0 A ρ σ H ∧ PostS K mg W H0 A0 A H E (g ρ)
end
abbrev FE (X : Cx) (W : WX) (e : Expr) (f : En → R D) : Prop := PE X e (tF X.K X.mg W f)
abbrev FB (X : Cx) (W : WX) (e : Expr) (f : En → R D) : Prop := PE X e (tFB X.K X.mg W f)
abbrev FN (X : Cx) (W : WX) (t : Bool) (e : Expr) (f : En → R D) : Prop := PE X e (tFN X.K X.mg W t f)
abbrev FT (X : Cx) (W : WX) (e : Expr) (f : En → R Bool) : Prop := PT X e (tFT X.K X.mg W f)
abbrev FA (X : Cx) (W : WX) (es : List Expr) (f : En → R (List D)) : Prop := PA X es (tFA X.K X.mg W f)
abbrev FAB (X : Cx) (W : WX) (es : List Expr) (f : En → R (List D)) : Prop := PA X es (tFAB X.K X.mg W f)
abbrev FS (X : Cx) (W : WX) (st : Stmt) (g : En → SR) : Prop := PS X st (tFS X.K X.mg W g)
abbrev FSs (X : Cx) (W : WX) (st : List Stmt) (g : En → SR) : Prop := PSs X st (tFS X.K X.mg W g)

section
variable {X : Cx}
theorem impE {e : Expr} {t t' : TE} (h : PE X e t) (i : ∀ σ H Q, t' σ H Q → t σ H Q) : PE X e t' := ⟨fun pins s σ H Q I q => h.run pins s σ H Q I (i _ _ _ q)⟩
theorem impT {e : Expr} {t t' : TT} (h : PT X e t) (i : ∀ σ H Q, t' σ H Q → t σ H Q) : PT X e t' := ⟨fun pins s σ H Q I q => h.run pins s σ H Q I (i _ _ _ q)⟩
theorem impW {e : Expr} {t t' : TT} (h : PW X e t) (i : ∀ σ H Q, t' σ H Q → t σ H Q) : PW X e t' := ⟨fun wh pins s σ H Q I q => h.run wh pins s σ H Q I (i _ _ _ q)⟩
theorem impA {e : List Expr} {t t' : TA} (h : PA X e t) (i : ∀ σ H Q, t' σ H Q → t σ H Q) : PA X e t' := ⟨fun pos pins s σ H Q I q => h.run pos pins s σ H Q I (i _ _ _ q)⟩
theorem impS {e : Stmt} {t t' : TS} (h : PS X e t) (i : ∀ D σ H, t' D σ H → t D σ H) : PS X e t' := ⟨fun pins s σ H D I q => h.run pins s σ H D I (i _ _ _ q)⟩
theorem impSs {e : List Stmt} {t t' : TS} (h : PSs X e t) (i : ∀ D σ H, t' D σ H → t D σ H) : PSs X e t' := ⟨fun pins s σ H D I q => h.run pins s σ H D I (i _ _ _ q)⟩
end

/-! ### reading shapes off -/
section
variable {K : Frg} {H : Hp} {A : List Addr} {v : V}
theorem RepB.of {d : D} (h : Rep K H A v d) : RepB K H A v d := .inl h
theorem RepB.int {i : Int} (h : RepB K H A v (.int i)) : v = .int i := by
  rcases h with h | ⟨a, _, _, _, h⟩ | ⟨_, _, _, _, e, _⟩
  · cases h; rfl
  · exact h.elim
  · cases e
theorem RepB.bool {i : Bool} (h : RepB K H A v (.bool i)) : v = .bl i := by
  rcases h with h | ⟨a, _, _, _, h⟩ | ⟨_, _, _, _, e, _⟩
  · cases h; rfl
  · exact h.elim
  · cases e
theorem RepB.str {i : Str} (h : RepB K H A v (.str i)) : v = .str i := by
  rcases h with h | ⟨a, _, _, _, h⟩ | ⟨_, _, _, _, e, _⟩
  · cases h; rfl
  · exact h.elim
  · cases e
theorem RepB.non (h : RepB K H A v .none) : v = .non := by
  rcases h with h | ⟨a, _, _, _, h⟩ | ⟨_, _, _, _, e, _⟩
  · cases h; rfl
  · exact h.elim
  · cases e
theorem RepB.lst {ds : List D} (h : RepB K H A v (.list ds)) : ∃ a vs, v = .ref a ∧ H a = some (.lst vs) ∧ RepL K H A vs ds := by
  rcases h with h | ⟨a, e, _, _, vs, h, r⟩ | ⟨_, _, _, _, e, _⟩
  · cases h with
    | lst n h r => exact ⟨_, _, rfl, h, r⟩
  · exact ⟨a, vs, e, h, r⟩
  · cases e
theorem RepB.tup {ds : List D} (h : RepB K H A v (.tuple ds)) : ∃ a vs, v = .ref a ∧ SqT K H a vs ∧ RepL K H A vs ds := by
  rcases h with h | ⟨a, e, _, _, h⟩ | ⟨a, vs, _, e, e2, h, r⟩
  · cases h with
    | tup n h r => exact ⟨_, _, rfl, .inl (.inl h), r⟩
  · exact h.elim
  · cases e2
    exact ⟨a, vs, e, .inr h, r⟩
theorem RepB.dict {ds : List (D × D)} (h : RepB K H A v (.dict ds)) : ∃ a, v = .ref a ∧ ((∃ kvs, Rd H a (.dK kvs) ∧ RepK K H A kvs ds) ∨ ∃ kvs, Rd H a (.dT kvs) ∧ RepT K H A kvs ds) := by
  rcases h with h | ⟨a, e, _, _, h⟩ | ⟨_, _, _, _, e, _⟩
  · cases h with
    | dk n h r => exact ⟨_, rfl, .inl ⟨_, h, r⟩⟩
    | dt n h r => exact ⟨_, rfl, .inr ⟨_, h, r⟩⟩
  · rcases h with ⟨_, kvs, h, r⟩ | ⟨_, kvs, h, r⟩
    · exact ⟨a, e, .inl ⟨kvs, .inl h, r⟩⟩
    · exact ⟨a, e, .inr ⟨kvs, .inl h, r⟩⟩
  · cases e
mutual
/-- data without dicts, as the kit's own relation has it -/
theorem Rep.dp : ∀ {v : V} {d : D}, Rep K H A v d → d.hasDict = false → Dp K H v d
  | _, _, .non, _ => .non
  | _, _, .bl b, _ => .bl b
  | _, _, .int i, _ => .int i
  | _, _, .str z, _ => .str z
  | _, _, .lst _ h r, q => .lst (SqL.of h) (RepL.dp r (by simpa only [PyData.hasDict] using q))
  | _, _, .tup _ h r, q => .tup (.inl (.inl h)) (RepL.dp r (by simpa only [PyData.hasDict] using q))
  | _, _, .dk _ _ _, q => by simp [PyData.hasDict] at q
  | _, _, .dt _ _ _, q => by simp [PyData.hasDict] at q
theorem RepL.dp : ∀ {v : List V} {d : List D}, RepL K H A v d → PyData.hasDictAll d = false → DpAll K H v d
  | _, _, .nil, _ => .nil
  | _, _, .cons a b, q => by
    simp only [PyData.hasDictAll, Bool.or_eq_false_iff] at q
    exact .cons (Rep.dp a q.1) (RepL.dp b q.2)
end
theorem RepB.dp {d : D} (h : RepB K H A v d) (q : SeqAt.shaped d = true) : Dp K H v d := by
  have q' : d.hasDict = false := PyData.hasDict_of_canLay d (SeqAt.canLay_of_shaped q)
  rcases h with h | ⟨a, e, _, _, h⟩ | ⟨a, vs, ds, rfl, rfl, h, r⟩
  · exact h.dp q'
  rotate_left
  · exact .tup (.inr h) (r.dp (by simpa only [PyData.hasDict] using q'))
  · cases d with
    | list ds =>
      obtain ⟨vs, h, r⟩ := h
      subst e
      exact .lst (SqL.of h) (r.dp (by simpa only [PyData.hasDict] using q'))
    | dict ds => simp [PyData.hasDict] at q'
    | none => exact h.elim
    | bool _ => exact h.elim
    | int _ => exact h.elim
    | str _ => exact h.elim
    | tuple _ => exact h.elim
end
/-! ### new objects -/
theorem same_upd {H : Hp} {p : Addr} {o : HO} (h : H p = none) : Same H (upd H p o) := fun b x e => by
  rw [upd_ne (ne_of_none e h)]
  exact e
section
variable {K : Frg} {H : Hp} {A : List Addr} {p : Addr} {vs : List V} {ds : List D}
/-- what stood before the new object does not reach it -/
theorem Tr.new1 {o : HO} (hp : H p = none) : Tr A H (p :: A) (upd H p o) := ⟨fun b x e _ => same_upd hp b x e, fun a ha => by
  rcases List.mem_cons.mp ha with rfl | h
  · exact .inr hp
  · exact .inl h⟩
theorem orep_lst {t : Bool} (hp : H p = none) (r : RepL K H A vs ds) : ORep K (upd H p (.lst vs)) (p :: A) p t (.list ds) := ⟨vs, upd_same, r.tr (Tr.new1 hp)⟩
theorem rep_tup (ha : p ∉ A) (hp : H p = none) (r : RepL K H A vs ds) : Rep K (upd H p (.tup vs)) A (.ref p) (.tuple ds) := .tup ha upd_same (r.same (same_upd hp))
theorem rep_lst (ha : p ∉ A) (hp : H p = none) (r : RepL K H A vs ds) : Rep K (upd H p (.lst vs)) A (.ref p) (.list ds) := .lst ha upd_same (r.same (same_upd hp))
end
end G

namespace G
open PySem PySem.Spec PyProof.Rows L2

/-! ### names and constants -/
def cVar (i : Nat) : En → R D := fun ρ => match ρ[i]? with | some (some (.v d)) => .ok d | _ => .no
def cVarB (i : Nat) : En → R D := fun ρ => match ρ[i]? with | some (some (.v d)) => .ok d | some (some (.own _ d)) => .ok d | _ => .no
def cK (d : D) : En → R D := fun _ => .ok d
section
variable {X : Cx} {W : WX}
theorem fe_var {i : Nat} {x : Str} {pos : Pos} (h : PE X (.Name x pos) (tVar i)) : FE X W (.Name x pos) (cVar i)   := impE h fun σ H Q ⟨H0, A0, A, ρ, o, P⟩ => by
  unfold cVar at P
  split at P
  · rename_i d e
    obtain ⟨v, h1, h2⟩ := o.slot i _ e
    exact ⟨v, h1, P.at v h2⟩
  · exact P.elim
theorem fb_var {i : Nat} {x : Str} {pos : Pos} (h : PE X (.Name x pos) (tVar i)) : FB X W (.Name x pos) (cVarB i)   := impE h fun σ H Q ⟨H0, A0, A, ρ, o, P⟩ => by
  unfold cVarB at P
  split at P
  · rename_i d e
    obtain ⟨v, h1, h2⟩ := o.slot i _ e
    exact ⟨v, h1, P.at v (.inl h2)⟩
  · rename_i d e
    obtain ⟨v, h1, a, e2, m, n, h2⟩ := o.slot i _ e
    exact ⟨v, h1, P.at v (.inr (.inl ⟨a, e2, m, _, h2⟩))⟩
  · exact P.elim
theorem fe_k {e : Expr} {v : V} {d : D} (h : PE X e (tC v)) (r : ∀ H A, Rep X.K H A v d) : FE X W e (cK d)   := impE h fun σ H Q ⟨H0, A0, A, ρ, o, P⟩ => P.at v (r _ _)
theorem fe_int {i : Int} {j : Nat} {pos : Pos} : FE X W (.Constant (.int i) j pos) (cK (.int i)) := fe_k pe_int fun _ _ => .int i
theorem fe_bl {i : Bool} {j : Nat} {pos : Pos} : FE X W (.Constant (.bool i) j pos) (cK (.bool i)) := fe_k pe_bl fun _ _ => .bl i
theorem fe_str {i : Str} {j : Nat} {pos : Pos} : FE X W (.Constant (.str i) j pos) (cK (.str i)) := fe_k pe_str fun _ _ => .str i
theorem fe_non {j : Nat} {pos : Pos} : FE X W (.Constant .none j pos) (cK .none) := fe_k pe_non fun _ _ => .non
theorem fb_of {e : Expr} {f : En → R D} (h : FE X W e f) : FB X W e f := impE h fun σ H Q ⟨H0, A0, A, ρ, o, P⟩ => ⟨H0, A0, A, ρ, o, P.mono fun d H1 _ q v r => q v (.inl r)⟩
theorem fe_of_fn {t : Bool} {e : Expr} {f : En → R D} (h : FN X W t e f) : FE X W e f := impE h fun σ H Q ⟨H0, A0, A, ρ, o, P⟩ => ⟨H0, A0, A, ρ, o, P.mono fun d H1 _ q v ⟨a, e, n, r⟩ => q v (by
  rw [e]
  exact r.free (o.fresh n) fun b hb => List.mem_cons_of_mem _ hb)⟩
end

/-! ### operators -/
def ofO {α : Type} : Option α → R α
  | some a => .ok a
  | none => .no
@[simp] theorem ofO_some {α : Type} (a : α) : ofO (some a) = R.ok a := rfl
@[simp] theorem ofO_none {α : Type} : ofO (none : Option α) = R.no := rfl
theorem Post.ofO {mg : MgT} {W : WX} {α : Type} {σ : St} {H : Hp} {P : α → Hp → Prop} {o : Option α} (h : Post mg W σ H P (ofO o)) : ∃ a, o = some a ∧ ∀ H', Same H H' → P a H' := by
  cases o with
  | none => exact h.elim
  | some a => exact ⟨a, rfl, h⟩
def cBin (dop : D → D → Option D) (f g : En → R D) : En → R D := fun ρ => (f ρ).bind fun x => (g ρ).bind fun y => ofO (dop x y)
def cUn (dop : D → Option D) (f : En → R D) : En → R D := fun ρ => (f ρ).bind fun x => ofO (dop x)
/-- an operator of values does on data what dop says -/
def DOp (X : Cx) (F : Value → Value → Sem Value) (dop : D → D → Option D) : Prop :=
  ∃ r : R2, OpR X F r ∧ ∀ (H : Hp) (A : List Addr) (x y : V) (d1 d2 d : D) (Q : VK), (∀ a ∈ A, H a ≠ none) → RepB X.K H A x d1 → RepB X.K H A y d2 → dop d1 d2 = some d → (∀ v H', Same H H' → Rep X.K H' A v d → Q v H') → r x y H Q
/-- .. operands that are data nobody changes -/
def DOpE (X : Cx) (F : Value → Value → Sem Value) (dop : D → D → Option D) : Prop :=
  ∃ r : R2, OpR X F r ∧ ∀ (H : Hp) (A : List Addr) (x y : V) (d1 d2 d : D) (Q : VK), (∀ a ∈ A, H a ≠ none) → Rep X.K H A x d1 → Rep X.K H A y d2 → dop d1 d2 = some d → (∀ v H', Same H H' → Rep X.K H' A v d → Q v H') → r x y H Q
def DUn (X : Cx) (F : Value → Sem Value) (dop : D → Option D) : Prop :=
  ∃ r : V → Hp → VK → Prop, UnR X F r ∧ ∀ (H : Hp) (A : List Addr) (x : V) (d1 d : D) (Q : VK), (∀ a ∈ A, H a ≠ none) → RepB X.K H A x d1 → dop d1 = some d → (∀ v H', Same H H' → Rep X.K H' A v d → Q v H') → r x H Q
section
variable {X : Cx} {W : WX} {a b c : Expr} {f g h : En → R D} {dop dop' : D → D → Option D} {op op' : CmpOp} {pos : Pos}
theorem op_read {r : R2} (hs : ∀ (H : Hp) (A : List Addr) (x y : V) (d1 d2 d : D) (Q : VK), (∀ a ∈ A, H a ≠ none) → RepB X.K H A x d1 → RepB X.K H A y d2 → dop d1 d2 = some d → (∀ v H', Same H H' → Rep X.K H' A v d → Q v H') → r x y H Q)
    (σ : St) (H : Hp) (Q : VK) (q : tF X.K X.mg W (cBin dop f g) σ H Q) : tOp r (tFB X.K X.mg W f) (tFB X.K X.mg W g) σ H Q := by
  obtain ⟨H0, A0, A, ρ, o, P⟩ := q
  refine ⟨H0, A0, A, ρ, o, P.bind.mono fun d1 H1 s1 P1 x hx => ?_⟩
  refine ⟨H0, A0, A, ρ, o.same s1, P1.bind.mono fun d2 H2 s2 P2 y hy => ?_⟩
  obtain ⟨d, e, P3⟩ := P2.ofO
  exact hs H2 A x y d1 d2 d Q ((o.same s1).same s2).has (hx.same s2) hy e fun v H' s3 hv => P3 H' s3 v hv
theorem fe_op {op : Operator} (ho : DOp X (binaryOp op) dop) (ha : FB X W a f) (hb : FB X W b g) : FE X W (.BinOp a op b pos) (cBin dop f g) := by
  obtain ⟨r, hr, hs⟩ := ho
  exact impE (pe_op hr ha hb) (op_read hs)
theorem fe_opE {op : Operator} (ho : DOpE X (binaryOp op) dop) (ha : FE X W a f) (hb : FE X W b g) : FE X W (.BinOp a op b pos) (cBin dop f g) := by
  obtain ⟨r, hr, hs⟩ := ho
  refine impE (pe_op hr ha hb) fun σ H Q ⟨H0, A0, A, ρ, o, P⟩ => ?_
  refine ⟨H0, A0, A, ρ, o, P.bind.mono fun d1 H1 s1 P1 x hx => ?_⟩
  refine ⟨H0, A0, A, ρ, o.same s1, P1.bind.mono fun d2 H2 s2 P2 y hy => ?_⟩
  obtain ⟨d, e, P3⟩ := P2.ofO
  exact hs H2 A x y d1 d2 d Q ((o.same s1).same s2).has (hx.same s2) hy e fun v H' s3 hv => P3 H' s3 v hv
theorem fe_un {op : UnaryOp} {dop : D → Option D} (ho : DUn X (unaryOp op) dop) (ha : FB X W a f) : FE X W (.UnaryOp op a pos) (cUn dop f) := by
  obtain ⟨r, hr, hs⟩ := ho
  refine impE (pe_un hr ha) fun σ H Q ⟨H0, A0, A, ρ, o, P⟩ => ?_
  refine ⟨H0, A0, A, ρ, o, P.bind.mono fun d1 H1 s1 P1 x hx => ?_⟩
  obtain ⟨d, e, P3⟩ := P1.ofO
  exact hs H1 A x d1 d Q (o.same s1).has hx e fun v H' s3 hv => P3 H' s3 v hv
theorem fe_cmp (ho : DOp X (compareOp op) dop) (ha : FB X W a f) (hb : FB X W b g) (hm : behindInMarks op b = false) : FE X W (.Compare a [op] [b] pos) (cBin dop f g) := by
  obtain ⟨r, hr, hs⟩ := ho
  exact impE (pe_cmpR hr ha hb hm) (op_read hs)
def toB : D → Option Bool
  | .bool b => some b
  | _ => none
def cBinT (dop : D → D → Option D) (f g : En → R D) : En → R Bool := fun ρ => (f ρ).bind fun x => (g ρ).bind fun y => ofO ((dop x y).bind toB)
theorem toB_some {d : D} {k : Bool} (h : toB d = some k) : d = .bool k := by
  cases d <;> simp [toB] at h
  rw [h]
theorem ft_cmp (ho : DOp X (compareOp op) dop) (ha : FB X W a f) (hb : FB X W b g) (hm : behindInMarks op b = false) : FT X W (.Compare a [op] [b] pos) (cBinT dop f g) := by
  obtain ⟨r, hr, hs⟩ := ho
  refine impT (pt_cmpR hr ha hb hm) fun σ H Q ⟨H0, A0, A, ρ, o, P⟩ => ?_
  refine ⟨H0, A0, A, ρ, o, P.bind.mono fun d1 H1 s1 P1 x hx => ?_⟩
  refine ⟨H0, A0, A, ρ, o.same s1, P1.bind.mono fun d2 H2 s2 P2 y hy => ?_⟩
  obtain ⟨k, e, P3⟩ := P2.ofO
  obtain ⟨d, e1, e2⟩ := Option.bind_eq_some_iff.mp e
  obtain rfl := toB_some e2
  exact hs H2 A x y d1 d2 _ _ ((o.same s1).same s2).has (hx.same s2) hy e1 fun v H' s3 hv => ⟨k, (RepB.of hv).bool, P3 H' s3⟩
/-- a < b < c -/
def cChain (dop dop' : D → D → Option D) (f g h : En → R D) : En → R D := fun ρ => (f ρ).bind fun x => (g ρ).bind fun y => (ofO ((dop x y).bind toB)).bind fun k =>
  if k = true then (h ρ).bind fun z => ofO (dop' y z) else .ok (.bool false)
def cChainT (dop dop' : D → D → Option D) (f g h : En → R D) : En → R Bool := fun ρ => (f ρ).bind fun x => (g ρ).bind fun y => (ofO ((dop x y).bind toB)).bind fun k =>
  if k = true then (h ρ).bind fun z => ofO ((dop' y z).bind toB) else .ok false
theorem fe_chain (ho : DOp X (compareOp op) dop) (ho' : DOp X (compareOp op') dop') (ha : FB X W a f) (hb : FB X W b g) (hc : FB X W c h) (hm : lastMarks [op, op'] [b, c] = false) : FE X W (.Compare a [op, op'] [b, c] pos) (cChain dop dop' f g h) := by
  obtain ⟨r, hr, hs⟩ := ho
  obtain ⟨r', hr', hs'⟩ := ho'
  refine impE (pe_chain hr hr' ha hb hc hm) fun σ H Q ⟨H0, A0, A, ρ, o, P⟩ => ?_
  refine ⟨H0, A0, A, ρ, o, P.bind.mono fun d1 H1 s1 P1 x hx => ?_⟩
  have o1 := o.same s1
  refine ⟨H0, A0, A, ρ, o1, P1.bind.mono fun d2 H2 s2 P2 y hy => ?_⟩
  have o2 := o1.same s2
  have P2' := P2.bind
  obtain ⟨k, e, P3⟩ := P2'.ofO
  obtain ⟨d, e1, e2⟩ := Option.bind_eq_some_iff.mp e
  obtain rfl := toB_some e2
  refine hs H2 A x y d1 d2 _ _ o2.has (hx.same s2) hy e1 fun v H3 s3 hv => ⟨k, (RepB.of hv).bool, ?_⟩
  have P4 := P3 H3 s3
  have o3 := o2.same s3
  cases k with
  | false => exact Post.at (a := PyData.bool false) (P := fun d H' => ∀ v, Rep X.K H' A v d → Q v H') P4 _ (.bl false)
  | true =>
    refine ⟨H0, A0, A, ρ, o3, Post.mono (Post.bind (k := fun z => ofO (dop' d2 z)) P4) fun d3 H4 s4 P5 z hz => ?_⟩
    obtain ⟨d4, e4, P6⟩ := P5.ofO
    exact hs' H4 A y z d2 d3 d4 Q (o3.same s4).has ((hy.same s3).same s4) hz e4 fun v H' s5 hv => P6 H' s5 v hv
theorem ft_chain (ho : DOp X (compareOp op) dop) (ho' : DOp X (compareOp op') dop') (ha : FB X W a f) (hb : FB X W b g) (hc : FB X W c h) (hm : lastMarks [op, op'] [b, c] = false) : FT X W (.Compare a [op, op'] [b, c] pos) (cChainT dop dop' f g h) := by
  obtain ⟨r, hr, hs⟩ := ho
  obtain ⟨r', hr', hs'⟩ := ho'
  refine impT (pt_chain hr hr' ha hb hc hm) fun σ H Q ⟨H0, A0, A, ρ, o, P⟩ => ?_
  refine ⟨H0, A0, A, ρ, o, P.bind.mono fun d1 H1 s1 P1 x hx => ?_⟩
  have o1 := o.same s1
  refine ⟨H0, A0, A, ρ, o1, P1.bind.mono fun d2 H2 s2 P2 y hy => ?_⟩
  have o2 := o1.same s2
  have P2' := P2.bind
  obtain ⟨k, e, P3⟩ := P2'.ofO
  obtain ⟨d, e1, e2⟩ := Option.bind_eq_some_iff.mp e
  obtain rfl := toB_some e2
  refine hs H2 A x y d1 d2 _ _ o2.has (hx.same s2) hy e1 fun v H3 s3 hv => ⟨k, (RepB.of hv).bool, ?_⟩
  have P4 := P3 H3 s3
  have o3 := o2.same s3
  cases k with
  | false => exact ⟨false, rfl, Post.at (a := false) (P := fun b H' => Q b H') P4⟩
  | true =>
    refine ⟨H0, A0, A, ρ, o3, Post.mono (Post.bind (k := fun z => ofO ((dop' d2 z).bind toB)) P4) fun d3 H4 s4 P5 z hz => ?_⟩
    obtain ⟨k4, e4, P6⟩ := P5.ofO
    obtain ⟨d4, e5, e6⟩ := Option.bind_eq_some_iff.mp e4
    obtain rfl := toB_some e6
    exact hs' H4 A y z d2 d3 _ _ (o3.same s4).has ((hy.same s3).same s4) hz e5 fun v H' s5 hv => ⟨k4, (RepB.of hv).bool, P6 H' s5⟩
end

/-! ### the operators on data -/
def dAdd : D → D → Option D
  | .int i, .int j => some (.int (i + j))
  | .list xs, .list ys => if xs.length + ys.length ≤ sizeLine then some (.list (xs ++ ys)) else none
  | .tuple xs, .tuple ys => if xs.length + ys.length ≤ sizeLine then some (.tuple (xs ++ ys)) else none
  | .str x, .str y => if x.length + y.length ≤ sizeLine then some (.str (x ++ y)) else none
  | _, _ => none
def dAddB : D → D → Option D
  | .int i, .int j => some (.int (i + j))
  | .list xs, .list ys => if xs.length + ys.length ≤ sizeLine then some (.list (xs ++ ys)) else none
  | _, _ => none
def dSub : D → D → Option D
  | .int i, .int j => some (.int (i - j))
  | _, _ => none
def dMul : D → D → Option D
  | .int i, .int j => if i.natAbs.log2 + j.natAbs.log2 < 1000000 then some (.int (i * j)) else none
  | .list xs, .int k => if k < 1000000 ∧ xs.length * k.toNat ≤ sizeLine ∧ -1000000 < k then some (.list (List.replicate k.toNat xs).flatten) else none
  | _, _ => none
def dDiv : D → D → Option D
  | .int i, .int j => if j ≠ 0 ∧ j.natAbs.log2 < 9000 then some (.int (i.fdiv j)) else none
  | _, _ => none
def dMod : D → D → Option D
  | .int i, .int j => if j ≠ 0 then some (.int (i.fmod j)) else none
  | _, _ => none
def dNeg : D → Option D
  | .int i => some (.int (-i))
  | _ => none
def dLt : D → D → Option D
  | .int i, .int j => some (.bool (decide (i < j)))
  | x, y => if PySem.W.alike x y = true ∧ x.depth ≤ 64 ∧ SeqAt.shaped x = true ∧ SeqAt.shaped y = true ∧ PyData.eqv x .none = false then some (.bool (PySem.W.dataLt x y)) else none
def dLe : D → D → Option D
  | .int i, .int j => some (.bool (decide (i ≤ j)))
  | _, _ => none
def dGt : D → D → Option D
  | .int i, .int j => some (.bool (decide (j < i)))
  | _, _ => none
def dGe : D → D → Option D
  | .int i, .int j => some (.bool (decide (j ≤ i)))
  | _, _ => none
def dEq (x y : D) : Option D := if SeqAt.shaped x = true ∧ SeqAt.shaped y = true then some (.bool (PyData.eqv x y)) else none
def dNe (x y : D) : Option D := if SeqAt.shaped x = true ∧ SeqAt.shaped y = true then some (.bool (!PyData.eqv x y)) else none
/-- is: of None, of truth values -/
def dIs : D → D → Option D
  | .bool a, .bool b => some (.bool (decide (a = b)))
  | .none, .none => some (.bool true)
  | _, .none => some (.bool false)
  | _, _ => none
def dIsNot : D → D → Option D
  | .bool a, .bool b => some (.bool (!decide (a = b)))
  | .none, .none => some (.bool false)
  | _, .none => some (.bool true)
  | _, _ => none
section
variable {X : Cx}
theorem do_add : DOpE X (binaryOp .Add) dAdd := by
  refine ⟨_, OpR.or op_add (OpR.or op_cat (OpR.or op_catA op_add_str)), fun H A x y d1 d2 d Q ha hxr hyr e q => ?_⟩
  have hx := RepB.of hxr
  have hy := RepB.of hyr
  unfold dAdd at e
  split at e
  · cases e
    obtain rfl := hx.int
    obtain rfl := hy.int
    exact .inl ⟨_, _, rfl, rfl, q _ H (Same.refl H) (.int _)⟩
  · split at e
    · rename_i hl
      cases e
      obtain ⟨a, vs, rfl, h1, r1⟩ := hx.lst
      obtain ⟨b, us, rfl, h2, r2⟩ := hy.lst
      refine .inr (.inl ⟨a, b, vs, us, rfl, rfl, h1, h2, by rw [r1.length, r2.length]; exact hl, fun p hp => q _ _ (same_upd hp) (rep_lst (fun z => ha p z hp) hp (r1.append r2))⟩)
    · cases e
  · split at e
    · rename_i hl
      cases e
      obtain ⟨a, vs, rfl, h1, r1⟩ := hx.tup
      obtain ⟨b, us, rfl, h2, r2⟩ := hy.tup
      refine .inr (.inr (.inl ⟨a, b, vs, us, rfl, rfl, h1, h2, by rw [r1.length, r2.length]; exact hl, fun z => ?_, fun _ z => ?_, fun _ _ p hp => q _ _ (same_upd hp) (rep_tup (fun z => ha p z hp) hp (r1.append r2))⟩))
      · subst z
        cases r1
        exact q _ H (Same.refl H) hyr
      · subst z
        cases r2
        rw [List.append_nil] at q
        exact q _ H (Same.refl H) hxr
    · cases e
  · split at e
    · rename_i hl
      cases e
      obtain rfl := hx.str
      obtain rfl := hy.str
      exact .inr (.inr (.inr ⟨_, _, rfl, rfl, hl, q _ H (Same.refl H) (.str _)⟩))
    · cases e
  · cases e
theorem do_addB : DOp X (binaryOp .Add) dAddB := by
  refine ⟨_, OpR.or op_add op_cat, fun H A x y d1 d2 d Q ha hx hy e q => ?_⟩
  unfold dAddB at e
  split at e
  · cases e
    obtain rfl := hx.int
    obtain rfl := hy.int
    exact .inl ⟨_, _, rfl, rfl, q _ H (Same.refl H) (.int _)⟩
  · split at e
    · rename_i hl
      cases e
      obtain ⟨a, vs, rfl, h1, r1⟩ := hx.lst
      obtain ⟨b, us, rfl, h2, r2⟩ := hy.lst
      refine .inr ⟨a, b, vs, us, rfl, rfl, h1, h2, by rw [r1.length, r2.length]; exact hl, fun p hp => q _ _ (same_upd hp) (rep_lst (fun z => ha p z hp) hp (r1.append r2))⟩
    · cases e
  · cases e
theorem do_sub : DOp X (binaryOp .Sub) dSub := by
  refine ⟨_, op_sub, fun H A x y d1 d2 d Q ha hx hy e q => ?_⟩
  unfold dSub at e
  split at e
  · cases e
    obtain rfl := hx.int
    obtain rfl := hy.int
    exact ⟨_, _, rfl, rfl, q _ H (Same.refl H) (.int _)⟩
  · cases e
theorem do_mul : DOp X (binaryOp .Mult) dMul := by
  refine ⟨_, OpR.or op_mulW op_rep, fun H A x y d1 d2 d Q ha hx hy e q => ?_⟩
  unfold dMul at e
  split at e
  · split at e
    · rename_i hl
      cases e
      obtain rfl := hx.int
      obtain rfl := hy.int
      exact .inl ⟨_, _, rfl, rfl, hl, q _ H (Same.refl H) (.int _)⟩
    · cases e
  · split at e
    · rename_i hl
      cases e
      obtain ⟨a, vs, rfl, h1, r1⟩ := hx.lst
      obtain rfl := hy.int
      obtain ⟨h2, h3, h4⟩ := hl
      exact .inr ⟨a, _, vs, rfl, rfl, h1, by omega, by omega, by rw [r1.length]; exact h3, fun p hp => q _ _ (same_upd hp) (rep_lst (fun z => ha p z hp) hp (r1.flatRep _))⟩
    · cases e
  · cases e
def CDivX (_ j : Int) : Prop := j ≠ 0 ∧ j.natAbs.log2 < 9000
theorem op_fdivX : OpR X (binaryOp .FloorDiv) (rI CDivX fun i j => .int (i.fdiv j)) := opI fun i j _ _ _ _ _ hc q => floordiv_int hc.1 q (.inl (PyProof.noPylong_of_log2 hc.2))
theorem do_div : DOp X (binaryOp .FloorDiv) dDiv := by
  refine ⟨_, op_fdivX, fun H A x y d1 d2 d Q ha hx hy e q => ?_⟩
  unfold dDiv at e
  split at e
  · split at e
    · rename_i hl
      cases e
      obtain rfl := hx.int
      obtain rfl := hy.int
      exact ⟨_, _, rfl, rfl, hl, q _ H (Same.refl H) (.int _)⟩
    · cases e
  · cases e
theorem do_mod : DOp X (binaryOp .Mod) dMod := by
  refine ⟨_, op_modN, fun H A x y d1 d2 d Q ha hx hy e q => ?_⟩
  unfold dMod at e
  split at e
  · split at e
    · rename_i hl
      cases e
      obtain rfl := hx.int
      obtain rfl := hy.int
      exact ⟨_, _, rfl, rfl, hl, q _ H (Same.refl H) (.int _)⟩
    · cases e
  · cases e
theorem du_neg : DUn X (unaryOp .USub) dNeg := by
  refine ⟨_, un_neg, fun H A x d1 d Q ha hx e q => ?_⟩
  unfold dNeg at e
  split at e
  · cases e
    obtain rfl := hx.int
    exact ⟨_, rfl, q _ H (Same.refl H) (.int _)⟩
  · cases e
theorem do_le : DOp X (compareOp .LtE) dLe := by
  refine ⟨_, op_le, fun H A x y d1 d2 d Q ha hx hy e q => ?_⟩
  unfold dLe at e
  split at e
  · cases e
    obtain rfl := hx.int
    obtain rfl := hy.int
    exact ⟨_, _, rfl, rfl, q _ H (Same.refl H) (.bl _)⟩
  · cases e
theorem do_gt : DOp X (compareOp .Gt) dGt := by
  refine ⟨_, op_gt, fun H A x y d1 d2 d Q ha hx hy e q => ?_⟩
  unfold dGt at e
  split at e
  · cases e
    obtain rfl := hx.int
    obtain rfl := hy.int
    exact ⟨_, _, rfl, rfl, q _ H (Same.refl H) (.bl _)⟩
  · cases e
theorem do_ge : DOp X (compareOp .GtE) dGe := by
  refine ⟨_, op_ge, fun H A x y d1 d2 d Q ha hx hy e q => ?_⟩
  unfold dGe at e
  split at e
  · cases e
    obtain rfl := hx.int
    obtain rfl := hy.int
    exact ⟨_, _, rfl, rfl, q _ H (Same.refl H) (.bl _)⟩
  · cases e
theorem do_eq (hu : X.A.units + 64 < cLine) : DOp X (compareOp .Eq) dEq := by
  refine ⟨_, op_eqD hu, fun H A x y d1 d2 d Q ha hx hy e q => ?_⟩
  unfold dEq at e
  split at e
  · rename_i hs
    cases e
    exact ⟨d1, d2, hx.dp hs.1, hy.dp hs.2, hs.1, hs.2, q _ H (Same.refl H) (.bl _)⟩
  · cases e
theorem do_ne (hu : X.A.units + 64 < cLine) : DOp X (compareOp .NotEq) dNe := by
  refine ⟨_, op_neD hu, fun H A x y d1 d2 d Q ha hx hy e q => ?_⟩
  unfold dNe at e
  split at e
  · rename_i hs
    cases e
    exact ⟨d1, d2, hx.dp hs.1, hy.dp hs.2, hs.1, hs.2, q _ H (Same.refl H) (.bl _)⟩
  · cases e
def rLtD (K : Frg) : R2 := fun x y H Q => ∃ d e, Dp K H x d ∧ Dp K H y e ∧ PySem.W.alike d e = true ∧ d ≠ .none ∧ d.depth ≤ 64 ∧ Q (.bl (PySem.W.dataLt d e)) H
theorem op_ltD (hu : X.A.units + 64 < cLine) : OpR X (compareOp .Lt) (rLtD X.K) := by
  intro pins s σ H x y v u Q I rx ry h
  obtain ⟨d, e, hd, he, ha, hn, hdp, q⟩ := h
  obtain ⟨as, r1⟩ := Dp.reads I d x v hd rx
  obtain ⟨bs, r2⟩ := Dp.reads I e y u he ry
  have hm : min d.depth e.depth ≤ d.depth := Nat.min_le_left _ _
  exact PySem.W.rcLt_alike d e X.A s v u as bs r1 r2 ha hn (by omega) _ _ _ _ ⟨.bl _, H, I, rfl, q⟩
theorem do_lt (hu : X.A.units + 64 < cLine) : DOp X (compareOp .Lt) dLt := by
  refine ⟨_, OpR.or op_lt (op_ltD hu), fun H A x y d1 d2 d Q ha hx hy e q => ?_⟩
  unfold dLt at e
  split at e
  · cases e
    obtain rfl := hx.int
    obtain rfl := hy.int
    exact .inl ⟨_, _, rfl, rfl, q _ H (Same.refl H) (.bl _)⟩
  · split at e
    · rename_i hs
      cases e
      obtain ⟨h1, h2, h3, h4, h5⟩ := hs
      refine .inr ⟨d1, d2, hx.dp h3, hy.dp h4, h1, fun z => ?_, h2, q _ H (Same.refl H) (.bl _)⟩
      rw [z] at h5
      simp [PyData.eqv] at h5
    · cases e
theorem nnon {K : Frg} {H : Hp} {A : List Addr} {x : V} {d : D} (h : RepB K H A x d) (n : d ≠ .none) : decide (x = V.non) = false := by
  rcases h with h | ⟨a, e, _, _, _⟩ | ⟨a, _, _, e, _⟩
  · cases h <;> first | rfl | exact absurd rfl n
  · rw [e]; rfl
  · rw [e]; rfl
theorem do_is : DOp X (compareOp .Is) dIs := by
  refine ⟨_, OpR.or op_isN op_is_bl, fun H A x y d1 d2 d Q ha hx hy e q => ?_⟩
  unfold dIs at e
  split at e
  · cases e
    obtain rfl := hx.bool
    obtain rfl := hy.bool
    exact .inr ⟨_, _, rfl, rfl, q _ H (Same.refl H) (.bl _)⟩
  · cases e
    obtain rfl := hx.non
    obtain rfl := hy.non
    exact .inl ⟨rfl, q _ H (Same.refl H) (.bl _)⟩
  · rename_i n
    cases e
    obtain rfl := hy.non
    refine .inl ⟨rfl, ?_⟩
    rw [nnon hx n]
    exact q _ H (Same.refl H) (.bl _)
  · cases e
theorem do_isnot : DOp X (compareOp .IsNot) dIsNot := by
  refine ⟨_, OpR.or op_notN op_isnot_bl, fun H A x y d1 d2 d Q ha hx hy e q => ?_⟩
  unfold dIsNot at e
  split at e
  · cases e
    obtain rfl := hx.bool
    obtain rfl := hy.bool
    exact .inr ⟨_, _, rfl, rfl, q _ H (Same.refl H) (.bl _)⟩
  · cases e
    obtain rfl := hx.non
    obtain rfl := hy.non
    exact .inl ⟨rfl, q _ H (Same.refl H) (.bl _)⟩
  · rename_i n
    cases e
    obtain rfl := hy.non
    refine .inl ⟨rfl, ?_⟩
    rw [nnon hx n]
    exact q _ H (Same.refl H) (.bl _)
  · cases e
end
end G

namespace G
open PySem PySem.Spec PyProof.Rows L2
set_option maxHeartbeats 1000000
section
variable {X : Cx} {W : WX} {a b c e : Expr} {es rest : List Expr} {f g h : En → R D} {p q : En → R Bool} {pos : Pos}

/-! ### tests -/
def cTest (f : En → R D) : En → R Bool := fun ρ => (f ρ).bind fun d => ofO (toB d)
theorem ft_val (h : FE X W e f) (he : ∀ whole, isTrue e X.env whole = (do let v ← whole; standAt e.pos; holding [v] (truthy v)) := by intro _; rfl) : FT X W e (cTest f) := impT (pt_val h he) fun σ H Q ⟨H0, A0, A, ρ, o, P⟩ => by
  refine ⟨H0, A0, A, ρ, o, P.bind.mono fun d H1 s1 P1 v hv => ?_⟩
  obtain ⟨k, e1, P2⟩ := P1.ofO
  obtain rfl := toB_some e1
  exact ⟨k, (RepB.of hv).bool, P2 H1 (Same.refl _)⟩
def cNot (p : En → R Bool) : En → R Bool := fun ρ => (p ρ).bind fun k => .ok (!k)
def cAnd (p q : En → R Bool) : En → R Bool := fun ρ => (p ρ).bind fun k => if k = true then q ρ else .ok false
def cOr (p q : En → R Bool) : En → R Bool := fun ρ => (p ρ).bind fun k => if k = true then .ok true else q ρ
theorem ft_not (h : FT X W a p) : FT X W (.UnaryOp .Not a pos) (cNot p) := impT (pt_not h) fun σ H Q ⟨H0, A0, A, ρ, o, P⟩ => by
  refine ⟨H0, A0, A, ρ, o, P.bind.mono fun k H1 s1 P1 => P1.at⟩
abbrev FW (X : Cx) (W : WX) (e : Expr) (f : En → R Bool) : Prop := PW X e (tFT X.K X.mg W f)
theorem fw_and1 (h : FT X W a p) : FW X W (.BoolOp .And [a] pos) p := pw_and1 h
theorem fw_or1 (h : FT X W a p) : FW X W (.BoolOp .Or [a] pos) p := pw_or1 h
theorem fw_and (ha : FT X W a p) (hb : FW X W (.BoolOp .And (b :: rest) pos) q) : FW X W (.BoolOp .And (a :: b :: rest) pos) (cAnd p q) := impW (pw_and ha hb) fun σ H Q ⟨H0, A0, A, ρ, o, P⟩ => by
  refine ⟨H0, A0, A, ρ, o, P.bind.mono fun k H1 s1 P1 => ?_⟩
  cases k with
  | true => exact ⟨H0, A0, A, ρ, o.same s1, P1⟩
  | false => exact P1.at
theorem fw_or (ha : FT X W a p) (hb : FW X W (.BoolOp .Or (b :: rest) pos) q) : FW X W (.BoolOp .Or (a :: b :: rest) pos) (cOr p q) := impW (pw_or ha hb) fun σ H Q ⟨H0, A0, A, ρ, o, P⟩ => by
  refine ⟨H0, A0, A, ρ, o, P.bind.mono fun k H1 s1 P1 => ?_⟩
  cases k with
  | true => exact P1.at
  | false => exact ⟨H0, A0, A, ρ, o.same s1, P1⟩
theorem ft_w (h : FW X W e p) : FT X W e p := PW.pt h

/-! ### and, or, not, if as values -/
def cAndV (f g : En → R D) : En → R D := fun ρ => (cTest f ρ).bind fun k => if k = true then g ρ else .ok (.bool false)
def cOrV (f g : En → R D) : En → R D := fun ρ => (cTest f ρ).bind fun k => if k = true then .ok (.bool true) else g ρ
def cNotV (f : En → R D) : En → R D := fun ρ => (cTest f ρ).bind fun k => .ok (.bool (!k))
def cIf (p : En → R Bool) (f g : En → R D) : En → R D := fun ρ => (p ρ).bind fun k => if k = true then f ρ else g ρ
theorem fe_one {op} (h : FE X W a f) : FE X W (.BoolOp op [a] pos) f := pe_one h
theorem bind_test {α : Type} {f : En → R D} {ρ : En} {k : Bool → R α} : (cTest f ρ).bind k = (f ρ).bind fun d => (ofO (toB d)).bind k := by
  unfold cTest
  cases f ρ <;> rfl
theorem fe_and (ha : FE X W a f) (hb : FE X W (.BoolOp .And (b :: rest) pos) g) : FE X W (.BoolOp .And (a :: b :: rest) pos) (cAndV f g) := impE (pe_and ha hb) fun σ H Q ⟨H0, A0, A, ρ, o, P⟩ => by
  unfold cAndV at P
  rw [bind_test] at P
  refine ⟨H0, A0, A, ρ, o, P.bind.mono fun d H1 s1 P1 v hv => ?_⟩
  obtain ⟨k, e1, P2⟩ := P1.bind.ofO
  obtain rfl := toB_some e1
  refine ⟨k, (RepB.of hv).bool, ?_⟩
  have P3 := P2 H1 (Same.refl _)
  cases k with
  | true => exact ⟨H0, A0, A, ρ, o.same s1, P3⟩
  | false => exact Post.at (P := fun d H' => ∀ v, Rep X.K H' A v d → Q v H') (a := .bool false) P3 _ (.bl false)
theorem fe_or (ha : FE X W a f) (hb : FE X W (.BoolOp .Or (b :: rest) pos) g) : FE X W (.BoolOp .Or (a :: b :: rest) pos) (cOrV f g) := impE (pe_or ha hb) fun σ H Q ⟨H0, A0, A, ρ, o, P⟩ => by
  unfold cOrV at P
  rw [bind_test] at P
  refine ⟨H0, A0, A, ρ, o, P.bind.mono fun d H1 s1 P1 v hv => ?_⟩
  obtain ⟨k, e1, P2⟩ := P1.bind.ofO
  obtain rfl := toB_some e1
  refine ⟨k, (RepB.of hv).bool, ?_⟩
  have P3 := P2 H1 (Same.refl _)
  cases k with
  | false => exact ⟨H0, A0, A, ρ, o.same s1, P3⟩
  | true => exact Post.at (P := fun d H' => ∀ v, Rep X.K H' A v d → Q v H') (a := .bool true) P3 _ (.bl true)
theorem fe_not (ha : FE X W a f) : FE X W (.UnaryOp .Not a pos) (cNotV f) := impE (pe_not ha) fun σ H Q ⟨H0, A0, A, ρ, o, P⟩ => by
  unfold cNotV at P
  rw [bind_test] at P
  refine ⟨H0, A0, A, ρ, o, P.bind.mono fun d H1 s1 P1 v hv => ?_⟩
  obtain ⟨k, e1, P2⟩ := P1.bind.ofO
  obtain rfl := toB_some e1
  exact ⟨k, (RepB.of hv).bool, Post.at (P := fun d H' => ∀ v, Rep X.K H' A v d → Q v H') (a := .bool (!k)) (P2 H1 (Same.refl _)) _ (.bl _)⟩
theorem fe_if (hc : FT X W c p) (ha : FE X W a f) (hb : FE X W b g) : FE X W (.IfExp c a b pos) (cIf p f g) := impE (pe_ifExp hc ha hb) fun σ H Q ⟨H0, A0, A, ρ, o, P⟩ => by
  refine ⟨H0, A0, A, ρ, o, P.bind.mono fun k H1 s1 P1 => ?_⟩
  cases k with
  | true => exact ⟨H0, A0, A, ρ, o.same s1, P1⟩
  | false => exact ⟨H0, A0, A, ρ, o.same s1, P1⟩

/-! ### rows of expressions, displays -/
def cNil : En → R (List D) := fun _ => .ok []
def cCons (f : En → R D) (l : En → R (List D)) : En → R (List D) := fun ρ => (f ρ).bind fun d => (l ρ).bind fun ds => .ok (d :: ds)
def itemsOf : D → Option (List D)
  | .list xs => some xs
  | .tuple xs => some xs
  | _ => none
def cStar (f : En → R D) (l : En → R (List D)) : En → R (List D) := fun ρ => (f ρ).bind fun d => (ofO (itemsOf d)).bind fun xs => (l ρ).bind fun ds => .ok (xs ++ ds)
variable {l : En → R (List D)}
theorem fa_nil : FA X W [] cNil := impA pa_nil fun σ H Q ⟨H0, A0, A, ρ, o, P⟩ => Post.at (P := fun ds H' => ∀ vs, RepL X.K H' A vs ds → Q vs H') (a := []) P _ .nil
theorem fab_nil : FAB X W [] cNil := impA pa_nil fun σ H Q ⟨H0, A0, A, ρ, o, P⟩ => Post.at (P := fun ds H' => ∀ vs, Paired (RepB X.K H' A) vs ds → Q vs H') (a := []) P _ .nil
theorem fa_cons (ha : FE X W e f) (hr : FA X W es l) (hs : starEach (e :: es) X.env = (false, eval e X.env) :: starEach es X.env := by rfl) : FA X W (e :: es) (cCons f l) := impA (pa_cons ha hr hs) fun σ H Q ⟨H0, A0, A, ρ, o, P⟩ => by
  refine ⟨H0, A0, A, ρ, o, P.bind.mono fun d H1 s1 P1 v hv => ?_⟩
  refine ⟨H0, A0, A, ρ, o.same s1, P1.bind.mono fun ds H2 s2 P2 vs hvs => ?_⟩
  exact Post.at (P := fun ds H' => ∀ vs, RepL X.K H' A vs ds → Q vs H') (a := d :: ds) P2 _ (.cons (hv.same s2) hvs)
theorem fa_star (ha : FB X W e f) (hr : FA X W es l) (hs : starEach (.Starred e pos :: es) X.env = (true, eval e X.env) :: starEach es X.env := by rfl) : FA X W (.Starred e pos :: es) (cStar f l) := impA (StX.pa_star ha hr hs) fun σ H Q ⟨H0, A0, A, ρ, o, P⟩ => by
  refine ⟨H0, A0, A, ρ, o, P.bind.mono fun d H1 s1 P1 v hv => ?_⟩
  obtain ⟨xs, e1, P2⟩ := P1.bind.ofO
  have P3 := (P2 H1 (Same.refl _)).bind
  have key : ∀ us : List V, RepL X.K H1 A us xs → Post X.mg W σ H1 (fun ds H' => ∀ vs, RepL X.K H' A vs ds → Q (us ++ vs) H') (l ρ) := fun us r => P3.mono fun ds H2 s2 P4 vs hvs =>
    Post.at (P := fun ds H' => ∀ vs, RepL X.K H' A vs ds → Q vs H') (a := xs ++ ds) P4 _ ((r.same s2).append hvs)
  cases d with
  | list ys =>
    obtain ⟨a, us, rfl, h1, r⟩ := hv.lst
    cases e1
    exact ⟨a, us, rfl, .inr (SqL.of h1), H0, A0, A, ρ, o.same s1, key us r⟩
  | tuple ys =>
    obtain ⟨a, us, rfl, h1, r⟩ := hv.tup
    cases e1
    exact ⟨a, us, rfl, .inl h1, H0, A0, A, ρ, o.same s1, key us r⟩
  | _ => cases e1
theorem fab_cons (ha : FB X W e f) (hr : FAB X W es l) (hs : starEach (e :: es) X.env = (false, eval e X.env) :: starEach es X.env := by rfl) : FAB X W (e :: es) (cCons f l) := impA (pa_cons ha hr hs) fun σ H Q ⟨H0, A0, A, ρ, o, P⟩ => by
  refine ⟨H0, A0, A, ρ, o, P.bind.mono fun d H1 s1 P1 v hv => ?_⟩
  refine ⟨H0, A0, A, ρ, o.same s1, P1.bind.mono fun ds H2 s2 P2 vs hvs => ?_⟩
  exact Post.at (P := fun ds H' => ∀ vs, Paired (RepB X.K H' A) vs ds → Q vs H') (a := d :: ds) P2 _ (.cons (hv.same s2) hvs)
def cList (l : En → R (List D)) : En → R D := fun ρ => (l ρ).bind fun ds => if ds.length ≤ sizeLine then .ok (.list ds) else .no
def cTup (l : En → R (List D)) : En → R D := fun ρ => (l ρ).bind fun ds => if ds.length ≤ sizeLine then .ok (.tuple ds) else .no
theorem fn_list {t : Bool} (h : FA X W es l) : FN X W t (.List es pos) (cList l) := impE (pe_lst h) fun σ H Q ⟨H0, A0, A, ρ, o, P⟩ => by
  refine ⟨H0, A0, A, ρ, o, P.bind.mono fun ds H1 s1 P1 vs hvs => ?_⟩
  split at P1
  · rename_i hl
    exact ⟨by rw [hvs.length]; exact hl, fun p hp => P1 _ (same_upd hp) _ ⟨p, rfl, s1.free hp, orep_lst hp hvs⟩⟩
  · exact P1.elim
theorem fe_tup {x1} (h : FA X W es l) : FE X W (.Tuple es x1 pos) (cTup l) := impE (pe_tup h) fun σ H Q ⟨H0, A0, A, ρ, o, P⟩ => by
  refine ⟨H0, A0, A, ρ, o, P.bind.mono fun ds H1 s1 P1 vs hvs => ?_⟩
  split at P1
  · rename_i hl
    exact ⟨by rw [hvs.length]; exact hl, fun p hp => P1 _ (same_upd hp) _ (rep_tup ((o.same s1).fresh hp) hp hvs)⟩
  · exact P1.elim

/-! ### subscripts, slices -/
/-- a key of a dict, as data -/
def keyD : D → Option Key
  | .int i => some (.inl i)
  | .str z => some (.inr z)
  | _ => none
def keysD : List D → Option (List Key)
  | [] => some []
  | d :: ds => (keyD d).bind fun k => (keysD ds).map fun ks => k :: ks
theorem keyD_some {d : D} {k : Key} (h : keyD d = some k) : d = kD k := by
  cases d <;> simp [keyD] at h <;> subst h <;> rfl
theorem keysD_some : ∀ {ds : List D} {ks : List Key}, keysD ds = some ks → ds = ks.map kD
  | [], ks, h => by cases h; rfl
  | d :: ds, ks, h => by
    unfold keysD at h
    obtain ⟨k, h1, h2⟩ := Option.bind_eq_some_iff.mp h
    obtain ⟨r, h3, h4⟩ := Option.map_eq_some_iff.mp h2
    subst h4
    rw [keyD_some h1, keysD_some h3, List.map_cons]
/-- what a dict's rows hold under a key -/
def getK : List (D × D) → Key → Option D
  | [], _ => none
  | (d, v) :: r, k => if keyD d = some k then some v else getK r k
def getT : List (D × D) → List Key → Option D
  | [], _ => none
  | (d, v) :: r, k => if (match d with | .tuple ds => keysD ds | _ => none) = some k then some v else getT r k
theorem keyD_kD (k : Key) : keyD (kD k) = some k := by cases k <;> rfl
theorem keysD_map (k : List Key) : keysD (k.map kD) = some k := by
  induction k with
  | nil => rfl
  | cons a r ih => rw [List.map_cons]; unfold keysD; rw [keyD_kD, Option.bind_some, ih]; rfl
theorem getK_rep {K : Frg} {H : Hp} {A : List Addr} {k : Key} : ∀ {kvs : List (Key × V)} {ds : List (D × D)}, RepK K H A kvs ds → (∀ d, getK ds k = some d → ∃ v, valV kvs k = some v ∧ Rep K H A v d) ∧ (getK ds k = none → valV kvs k = none)
  | _, _, .nil => ⟨fun d h => by simp [getK] at h, fun _ => rfl⟩
  | _, _, .cons (k := k') (v := v) (d := d) r t => by
    have ih := getK_rep (k := k) t
    unfold getK valV
    rw [keyD_kD]
    by_cases e : k' = k
    · subst e
      simp only [if_true, List.find?_cons, decide_true, Option.map_some, Option.some.injEq]
      exact ⟨fun d' h => ⟨v, rfl, h ▸ r⟩, fun h => by cases h⟩
    · have e' : ¬ (some k' = some k) := fun z => e (Option.some.inj z)
      rw [if_neg e', List.find?_cons, decide_eq_false e]
      exact ih
theorem getT_rep {K : Frg} {H : Hp} {A : List Addr} {k : List Key} : ∀ {kvs : List (List Key × V)} {ds : List (D × D)}, RepT K H A kvs ds → (∀ d, getT ds k = some d → ∃ v, valV kvs k = some v ∧ Rep K H A v d) ∧ (getT ds k = none → valV kvs k = none)
  | _, _, .nil => ⟨fun d h => by simp [getT] at h, fun _ => rfl⟩
  | _, _, .cons (k := k') (v := v) (d := d) r t => by
    have ih := getT_rep (k := k) t
    unfold getT valV
    simp only [keysD_map]
    by_cases e : k' = k
    · subst e
      simp only [if_true, List.find?_cons, decide_true, Option.map_some, Option.some.injEq]
      exact ⟨fun d' h => ⟨v, rfl, h ▸ r⟩, fun h => by cases h⟩
    · have e' : ¬ (some k' = some k) := fun z => e (Option.some.inj z)
      rw [if_neg e', List.find?_cons, decide_eq_false e]
      exact ih
/-- a row's item, by a place of either sign -/
def dIx : D → D → Option D
  | .list xs, .int i => atI xs i
  | .tuple xs, .int i => atI xs i
  | .str z, .int i => if z.length ≤ sizeLine then (atI z.cps.toList i).map fun c => .str ⟨#[c]⟩ else none
  | .dict kvs, .int i => if (kvs.all fun kv => (keyD kv.1).isSome) = true then getK kvs (.inl i) else none
  | .dict kvs, .str z => if (kvs.all fun kv => (keyD kv.1).isSome) = true then getK kvs (.inr z) else none
  | .dict kvs, .tuple ds => (keysD ds).bind fun ks => if (kvs.all fun kv => (keyD kv.1).isNone) = true then getT kvs ks else none
  | _, _ => none
theorem repK_keys {K : Frg} {H : Hp} {A : List Addr} : ∀ {kvs : List (Key × V)} {ds : List (D × D)}, RepK K H A kvs ds → (ds.all fun kv => (keyD kv.1).isSome) = true
  | _, _, .nil => rfl
  | _, _, .cons r t => by rw [List.all_cons, keyD_kD, repK_keys t]; rfl
theorem repT_keys {K : Frg} {H : Hp} {A : List Addr} : ∀ {kvs : List (List Key × V)} {ds : List (D × D)}, RepT K H A kvs ds → (ds.all fun kv => (keyD kv.1).isNone) = true
  | _, _, .nil => rfl
  | _, _, .cons r t => by rw [List.all_cons, repT_keys t]; rfl
theorem repK_of_T {K : Frg} {H : Hp} {A : List Addr} {kvs : List (List Key × V)} {ds : List (D × D)} (r : RepT K H A kvs ds) (h : (ds.all fun kv => (keyD kv.1).isSome) = true) : ds = [] := by
  cases r with
  | nil => rfl
  | cons a t => rw [List.all_cons] at h; simp [keyD] at h
theorem repT_of_K {K : Frg} {H : Hp} {A : List Addr} {kvs : List (Key × V)} {ds : List (D × D)} (r : RepK K H A kvs ds) (h : (ds.all fun kv => (keyD kv.1).isNone) = true) : ds = [] := by
  cases r with
  | nil => rfl
  | cons a t => rw [List.all_cons, keyD_kD] at h; simp at h
theorem atI_rep {K : Frg} {H : Hp} {A : List Addr} {vs : List V} {ds : List D} {i : Int} {d : D} (r : RepL K H A vs ds) (h : atI ds i = some d) : ∃ v, atI vs i = some v ∧ Rep K H A v d := by
  unfold atI at h ⊢
  rw [r.length]
  obtain ⟨j, h1, h2⟩ := Option.bind_eq_some_iff.mp h
  obtain ⟨v, h3, h4⟩ := r.get h2
  exact ⟨v, by rw [h1, Option.bind_some, h3], h4⟩
def rIxDc : R2 := fun x y H Q => ∃ a v, x = .ref a ∧ DGet H a y (some v) ∧ Q v H
theorem ix_dict (hu : X.A.units + 1 < cLine) : IxR X rIxDc := by
  intro value slice pins s σ H x y v u Q I rx ry h hs
  obtain ⟨a, z, rfl, hg, q⟩ := h
  cases rx
  exact tail_any (dict_typeIs I hg) PySem.F.slot_dict_getitem.lookup (d_getItem hu I hg ry fun w' s' I' r' => ⟨z, H, I', r', q⟩) hs
theorem rep_key {K : Frg} {H : Hp} {A : List Addr} {ks : List Key} : ∀ {vs : List V}, RepL K H A vs (ks.map kD) → vs = ks.map kV := by
  induction ks with
  | nil => intro vs r; cases r; rfl
  | cons k ks ih =>
    intro vs r
    rw [List.map_cons] at r
    cases r with
    | cons a t =>
      rw [List.map_cons, ← ih t]
      cases k with
      | inl i => cases a; rfl
      | inr i => cases a; rfl
theorem fe_ix (hu : X.A.units + 1 < cLine) (ha : FB X W a f) (hb : FE X W b g) (hs : PlainIx b) : FE X W (.Subscript a b pos) (cBin dIx f g) := by
  refine impE (pe_ix (IxR.or ix_seq (ix_dict hu)) ha hb hs) fun σ H Q ⟨H0, A0, A, ρ, o, P⟩ => ?_
  refine ⟨H0, A0, A, ρ, o, P.bind.mono fun d1 H1 s1 P1 x hx => ?_⟩
  refine ⟨H0, A0, A, ρ, o.same s1, P1.bind.mono fun d2 H2 s2 P2 y hy => ?_⟩
  obtain ⟨d, e, P3⟩ := P2.ofO
  have q := P3 H2 (Same.refl _)
  have hx := hx.same s2
  unfold dIx at e
  split at e
  · obtain ⟨p, vs, rfl, h1, r⟩ := hx.lst
    obtain rfl := (RepB.of hy).int
    obtain ⟨v, h2, h3⟩ := atI_rep r e
    exact .inl (.inl ⟨p, vs, _, v, rfl, rfl, SqL.of h1, h2, q v h3⟩)
  · obtain ⟨p, vs, rfl, h1, r⟩ := hx.tup
    obtain rfl := (RepB.of hy).int
    obtain ⟨v, h2, h3⟩ := atI_rep r e
    exact .inl (.inr (.inl ⟨p, vs, _, v, rfl, rfl, h1, h2, q v h3⟩))
  · split at e
    · rename_i hz
      obtain rfl := hx.str
      obtain rfl := (RepB.of hy).int
      obtain ⟨c, h1, h2⟩ := Option.map_eq_some_iff.mp e
      subst h2
      exact .inl (.inr (.inr ⟨_, _, c, rfl, rfl, hz, h1, q _ (.str _)⟩))
    · cases e
  · split at e
    · rename_i hk
      obtain rfl := (RepB.of hy).int
      obtain ⟨p, rfl, ⟨kvs, h1, r⟩ | ⟨kvs, h1, r⟩⟩ := hx.dict
      · obtain ⟨v, h2, h3⟩ := (getK_rep r).1 d e
        exact .inr ⟨p, v, rfl, .inl ⟨kvs, .inl _, h1, rfl, h2.symm⟩, q v h3⟩
      · rw [repK_of_T r hk] at e; cases e
    · cases e
  · split at e
    · rename_i hk
      obtain rfl := (RepB.of hy).str
      obtain ⟨p, rfl, ⟨kvs, h1, r⟩ | ⟨kvs, h1, r⟩⟩ := hx.dict
      · obtain ⟨v, h2, h3⟩ := (getK_rep r).1 d e
        exact .inr ⟨p, v, rfl, .inl ⟨kvs, .inr _, h1, rfl, h2.symm⟩, q v h3⟩
      · rw [repK_of_T r hk] at e; cases e
    · cases e
  · obtain ⟨ks, h0, e2⟩ := Option.bind_eq_some_iff.mp e
    clear e
    have h0 := keysD_some h0
    subst h0
    split at e2
    · rename_i hk
      obtain ⟨p, rfl, ⟨kvs, h1, r⟩ | ⟨kvs, h1, r⟩⟩ := hx.dict
      · rw [repT_of_K r hk] at e2; cases e2
      · obtain ⟨v, h2, h3⟩ := (getT_rep r).1 d e2
        cases hy with
        | tup n hb2 rk =>
          rw [rep_key rk] at hb2
          exact .inr ⟨p, v, rfl, .inr ⟨kvs, ks, _, h1, rfl, hb2, h2.symm⟩, q v h3⟩
    · cases e2
  · cases e
end
end G

namespace G
open PySem PySem.Spec PyProof.Rows L2

/-! ### slices -/
def cutL (xs : List D) (lo hi : Option Int) : List D := (xs.drop (HT.sIx xs.length 0 lo)).take (HT.sIx xs.length xs.length hi - HT.sIx xs.length 0 lo)
def cutZ (z : Str) (lo hi : Option Int) : Str := ⟨((z.cps.toList.drop (HT.sIx z.length 0 lo)).take (HT.sIx z.length z.length hi - HT.sIx z.length 0 lo)).toArray⟩
def cPartN : En → R (Option Int) := fun _ => .ok none
def toI : D → Option Int
  | .int i => some i
  | _ => none
theorem toI_some {d : D} {i : Int} (h : toI d = some i) : d = .int i := by
  cases d <;> simp [toI] at h
  rw [h]
def cPart (f : En → R D) : En → R (Option Int) := fun ρ => (f ρ).bind fun d => (ofO (toI d)).bind fun i => .ok (some i)
def dCut (d : D) (lo hi : Option Int) : Option D := match d with
  | .list xs => some (.list (cutL xs lo hi))
  | .tuple xs => some (.tuple (cutL xs lo hi))
  | .str z => if z.length ≤ sizeLine then some (.str (cutZ z lo hi)) else none
  | _ => none
def cSlice (f : En → R D) (l h : En → R (Option Int)) : En → R D := fun ρ => (f ρ).bind fun d => (l ρ).bind fun lo => (h ρ).bind fun hi => ofO (dCut d lo hi)
def dRev : D → Option D
  | .list xs => some (.list xs.reverse)
  | _ => none
def cRev (f : En → R D) : En → R D := fun ρ => (f ρ).bind fun d => ofO (dRev d)
theorem RepL.cut {K : Frg} {H : Hp} {A : List Addr} {vs : List V} {ds : List D} (r : RepL K H A vs ds) (lo hi : Option Int) : RepL K H A (cutV vs lo hi) (cutL ds lo hi) := by
  unfold cutV cutL
  rw [r.length]
  exact (r.drop _).take _
section
variable {X : Cx} {W : WX} {a b c e : Expr} {es rest : List Expr} {f g h : En → R D} {p q : En → R Bool} {l : En → R (List D)} {lo hi : Option Expr} {pl ph : En → R (Option Int)} {pos p1 p2 p3 p4 : Pos}
/-- a slice's end -/
def tFO (K : Frg) (mg : MgT) (W : WX) (f : En → R (Option Int)) : TO := fun σ H Q => ∃ H0 A0 A ρ, Ok K H0 A0 A ρ σ H ∧ Post mg W σ H (fun o H' => Q o H') (f ρ)
abbrev FO (X : Cx) (W : WX) (o : Option Expr) (f : En → R (Option Int)) : Prop := PO X o (tFO X.K X.mg W f)
theorem impO {o : Option Expr} {t t' : TO} (h : PO X o t) (i : ∀ σ H Q, t' σ H Q → t σ H Q) : PO X o t' := ⟨fun pins s σ H Q I q => h.run pins s σ H Q I (i _ _ _ q)⟩
theorem fo_none : FO X W none cPartN := impO po_none fun σ H Q ⟨H0, A0, A, ρ, o, P⟩ => Post.at (a := (none : Option Int)) (P := fun o H' => Q o H') P
theorem fo_some (ha : FE X W a f) : FO X W (some a) (cPart f) := impO (po_some ha) fun σ H Q ⟨H0, A0, A, ρ, o, P⟩ => by
  refine ⟨H0, A0, A, ρ, o, P.bind.mono fun d H1 s1 P1 v hv => ?_⟩
  obtain ⟨i, e1, P2⟩ := P1.bind.ofO
  obtain rfl := toI_some e1
  exact ⟨i, (RepB.of hv).int, Post.at (a := some i) (P := fun o H' => Q o H') (P2 H1 (Same.refl _))⟩
theorem sl_all : SlR X (fun x l u H Q => rSlL X.K x l u H Q ∨ rSlA X.K x l u H Q ∨ rSlS x l u H Q) := SlR.or sl_list (SlR.or sl_tupA sl_str)
theorem fe_slice (ha : FE X W a f) (hl : FO X W lo pl) (hh : FO X W hi ph) : FE X W (.Subscript a (.Slice lo hi none p2) pos) (cSlice f pl ph) := impE (pe_slice sl_all ha hl hh) fun σ H Q ⟨H0, A0, A, ρ, o, P⟩ => by
  refine ⟨H0, A0, A, ρ, o, P.bind.mono fun d H1 s1 P1 v hv => ?_⟩
  refine ⟨H0, A0, A, ρ, o.same s1, P1.bind.mono fun l1 H2 s2 P2 => ?_⟩
  refine ⟨H0, A0, A, ρ, (o.same s1).same s2, P2.bind.mono fun l2 H3 s3 P3 => ?_⟩
  obtain ⟨d3, e3, P4⟩ := P3.ofO
  have hv := (hv.same s2).same s3
  have o3 := ((o.same s1).same s2).same s3
  unfold dCut at e3
  split at e3
  · cases e3
    obtain ⟨p, vs, rfl, h1, r⟩ := (RepB.of hv).lst
    exact .inl ⟨p, vs, rfl, SqL.of h1, fun p hp => P4 _ (same_upd hp) _ (rep_lst (o3.fresh hp) hp (r.cut l1 l2))⟩
  · cases e3
    obtain ⟨p, vs, rfl, h1, r⟩ := (RepB.of hv).tup
    refine .inr (.inl ⟨p, vs, rfl, h1, fun z => P4 _ (Same.refl _) _ ?_, fun z p hp => P4 _ (same_upd hp) _ (rep_tup (o3.fresh hp) hp (r.cut l1 l2))⟩)
    have e : ∀ xs : List D, xs.length = vs.length → cutL xs l1 l2 = xs := fun xs hx => by
      unfold cutL
      rw [hx, z.1, z.2, List.drop_zero, Nat.sub_zero, ← hx, List.take_length]
    rw [e _ r.length.symm]
    exact hv
  · split at e3
    · rename_i hz
      cases e3
      obtain rfl := (RepB.of hv).str
      exact .inr (.inr ⟨_, rfl, hz, P4 _ (Same.refl _) _ (.str _)⟩)
    · cases e3
  · cases e3
theorem fe_rev {k : Nat} (ha : FB X W a f) : FE X W (.Subscript a (.Slice none none (some (.UnaryOp .USub (.Constant (.int 1) k p1) p2)) p3) pos) (cRev f) := impE (pe_revL ha) fun σ H Q ⟨H0, A0, A, ρ, o, P⟩ => by
  refine ⟨H0, A0, A, ρ, o, P.bind.mono fun d H1 s1 P1 v hv => ?_⟩
  obtain ⟨d3, e3, P4⟩ := P1.ofO
  unfold dRev at e3
  split at e3
  · cases e3
    obtain ⟨p, vs, rfl, h1, r⟩ := hv.lst
    exact ⟨p, vs, rfl, SqL.of h1, fun p hp => P4 _ (same_upd hp) _ (rep_lst ((o.same s1).fresh hp) hp r.reverse)⟩
  · cases e3

/-! ### built-in functions -/
def cCall (df : List D → Option D) (l : En → R (List D)) : En → R D := fun ρ => (l ρ).bind fun ds => ofO (df ds)
def DCall (X : Cx) (F : Value) (df : List D → Option D) : Prop :=
  ∃ r : List V → Hp → VK → Prop, CallR X F r ∧ ∀ (H : Hp) (A : List Addr) (vs : List V) (ds : List D) (d : D) (Q : VK), (∀ a ∈ A, H a ≠ none) → Paired (RepB X.K H A) vs ds → df ds = some d → (∀ v H', Same H H' → Rep X.K H' A v d → Q v H') → r vs H Q
/-- .. data that nobody changes -/
def DCallE (X : Cx) (F : Value) (df : List D → Option D) : Prop :=
  ∃ r : List V → Hp → VK → Prop, CallR X F r ∧ ∀ (H : Hp) (A : List Addr) (vs : List V) (ds : List D) (d : D) (Q : VK), (∀ a ∈ A, H a ≠ none) → RepL X.K H A vs ds → df ds = some d → (∀ v H', Same H H' → Rep X.K H' A v d → Q v H') → r vs H Q
/-- .. that hand back a new list -/
def DCallN (X : Cx) (F : Value) (df : List D → Option D) : Prop :=
  ∃ r : List V → Hp → VK → Prop, CallR X F r ∧ ∀ (H : Hp) (A : List Addr) (vs : List V) (ds : List D) (d : D) (Q : VK), (∀ a ∈ A, H a ≠ none) → Paired (RepB X.K H A) vs ds → df ds = some d → (∀ v H', Same H H' → RepN X.K false H H' A v d → Q v H') → r vs H Q
theorem repN_rep {t : Bool} {K : Frg} {H H' : Hp} {A : List Addr} (ha : ∀ a ∈ A, H a ≠ none) {v : V} {d : D} (h : RepN K t H H' A v d) : Rep K H' A v d := by
  obtain ⟨a, e, n, r⟩ := h
  rw [e]
  exact r.free (fun z => ha a z n) fun b hb => List.mem_cons_of_mem _ hb
theorem DCallN.call {F : Value} {df : List D → Option D} (h : DCallN X F df) : DCall X F df := by
  obtain ⟨r, hr, hs⟩ := h
  exact ⟨r, hr, fun H A vs ds d Q ha hv e q => hs H A vs ds d Q ha hv e fun v H' s n => q v H' s (repN_rep ha n)⟩
theorem DCall.orE {F : Value} {df dg : List D → Option D} (h : DCall X F df) (h' : DCall X F dg) : DCall X F (fun ds => (df ds).orElse fun _ => dg ds) := by
  obtain ⟨r, hr, hs⟩ := h
  obtain ⟨r', hr', hs'⟩ := h'
  refine ⟨_, CallR.or hr hr', fun H A vs ds d Q ha hv e q => ?_⟩
  have e : ((df ds).orElse fun _ => dg ds) = some d := e
  cases e1 : df ds with
  | some d1 => rw [e1] at e; cases e; exact .inl (hs H A vs ds _ Q ha hv e1 q)
  | none => rw [e1] at e; exact .inr (hs' H A vs ds _ Q ha hv e q)
variable {x : Str} {id T : String} {df : List D → Option D}
theorem call_read {F : Value} {r : List V → Hp → VK → Prop} (hs : ∀ (H : Hp) (A : List Addr) (vs : List V) (ds : List D) (d : D) (Q : VK), (∀ a ∈ A, H a ≠ none) → Paired (RepB X.K H A) vs ds → df ds = some d → (∀ v H', Same H H' → Rep X.K H' A v d → Q v H') → r vs H Q)
    (σ : St) (H : Hp) (Q : VK) (hq : tF X.K X.mg W (cCall df l) σ H Q) : tCB r (tFAB X.K X.mg W l) σ H Q := by
  obtain ⟨H0, A0, A, ρ, o, P⟩ := hq
  refine ⟨H0, A0, A, ρ, o, P.bind.mono fun ds H1 s1 P1 vs hvs => ?_⟩
  obtain ⟨d, e, P2⟩ := P1.ofO
  exact hs H1 A vs ds d Q (o.same s1).has hvs e fun v H' s hv => P2 H' s v hv
theorem fe_callB (hc : DCall X (.builtin id) df) (hg : Gl X x) (hm : X.mg x = none) (hv : bootBuiltins x = some (.builtin id)) (ha : FAB X W (e :: es) l) (hn : x ≠ "__name__" := by decide) (hdb : (x == ("__debug__" : Str)) = false := by decide)
    (he : starEach (e :: es) X.env = (false, eval e X.env) :: starEach es X.env := by rfl) (hpl : (backTo pos (starEach es X.env)).any (·.1) = false := by rfl) : FE X W (.Call (.Name x p1) (e :: es) [] pos) (cCall df l) := by
  obtain ⟨r, hr, hs⟩ := hc
  exact impE (pe_callB hr hg hm hv ha hn hdb he hpl) (call_read (F := .builtin id) hs)
theorem fe_callTy (hc : DCall X (.type T) df) (hg : Gl X x) (hm : X.mg x = none) (hv : bootBuiltins x = some (.type T)) (ha : FAB X W (e :: es) l) (hn : x ≠ "__name__" := by decide) (hdb : (x == ("__debug__" : Str)) = false := by decide)
    (he : starEach (e :: es) X.env = (false, eval e X.env) :: starEach es X.env := by rfl) (hpl : (backTo pos (starEach es X.env)).any (·.1) = false := by rfl) : FE X W (.Call (.Name x p1) (e :: es) [] pos) (cCall df l) := by
  obtain ⟨r, hr, hs⟩ := hc
  exact impE (pe_callTy hr hg hm hv ha hn hdb he hpl) (call_read (F := .type T) hs)
theorem fe_callTyE (hc : DCallE X (.type T) df) (hg : Gl X x) (hm : X.mg x = none) (hv : bootBuiltins x = some (.type T)) (ha : FA X W (e :: es) l) (hn : x ≠ "__name__" := by decide) (hdb : (x == ("__debug__" : Str)) = false := by decide)
    (he : starEach (e :: es) X.env = (false, eval e X.env) :: starEach es X.env := by rfl) (hpl : (backTo pos (starEach es X.env)).any (·.1) = false := by rfl) : FE X W (.Call (.Name x p1) (e :: es) [] pos) (cCall df l) := by
  obtain ⟨r, hr, hs⟩ := hc
  refine impE (pe_callTy hr hg hm hv ha hn hdb he hpl) fun σ H Q ⟨H0, A0, A, ρ, o, P⟩ => ?_
  refine ⟨H0, A0, A, ρ, o, P.bind.mono fun ds H1 s1 P1 vs hvs => ?_⟩
  obtain ⟨d, e, P2⟩ := P1.ofO
  exact hs H1 A vs ds d Q (o.same s1).has hvs e fun v H' s hv => P2 H' s v hv
theorem fn_callTy (hc : DCallN X (.type T) df) (hg : Gl X x) (hm : X.mg x = none) (hv : bootBuiltins x = some (.type T)) (ha : FAB X W (e :: es) l) (hn : x ≠ "__name__" := by decide) (hdb : (x == ("__debug__" : Str)) = false := by decide)
    (he : starEach (e :: es) X.env = (false, eval e X.env) :: starEach es X.env := by rfl) (hpl : (backTo pos (starEach es X.env)).any (·.1) = false := by rfl) : FN X W false (.Call (.Name x p1) (e :: es) [] pos) (cCall df l) := by
  obtain ⟨r, hr, hs⟩ := hc
  refine impE (pe_callTy hr hg hm hv ha hn hdb he hpl) fun σ H Q ⟨H0, A0, A, ρ, o, P⟩ => ?_
  refine ⟨H0, A0, A, ρ, o, P.bind.mono fun ds H1 s1 P1 vs hvs => ?_⟩
  obtain ⟨d, e, P2⟩ := P1.ofO
  refine hs H1 A vs ds d Q (o.same s1).has hvs e fun v H' s hv => P2 H' s v ?_
  obtain ⟨p, e, n, r⟩ := hv
  exact ⟨p, e, s1.free n, r⟩

theorem pair1 {α β : Type} {F : α → β → Prop} {vs : List α} {d : β} (h : Paired F vs [d]) : ∃ v, vs = [v] ∧ F v d := by
  cases h with
  | cons a t => cases t; exact ⟨_, rfl, a⟩
theorem pair2 {α β : Type} {F : α → β → Prop} {vs : List α} {d d2 : β} (h : Paired F vs [d, d2]) : ∃ v v2, vs = [v, v2] ∧ F v d ∧ F v2 d2 := by
  cases h with
  | cons a t =>
    obtain ⟨v2, rfl, b⟩ := pair1 t
    exact ⟨_, _, rfl, a, b⟩
def dLen : List D → Option D
  | [.list xs] => some (.int xs.length)
  | [.tuple xs] => some (.int xs.length)
  | [.str z] => if z.length ≤ sizeLine then some (.int z.length) else none
  | _ => none
theorem dc_len : DCall X (.builtin "len") dLen := by
  refine ⟨_, CallR.or call_len_seq call_len_str, fun H A vs ds d Q ha hv e q => ?_⟩
  unfold dLen at e
  split at e
  · cases e
    obtain ⟨v, rfl, h⟩ := pair1 hv
    obtain ⟨p, us, rfl, h1, r⟩ := h.lst
    exact .inl ⟨p, us, rfl, .inl (SqL.of h1), by rw [r.length]; exact q _ H (Same.refl H) (.int _)⟩
  · cases e
    obtain ⟨v, rfl, h⟩ := pair1 hv
    obtain ⟨p, us, rfl, h1, r⟩ := h.tup
    exact .inl ⟨p, us, rfl, .inr h1, by rw [r.length]; exact q _ H (Same.refl H) (.int _)⟩
  · split at e
    · rename_i hz
      cases e
      obtain ⟨v, rfl, h⟩ := pair1 hv
      obtain rfl := h.str
      exact .inr ⟨_, rfl, hz, q _ H (Same.refl H) (.int _)⟩
    · cases e
  · cases e
/-- whole numbers -/
def intsOf : List D → Option (List Int)
  | [] => some []
  | .int i :: r => (intsOf r).map fun ns => i :: ns
  | _ => none
@[simp] theorem intsOf_map (ns : List Int) : intsOf (ns.map PyData.int) = some ns := by
  induction ns with
  | nil => rfl
  | cons a r ih => rw [List.map_cons]; unfold intsOf; rw [ih]; rfl
theorem intsOf_rep {K : Frg} {H : Hp} {A : List Addr} : ∀ {vs : List V} {ds : List D} {ns : List Int}, RepL K H A vs ds → intsOf ds = some ns → vs = ns.map V.int
  | _, _, ns, .nil, h => by cases h; rfl
  | _, _, ns, .cons (d := d) a t, h => by
    cases d with
    | int i =>
      unfold intsOf at h
      obtain ⟨r, h1, h2⟩ := Option.map_eq_some_iff.mp h
      subst h2
      rw [List.map_cons, ← intsOf_rep t h1, (RepB.of a).int]
    | _ => cases h
def boolsOf : List D → Option (List Bool)
  | [] => some []
  | .bool i :: r => (boolsOf r).map fun ns => i :: ns
  | _ => none
@[simp] theorem boolsOf_map (ns : List Bool) : boolsOf (ns.map PyData.bool) = some ns := by
  induction ns with
  | nil => rfl
  | cons a r ih => rw [List.map_cons]; unfold boolsOf; rw [ih]; rfl
theorem boolsOf_rep {K : Frg} {H : Hp} {A : List Addr} : ∀ {vs : List V} {ds : List D} {ns : List Bool}, RepL K H A vs ds → boolsOf ds = some ns → vs = ns.map V.bl
  | _, _, ns, .nil, h => by cases h; rfl
  | _, _, ns, .cons (d := d) a t, h => by
    cases d with
    | bool i =>
      unfold boolsOf at h
      obtain ⟨r, h1, h2⟩ := Option.map_eq_some_iff.mp h
      subst h2
      rw [List.map_cons, ← boolsOf_rep t h1, (RepB.of a).bool]
    | _ => cases h
def dSum : List D → Option D
  | [.list xs] => (intsOf xs).map fun ns => .int ns.sum
  | _ => none
theorem dc_sum (hc : X.calm = true) : DCall X (.builtin "sum") dSum := by
  refine ⟨_, cr_sum hc, fun H A vs ds d Q ha hv e q => ?_⟩
  unfold dSum at e
  split at e
  · obtain ⟨ns, h1, h2⟩ := Option.map_eq_some_iff.mp e
    cases h2
    obtain ⟨v, rfl, h⟩ := pair1 hv
    obtain ⟨p, us, rfl, h3, r⟩ := h.lst
    exact ⟨p, ns, rfl, SqL.of (by rw [← intsOf_rep r h1]; exact h3), q _ H (Same.refl H) (.int _)⟩
  · cases e
def maxI : List Int → Option Int
  | [] => none
  | n :: r => some (r.foldl max n)
def minI : List Int → Option Int
  | [] => none
  | n :: r => some (r.foldl min n)
theorem foldl_max (n : Int) (r : List Int) : (r.foldl max n ∈ n :: r) ∧ ∀ y ∈ n :: r, y ≤ r.foldl max n := by
  induction r generalizing n with
  | nil => exact ⟨List.mem_cons_self, fun y hy => by simp at hy; simp [hy]⟩
  | cons a r ih =>
    obtain ⟨h1, h2⟩ := ih (max n a)
    rw [List.foldl_cons]
    refine ⟨?_, fun y hy => ?_⟩
    · rcases List.mem_cons.mp h1 with z | z
      · rw [z]
        rcases Int.le_total n a with w | w
        · rw [Int.max_eq_right w]; simp
        · rw [Int.max_eq_left w]; simp
      · exact List.mem_cons_of_mem _ (List.mem_cons_of_mem _ z)
    · have h3 := h2 (max n a) List.mem_cons_self
      rcases List.mem_cons.mp hy with z | z
      · rw [z]; omega
      · rcases List.mem_cons.mp z with z | z
        · rw [z]; omega
        · exact h2 y (List.mem_cons_of_mem _ z)
theorem foldl_min (n : Int) (r : List Int) : (r.foldl min n ∈ n :: r) ∧ ∀ y ∈ n :: r, r.foldl min n ≤ y := by
  induction r generalizing n with
  | nil => exact ⟨List.mem_cons_self, fun y hy => by simp at hy; simp [hy]⟩
  | cons a r ih =>
    obtain ⟨h1, h2⟩ := ih (min n a)
    rw [List.foldl_cons]
    refine ⟨?_, fun y hy => ?_⟩
    · rcases List.mem_cons.mp h1 with z | z
      · rw [z]
        rcases Int.le_total n a with w | w
        · rw [Int.min_eq_left w]; simp
        · rw [Int.min_eq_right w]; simp
      · exact List.mem_cons_of_mem _ (List.mem_cons_of_mem _ z)
    · have h3 := h2 (min n a) List.mem_cons_self
      rcases List.mem_cons.mp hy with z | z
      · rw [z]; omega
      · rcases List.mem_cons.mp z with z | z
        · rw [z]; omega
        · exact h2 y (List.mem_cons_of_mem _ z)
def dMax : List D → Option D
  | [.list xs] => ((intsOf xs).bind maxI).map .int
  | [.int i, .int j] => some (.int (max i j))
  | _ => none
def dMin : List D → Option D
  | [.list xs] => ((intsOf xs).bind minI).map .int
  | [.int i, .int j] => some (.int (min i j))
  | _ => none
theorem dc_max (hc : X.calm = true) : DCall X (.builtin "max") dMax := by
  refine ⟨_, CallR.or (cr_max hc) (call_max2 hc), fun H A vs ds d Q ha hv e q => ?_⟩
  unfold dMax at e
  split at e
  · obtain ⟨m, h1, h2⟩ := Option.map_eq_some_iff.mp e
    cases h2
    obtain ⟨ns, h3, h4⟩ := Option.bind_eq_some_iff.mp h1
    obtain ⟨v, rfl, h⟩ := pair1 hv
    obtain ⟨p, us, rfl, h5, r⟩ := h.lst
    cases ns with
    | nil => cases h4
    | cons n r2 =>
      cases h4
      obtain ⟨f1, f2⟩ := foldl_max n r2
      refine .inl ⟨p, n :: r2, rfl, SqL.of (by rw [← intsOf_rep r h3]; exact h5), by simp, fun m hm1 hm2 => ?_⟩
      have e1 := hm2 _ f1
      have e2 := f2 m hm1
      have : m = r2.foldl max n := by omega
      rw [this]
      exact q _ H (Same.refl H) (.int _)
  · cases e
    obtain ⟨v, v2, rfl, h, h'⟩ := pair2 hv
    obtain rfl := h.int
    obtain rfl := h'.int
    rename_i i j
    refine .inr ⟨i, j, rfl, ?_⟩
    have e : (if j > i then j else i) = max i j := by split <;> omega
    rw [e]
    exact q _ H (Same.refl H) (.int _)
  · cases e
theorem dc_min (hc : X.calm = true) : DCall X (.builtin "min") dMin := by
  refine ⟨_, CallR.or (cr_min hc) (call_min2 hc), fun H A vs ds d Q ha hv e q => ?_⟩
  unfold dMin at e
  split at e
  · obtain ⟨m, h1, h2⟩ := Option.map_eq_some_iff.mp e
    cases h2
    obtain ⟨ns, h3, h4⟩ := Option.bind_eq_some_iff.mp h1
    obtain ⟨v, rfl, h⟩ := pair1 hv
    obtain ⟨p, us, rfl, h5, r⟩ := h.lst
    cases ns with
    | nil => cases h4
    | cons n r2 =>
      cases h4
      obtain ⟨f1, f2⟩ := foldl_min n r2
      refine .inl ⟨p, n :: r2, rfl, SqL.of (by rw [← intsOf_rep r h3]; exact h5), by simp, fun m hm1 hm2 => ?_⟩
      have e1 := hm2 _ f1
      have e2 := f2 m hm1
      have : m = r2.foldl min n := by omega
      rw [this]
      exact q _ H (Same.refl H) (.int _)
  · cases e
    obtain ⟨v, v2, rfl, h, h'⟩ := pair2 hv
    obtain rfl := h.int
    obtain rfl := h'.int
    rename_i i j
    refine .inr ⟨i, j, rfl, ?_⟩
    have e : (if j < i then j else i) = min i j := by split <;> omega
    rw [e]
    exact q _ H (Same.refl H) (.int _)
  · cases e
def dAbs : List D → Option D
  | [.int i] => some (.int (i.natAbs : Int))
  | _ => none
theorem dc_abs : DCall X (.builtin "abs") dAbs := by
  refine ⟨_, call_abs, fun H A vs ds d Q ha hv e q => ?_⟩
  unfold dAbs at e
  split at e
  · cases e
    obtain ⟨v, rfl, h⟩ := pair1 hv
    obtain rfl := h.int
    rename_i i
    refine ⟨i, rfl, ?_⟩
    have e : (if i < 0 then -i else i) = (i.natAbs : Int) := by split <;> omega
    rw [e]
    exact q _ H (Same.refl H) (.int _)
  · cases e
def dInt : List D → Option D
  | [.int i] => some (.int i)
  | [.bool b] => some (.int (if b then 1 else 0))
  | _ => none
theorem dc_int : DCall X (.type "int") dInt := by
  refine ⟨_, call_int1, fun H A vs ds d Q ha hv e q => ?_⟩
  unfold dInt at e
  split at e
  · cases e
    obtain ⟨v, rfl, h⟩ := pair1 hv
    obtain rfl := h.int
    exact .inl ⟨_, rfl, q _ H (Same.refl H) (.int _)⟩
  · cases e
    obtain ⟨v, rfl, h⟩ := pair1 hv
    obtain rfl := h.bool
    exact .inr ⟨_, rfl, q _ H (Same.refl H) (.int _)⟩
  · cases e
def dAny : List D → Option D
  | [.list xs] => (boolsOf xs).map fun bs => .bool (bs.any fun b => b)
  | _ => none
def dAll : List D → Option D
  | [.list xs] => (boolsOf xs).map fun bs => .bool (bs.all fun b => b)
  | _ => none
theorem dc_any (hc : X.calm = true) : DCall X (.builtin "any") dAny := by
  refine ⟨_, cr_any hc, fun H A vs ds d Q ha hv e q => ?_⟩
  unfold dAny at e
  split at e
  · obtain ⟨ns, h1, h2⟩ := Option.map_eq_some_iff.mp e
    cases h2
    obtain ⟨v, rfl, h⟩ := pair1 hv
    obtain ⟨p, us, rfl, h3, r⟩ := h.lst
    exact ⟨p, ns, rfl, SqL.of (by rw [← boolsOf_rep r h1]; exact h3), q _ H (Same.refl H) (.bl _)⟩
  · cases e
theorem dc_all (hc : X.calm = true) : DCall X (.builtin "all") dAll := by
  refine ⟨_, cr_all hc, fun H A vs ds d Q ha hv e q => ?_⟩
  unfold dAll at e
  split at e
  · obtain ⟨ns, h1, h2⟩ := Option.map_eq_some_iff.mp e
    cases h2
    obtain ⟨v, rfl, h⟩ := pair1 hv
    obtain ⟨p, us, rfl, h3, r⟩ := h.lst
    exact ⟨p, ns, rfl, SqL.of (by rw [← boolsOf_rep r h1]; exact h3), q _ H (Same.refl H) (.bl _)⟩
  · cases e
def dListOf : List D → Option D
  | [.list xs] => some (.list xs)
  | [.tuple xs] => some (.list xs)
  | _ => none
theorem dc_list : DCallN X (.type "list") dListOf := by
  refine ⟨_, call_list_of, fun H A vs ds d Q ha hv e q => ?_⟩
  unfold dListOf at e
  split at e
  · cases e
    obtain ⟨v, rfl, h⟩ := pair1 hv
    obtain ⟨p, us, rfl, h1, r⟩ := h.lst
    exact ⟨p, us, rfl, .inl (SqL.of h1), fun n hn => q _ _ (same_upd hn) ⟨n, rfl, hn, orep_lst hn r⟩⟩
  · cases e
    obtain ⟨v, rfl, h⟩ := pair1 hv
    obtain ⟨p, us, rfl, h1, r⟩ := h.tup
    exact ⟨p, us, rfl, .inr h1, fun n hn => q _ _ (same_upd hn) ⟨n, rfl, hn, orep_lst hn r⟩⟩
  · cases e
def dTupOf : List D → Option D
  | [.list xs] => some (.tuple xs)
  | [.tuple xs] => some (.tuple xs)
  | _ => none
theorem dc_tuple : DCallE X (.type "tuple") dTupOf := by
  refine ⟨_, call_tuple_of, fun H A vs ds d Q ha hv e q => ?_⟩
  unfold dTupOf at e
  split at e
  · cases e
    cases hv with
    | cons h t =>
      cases t
      obtain ⟨p, us, rfl, h1, r⟩ := (RepB.of h).lst
      exact ⟨p, us, rfl, .inl ⟨SqL.of h1, fun n hn => q _ _ (same_upd hn) (rep_tup (fun z => ha n z hn) hn r)⟩⟩
  · cases e
    cases hv with
    | cons h t =>
      cases t
      obtain ⟨p, us, rfl, h1, r⟩ := (RepB.of h).tup
      exact ⟨p, us, rfl, .inr ⟨h1, q _ _ (Same.refl H) h⟩⟩
  · cases e
end
end G

namespace G
open PySem PySem.Spec PyProof.Rows L2

/-! ### how the state changes -/
section
variable {K : Frg} {H0 H H' : Hp} {A0 A A' : List Addr} {ρ : En} {σ : St} {i : Nat} {v : V} {d : D} {a : Addr} {t : Bool}
theorem SRep.tr (s : Same H H') (u : Tr A H A' H') (m : ∀ b ∈ A, b ∈ A') : ∀ {x : Sl}, SRep K H0 A0 A H v x → SRep K H0 A0 A' H' v x
  | .v _, h => Rep.tr u h
  | .own _ _, ⟨a, e, m1, n, h⟩ => ⟨a, e, m a m1, n, h.tr s u⟩
  | .er _ _, _ => trivial
  | .sc _, ⟨a, e, h⟩ => ⟨a, e, h.tr u⟩
theorem get_set_some {α : Type} {l : List α} {i j : Nat} {x y : α} (h : (l.set i x)[j]? = some y) : (j = i ∧ i < l.length ∧ x = y) ∨ (j ≠ i ∧ l[j]? = some y) := by
  by_cases e : j = i
  · subst e
    by_cases hl : j < l.length
    · rw [List.getElem?_set_self hl] at h
      exact .inl ⟨rfl, hl, Option.some.inj h⟩
    · rw [List.getElem?_eq_none (by simpa using hl)] at h; cases h
  · rw [List.getElem?_set_ne (Ne.symm e)] at h
    exact .inr ⟨e, h⟩
/-- a name gets data -/
theorem Ok.set (o : Ok K H0 A0 A ρ σ H) (i : Nat) (r : Rep K H A v d) : Ok K H0 A0 A (ρ.set i (some (.v d))) (σ.set i (some v)) H where
  len := by rw [List.length_set, List.length_set]; exact o.len
  ext := o.ext
  sub := o.sub
  new := o.new
  has := o.has
  slot := fun j s h => by
    rcases get_set_some h with ⟨e, hl, e2⟩ | ⟨e, h⟩
    · subst e
      cases e2
      exact ⟨v, by rw [List.getElem?_set_self (by rw [o.len]; exact hl)], r⟩
    · obtain ⟨v', h1, h2⟩ := o.slot j s h
      exact ⟨v', by rw [List.getElem?_set_ne (Ne.symm e)]; exact h1, h2⟩
  dis := fun j k b t t' d1 d2 ne h1 h2 h3 => by
    rcases get_set_some h1 with ⟨_, _, e2⟩ | ⟨e, h1⟩
    · cases e2
    · rcases get_set_some h2 with ⟨_, _, e2⟩ | ⟨e', h2⟩
      · cases e2
      · rw [List.getElem?_set_ne (Ne.symm e)] at h3
        rw [List.getElem?_set_ne (Ne.symm e')]
        exact o.dis j k b t t' d1 d2 ne h1 h2 h3
/-- a name is forgotten -/
theorem Ok.forget (o : Ok K H0 A0 A ρ σ H) (i : Nat) : Ok K H0 A0 A (ρ.set i none) σ H where
  len := by rw [List.length_set]; exact o.len
  ext := o.ext
  sub := o.sub
  new := o.new
  has := o.has
  slot := fun j s h => by
    rcases get_set_some h with ⟨_, _, e2⟩ | ⟨e, h⟩
    · cases e2
    · exact o.slot j s h
  dis := fun j k b t t' d1 d2 ne h1 h2 h3 => by
    rcases get_set_some h1 with ⟨_, _, e2⟩ | ⟨e, h1⟩
    · cases e2
    · rcases get_set_some h2 with ⟨_, _, e2⟩ | ⟨e', h2⟩
      · cases e2
      · exact o.dis j k b t t' d1 d2 ne h1 h2 h3
/-- a name gets an object that it alone holds -/
theorem Ok.setOwn (o : Ok K H0 A0 A ρ σ H) (s : Same H H') (i : Nat) (n : H a = none) (r : ORep K H' (a :: A) a t d) : Ok K H0 A0 (a :: A) (ρ.set i (some (.own t d))) (σ.set i (some (.ref a))) H' := by
  have u : Tr A H (a :: A) H' := ⟨fun b x h _ => s b x h, fun b hb => by
    rcases List.mem_cons.mp hb with rfl | hb
    · exact .inr n
    · exact .inl hb⟩
  have n0 : H0 a = none := o.ext.free n
  have old : ∀ (j : Nat) (t' : Bool) (d' : D), ρ[j]? = some (some (.own t' d')) → σ[j]? ≠ some (some (.ref a)) := fun j t' d' h z => by
    obtain ⟨v', h1, b, e, hb, _, _⟩ := o.slot j _ h
    rw [h1] at z
    cases z
    cases e
    exact o.has _ hb n
  exact {
    len := by rw [List.length_set, List.length_set]; exact o.len
    ext := o.ext.trans s
    sub := fun b hb => List.mem_cons_of_mem _ (o.sub b hb)
    new := fun b hb => by
      rcases List.mem_cons.mp hb with rfl | hb
      · exact .inr n0
      · exact o.new b hb
    has := fun b hb z => by
      rcases List.mem_cons.mp hb with rfl | hb
      · obtain ⟨x, h, _⟩ := r.some
        rw [h] at z; cases z
      · exact o.has b hb (s.free z)
    slot := fun j x h => by
      rcases get_set_some h with ⟨e, hl, e2⟩ | ⟨e, h⟩
      · subst e
        cases e2
        exact ⟨.ref a, by rw [List.getElem?_set_self (by rw [o.len]; exact hl)], a, rfl, List.mem_cons_self, ⟨n0, fun z => o.has a (o.sub a z) n⟩, r⟩
      · obtain ⟨v', h1, h2⟩ := o.slot j x h
        exact ⟨v', by rw [List.getElem?_set_ne (Ne.symm e)]; exact h1, h2.tr s u fun b hb => List.mem_cons_of_mem _ hb⟩
    dis := fun j k b t1 t2 d1 d2 ne h1 h2 h3 => by
      rcases get_set_some h1 with ⟨e, hl, e2⟩ | ⟨e, h1⟩
      · subst e
        rw [List.getElem?_set_self (by rw [o.len]; exact hl)] at h3
        cases h3
        rcases get_set_some h2 with ⟨e', _, _⟩ | ⟨e', h2⟩
        · exact absurd e'.symm ne
        · rw [List.getElem?_set_ne (Ne.symm e')]
          exact old k t2 d2 h2
      · rw [List.getElem?_set_ne (Ne.symm e)] at h3
        rcases get_set_some h2 with ⟨e', hl, _⟩ | ⟨e', h2⟩
        · rw [e', List.getElem?_set_self (by rw [o.len]; exact hl)]
          intro z
          cases z
          exact old j t1 d1 h1 h3
        · rw [List.getElem?_set_ne (Ne.symm e')]
          exact o.dis j k b t1 t2 d1 d2 ne h1 h2 h3 }
/-- the object that a name alone holds is changed -/
theorem Ok.mut {x : HO} {d' : D} (o : Ok K H0 A0 A ρ σ H) (h : ρ[i]? = some (some (.own t d))) (hv : σ[i]? = some (some (.ref a))) (r : ORep K (upd H a x) A a t d') :
    Ok K H0 A0 A (ρ.set i (some (.own t d'))) σ (upd H a x) ∧ Tr A H A (upd H a x) := by
  obtain ⟨v', h1, b, e, hb, n0, r0⟩ := o.slot i _ h
  rw [hv] at h1
  cases h1
  cases e
  have u : Tr A H A (upd H a x) := ⟨fun c y q n => by rw [upd_ne (show c ≠ a from fun z => n (by rw [z]; exact hb))]; exact q, fun c hc => .inl hc⟩
  refine ⟨⟨by rw [List.length_set]; exact o.len, fun c y q => ?_, o.sub, o.new, fun c hc z => ?_, fun j s q => ?_, fun j k c t1 t2 d1 d2 ne q1 q2 q3 => ?_⟩, u⟩
  · rw [upd_ne (show c ≠ a from fun z => by rw [z, n0.1] at q; cases q)]
    exact o.ext c y q
  · by_cases e : c = a
    · subst e; rw [upd_same] at z; cases z
    · rw [upd_ne e] at z; exact o.has c hc z
  · rcases get_set_some q with ⟨e, _, e2⟩ | ⟨e, q⟩
    · subst e
      cases e2
      exact ⟨_, hv, a, rfl, hb, n0, r⟩
    · obtain ⟨v', h1, h2⟩ := o.slot j s q
      refine ⟨v', h1, ?_⟩
      cases s with
      | v d1 => exact Rep.tr u h2
      | own t1 d1 =>
        obtain ⟨c, e1, hc, nc, rc⟩ := h2
        subst e1
        exact ⟨c, rfl, hc, nc, rc.other (fun z => by
          subst z
          exact o.dis i j c t t1 d d1 (Ne.symm e) h q hv h1) hb⟩
      | er _ _ => exact trivial
      | sc ns =>
        obtain ⟨c, e1, h3⟩ := h2
        exact ⟨c, e1, h3.tr u⟩
  · rcases get_set_some q1 with ⟨e, hl, e2⟩ | ⟨e, q1⟩
    · subst e
      rcases get_set_some q2 with ⟨e', _, _⟩ | ⟨e', q2⟩
      · exact absurd e'.symm ne
      · exact o.dis j k c t t2 d d2 ne h q2 q3
    · rcases get_set_some q2 with ⟨e', _, _⟩ | ⟨e', q2⟩
      · rw [e']
        exact o.dis j i c t1 t d1 d e q1 h q3
      · exact o.dis j k c t1 t2 d1 d2 ne q1 q2 q3
/-- a name's object is let go: shared data from now on -/
def frz (i : Nat) (ρ : En) : En := match ρ[i]? with
  | some (some (.own _ d)) => ρ.set i (some (.v d))
  | _ => ρ
theorem Ok.frz (o : Ok K H0 A0 A ρ σ H) (i : Nat) : ∃ A', Ok K H0 A0 A' (frz i ρ) σ H ∧ Tr A H A' H := by
  unfold G.frz
  split
  · rename_i t d h
    obtain ⟨v, h1, a, e, ha, n0, r⟩ := o.slot i _ h
    subst e
    have hs : ∀ b ∈ A.filter (fun b => decide (b ≠ a)), b ∈ A := fun b hb => (List.mem_filter.mp hb).1
    have hna : a ∉ A.filter (fun b => decide (b ≠ a)) := fun hb => by simpa using (List.mem_filter.mp hb).2
    refine ⟨A.filter fun b => decide (b ≠ a), ⟨by rw [List.length_set]; exact o.len, o.ext, fun b hb => ?_, fun b hb => o.new b (hs b hb), fun b hb => o.has b (hs b hb), fun j s q => ?_, fun j k c t1 t2 d1 d2 ne q1 q2 q3 => ?_⟩, Tr.sub hs⟩
    · refine List.mem_filter.mpr ⟨o.sub b hb, decide_eq_true fun z => ?_⟩
      subst z
      exact n0.2 hb
    · rcases get_set_some q with ⟨e, _, e2⟩ | ⟨e, q⟩
      · subst e
        cases e2
        exact ⟨_, h1, r.free hna hs⟩
      · obtain ⟨v', g1, g2⟩ := o.slot j s q
        refine ⟨v', g1, ?_⟩
        cases s with
        | v d1 => exact Rep.sub hs g2
        | own t1 d1 =>
          obtain ⟨c, e1, hc, nc, rc⟩ := g2
          subst e1
          exact ⟨c, rfl, List.mem_filter.mpr ⟨hc, decide_eq_true fun z => by
            subst z
            exact o.dis i j c t t1 d d1 (Ne.symm e) h q h1 g1⟩, nc, rc.sub hs⟩
        | er _ _ => exact trivial
        | sc ns =>
          obtain ⟨c, e1, h3⟩ := g2
          exact ⟨c, e1, h3.tr (Tr.sub hs)⟩
    · rcases get_set_some q1 with ⟨_, _, e2⟩ | ⟨_, q1⟩
      · cases e2
      · rcases get_set_some q2 with ⟨_, _, e2⟩ | ⟨_, q2⟩
        · cases e2
        · exact o.dis j k c t1 t2 d1 d2 ne q1 q2 q3
  · exact ⟨A, o, Tr.refl A H⟩
/-- all objects are let go -/
def letGo : Option Sl → Option Sl
  | some (.own _ d) => some (.v d)
  | s => s
def disown (ρ : En) : En := ρ.map letGo
theorem Ok.disown (o : Ok K H0 A0 A ρ σ H) : Ok K H0 A0 A0 (disown ρ) σ H where
  len := by unfold G.disown; rw [List.length_map]; exact o.len
  ext := o.ext
  sub := fun _ h => h
  new := fun _ h => .inl h
  has := fun a h => o.has a (o.sub a h)
  slot := fun j s h => by
    unfold G.disown at h
    rw [List.getElem?_map] at h
    obtain ⟨x, h1, h2⟩ := Option.map_eq_some_iff.mp h
    cases x with
    | none => cases h2
    | some x =>
      obtain ⟨v, g1, g2⟩ := o.slot j x h1
      refine ⟨v, g1, ?_⟩
      cases x with
      | v d => cases h2; exact Rep.sub o.sub g2
      | own t d =>
        cases h2
        obtain ⟨a, e, ha, n0, r⟩ := g2
        subst e
        exact r.free n0.2 o.sub
      | er c n => cases h2; exact trivial
      | sc ns =>
        cases h2
        obtain ⟨c, e1, h3⟩ := g2
        exact ⟨c, e1, h3.tr (Tr.sub o.sub)⟩
  dis := fun j k c t1 t2 d1 d2 ne q1 q2 q3 => by
    unfold G.disown at q1
    rw [List.getElem?_map] at q1
    obtain ⟨x, h1, h2⟩ := Option.map_eq_some_iff.mp q1
    cases x with
    | none => cases h2
    | some x => cases x <;> cases h2
theorem flat_rep {w : V} : ∀ {d : D}, Rep K H A w d → (match d with | .list _ => false | .tuple _ => false | .dict _ => false | _ => true) = true → Rep K H A' w d
  | .none, .non, _ => .non
  | .bool _, .bl b, _ => .bl b
  | .int _, .int b, _ => .int b
  | .str _, .str b, _ => .str b
end

/-- the same but at the places ix -/
def Agree (ix : List Nat) (σ σ' : St) : Prop := σ'.length = σ.length ∧ ∀ j, j ∉ ix → σ'[j]? = σ[j]?
/-- names of a block forgotten -/
def wipeE (ρ : En) : List Nat → En
  | [] => ρ
  | v :: vs => (wipeE ρ vs).set v none
theorem wipe_out {σ : St} {i : Nat} : ∀ {vs : List Nat}, i ∉ vs → (wipe σ vs)[i]? = σ[i]?
  | [], _ => rfl
  | v :: vs, h => by
    unfold wipe
    rw [List.getElem?_set_ne (fun z => h (by simp [z])), wipe_out fun z => h (List.mem_cons_of_mem _ z)]
theorem wipe_in {σ : St} {i : Nat} : ∀ {vs : List Nat}, i ∈ vs → (wipe σ vs)[i]? = if i < σ.length then some none else none
  | v :: vs, h => by
    unfold wipe
    by_cases e : v = i
    · subst e
      by_cases hl : v < σ.length
      · rw [List.getElem?_set_self (by rw [wipe_length]; exact hl), if_pos hl]
      · rw [List.getElem?_eq_none (by rw [List.length_set, wipe_length]; omega), if_neg hl]
    · rw [List.getElem?_set_ne e]
      rcases List.mem_cons.mp h with z | z
      · exact absurd z.symm e
      · exact wipe_in z
theorem wipe_agree {ix vs : List Nat} {σ σ' : St} (h : ∀ i ∈ ix, i ∈ vs) (a : Agree ix σ σ') : wipe σ' vs = wipe σ vs := by
  refine List.ext_getElem? fun i => ?_
  by_cases e : i ∈ vs
  · rw [wipe_in e, wipe_in e, a.1]
  · rw [wipe_out e, wipe_out e]
    exact a.2 i fun z => e (h i z)
theorem wipe_wipe {vs : List Nat} {σ : St} : wipe (wipe σ vs) vs = wipe σ vs := by
  refine List.ext_getElem? fun i => ?_
  by_cases e : i ∈ vs
  · rw [wipe_in e, wipe_in e, wipe_length]
  · rw [wipe_out e, wipe_out e]
theorem wipeE_length (ρ : En) : ∀ vs : List Nat, (wipeE ρ vs).length = ρ.length
  | [] => rfl
  | v :: vs => by unfold wipeE; rw [List.length_set, wipeE_length ρ vs]
theorem Ok.wipe {K : Frg} {H0 H : Hp} {A0 A : List Addr} {ρ : En} {σ : St} (o : Ok K H0 A0 A ρ σ H) : ∀ vs : List Nat, Ok K H0 A0 A (wipeE ρ vs) (L2.wipe σ vs) H
  | [] => o
  | v :: vs => by
    have p := (o.wipe vs).forget v
    refine ⟨by rw [L2.wipe_length, wipeE_length]; exact o.len, o.ext, o.sub, o.new, o.has, fun i s h => ?_, fun i j a t t' d d' ne h1 h2 h3 => ?_⟩
    · have h' : ((wipeE ρ vs).set v none)[i]? = some (some s) := h
      obtain ⟨x, h1, h2⟩ := p.slot i s h'
      refine ⟨x, ?_, h2⟩
      unfold L2.wipe
      rcases get_set_some h' with ⟨_, _, e⟩ | ⟨e, _⟩
      · cases e
      · rw [List.getElem?_set_ne (Ne.symm e)]; exact h1
    · have h1' : ((wipeE ρ vs).set v none)[i]? = some (some (.own t d)) := h1
      have h2' : ((wipeE ρ vs).set v none)[j]? = some (some (.own t' d')) := h2
      have hi : i ≠ v := by
        rcases get_set_some h1' with ⟨_, _, e⟩ | ⟨e, _⟩
        · cases e
        · exact e
      have hj : j ≠ v := by
        rcases get_set_some h2' with ⟨_, _, e⟩ | ⟨e, _⟩
        · cases e
        · exact e
      unfold L2.wipe at h3 ⊢
      rw [List.getElem?_set_ne (Ne.symm hi)] at h3
      rw [List.getElem?_set_ne (Ne.symm hj)]
      exact p.dis i j a t t' d d' ne h1' h2' h3
/-- one more object that is ours alone, kept for what is around -/
theorem Ok.grow {K : Frg} {H0 H H' : Hp} {A0 A : List Addr} {ρ : En} {σ : St} {l : Addr} (o : Ok K H0 A0 A ρ σ H) (s : Same H H') (n : H l = none) (y : H' l ≠ none) : Ok K H0 (l :: A0) (l :: A) ρ σ H' := by
  have u : Tr A H (l :: A) H' := ⟨fun b x h _ => s b x h, fun b hb => by
    rcases List.mem_cons.mp hb with rfl | hb
    · exact .inr n
    · exact .inl hb⟩
  refine ⟨o.len, o.ext.trans s, fun b hb => ?_, fun b hb => ?_, fun b hb z => ?_, fun i x h => ?_, o.dis⟩
  · rcases List.mem_cons.mp hb with rfl | hb
    · exact List.mem_cons_self
    · exact List.mem_cons_of_mem _ (o.sub b hb)
  · rcases List.mem_cons.mp hb with rfl | hb
    · exact .inl List.mem_cons_self
    · rcases o.new b hb with h | h
      · exact .inl (List.mem_cons_of_mem _ h)
      · exact .inr h
  · rcases List.mem_cons.mp hb with rfl | hb
    · exact y z
    · exact o.has b hb (s.free z)
  · obtain ⟨v, h1, h2⟩ := o.slot i x h
    refine ⟨v, h1, ?_⟩
    cases x with
    | v d => exact Rep.tr u h2
    | er c n => exact trivial
    | sc ns =>
      obtain ⟨c, e1, h3⟩ := h2
      exact ⟨c, e1, h3.tr u⟩
    | own t d =>
      obtain ⟨a, e, ha, n0, r⟩ := h2
      exact ⟨a, e, List.mem_cons_of_mem _ ha, ⟨n0.1, fun z => by
        rcases List.mem_cons.mp z with z | z
        · exact o.has a ha (by rw [z]; exact n)
        · exact n0.2 z⟩, r.tr s u⟩
/-- what is kept for what is around is changed -/
theorem Ok.touch {K : Frg} {H0 H : Hp} {A0 A : List Addr} {ρ : En} {σ : St} {l : Addr} {x : HO} (o : Ok K H0 A0 A ρ σ H) (hl : l ∈ A0) (n : H0 l = none) : Ok K H0 A0 A ρ σ (upd H l x) := by
  have hA := o.sub l hl
  refine ⟨o.len, fun c y q => ?_, o.sub, o.new, fun b hb z => ?_, fun i s h => ?_, o.dis⟩
  · rw [upd_ne (show c ≠ l from fun z => by rw [z, n] at q; cases q)]
    exact o.ext c y q
  · by_cases e : b = l
    · subst e; rw [upd_same] at z; cases z
    · rw [upd_ne e] at z; exact o.has b hb z
  · obtain ⟨v, h1, h2⟩ := o.slot i s h
    refine ⟨v, h1, ?_⟩
    cases s with
    | v d => exact Rep.tr (Tr.write hA) h2
    | er c n => exact trivial
    | sc ns =>
      obtain ⟨c, e1, h3⟩ := h2
      exact ⟨c, e1, h3.tr (Tr.write hA)⟩
    | own t d =>
      obtain ⟨a, e, ha, n0, r⟩ := h2
      exact ⟨a, e, ha, n0, r.other (fun z => n0.2 (by rw [z]; exact hl)) hA⟩

/-! ### what follows a piece -/
def SR.of {α : Type} (r : R α) (ρ : En) (k : α → SR) : SR := match r with
  | .ok a => k a
  | .ex c n => .ex c n ρ
  | .no => .no
@[simp] theorem SR.of_ok {α : Type} (a : α) (ρ : En) (k : α → SR) : SR.of (.ok a) ρ k = k a := rfl
@[simp] theorem SR.of_ex {α : Type} (c : String) (n : Int) (ρ : En) (k : α → SR) : SR.of (.ex c n : R α) ρ k = .ex c n ρ := rfl
@[simp] theorem SR.of_no {α : Type} (ρ : En) (k : α → SR) : SR.of (.no : R α) ρ k = .no := rfl
section
variable {K : Frg} {mg : MgT} {W : WX} {H0 H H1 : Hp} {A0 A A1 : List Addr} {E : Ends} {ρ : En} {σ : St}
theorem PostS.tr {r : SR} (h : PostS K mg W H0 A0 A H E r) (u : Tr A H A1 H1) : PostS K mg W H0 A0 A1 H1 E r := by
  cases r with
  | nx ρ' => exact fun σ' H' A' o t => h σ' H' A' o (u.trans t)
  | rt d => exact h
  | bk ρ' => exact fun σ' H' A' o t => h σ' H' A' o (u.trans t)
  | ct ρ' => exact fun σ' H' A' o t => h σ' H' A' o (u.trans t)
  | ex c n ρ' => exact fun u' p σ' H' A' o t => h u' p σ' H' A' o (u.trans t)
  | no => exact h
theorem PostS.same {r : SR} (h : PostS K mg W H0 A0 A H E r) (s : Same H H1) : PostS K mg W H0 A0 A H1 E r := h.tr (Tr.same s)
theorem PostS.of {α : Type} {r : R α} {k : α → SR} (o : Ok K H0 A0 A ρ σ H) (h : PostS K mg W H0 A0 A H E (SR.of r ρ k)) : Post mg W σ H (fun a _ => PostS K mg W H0 A0 A H E (k a)) r := by
  cases r with
  | ok a => exact fun H1 s => h
  | ex c n => exact fun u p H1 s f e => h u p σ H1 A (o.same s) (Tr.same s) (o.ext.free f) e
  | no => exact h
/-- the end of a piece replaced -/
theorem PostS.seq {r : SR} {g2 : En → SR} (h : PostS K mg W H0 A0 A H E (match r with | .nx ρ' => g2 ρ' | r => r)) : PostS K mg W H0 A0 A H { E with nx := tFS K mg W g2 E } r := by
  cases r with
  | nx ρ' => exact fun σ' H' A' o t => ⟨H0, A0, A', ρ', o, PostS.tr (r := g2 ρ') h t⟩
  | rt d => exact h
  | bk ρ' => exact h
  | ct ρ' => exact h
  | ex c n ρ' => exact h
  | no => exact h
end

/-! ### statements -/
def sNext : En → SR := fun ρ => .nx ρ
def sSeq (g1 g2 : En → SR) : En → SR := fun ρ => match g1 ρ with
  | .nx ρ' => g2 ρ'
  | r => r
def sExpr (f : En → R D) : En → SR := fun ρ => .of (f ρ) ρ fun _ => .nx ρ
def sRet (f : En → R D) : En → SR := fun ρ => .of (f (disown ρ)) (disown ρ) .rt
def sRetN : En → SR := fun ρ => .rt .none
def sIf (p : En → R Bool) (g1 g2 : En → SR) : En → SR := fun ρ => .of (p ρ) ρ fun b => if b = true then g1 ρ else g2 ρ
def sSet (i : Nat) (f : En → R D) : En → SR := fun ρ => .of (f ρ) ρ fun d => .nx (ρ.set i (some (.v d)))
def sSetN (i : Nat) (t : Bool) (f : En → R D) : En → SR := fun ρ => .of (f ρ) ρ fun d => .nx (ρ.set i (some (.own t d)))
def sFrz (i : Nat) (g : En → SR) : En → SR := fun ρ => g (frz i ρ)
section
variable {X : Cx} {W : WX} {e a b c : Expr} {f h : En → R D} {p : En → R Bool} {g g1 g2 : En → SR} {st : Stmt} {rest s1 s2 : List Stmt} {pos pos' : Pos} {x : Str} {i : Nat} {t : Bool}
theorem fss_nil : FSs X W [] sNext := impSs pss_nil fun D σ H ⟨H0, A0, A, ρ, o, P⟩ => P σ H A o (Tr.refl A H)
theorem fss_cons (h1 : FS X W st g1) (h2 : FSs X W rest g2) : FSs X W (st :: rest) (sSeq g1 g2) := impSs (pss_cons h1 h2) fun D σ H ⟨H0, A0, A, ρ, o, P⟩ => ⟨H0, A0, A, ρ, o, PostS.seq P⟩
theorem fss_one (h1 : FS X W st g1) : FSs X W [st] g1 := pss_one h1
theorem fs_pass : FS X W (.Pass pos) sNext := impS ps_pass fun D σ H ⟨H0, A0, A, ρ, o, P⟩ => P σ H A o (Tr.refl A H)
theorem fs_doc {z : Str} {j : Nat} : FS X W (.Expr (.Constant (.str z) j pos) pos') sNext := impS ps_doc fun D σ H ⟨H0, A0, A, ρ, o, P⟩ => P σ H A o (Tr.refl A H)
theorem fs_break : FS X W (.Break pos) (fun ρ => .bk ρ) := impS ps_break fun D σ H ⟨H0, A0, A, ρ, o, P⟩ => P σ H A o (Tr.refl A H)
theorem fs_continue : FS X W (.Continue pos) (fun ρ => .ct ρ) := impS ps_continue fun D σ H ⟨H0, A0, A, ρ, o, P⟩ => P σ H A o (Tr.refl A H)
theorem fs_expr (he : FE X W e f) (hs : swapsWith e none pos.line X.env = pure false := by rfl) : FS X W (.Expr e pos) (sExpr f) := impS (ps_expr he hs) fun D σ H ⟨H0, A0, A, ρ, o, P⟩ =>
  ⟨H0, A0, A, ρ, o, (P.of o).mono fun d H1 s1 P1 v _ => P1 σ H1 A (o.same s1) (Tr.same s1)⟩
theorem fs_ret (he : FE X W e f) : FS X W (.Return (some e) pos) (sRet f) := impS (ps_ret he) fun D σ H ⟨H0, A0, A, ρ, o, P⟩ => by
  have P' : PostS X.K X.mg W H0 A0 A0 H D (SR.of (f (disown ρ)) (disown ρ) .rt) := PostS.tr (r := sRet f ρ) P (Tr.sub o.sub)
  exact ⟨H0, A0, A0, disown ρ, o.disown, (P'.of o.disown).mono fun d H1 s1 P1 v r => P1 v H1 (o.ext.trans s1) r⟩
theorem fs_retN : FS X W (.Return none pos) sRetN := impS ps_retN fun D σ H ⟨H0, A0, A, ρ, o, P⟩ => P _ H o.ext .non
theorem fs_if (hc : FT X W c p) (ha : FSs X W s1 g1) (hb : FSs X W s2 g2) : FS X W (.If c s1 s2 pos) (sIf p g1 g2) := impS (ps_if hc ha hb) fun D σ H ⟨H0, A0, A, ρ, o, P⟩ => by
  refine ⟨H0, A0, A, ρ, o, (P.of o).mono fun b H1 s1 P1 => ?_⟩
  cases b with
  | true => exact ⟨H0, A0, A, ρ, o.same s1, PostS.same (r := g1 ρ) P1 s1⟩
  | false => exact ⟨H0, A0, A, ρ, o.same s1, PostS.same (r := g2 ρ) P1 s1⟩
theorem fs_set (hN : X.N.Nodup) (hi : X.N[i]? = some x) (hx : Loc X.env.scope x) (he : FE X W e f) (hs : swapsWith e (some (.Name x pos')) pos.line X.env = pure false := by rfl) (hf : X.fn x = true ∨ X.env.scope.names.lookup x = some .local := by first | exact .inl rfl | exact .inr rfl | assumption) :
    FS X W (.Assign [.Name x pos'] e pos) (sSet i f) := impS (ps_set hN hi hx he hs hf) fun D σ H ⟨H0, A0, A, ρ, o, P⟩ =>
  ⟨H0, A0, A, ρ, o, (P.of o).mono fun d H1 s1 P1 v r => P1 _ H1 A ((o.same s1).set i r) (Tr.same s1)⟩
theorem fs_setN (hN : X.N.Nodup) (hi : X.N[i]? = some x) (hx : Loc X.env.scope x) (he : FN X W t e f) (hs : swapsWith e (some (.Name x pos')) pos.line X.env = pure false := by rfl) (hf : X.fn x = true ∨ X.env.scope.names.lookup x = some .local := by first | exact .inl rfl | exact .inr rfl | assumption) :
    FS X W (.Assign [.Name x pos'] e pos) (sSetN i t f) := impS (ps_set hN hi hx he hs hf) fun D σ H ⟨H0, A0, A, ρ, o, P⟩ =>
  ⟨H0, A0, A, ρ, o, (P.of o).mono fun d H1 s1 P1 v ⟨a, e, n, r⟩ => by
    subst e
    exact P1 _ H1 (a :: A) (o.setOwn s1 i n r) ⟨fun b x h _ => s1 b x h, fun b hb => by
      rcases List.mem_cons.mp hb with rfl | hb
      · exact .inr n
      · exact .inl hb⟩⟩
theorem fs_frz (i : Nat) (hs : FS X W st g) : FS X W st (sFrz i g) := impS hs fun D σ H ⟨H0, A0, A, ρ, o, P⟩ => by
  obtain ⟨A', o', u⟩ := o.frz i
  exact ⟨H0, A0, A', _, o', PostS.tr (r := g (frz i ρ)) P u⟩
theorem fss_frz (i : Nat) (hs : FSs X W s1 g) : FSs X W s1 (sFrz i g) := impSs hs fun D σ H ⟨H0, A0, A, ρ, o, P⟩ => by
  obtain ⟨A', o', u⟩ := o.frz i
  exact ⟨H0, A0, A', _, o', PostS.tr (r := g (frz i ρ)) P u⟩
/-- a call that hands back nothing that could hold what it was handed -/
def flatD : D → Bool
  | .list _ => false
  | .tuple _ => false
  | .dict _ => false
  | _ => true
def cFlat (f : En → R D) : En → R D := fun ρ => (f (disown ρ)).bind fun d => if flatD d = true then .ok d else .no
theorem fe_flat (he : FE X W e f) : FE X W e (cFlat f) := impE he fun σ H Q ⟨H0, A0, A, ρ, o, P⟩ => by
  refine ⟨H0, A0, A0, disown ρ, o.disown, P.bind.mono fun d H1 s1 P1 v r => ?_⟩
  split at P1
  · rename_i hf
    exact P1 H1 (Same.refl _) v (flat_rep r hf)
  · exact P1.elim

/-! ### targets -/
abbrev TgF := D → En → Option En
def tFG (K : Frg) (ix : List Nat) (t : TgF) : TG := fun v σ H Q => ∃ H0 A0 A ρ d ρ', Ok K H0 A0 A ρ σ H ∧ Rep K H A v d ∧ t d ρ = some ρ' ∧ ∀ σ', Ok K H0 A0 A ρ' σ' H → Agree ix σ σ' → Q σ' H
abbrev FG (X : Cx) (tg : Expr) (ix : List Nat) (t : TgF) : Prop := PG X tg (tFG X.K ix t)
def tFGs (K : Frg) (ix : List Nat) (t : List D → En → Option En) : TGs := fun vs σ H Q => ∃ H0 A0 A ρ ds ρ', Ok K H0 A0 A ρ σ H ∧ RepL K H A vs ds ∧ t ds ρ = some ρ' ∧ ∀ σ', Ok K H0 A0 A ρ' σ' H → Agree ix σ σ' → Q σ' H
abbrev FGs (X : Cx) (tg : List Expr) (ix : List Nat) (t : List D → En → Option En) : Prop := PGs X tg (tFGs X.K ix t)
theorem impG {e : Expr} {t t' : TG} (h : PG X e t) (i : ∀ v σ H Q, t' v σ H Q → t v σ H Q) : PG X e t' := ⟨fun pins s σ H v u Q I r q => h.run pins s σ H v u Q I r (i _ _ _ _ q)⟩
theorem impGs {e : List Expr} {t t' : TGs} (h : PGs X e t) (i : ∀ v σ H Q, t' v σ H Q → t v σ H Q) : PGs X e t' := ⟨fun pins s σ H v u Q I r q => h.run pins s σ H v u Q I r (i _ _ _ _ q)⟩
def gN (i : Nat) : TgF := fun d ρ => some (ρ.set i (some (.v d)))
def gT (t : List D → En → Option En) : TgF := fun d ρ => match d with
  | .tuple ds => t ds ρ
  | _ => none
def gE : List D → En → Option En := fun ds ρ => match ds with
  | [] => some ρ
  | _ => none
def gC (t : TgF) (u : List D → En → Option En) : List D → En → Option En := fun ds ρ => match ds with
  | d :: ds => (t d ρ).bind (u ds)
  | [] => none
theorem fg_name (hN : X.N.Nodup) (hi : X.N[i]? = some x) (hx : Loc X.env.scope x) (hf : X.fn x = true ∨ X.env.scope.names.lookup x = some .local := by first | exact .inl rfl | exact .inr rfl | assumption) : FG X (.Name x pos) [i] (gN i) :=
  impG (pg_name hN hi hx hf) fun v σ H Q ⟨H0, A0, A, ρ, d, ρ', o, r, e, q⟩ => by
    cases e
    exact q _ (o.set i r) ⟨List.length_set, fun j hj => List.getElem?_set_ne (fun z => hj (by simp [z]))⟩
theorem fgs_nil : FGs X [] [] gE := impGs pgs_nil fun vs σ H Q ⟨H0, A0, A, ρ, ds, ρ', o, r, e, q⟩ => by
  cases r with
  | nil => cases e; exact ⟨rfl, q _ o ⟨rfl, fun _ _ => rfl⟩⟩
  | cons _ _ => cases e
theorem fgs_cons {es : List Expr} {ix1 ix2 : List Nat} {tg : TgF} {tgs : List D → En → Option En} (h1 : FG X e ix1 tg) (h2 : FGs X es ix2 tgs)
    (hs : (assignEach (e :: es) X.env).map (·.2) = assign e X.env :: (assignEach es X.env).map (·.2) := by rfl) : FGs X (e :: es) (ix1 ++ ix2) (gC tg tgs) := impGs (pgs_cons h1 h2 hs) fun vs σ H Q ⟨H0, A0, A, ρ, ds, ρ', o, r, e, q⟩ => by
  cases r with
  | nil => cases e
  | cons a t =>
    obtain ⟨ρ1, e1, e2⟩ := Option.bind_eq_some_iff.mp (show (tg _ ρ).bind (tgs _) = some ρ' from e)
    exact ⟨_, _, rfl, H0, A0, A, ρ, _, ρ1, o, a, e1, fun σ1 o1 g1 => ⟨H0, A0, A, ρ1, _, ρ', o1, t, e2, fun σ2 o2 g2 => q σ2 o2 ⟨g2.1.trans g1.1, fun j hj => (g2.2 j fun z => hj (List.mem_append_right _ z)).trans (g1.2 j fun z => hj (List.mem_append_left _ z))⟩⟩⟩
theorem fg_tup {es : List Expr} {k n : Nat} {ix : List Nat} {tgs : List D → En → Option En} (hc : X.calm = true) (hg : FGs X es ix tgs) (hl : ∀ ds ρ ρ', tgs ds ρ = some ρ' → ds.length = n)
    (hn : (assignEach es X.env).length = n := by rfl) (hst : (assignEach es X.env).findIdx? (·.1) = none := by rfl) : FG X (.Tuple es k pos) ix (gT tgs) := impG (pg_tup hc hg hn hst) fun v σ H Q ⟨H0, A0, A, ρ, d, ρ', o, r, e, q⟩ => by
  unfold gT at e
  split at e
  · obtain ⟨a, vs, rfl, h1, r1⟩ := (RepB.of r).tup
    exact ⟨a, vs, rfl, h1, by rw [r1.length]; exact hl _ _ _ e, H0, A0, A, ρ, _, ρ', o, r1, e, q⟩
  · cases e
theorem gE_len {ds : List D} {ρ ρ' : En} (h : gE ds ρ = some ρ') : ds.length = 0 := by
  cases ds with
  | nil => rfl
  | cons _ _ => cases h
theorem gC_len {tg : TgF} {tgs : List D → En → Option En} {n : Nat} (h : ∀ ds ρ ρ', tgs ds ρ = some ρ' → ds.length = n) {ds : List D} {ρ ρ' : En} (q : gC tg tgs ds ρ = some ρ') : ds.length = n + 1 := by
  cases ds with
  | nil => cases q
  | cons d ds =>
    obtain ⟨ρ1, e1, e2⟩ := Option.bind_eq_some_iff.mp (show (tg d ρ).bind (tgs ds) = some ρ' from q)
    rw [List.length_cons, h _ _ _ e2]
/-- target = e -/
def sAsg (t : TgF) (f : En → R D) : En → SR := fun ρ => .of (f ρ) ρ fun d => match t d ρ with
  | some ρ' => .nx ρ'
  | none => .no
theorem fs_asg {tg : Expr} {ix : List Nat} {t : TgF} (he : FE X W e f) (hg : FG X tg ix t) (hs : swapsWithSole [tg] e pos.line X.env = pure false := by rfl) (hw : swappedStores [tg] e X.env = pure none := by rfl)
    (h1 : (assignEach [tg] X.env).map (·.2) = [assign tg X.env] := by rfl) : FS X W (.Assign [tg] e pos) (sAsg t f) := impS (ps_asg he hg hs hw h1) fun D σ H ⟨H0, A0, A, ρ, o, P⟩ => by
  refine ⟨H0, A0, A, ρ, o, (P.of o).mono fun d H1 s1 P1 v r => ?_⟩
  split at P1
  · rename_i ρ' e
    exact ⟨H0, A0, A, ρ, d, ρ', o.same s1, r, e, fun σ' o' _ => P1 σ' H1 A o' (Tr.same s1)⟩
  · exact P1.elim
/-- a, b = e1, e2: two plain local names -/
def sPar (i j : Nat) (l : En → R (List D)) : En → SR := fun ρ => .of (l ρ) ρ fun ds => match ds with
  | [d, d2] => .nx ((ρ.set i (some (.v d))).set j (some (.v d2)))
  | _ => .no
theorem fs_par {j : Nat} {y : Str} {px py pt : Pos} {kt k2 pt2} {l : En → R (List D)} (hc : X.calm = true) (hN : X.N.Nodup) (hi : X.N[i]? = some x) (hj : X.N[j]? = some y) (hij : i ≠ j)
    (hx : X.env.scope.names.lookup x = some .local) (hy : X.env.scope.names.lookup y = some .local) (ha : FA X W [a, b] l)
    (hw : swappedStores [.Tuple [.Name x px, .Name y py] kt pt] (.Tuple [a, b] k2 pt2) X.env = pure (some [x, y]))
    (hs : swapsWithSole [.Tuple [.Name x px, .Name y py] kt pt] (.Tuple [a, b] k2 pt2) pos.line X.env = pure false := by rfl) :
    FS X W (.Assign [.Tuple [.Name x px, .Name y py] kt pt] (.Tuple [a, b] k2 pt2) pos) (sPar i j l) := impS (ps_par hc hN hi hj hij hx hy ha hw hs) fun D σ H ⟨H0, A0, A, ρ, o, P⟩ => by
  refine ⟨H0, A0, A, ρ, o, (P.of o).mono fun ds H1 s1 P1 vs r => ?_⟩
  split at P1
  · cases r with
    | cons r1 t1 =>
      cases t1 with
      | cons r2 t2 =>
        cases t2
        exact ⟨_, _, rfl, P1 _ H1 A (((o.same s1).set i r1).set j r2) (Tr.same s1)⟩
  · exact P1.elim

/-! ### objects that the frame alone holds, changed -/
/-- the list that a name alone holds -/
def ownL (ρ : En) (i : Nat) : Option (Bool × List D) := match ρ[i]? with
  | some (some (.own t (.list ds))) => some (t, ds)
  | _ => none
def ownD (ρ : En) (i : Nat) : Option (Bool × List (D × D)) := match ρ[i]? with
  | some (some (.own t (.dict ds))) => some (t, ds)
  | _ => none
theorem ownL_some {ρ : En} {t : Bool} {ds : List D} (h : ownL ρ i = some (t, ds)) : ρ[i]? = some (some (.own t (.list ds))) := by
  unfold ownL at h
  split at h
  · rename_i e; cases h; exact e
  · cases h
theorem ownD_some {ρ : En} {t : Bool} {ds : List (D × D)} (h : ownD ρ i = some (t, ds)) : ρ[i]? = some (some (.own t (.dict ds))) := by
  unfold ownD at h
  split at h
  · rename_i e; cases h; exact e
  · cases h
def sAppend (i : Nat) (f : En → R D) : En → SR := fun ρ => match ownL ρ i with
  | some (t, ds) => .of (f ρ) ρ fun d => if ds.length < sizeLine then .nx (ρ.set i (some (.own t (.list (ds ++ [d]))))) else .no
  | none => .no
/-- x[k] = e on a list, in bounds -/
def sSetL (i : Nat) (fi f : En → R D) : En → SR := fun ρ => match ownL ρ i with
  | some (t, ds) => .of ((f ρ).bind fun d => (fi ρ).bind fun k => ofO ((toI k).bind fun k => (ixN ds.length k).map fun j => (j, d))) ρ fun q => .nx (ρ.set i (some (.own t (.list (ds.set q.1 q.2)))))
  | none => .no
/-- rows with one more, or one changed -/
def putD (p : D → Bool) (k v : D) (ds : List (D × D)) : List (D × D) :=
  if (ds.any fun kv => p kv.1) = true then ds.map (fun kv => if p kv.1 = true then (kv.1, v) else kv) else ds ++ [(k, v)]
def isK (k : Key) (d : D) : Bool := decide (keyD d = some k)
def isT (k : List Key) (d : D) : Bool := match d with
  | .tuple ds => decide (keysD ds = some k)
  | _ => false
def dPut (t : Bool) (ds : List (D × D)) (k v : D) : Option (List (D × D)) :=
  if ds.length < sizeLine then (match t, k with
    | false, k => (keyD k).map fun q => putD (isK q) k v ds
    | true, .tuple ks => (keysD ks).map fun q => putD (isT q) k v ds
    | _, _ => none) else none
/-- x[k] = e on a dict -/
def sSetD (i : Nat) (fi f : En → R D) : En → SR := fun ρ => match ownD ρ i with
  | some (t, ds) => .of ((f ρ).bind fun d => (fi ρ).bind fun k => ofO (dPut t ds k d)) ρ fun q => .nx (ρ.set i (some (.own t (.dict q))))
  | none => .no
end
end G

namespace G
open PySem PySem.Spec PyProof.Rows L2
section
variable {X : Cx} {W : WX} {e a b c o i e1 : Expr} {f fo fi : En → R D} {p : En → R Bool} {g g1 g2 : En → SR} {st : Stmt} {rest s1 s2 : List Stmt} {pos pos' p1 p2 p3 : Pos} {x : Str} {ix : Nat} {t : Bool}

/-! ### x.append(e), x[i] = e of objects that the frame alone holds -/
theorem fs_append {apos cpos : Pos} (hv : PE X (.Name x p1) (tVar ix)) (he : FE X W e f)
    (hbase : attributeBase (.Name x p1) "append" X.env (eval (.Name x p1) X.env) = eval (.Name x p1) X.env := by rfl)
    (hfew : ((backTo cpos (starEach (e :: []) X.env)).all (fun x => !x.1) && (backToKw cpos (keywordEach [] X.env)).all (fun x => x.1.isSome)
      && decide ((e :: []).length + ([] : List Keyword).length + (if ([] : List Keyword).isEmpty then 0 else 1) < 30)) = true := by rfl)
    (hline : (apos.endLine == cpos.line) = true := by rfl) (hs : starEach (e :: []) X.env = (false, eval e X.env) :: starEach [] X.env := by rfl) (hplain : (backTo cpos (starEach [] X.env)).any (·.1) = false := by rfl)
    (hsw : swapsWith (.Call (.Attribute (.Name x p1) "append" apos) [e] [] cpos) none pos.line X.env = pure false := by rfl) :
    FS X W (.Expr (.Call (.Attribute (.Name x p1) "append" apos) [e] [] cpos) pos) (sAppend ix f) := by
  refine impS (ps_expr (pe_bm PySem.F.plainAttrs_list PySem.F.slot_list_append PySem.F.type_list_append mt_append hv (pa_cons he pa_nil hs) hbase hfew hline hs hplain) hsw) fun Ee σ H ⟨H0, A0, A, ρ, ok, P⟩ => ?_
  unfold sAppend at P
  split at P
  · rename_i t ds hh
    have h := ownL_some hh
    obtain ⟨v, h1, l, e2, hl, n0, vs, h2, r⟩ := ok.slot ix _ h
    subst e2
    refine ⟨_, h1, Or.inl ⟨rfl, vs, SqL.of h2⟩, H0, A0, A, ρ, ok, (P.of ok).mono fun d H1 s1 P2 y hy => ?_⟩
    split at P2
    · rename_i hz
      refine ⟨l, vs, y, rfl, rfl, s1 _ _ h2, by rw [r.length]; exact hz, ?_⟩
      obtain ⟨o', u⟩ := (ok.same s1).mut (x := .lst (vs ++ [y])) (d' := .list (ds ++ [d])) h h1 ⟨_, upd_same, ((r.same s1).append (.one hy)).tr (Tr.write hl)⟩
      exact P2 _ _ A o' ((Tr.same s1).trans u)
    · exact P2.elim
  · exact P.elim
theorem PSet.or {t t' : TSet} (h : PSet X t) (h' : PSet X t') : PSet X (fun o i v H Q => t o i v H Q ∨ t' o i v H Q) := by
  intro pins s σ H o i v ov iv u Q I ro ri rv q
  rcases q with q | q
  · exact h pins s σ H o i v ov iv u Q I ro ri rv q
  · exact h' pins s σ H o i v ov iv u Q I ro ri rv q
theorem fs_setL (hv : PE X (.Name x p1) (tVar ix)) (hi : FE X W i fi) (he : FE X W e f)
    (ha : ∀ v, assign (.Subscript (.Name x p1) i p2) X.env v = (do
      let ov ← holding [v] (eval (.Name x p1) X.env)
      let iv ← holding [v, ov] (eval i X.env)
      standAt p2
      holding [v, ov, iv] (setItem ov iv v)
      release [v, ov, iv] []) := by intro _; rfl)
    (hs : swapsWithSole [.Subscript (.Name x p1) i p2] e pos.line X.env = pure false := by rfl) (hw : swappedStores [.Subscript (.Name x p1) i p2] e X.env = pure none := by rfl)
    (h1 : (assignEach [.Subscript (.Name x p1) i p2] X.env).map (·.2) = [assign (.Subscript (.Name x p1) i p2) X.env] := by rfl) :
    FS X W (.Assign [.Subscript (.Name x p1) i p2] e pos) (sSetL ix fi f) := by
  refine impS (ps_asg he (pg_sub hv hi set_list ha) hs hw h1) fun Ee σ H ⟨H0, A0, A, ρ, ok, P⟩ => ?_
  unfold sSetL at P
  split at P
  · rename_i t ds hh
    have h := ownL_some hh
    obtain ⟨v, h1, l, e2, hl, n0, vs, h2, r⟩ := ok.slot ix _ h
    subst e2
    refine ⟨H0, A0, A, ρ, ok, (P.of ok).bind.mono fun d H1 s1 P2 y hy => ⟨_, h1, H0, A0, A, ρ, ok.same s1, P2.bind.mono fun k H2 s2 P3 z hz => ?_⟩⟩
    obtain ⟨q, e3, P4⟩ := P3.ofO
    have P4 := P4 H2 (Same.refl _)
    obtain ⟨k', e4, e5⟩ := Option.bind_eq_some_iff.mp e3
    obtain ⟨j, e6, e7⟩ := Option.map_eq_some_iff.mp e5
    obtain rfl := toI_some e4
    subst e7
    refine ⟨l, vs, k', j, rfl, (RepB.of hz).int, s2 _ _ (s1 _ _ h2), by rw [r.length]; exact e6, ?_⟩
    obtain ⟨o', u⟩ := ((ok.same s1).same s2).mut (x := .lst (vs.set j y)) (d' := .list (ds.set j d)) h h1 ⟨_, upd_same, (RepL.set j ((r.same s1).same s2) (hy.same s2)).tr (Tr.write hl)⟩
    exact P4 _ _ A o' (((Tr.same s1).trans (Tr.same s2)).trans u)
  · exact P.elim
theorem any_repK {K : Frg} {H : Hp} {A : List Addr} {k : Key} : ∀ {kvs : List (Key × V)} {ds : List (D × D)}, RepK K H A kvs ds → (kvs.any fun kv => decide (kv.1 = k)) = (ds.any fun kv => isK k kv.1)
  | _, _, .nil => rfl
  | _, _, .cons (k := k') r t => by
    rw [List.any_cons, List.any_cons, any_repK t]
    congr 1
    show _ = decide (keyD (kD k') = some k)
    rw [keyD_kD]
    by_cases e : k' = k
    · subst e; simp
    · rw [decide_eq_false e, decide_eq_false (show ¬ some k' = some k from fun z => e (Option.some.inj z))]
theorem any_repT {K : Frg} {H : Hp} {A : List Addr} {k : List Key} : ∀ {kvs : List (List Key × V)} {ds : List (D × D)}, RepT K H A kvs ds → (kvs.any fun kv => decide (kv.1 = k)) = (ds.any fun kv => isT k kv.1)
  | _, _, .nil => rfl
  | _, _, .cons (k := k') r t => by
    rw [List.any_cons, List.any_cons, any_repT t]
    congr 1
    show _ = decide (keysD (k'.map kD) = some k)
    rw [keysD_map]
    by_cases e : k' = k
    · subst e; simp
    · rw [decide_eq_false e, decide_eq_false (show ¬ some k' = some k from fun z => e (Option.some.inj z))]
theorem map_repK {K : Frg} {H : Hp} {A : List Addr} {k : Key} {v : V} {d : D} (hv : Rep K H A v d) : ∀ {kvs : List (Key × V)} {ds : List (D × D)}, RepK K H A kvs ds → RepK K H A (kvs.map fun kv => if kv.1 = k then (kv.1, v) else kv) (ds.map fun kv => if isK k kv.1 = true then (kv.1, d) else kv)
  | _, _, .nil => .nil
  | _, _, .cons (k := k') r t => by
    rw [List.map_cons, List.map_cons]
    have e : isK k (kD k') = decide (k' = k) := by
      unfold isK
      rw [keyD_kD]
      by_cases e : k' = k
      · subst e; simp
      · rw [decide_eq_false e, decide_eq_false (show ¬ some k' = some k from fun z => e (Option.some.inj z))]
    by_cases q : k' = k
    · rw [if_pos (show k' = k from q), if_pos (show isK k (kD k') = true by rw [e]; exact decide_eq_true q)]
      exact .cons hv (map_repK hv t)
    · rw [if_neg (show ¬ k' = k from q), if_neg (show ¬ isK k (kD k') = true by rw [e]; simpa using q)]
      exact .cons r (map_repK hv t)
theorem map_repT {K : Frg} {H : Hp} {A : List Addr} {k : List Key} {v : V} {d : D} (hv : Rep K H A v d) : ∀ {kvs : List (List Key × V)} {ds : List (D × D)}, RepT K H A kvs ds → RepT K H A (kvs.map fun kv => if kv.1 = k then (kv.1, v) else kv) (ds.map fun kv => if isT k kv.1 = true then (kv.1, d) else kv)
  | _, _, .nil => .nil
  | _, _, .cons (k := k') r t => by
    rw [List.map_cons, List.map_cons]
    have e : isT k (.tuple (k'.map kD)) = decide (k' = k) := by
      show decide (keysD (k'.map kD) = some k) = _
      rw [keysD_map]
      by_cases e : k' = k
      · subst e; simp
      · rw [decide_eq_false e, decide_eq_false (show ¬ some k' = some k from fun z => e (Option.some.inj z))]
    by_cases q : k' = k
    · rw [if_pos (show k' = k from q), if_pos (show isT k (.tuple (k'.map kD)) = true by rw [e]; exact decide_eq_true q)]
      exact .cons hv (map_repT hv t)
    · rw [if_neg (show ¬ k' = k from q), if_neg (show ¬ isT k (.tuple (k'.map kD)) = true by rw [e]; simpa using q)]
      exact .cons r (map_repT hv t)
theorem RepK.append {K : Frg} {H : Hp} {A : List Addr} : ∀ {a b : List (Key × V)} {ds es : List (D × D)}, RepK K H A a ds → RepK K H A b es → RepK K H A (a ++ b) (ds ++ es)
  | _, _, _, _, .nil, s => s
  | _, _, _, _, .cons a t, s => .cons a (RepK.append t s)
theorem RepT.append {K : Frg} {H : Hp} {A : List Addr} : ∀ {a b : List (List Key × V)} {ds es : List (D × D)}, RepT K H A a ds → RepT K H A b es → RepT K H A (a ++ b) (ds ++ es)
  | _, _, _, _, .nil, s => s
  | _, _, _, _, .cons a t, s => .cons a (RepT.append t s)
theorem put_repK {K : Frg} {H : Hp} {A : List Addr} {k : Key} {v : V} {d : D} (hv : Rep K H A v d) {kvs : List (Key × V)} {ds : List (D × D)} (r : RepK K H A kvs ds) : RepK K H A (putK kvs k v) (putD (isK k) (kD k) d ds) := by
  unfold putK putD
  rw [any_repK r]
  split
  · exact map_repK hv r
  · exact r.append (.cons hv .nil)
theorem put_repT {K : Frg} {H : Hp} {A : List Addr} {k : List Key} {v : V} {d : D} (hv : Rep K H A v d) {kvs : List (List Key × V)} {ds : List (D × D)} (r : RepT K H A kvs ds) : RepT K H A (putK kvs k v) (putD (isT k) (.tuple (k.map kD)) d ds) := by
  unfold putK putD
  rw [any_repT r]
  split
  · exact map_repT hv r
  · exact r.append (.cons hv .nil)
theorem RepK.length {K : Frg} {H : Hp} {A : List Addr} : ∀ {a : List (Key × V)} {ds : List (D × D)}, RepK K H A a ds → a.length = ds.length
  | _, _, .nil => rfl
  | _, _, .cons _ t => by rw [List.length_cons, List.length_cons, RepK.length t]
theorem RepT.length {K : Frg} {H : Hp} {A : List Addr} : ∀ {a : List (List Key × V)} {ds : List (D × D)}, RepT K H A a ds → a.length = ds.length
  | _, _, .nil => rfl
  | _, _, .cons _ t => by rw [List.length_cons, List.length_cons, RepT.length t]
theorem fs_setD (hu : X.A.units + 1 < cLine) (hv : PE X (.Name x p1) (tVar ix)) (hi : FE X W i fi) (he : FE X W e f)
    (ha : ∀ v, assign (.Subscript (.Name x p1) i p2) X.env v = (do
      let ov ← holding [v] (eval (.Name x p1) X.env)
      let iv ← holding [v, ov] (eval i X.env)
      standAt p2
      holding [v, ov, iv] (setItem ov iv v)
      release [v, ov, iv] []) := by intro _; rfl)
    (hs : swapsWithSole [.Subscript (.Name x p1) i p2] e pos.line X.env = pure false := by rfl) (hw : swappedStores [.Subscript (.Name x p1) i p2] e X.env = pure none := by rfl)
    (h1 : (assignEach [.Subscript (.Name x p1) i p2] X.env).map (·.2) = [assign (.Subscript (.Name x p1) i p2) X.env] := by rfl) :
    FS X W (.Assign [.Subscript (.Name x p1) i p2] e pos) (sSetD ix fi f) := by
  refine impS (ps_asg he (pg_sub hv hi (set_dict hu) ha) hs hw h1) fun Ee σ H ⟨H0, A0, A, ρ, ok, P⟩ => ?_
  unfold sSetD at P
  split at P
  · rename_i t ds hh
    have h := ownD_some hh
    obtain ⟨v, h1, l, e2, hl, n0, hr⟩ := ok.slot ix _ h
    subst e2
    refine ⟨H0, A0, A, ρ, ok, (P.of ok).bind.mono fun d H1 s1 P2 y hy => ⟨_, h1, H0, A0, A, ρ, ok.same s1, P2.bind.mono fun k H2 s2 P3 z hz => ?_⟩⟩
    obtain ⟨q, e3, P4⟩ := P3.ofO
    have P4 := P4 H2 (Same.refl _)
    have hy2 := hy.same s2
    unfold dPut at e3
    split at e3
    · rename_i hlen
      rcases hr with ⟨rfl, kvs, h2, r⟩ | ⟨rfl, kvs, h2, r⟩
      · obtain ⟨k', e4, e5⟩ := Option.map_eq_some_iff.mp e3
        obtain rfl := keyD_some e4
        subst e5
        have ez : z = kV k' := by
          cases k' with
          | inl n => exact (RepB.of hz).int
          | inr n => exact (RepB.of hz).str
        have r2 : RepK X.K H2 A kvs ds := (r.tr (Tr.same s1)).tr (Tr.same s2)
        refine ⟨l, _, rfl, .inl ⟨kvs, k', s2 _ _ (s1 _ _ h2), ez, by rw [r.length]; exact hlen, rfl⟩, ?_⟩
        obtain ⟨o', u⟩ := ((ok.same s1).same s2).mut (x := .dK (putK kvs k' y)) (d' := .dict (putD (isK k') (kD k') d ds)) h h1 (.inl ⟨rfl, _, upd_same, (put_repK hy2 r2).tr (Tr.write hl)⟩)
        exact P4 _ _ A o' (((Tr.same s1).trans (Tr.same s2)).trans u)
      · cases k with
        | tuple ks =>
          obtain ⟨k', e4, e5⟩ := Option.map_eq_some_iff.mp (show (keysD ks).map _ = some q from e3)
          obtain rfl := keysD_some e4
          subst e5
          have r2 : RepT X.K H2 A kvs ds := (r.tr (Tr.same s1)).tr (Tr.same s2)
          cases hz with
          | tup nz hb rk =>
            rw [rep_key rk] at hb
            refine ⟨l, _, rfl, .inr ⟨kvs, k', _, s2 _ _ (s1 _ _ h2), rfl, hb, by rw [r.length]; exact hlen, rfl⟩, ?_⟩
            obtain ⟨o', u⟩ := ((ok.same s1).same s2).mut (x := .dT (putK kvs k' y)) (d' := .dict (putD (isT k') (.tuple (k'.map kD)) d ds)) h h1 (.inr ⟨rfl, _, upd_same, (put_repT hy2 r2).tr (Tr.write hl)⟩)
            exact P4 _ _ A o' (((Tr.same s1).trans (Tr.same s2)).trans u)
        | _ => cases e3
    · cases e3
  · exact P.elim

/-! ### loops -/
def loopL (tgt : TgF) (body : En → SR) : List D → En → SR
  | [], ρ => .nx ρ
  | d :: ds, ρ => match tgt d ρ with
    | none => .no
    | some ρ1 => match body ρ1 with
      | .nx ρ2 => loopL tgt body ds ρ2
      | .ct ρ2 => loopL tgt body ds ρ2
      | .bk ρ2 => .nx ρ2
      | r => r
def whileL (c : En → R Bool) (body : En → SR) : Nat → En → SR
  | 0, _ => .no
  | n + 1, ρ => .of (c ρ) ρ fun b => if b = true then (match body ρ with
      | .nx ρ2 => whileL c body n ρ2
      | .ct ρ2 => whileL c body n ρ2
      | .bk ρ2 => .nx ρ2
      | r => r) else .nx ρ
/-- an iterator that yields these data, one after another, as long as they stand -/
def WalkJ (K : Frg) (A : List Addr) (J : It) (H : Hp) (ds : List D) : Prop :=
  ∀ A' H', Tr A H A' H' → (∀ a ∈ A', H' a ≠ none) → (∀ (i : Nat) (d : D), ds[i]? = some d → J.go i H' ∧ ∀ x H'', J.yld i H' x H'' → Same H' H'' ∧ Rep K H'' A' x d) ∧ J.stop ds.length H'
def tFI (K : Frg) (mg : MgT) (W : WX) (f : En → R (List D)) : TI := fun σ H Rr => ∃ H0 A0 A ρ, Ok K H0 A0 A ρ σ H ∧ Post mg W σ H (fun ds H1 => ∀ J, WalkJ K A J H1 ds → Rr J H1) (f ρ)
abbrev FI (X : Cx) (W : WX) (tg iter : Expr) (f : En → R (List D)) : Prop := PI X tg iter (tFI X.K X.mg W f)
theorem impI {tg iter : Expr} {t t' : TI} (h : PI X tg iter t) (i : ∀ σ H Q, t' σ H Q → t σ H Q) : PI X tg iter t' := ⟨fun pins s σ H R I q => h.run pins s σ H R I (i _ _ _ q)⟩
def sFor (tgt : TgF) (l : En → R (List D)) (body : En → SR) : En → SR := fun ρ => .of (l ρ) ρ fun ds => loopL tgt body ds ρ
theorem fs_for {tg iter : Expr} {body : List Stmt} {l : En → R (List D)} {tgt : TgF} {gb : En → SR} {jx : List Nat} (hp : PassesOwn (model X.prog X.w) X.A X.env X.xe) (hc : X.calm = true) (hi : FI X W tg iter l) (hg : FG X tg jx tgt) (hb : FSs X W body gb)
    (hs : ∀ x, foldedSetIterable iter X.env x = pure x := by intro _; rfl) : FS X W (.For tg iter body [] pos) (sFor tgt l gb) := by
  refine impS (ps_for hp hc hi hg hb hs) fun Ee σ H ⟨H0, A0, A, ρ, ok, P⟩ => ?_
  refine ⟨H0, A0, A, ρ, ok, (P.of ok).mono fun ds H1 s1 P1 J hJ => ?_⟩
  refine ⟨fun i m σ2 H2 => m = ds.length - i ∧ i ≤ ds.length ∧ ∃ A2 ρ2, Ok X.K H0 A0 A2 ρ2 σ2 H2 ∧ Tr A H1 A2 H2 ∧ PostS X.K X.mg W H0 A0 A2 H2 Ee (loopL tgt gb (ds.drop i) ρ2), ⟨ds.length, rfl, Nat.zero_le _, A, ρ, ok.same s1, Tr.refl _ _, PostS.same (r := loopL tgt gb ds ρ) P1 s1⟩, ?_⟩
  rintro i m σ2 H2 ⟨rfl, hi, A2, ρ2, ok2, u2, P2⟩
  obtain ⟨hgo, hst⟩ := hJ A2 H2 u2 ok2.has
  by_cases hlt : i < ds.length
  · refine .inr ⟨(hgo i ds[i] (by simp [hlt])).1, fun σ' H' => ∃ A' ρ', Ok X.K H0 A0 A' ρ' σ' H' ∧ Tr A H1 A' H' ∧ PostS X.K X.mg W H0 A0 A' H' Ee (loopL tgt gb (ds.drop (i + 1)) ρ'), fun σ' H' ⟨A', ρ', h1, h2, h3⟩ => ⟨ds.length - (i + 1), by omega, rfl, hlt, A', ρ', h1, h2, h3⟩, fun x H' hy => ?_⟩
    obtain ⟨sx, rx⟩ := (hgo i ds[i] (by simp [hlt])).2 x H' hy
    rw [List.drop_eq_getElem_cons hlt] at P2
    unfold loopL at P2
    split at P2
    · exact P2.elim
    · rename_i ρ3 e3
      refine ⟨H0, A0, A2, ρ2, ds[i], ρ3, ok2.same sx, rx, e3, fun σ3 o3 _ => ⟨H0, A0, A2, ρ3, o3, ?_⟩⟩
      have u3 : Tr A H1 A2 H' := u2.trans (Tr.same sx)
      have back : ∀ (ρ4 : En), PostS X.K X.mg W H0 A0 A2 H2 Ee (loopL tgt gb (ds.drop (i + 1)) ρ4) → ∀ σ' H'' A', Ok X.K H0 A0 A' ρ4 σ' H'' → Tr A2 H' A' H'' → ∃ A' ρ', Ok X.K H0 A0 A' ρ' σ' H'' ∧ Tr A H1 A' H'' ∧ PostS X.K X.mg W H0 A0 A' H'' Ee (loopL tgt gb (ds.drop (i + 1)) ρ') :=
        fun ρ4 q σ' H'' A' o' t => ⟨A', ρ4, o', u3.trans t, PostS.tr q ((Tr.same sx).trans t)⟩
      cases hb : gb ρ3 with
      | nx ρ4 => rw [hb] at P2; exact fun σ' H'' A' o' t => back ρ4 P2 σ' H'' A' o' t
      | ct ρ4 => rw [hb] at P2; exact fun σ' H'' A' o' t => back ρ4 P2 σ' H'' A' o' t
      | bk ρ4 => rw [hb] at P2; exact fun σ' H'' A' o' t => P2 σ' H'' A' o' ((Tr.same sx).trans t)
      | rt d => rw [hb] at P2; exact P2
      | ex cc n ρ4 => rw [hb] at P2; exact fun u p σ' H'' A' o' t => P2 u p σ' H'' A' o' ((Tr.same sx).trans t)
      | no => rw [hb] at P2; exact P2
  · have e : i = ds.length := by omega
    subst e
    rw [List.drop_length] at P2
    exact .inl ⟨hst, P2 σ2 H2 A2 ok2 (Tr.refl _ _)⟩
def sWhile (n : Nat) (c : En → R Bool) (body : En → SR) : En → SR := whileL c body n
theorem fs_while {n : Nat} {body : List Stmt} {gb : En → SR} (hp : PassesOwn (model X.prog X.w) X.A X.env X.xe) (hc : FT X W c p) (hb : FSs X W body gb) : FS X W (.While c body [] pos) (sWhile n p gb) := by
  refine impS (ps_while hp hc hb) fun Ee σ H ⟨H0, A0, A, ρ, ok, P⟩ => ?_
  refine ⟨fun m σ2 H2 => ∃ A2 ρ2, Ok X.K H0 A0 A2 ρ2 σ2 H2 ∧ PostS X.K X.mg W H0 A0 A2 H2 Ee (whileL p gb m ρ2), ⟨n, A, ρ, ok, P⟩, ?_⟩
  rintro m σ2 H2 ⟨A2, ρ2, ok2, P2⟩
  cases m with
  | zero => exact P2.elim
  | succ m =>
    unfold whileL at P2
    refine ⟨H0, A0, A2, ρ2, ok2, (P2.of ok2).mono fun b H3 s3 P3 => ?_⟩
    cases b with
    | false => exact P3 σ2 H3 A2 (ok2.same s3) (Tr.same s3)
    | true =>
      refine ⟨fun σ' H' => ∃ A' ρ', Ok X.K H0 A0 A' ρ' σ' H' ∧ PostS X.K X.mg W H0 A0 A' H' Ee (whileL p gb m ρ'), fun σ' H' ⟨A', ρ', h1, h2⟩ => ⟨m, Nat.lt_succ_self _, A', ρ', h1, h2⟩, H0, A0, A2, ρ2, ok2.same s3, ?_⟩
      cases hb : gb ρ2 with
      | nx ρ4 => rw [hb] at P3; exact fun σ' H'' A' o' t => ⟨A', ρ4, o', PostS.tr (r := whileL p gb m ρ4) P3 ((Tr.same s3).trans t)⟩
      | ct ρ4 => rw [hb] at P3; exact fun σ' H'' A' o' t => ⟨A', ρ4, o', PostS.tr (r := whileL p gb m ρ4) P3 ((Tr.same s3).trans t)⟩
      | bk ρ4 => rw [hb] at P3; exact fun σ' H'' A' o' t => P3 σ' H'' A' o' ((Tr.same s3).trans t)
      | rt d => rw [hb] at P3; exact P3
      | ex cc n ρ4 => rw [hb] at P3; exact fun u p σ' H'' A' o' t => P3 u p σ' H'' A' o' ((Tr.same s3).trans t)
      | no => rw [hb] at P3; exact P3
end
end G

namespace G
open PySem PySem.Spec PyProof.Rows L2 RZ
section
variable {X : Cx} {W : WX} {e a b c o i elt tg iter tg1 iter1 : Expr} {ifs ifs1 : List Expr} {es : List Expr} {f fo fi : En → R D} {p p1 : En → R Bool} {l l1 : En → R (List D)} {tgt tgt1 : TgF} {pos pos' q1 q2 q3 : Pos} {x : Str}
theorem PI.or {t t' : TI} (h : PI X tg iter t) (h' : PI X tg iter t') : PI X tg iter (fun σ H R => t σ H R ∨ t' σ H R) := ⟨fun pins s σ H R I q => by
  rcases q with q | q
  · exact h.run pins s σ H R I q
  · exact h'.run pins s σ H R I q⟩

/-! ### what a for goes through -/
def cItems (f : En → R D) : En → R (List D) := fun ρ => (f ρ).bind fun d => ofO (itemsOf d)
theorem rep_listAt {K : Frg} {H H' : Hp} {A A' : List Addr} {v : V} {ds : List D} (r : Rep K H A v (.list ds)) : ∃ a vs, v = .ref a ∧ H a = some (.lst vs) ∧ RepL K H A vs ds ∧ a ∉ A := by
  cases r with
  | lst n h r => exact ⟨_, _, rfl, h, r, n⟩
theorem rep_tupAt {K : Frg} {H H' : Hp} {A A' : List Addr} {v : V} {ds : List D} (r : Rep K H A v (.tuple ds)) : ∃ a vs, v = .ref a ∧ H a = some (.tup vs) ∧ RepL K H A vs ds ∧ a ∉ A := by
  cases r with
  | tup n h r => exact ⟨_, _, rfl, h, r, n⟩
theorem sql_uniq {K : Frg} {H : Hp} {a : Addr} {vs : List V} {I : Nat} {x : V} (h : ∀ xs, SqL K H a xs → xs[I]? = some x) (e : H a = some (.lst vs)) : vs[I]? = some x := h vs (SqL.of e)
theorem walk_itl {K : Frg} {A : List Addr} {H : Hp} {a : Addr} {ds : List D} (r : Rep K H A (.ref a) (.list ds)) : WalkJ K A (Itl K a) H ds := fun A' H' u _ => by
  have r' := r.tr u
  obtain ⟨b, vs, e, h, rl, _⟩ := rep_listAt (H' := H') (A' := A') r'
  cases e
  refine ⟨fun i d hd => ?_, vs, SqL.of h, by rw [rl.length]; exact Nat.le_refl _⟩
  obtain ⟨v, h1, h2⟩ := rl.get hd
  refine ⟨⟨vs, v, SqL.of h, h1⟩, fun x H'' ⟨e2, y⟩ => ?_⟩
  subst e2
  have := sql_uniq y h
  rw [h1] at this
  cases this
  exact ⟨Same.refl _, h2⟩
theorem walk_itt {K : Frg} {A : List Addr} {H : Hp} {a : Addr} {ds : List D} (r : Rep K H A (.ref a) (.tuple ds)) : WalkJ K A (Itt K a) H ds := fun A' H' u _ => by
  have r' := r.tr u
  obtain ⟨b, vs, e, h, rl, _⟩ := rep_tupAt (H' := H') (A' := A') r'
  cases e
  refine ⟨fun i d hd => ?_, vs, SqT.of h, by rw [rl.length]; exact Nat.le_refl _⟩
  obtain ⟨v, h1, h2⟩ := rl.get hd
  refine ⟨⟨vs, v, SqT.of h, h1⟩, fun x H'' ⟨e2, y⟩ => ?_⟩
  subst e2
  have := y vs (SqT.of h)
  rw [h1] at this
  cases this
  exact ⟨Same.refl _, h2⟩
theorem fi_items (he : FE X W e f) : FI X W tg e (cItems f) := impI (PI.or (pi_list he) (pi_tup he)) fun σ H Q ⟨H0, A0, A, ρ, ok, P⟩ => by
  have P1 := P.bind
  cases hf : f ρ with
  | no => rw [hf] at P1; exact P1.elim
  | ex cc n =>
    rw [hf] at P1
    exact .inl ⟨H0, A0, A, ρ, ok, by rw [hf]; exact P1⟩
  | ok d =>
    rw [hf] at P1
    have P2 : ∀ H1, Same H H1 → ∃ ds, itemsOf d = some ds ∧ ∀ J, WalkJ X.K A J H1 ds → Q J H1 := fun H1 s => by
      obtain ⟨ds, e1, e2⟩ := Post.ofO (P1 H1 s)
      exact ⟨ds, e1, e2 H1 (Same.refl _)⟩
    cases d with
    | list ds =>
      refine .inl ⟨H0, A0, A, ρ, ok, ?_⟩
      rw [hf]
      refine fun H1 s v r => ?_
      obtain ⟨a, vs, e, h, rl, _⟩ := rep_listAt (H' := H1) (A' := A) r
      subst e
      obtain ⟨ds', e1, q⟩ := P2 H1 s
      cases e1
      exact ⟨a, rfl, ⟨vs, SqL.of h⟩, q _ (walk_itl r)⟩
    | tuple ds =>
      refine .inr ⟨H0, A0, A, ρ, ok, ?_⟩
      rw [hf]
      refine fun H1 s v r => ?_
      obtain ⟨a, vs, e, h, rl, _⟩ := rep_tupAt (H' := H1) (A' := A) r
      subst e
      obtain ⟨ds', e1, q⟩ := P2 H1 s
      cases e1
      exact ⟨a, rfl, ⟨vs, SqT.of h⟩, q _ (walk_itt r)⟩
    | _ =>
      obtain ⟨ds', e1, q⟩ := P2 H (Same.refl _)
      cases e1
/-- a, a + 1, .. : n of them -/
def rangeD (lo : Int) (n : Nat) : List D := (List.range n).map fun k => .int (lo + (k : Nat))
def dRange1 : List D → Option (List D)
  | [.int j] => if -(2 ^ 62) ≤ j ∧ j < 2 ^ 62 then some (rangeD 0 j.toNat) else none
  | _ => none
def dRange2 : List D → Option (List D)
  | [.int i, .int j] => if -(2 ^ 62) ≤ i ∧ i < 2 ^ 62 ∧ -(2 ^ 62) ≤ j ∧ j < 2 ^ 62 then some (rangeD i (j - i).toNat) else none
  | _ => none
def cIter (df : List D → Option (List D)) (l : En → R (List D)) : En → R (List D) := fun ρ => (l ρ).bind fun ds => ofO (df ds)
theorem walk_itr {K : Frg} {A : List Addr} {H : Hp} (lo : Int) (n : Nat) : WalkJ K A (Itr lo n) H (rangeD lo n) := fun A' H' u _ => by
  refine ⟨fun i d hd => ?_, by unfold rangeD; rw [List.length_map, List.length_range]; exact Nat.le_refl n⟩
  unfold rangeD at hd
  rw [List.getElem?_map] at hd
  obtain ⟨k, h1, h2⟩ := Option.map_eq_some_iff.mp hd
  have hk : i < n := by
    have := (List.getElem?_eq_some_iff.mp h1).1
    rwa [List.length_range] at this
  have e : k = i := by
    rw [List.getElem?_range hk] at h1
    exact (Option.some.inj h1).symm
  subst e
  subst h2
  refine ⟨hk, fun x H'' ⟨e2, y⟩ => ?_⟩
  subst e2
  subst y
  exact ⟨Same.refl _, .int _⟩
theorem fi_range1 (hg : Gl X "range") (hm : X.mg "range" = none) (ha : FAB X W [a] l) (hs : starEach [a] X.env = [(false, eval a X.env)] := by rfl) : FI X W tg (.Call (.Name "range" q1) [a] [] pos) (cIter dRange1 l) := impI (pi_range1 hg hm ha hs) fun σ H Q ⟨H0, A0, A, ρ, ok, P⟩ => by
  refine ⟨H0, A0, A, ρ, ok, P.bind.mono fun ds H1 s1 P1 vs hv => ?_⟩
  obtain ⟨es, e1, q⟩ := P1.ofO
  unfold dRange1 at e1
  split at e1
  · split at e1
    · rename_i hj
      cases e1
      obtain ⟨v, e2, h⟩ := pair1 hv
      obtain rfl := h.int
      exact ⟨_, e2, hj.1, hj.2, q H1 (Same.refl _) _ (walk_itr 0 _)⟩
    · cases e1
  · cases e1
theorem fi_range2 (hg : Gl X "range") (hm : X.mg "range" = none) (ha : FAB X W [a, b] l) (hs : starEach [a, b] X.env = [(false, eval a X.env), (false, eval b X.env)] := by rfl) (hs2 : starEach [b] X.env = [(false, eval b X.env)] := by rfl) :
    FI X W tg (.Call (.Name "range" q1) [a, b] [] pos) (cIter dRange2 l) := impI (pi_range2 hg hm ha hs hs2) fun σ H Q ⟨H0, A0, A, ρ, ok, P⟩ => by
  refine ⟨H0, A0, A, ρ, ok, P.bind.mono fun ds H1 s1 P1 vs hv => ?_⟩
  obtain ⟨es, e1, q⟩ := P1.ofO
  unfold dRange2 at e1
  split at e1
  · split at e1
    · rename_i hj
      cases e1
      obtain ⟨v, v2, e2, h, h2⟩ := pair2 hv
      obtain rfl := h.int
      obtain rfl := h2.int
      exact ⟨_, _, e2, hj, q H1 (Same.refl _) _ (walk_itr _ _)⟩
    · cases e1
  · cases e1
/-- with its place ahead -/
def enumL (k : Nat) : List D → List D
  | [] => []
  | d :: ds => .tuple [.int (k : Nat), d] :: enumL (k + 1) ds
theorem enumL_get : ∀ {ds : List D} {k i : Nat}, (enumL k ds)[i]? = ds[i]?.map fun d => .tuple [.int ((k + i : Nat) : Int), d]
  | [], _, _ => by simp [enumL]
  | d :: ds, k, 0 => by simp [enumL]
  | d :: ds, k, i + 1 => by
    unfold enumL
    rw [List.getElem?_cons_succ, List.getElem?_cons_succ, enumL_get, show k + 1 + i = k + (i + 1) by omega]
theorem enumL_length : ∀ (ds : List D) (k : Nat), (enumL k ds).length = ds.length
  | [], _ => rfl
  | d :: ds, k => by unfold enumL; rw [List.length_cons, List.length_cons, enumL_length ds]
def dEnum : List D → Option (List D)
  | [.list xs] => some (enumL 0 xs)
  | _ => none
theorem walk_ite {K : Frg} {A : List Addr} {H : Hp} {a : Addr} {ds : List D} (r : Rep K H A (.ref a) (.list ds)) : WalkJ K A (Ite K a) H (enumL 0 ds) := fun A' H' u hA => by
  have r' := r.tr u
  obtain ⟨b, vs, e, h, rl, _⟩ := rep_listAt (H' := H') (A' := A') r'
  cases e
  refine ⟨fun i d hd => ?_, vs, SqL.of h, by rw [rl.length, enumL_length]; exact Nat.le_refl _⟩
  rw [enumL_get] at hd
  obtain ⟨d1, h1, h2⟩ := Option.map_eq_some_iff.mp hd
  subst h2
  obtain ⟨v, h3, h4⟩ := rl.get h1
  refine ⟨⟨vs, v, SqL.of h, h3⟩, fun x H'' ⟨T, x1, e1, n, e2, y⟩ => ?_⟩
  subst e1
  subst e2
  have := sql_uniq y h
  rw [h3] at this
  cases this
  refine ⟨same_upd n, rep_tup (fun z => hA T z n) n (.cons ?_ (.one h4))⟩
  rw [Nat.zero_add]
  exact .int _
theorem fi_enum {elts : List Expr} {kk : Nat} {tpos : Pos} (hg : Gl X "enumerate") (hm : X.mg "enumerate" = none) (ha : FA X W [e] l) (hs : starEach [e] X.env = [(false, eval e X.env)] := by rfl) :
    FI X W (.Tuple elts kk tpos) (.Call (.Name "enumerate" q1) [e] [] pos) (cIter dEnum l) := impI (pi_enum hg hm ha hs) fun σ H Q ⟨H0, A0, A, ρ, ok, P⟩ => by
  refine ⟨H0, A0, A, ρ, ok, P.bind.mono fun ds H1 s1 P1 vs hv => ?_⟩
  obtain ⟨es, e1, q⟩ := P1.ofO
  unfold dEnum at e1
  split at e1
  · cases e1
    cases hv with
    | cons r t =>
      cases t
      obtain ⟨p, us, rfl, h1, rl, _⟩ := rep_listAt (H' := H1) (A' := A) r
      exact ⟨p, us, rfl, SqL.of h1, q H1 (Same.refl _) _ (walk_ite r)⟩
  · cases e1
def zipL : List D → List D → List D
  | a :: as, b :: bs => .tuple [a, b] :: zipL as bs
  | _, _ => []
theorem zipL_get : ∀ {as bs : List D} {i : Nat} {d : D}, (zipL as bs)[i]? = some d → ∃ x y, as[i]? = some x ∧ bs[i]? = some y ∧ d = .tuple [x, y]
  | [], _, _, _, h => by simp [zipL] at h
  | _ :: _, [], _, _, h => by simp [zipL] at h
  | a :: as, b :: bs, 0, d, h => ⟨a, b, rfl, rfl, by simpa [zipL] using h.symm⟩
  | a :: as, b :: bs, i + 1, d, h => by
    unfold zipL at h
    rw [List.getElem?_cons_succ] at h
    obtain ⟨x, y, h1, h2, h3⟩ := zipL_get h
    exact ⟨x, y, by rw [List.getElem?_cons_succ]; exact h1, by rw [List.getElem?_cons_succ]; exact h2, h3⟩
theorem zipL_length : ∀ (as bs : List D), (zipL as bs).length = min as.length bs.length
  | [], bs => by simp [zipL]
  | _ :: _, [] => by simp [zipL]
  | a :: as, b :: bs => by unfold zipL; rw [List.length_cons, List.length_cons, List.length_cons, zipL_length as bs]; omega
def dZip : List D → Option (List D)
  | [.list xs, .list ys] => some (zipL xs ys)
  | [.tuple xs, .tuple ys] => some (zipL xs ys)
  | _ => none
theorem walk_itz {K : Frg} {A : List Addr} {H : Hp} {a a2 : Addr} {ds es : List D} (r : Rep K H A (.ref a) (.list ds)) (r2 : Rep K H A (.ref a2) (.list es)) : WalkJ K A (Itz K a a2) H (zipL ds es) := fun A' H' u hA => by
  obtain ⟨b, vs, e, h, rl, _⟩ := rep_listAt (H' := H') (A' := A') (r.tr u)
  cases e
  obtain ⟨b, us, e, h', rl', _⟩ := rep_listAt (H' := H') (A' := A') (r2.tr u)
  cases e
  refine ⟨fun i d hd => ?_, vs, us, SqL.of h, SqL.of h', by rw [rl.length, rl'.length, zipL_length]; omega⟩
  obtain ⟨x, y, h1, h2, rfl⟩ := zipL_get hd
  obtain ⟨v, h3, h4⟩ := rl.get h1
  obtain ⟨v', h3', h4'⟩ := rl'.get h2
  refine ⟨⟨vs, us, v, v', SqL.of h, SqL.of h', h3, h3'⟩, fun x H'' ⟨T, x1, x2, e1, n, e2, y1, y2⟩ => ?_⟩
  subst e1
  subst e2
  have := sql_uniq y1 h
  rw [h3] at this
  cases this
  have := sql_uniq y2 h'
  rw [h3'] at this
  cases this
  exact ⟨same_upd n, rep_tup (fun z => hA T z n) n (.cons h4 (.one h4'))⟩
theorem walk_itzT {K : Frg} {A : List Addr} {H : Hp} {a a2 : Addr} {ds es : List D} (r : Rep K H A (.ref a) (.tuple ds)) (r2 : Rep K H A (.ref a2) (.tuple es)) : WalkJ K A (ItzT K a a2) H (zipL ds es) := fun A' H' u hA => by
  obtain ⟨b, vs, e, h, rl, _⟩ := rep_tupAt (H' := H') (A' := A') (r.tr u)
  cases e
  obtain ⟨b, us, e, h', rl', _⟩ := rep_tupAt (H' := H') (A' := A') (r2.tr u)
  cases e
  refine ⟨fun i d hd => ?_, vs, us, SqT.of h, SqT.of h', by rw [rl.length, rl'.length, zipL_length]; omega⟩
  obtain ⟨x, y, h1, h2, rfl⟩ := zipL_get hd
  obtain ⟨v, h3, h4⟩ := rl.get h1
  obtain ⟨v', h3', h4'⟩ := rl'.get h2
  refine ⟨⟨vs, us, v, v', SqT.of h, SqT.of h', h3, h3'⟩, fun x H'' ⟨T, x1, x2, e1, n, e2, y1, y2⟩ => ?_⟩
  subst e1
  subst e2
  have := y1 vs (SqT.of h)
  rw [h3] at this
  cases this
  have := y2 us (SqT.of h')
  rw [h3'] at this
  cases this
  exact ⟨same_upd n, rep_tup (fun z => hA T z n) n (.cons h4 (.one h4'))⟩
theorem repL1 {K : Frg} {H : Hp} {A : List Addr} {vs : List V} {d : D} (h : RepL K H A vs [d]) : ∃ v, vs = [v] ∧ Rep K H A v d := by
  cases h with
  | cons a t => cases t; exact ⟨_, rfl, a⟩
theorem repL2 {K : Frg} {H : Hp} {A : List Addr} {vs : List V} {d d2 : D} (h : RepL K H A vs [d, d2]) : ∃ v v2, vs = [v, v2] ∧ Rep K H A v d ∧ Rep K H A v2 d2 := by
  cases h with
  | cons a t =>
    obtain ⟨v2, rfl, b⟩ := repL1 t
    exact ⟨_, _, rfl, a, b⟩
theorem fi_zip {elts : List Expr} {kk : Nat} {tpos : Pos} (hg : Gl X "zip") (hm : X.mg "zip" = none) (ha : FA X W [a, b] l) (hs : starEach [a, b] X.env = (false, eval a X.env) :: starEach [b] X.env := by rfl) (hpl : (backTo pos (starEach [b] X.env)).any (·.1) = false := by rfl) :
    FI X W (.Tuple elts kk tpos) (.Call (.Name "zip" q1) [a, b] [] pos) (cIter dZip l) := impI (pi_zipA hg hm ha hs hpl) fun σ H Q ⟨H0, A0, A, ρ, ok, P⟩ => by
  refine ⟨H0, A0, A, ρ, ok, P.bind.mono fun ds H1 s1 P1 vs hv => ?_⟩
  obtain ⟨es, e1, q⟩ := P1.ofO
  unfold dZip at e1
  split at e1
  · cases e1
    obtain ⟨v, v2, rfl, r, r2⟩ := repL2 hv
    obtain ⟨p, us, rfl, h1, _⟩ := rep_listAt (H' := H1) (A' := A) r
    obtain ⟨p2, us2, rfl, h2, _⟩ := rep_listAt (H' := H1) (A' := A) r2
    exact ⟨p, p2, us, us2, rfl, .inl ⟨SqL.of h1, SqL.of h2, q H1 (Same.refl _) _ (walk_itz r r2)⟩⟩
  · cases e1
    obtain ⟨v, v2, rfl, r, r2⟩ := repL2 hv
    obtain ⟨p, us, rfl, h1, _⟩ := rep_tupAt (H' := H1) (A' := A) r
    obtain ⟨p2, us2, rfl, h2, _⟩ := rep_tupAt (H' := H1) (A' := A) r2
    exact ⟨p, p2, us, us2, rfl, .inr ⟨SqT.of h1, SqT.of h2, q H1 (Same.refl _) _ (walk_itzT r r2)⟩⟩
  · cases e1

/-! ### comprehensions -/
def wNo : WX := fun _ _ _ _ => False
def noX {α : Type} : R α → Option α
  | .ok a => some a
  | _ => none
@[simp] theorem noX_ok {α : Type} (a : α) : noX (R.ok a) = some a := rfl
theorem Post.noX {mg : MgT} {α : Type} {σ : St} {H : Hp} {P : α → Hp → Prop} {r : R α} {a : α} (h : G.noX r = some a) (q : ∀ H', Same H H' → P a H') : Post mg wNo σ H P r := by
  cases r with
  | ok b => cases h; exact q
  | ex c n => cases h
  | no => cases h
def cTrue : En → R Bool := fun _ => .ok true
abbrev FTs (X : Cx) (W : WX) (ifs : List Expr) (p : En → R Bool) : Prop := PTs X ifs (tFT X.K X.mg W p)
theorem impTs {ifs : List Expr} {t t' : TT} (h : PTs X ifs t) (i : ∀ σ H Q, t' σ H Q → t σ H Q) : PTs X ifs t' := ⟨fun pins s σ H Q I q => h.run pins s σ H Q I (i _ _ _ q)⟩
theorem fts_nil : FTs X W [] cTrue := impTs pts_nil fun σ H Q ⟨H0, A0, A, ρ, ok, P⟩ => Post.at (a := true) (P := fun b H' => Q b H') P
theorem fts_one {c : Expr} (h : FT X W c p) : FTs X W [c] p := pts_one h
def lcL (tgt : TgF) (p : En → R Bool) (f : En → R D) (ρ : En) : List D → Option (List D)
  | [] => some []
  | d :: ds => (tgt d ρ).bind fun ρ1 => (noX (p ρ1)).bind fun b => if b = true then (noX (f ρ1)).bind fun y => (lcL tgt p f ρ ds).map fun ys => y :: ys else lcL tgt p f ρ ds
def cLc (vs : List Nat) (l : En → R (List D)) (tgt : TgF) (p : En → R Bool) (f : En → R D) : En → R D := fun ρ => (l ρ).bind fun ds =>
  ofO ((lcL tgt p f (wipeE ρ vs) ds).bind fun ys => if ys.length ≤ sizeLine then some (.list ys) else none)
theorem lc_read {t : Bool} {own : List (Str × Nat)} {ix : List Nat} (hix : ∀ i ∈ ix, i ∈ own.map (·.2)) (σ : St) (H : Hp) (Q : VK) (hq : tFN X.K X.mg W t (cLc (own.map (·.2)) l tgt p f) σ H Q) :
    tLc (tFI X.K X.mg W l) (tFG X.K ix tgt) (tFT X.K X.mg wNo p) (tF X.K X.mg wNo f) (own.map (·.2)) σ H Q := by
  obtain ⟨H0, A0, A, ρ, ok, P⟩ := hq
  refine ⟨H0, A0, A, ρ, ok, P.bind.mono fun ds H1 s1 P1 J hJ L hL => ?_⟩
  obtain ⟨d, e1, q⟩ := P1.ofO
  obtain ⟨ys, e2, e3⟩ := Option.bind_eq_some_iff.mp e1
  split at e3
  rotate_left
  · cases e3
  rename_i hsz
  cases e3
  have hLa : H L = none := s1.free hL
  have ok1 := ok.same s1
  refine ⟨fun i m H2 => m = ds.length - i ∧ i ≤ ds.length ∧ Same H1 H2 ∧ ∃ vs ys1 ys2, H2 L = some (.lst vs) ∧ RepL X.K H2 (L :: A) vs ys1 ∧ lcL tgt p f (wipeE ρ (own.map (·.2))) (ds.drop i) = some ys2 ∧ ys = ys1 ++ ys2,
    ⟨ds.length, rfl, Nat.zero_le _, same_upd hL, [], [], ys, upd_same, .nil, e2, rfl⟩, ?_⟩
  rintro i m H2 ⟨rfl, hile, sm, vs, ys1, ys2, hLv, rl, el, ey⟩
  have okg : Ok X.K H0 (L :: A0) (L :: A) ρ σ H2 := ok1.grow sm hL (by rw [hLv]; intro z; cases z)
  have okw := okg.wipe (own.map (·.2))
  obtain ⟨hgo, hst⟩ := hJ (L :: A) H2 ⟨fun b x h _ => sm b x h, fun b hb => by
    rcases List.mem_cons.mp hb with rfl | hb
    · exact .inr hL
    · exact .inl hb⟩ okg.has
  by_cases hlt : i < ds.length
  · refine .inr ⟨(hgo i ds[i] (by simp [hlt])).1, fun H' => Same H1 H' ∧ ∃ vs ys1 ys2, H' L = some (.lst vs) ∧ RepL X.K H' (L :: A) vs ys1 ∧ lcL tgt p f (wipeE ρ (own.map (·.2))) (ds.drop (i + 1)) = some ys2 ∧ ys = ys1 ++ ys2,
      fun H' h => ⟨ds.length - (i + 1), by omega, rfl, hlt, h⟩, fun x H3 hy => ?_⟩
    obtain ⟨sx, rx⟩ := (hgo i ds[i] (by simp [hlt])).2 x H3 hy
    rw [List.drop_eq_getElem_cons hlt] at el
    unfold lcL at el
    obtain ⟨ρ1, g1, el⟩ := Option.bind_eq_some_iff.mp el
    obtain ⟨bb, g2, el⟩ := Option.bind_eq_some_iff.mp el
    refine ⟨H0, L :: A0, L :: A, wipeE ρ (own.map (·.2)), ds[i], ρ1, okw.same sx, rx, g1, fun σ2 o2 ag => ⟨(wipe_agree hix ag).trans wipe_wipe, H0, L :: A0, L :: A, ρ1, o2, Post.noX g2 fun H4 s4 => ?_⟩⟩
    cases bb with
    | false =>
      rw [if_neg (by decide)] at el
      rw [if_neg (by decide)]
      exact ⟨(sm.trans sx).trans s4, vs, ys1, ys2, s4 _ _ (sx _ _ hLv), (rl.same sx).same s4, el, ey⟩
    | true =>
      rw [if_pos rfl] at el
      rw [if_pos rfl]
      obtain ⟨y, g3, el⟩ := Option.bind_eq_some_iff.mp el
      obtain ⟨zs, g4, g5⟩ := Option.map_eq_some_iff.mp el
      subst g5
      refine ⟨H0, L :: A0, L :: A, ρ1, o2.same s4, Post.noX g3 fun H5 s5 v hv => ⟨vs, s5 _ _ (s4 _ _ (sx _ _ hLv)), ?_, fun b z hb => ?_, vs ++ [v], ys1 ++ [y], zs, upd_same, ((((rl.same sx).same s4).same s5).append (.one hv)).tr (Tr.write List.mem_cons_self), g4, by rw [ey]; simp⟩⟩
      · rw [rl.length]
        have : ys.length = ys1.length + (y :: zs).length := by rw [ey, List.length_append]
        rw [List.length_cons] at this
        omega
      · rw [upd_ne (ne_of_none hb hL)]
        exact s5 _ _ (s4 _ _ (sx _ _ (sm _ _ hb)))
  · have e : i = ds.length := by omega
    subst e
    rw [List.drop_length] at el
    cases el
    rw [List.append_nil] at ey
    subst ey
    exact .inl ⟨hst, q H2 sm _ ⟨L, rfl, hLa, vs, hLv, rl⟩⟩
theorem fn_lc {t : Bool} {scope : Scope} {own : List (Str × Nat)} {ix : List Nat} (hc : X.calm = true) (hN : X.N.Nodup) (hi : FI X W tg iter l) (okb : BlkOk X.N X.env.scope scope own)
    (hg : ∀ (s : Shared) (H : Hp) (C : Addr) (cl : List (Str × Addr)) (fp : List Addr), FG (X.blk s H scope (compEnvC scope cl C X.env) fp) tg ix tgt) (hix : ∀ i ∈ ix, i ∈ own.map (·.2))
    (ht : ∀ (s : Shared) (H : Hp) (C : Addr) (cl : List (Str × Addr)) (fp : List Addr), FTs (X.blk s H scope (compEnvC scope cl C X.env) fp) wNo ifs p)
    (he : ∀ (s : Shared) (H : Hp) (C : Addr) (cl : List (Str × Addr)) (fp : List Addr), FE (X.blk s H scope (compEnvC scope cl C X.env) fp) wNo elt f) (hs : ∀ x, foldedSetIterable iter X.env x = pure x := by intro _; rfl) :
    FN X W t (.ListComp elt [⟨tg, iter, ifs, 0⟩] scope pos) (cLc (own.map (·.2)) l tgt p f) :=
  impE (pe_lc (g := tFG X.K ix tgt) (tt := tFT X.K X.mg wNo p) (te := tF X.K X.mg wNo f) hc hN hi okb hg ht he hs) (lc_read hix)
theorem fs_setLcN {t : Bool} {i : Nat} {y : Str} {py spos : Pos} {scope : Scope} {own : List (Str × Nat)} {ix : List Nat} (hc : X.calm = true) (hN : X.N.Nodup) (hy : X.N[i]? = some y) (hyl : X.env.scope.names.lookup y = some .local) (hsw : swapsWith (.ListComp elt [⟨tg, iter, ifs, 0⟩] scope pos) (some (.Name y py)) spos.line X.env = pure true) (hi : FI X W tg iter l) (okb : BlkOk X.N X.env.scope scope own)
    (hg : ∀ (s : Shared) (H : Hp) (C : Addr) (cl : List (Str × Addr)) (fp : List Addr), FG (X.blk s H scope (compEnvC scope cl C X.env) fp) tg ix tgt) (hix : ∀ i ∈ ix, i ∈ own.map (·.2))
    (ht : ∀ (s : Shared) (H : Hp) (C : Addr) (cl : List (Str × Addr)) (fp : List Addr), FTs (X.blk s H scope (compEnvC scope cl C X.env) fp) wNo ifs p)
    (he : ∀ (s : Shared) (H : Hp) (C : Addr) (cl : List (Str × Addr)) (fp : List Addr), FE (X.blk s H scope (compEnvC scope cl C X.env) fp) wNo elt f) (hs : ∀ x, foldedSetIterable iter X.env x = pure x := by intro _; rfl) :
    FS X W (.Assign [.Name y py] (.ListComp elt [⟨tg, iter, ifs, 0⟩] scope pos) spos) (sSetN i t (cLc (own.map (·.2)) l tgt p f)) := impS (ps_setLc (g := tFG X.K ix tgt) (tt := tFT X.K X.mg wNo p) (te := tF X.K X.mg wNo f) hc hN hy hyl hsw hi okb hg ht he hs) fun D σ H ⟨H0, A0, A, ρ, o, P⟩ => lc_read (t := t) hix σ H _ ⟨H0, A0, A, ρ, o, (P.of o).mono fun d H1 s1 P1 v ⟨a, e, n, r⟩ => by
    subst e
    exact P1 _ H1 (a :: A) (o.setOwn s1 i n r) ⟨fun b x h _ => s1 b x h, fun b hb => by
      rcases List.mem_cons.mp hb with rfl | hb
      · exact .inr n
      · exact .inl hb⟩⟩
theorem fs_setLcV {i : Nat} {y : Str} {py spos : Pos} {scope : Scope} {own : List (Str × Nat)} {ix : List Nat} (hc : X.calm = true) (hN : X.N.Nodup) (hy : X.N[i]? = some y) (hyl : X.env.scope.names.lookup y = some .local) (hsw : swapsWith (.ListComp elt [⟨tg, iter, ifs, 0⟩] scope pos) (some (.Name y py)) spos.line X.env = pure true) (hi : FI X W tg iter l) (okb : BlkOk X.N X.env.scope scope own)
    (hg : ∀ (s : Shared) (H : Hp) (C : Addr) (cl : List (Str × Addr)) (fp : List Addr), FG (X.blk s H scope (compEnvC scope cl C X.env) fp) tg ix tgt) (hix : ∀ i ∈ ix, i ∈ own.map (·.2))
    (ht : ∀ (s : Shared) (H : Hp) (C : Addr) (cl : List (Str × Addr)) (fp : List Addr), FTs (X.blk s H scope (compEnvC scope cl C X.env) fp) wNo ifs p)
    (he : ∀ (s : Shared) (H : Hp) (C : Addr) (cl : List (Str × Addr)) (fp : List Addr), FE (X.blk s H scope (compEnvC scope cl C X.env) fp) wNo elt f) (hs : ∀ x, foldedSetIterable iter X.env x = pure x := by intro _; rfl) :
    FS X W (.Assign [.Name y py] (.ListComp elt [⟨tg, iter, ifs, 0⟩] scope pos) spos) (sSet i (cLc (own.map (·.2)) l tgt p f)) := impS (ps_setLc (g := tFG X.K ix tgt) (tt := tFT X.K X.mg wNo p) (te := tF X.K X.mg wNo f) hc hN hy hyl hsw hi okb hg ht he hs) fun D σ H ⟨H0, A0, A, ρ, o, P⟩ => lc_read (t := false) hix σ H _ ⟨H0, A0, A, ρ, o, (P.of o).mono fun d H1 s1 P1 v ⟨a, e, n, r⟩ => by
    subst e
    exact P1 _ H1 A ((o.same s1).set i (r.free (fun z => o.has a z n) fun b hb => List.mem_cons_of_mem _ hb)) (Tr.same s1)⟩
def lcL2 (tgt : TgF) (p : En → R Bool) (l1 : En → R (List D)) (vs1 : List Nat) (tgt1 : TgF) (p1 : En → R Bool) (f : En → R D) (ρ : En) : List D → Option (List D)
  | [] => some []
  | d :: ds => (tgt d ρ).bind fun ρ1 => (noX (p ρ1)).bind fun b => if b = true then (noX (l1 ρ1)).bind fun es => (lcL tgt1 p1 f (wipeE ρ1 vs1) es).bind fun ys => (lcL2 tgt p l1 vs1 tgt1 p1 f ρ ds).map fun zs => ys ++ zs
    else lcL2 tgt p l1 vs1 tgt1 p1 f ρ ds
def cLc2 (vs vs1 : List Nat) (l : En → R (List D)) (tgt : TgF) (p : En → R Bool) (l1 : En → R (List D)) (tgt1 : TgF) (p1 : En → R Bool) (f : En → R D) : En → R D := fun ρ => (l ρ).bind fun ds =>
  ofO ((lcL2 tgt p l1 vs1 tgt1 p1 f (wipeE ρ vs) ds).bind fun ys => if ys.length ≤ sizeLine then some (.list ys) else none)
theorem lc2_read {t : Bool} {own : List (Str × Nat)} {vs1 ix ix1 : List Nat} (hix : ∀ i ∈ ix, i ∈ own.map (·.2)) (hix1 : ∀ i ∈ ix1, i ∈ vs1) (σ : St) (H : Hp) (Q : VK) (hq : tFN X.K X.mg W t (cLc2 (own.map (·.2)) vs1 l tgt p l1 tgt1 p1 f) σ H Q) :
    tLc2 (tFI X.K X.mg W l) (tFG X.K ix tgt) (tFT X.K X.mg wNo p) (tFI X.K X.mg wNo l1) (tFG X.K ix1 tgt1) (tFT X.K X.mg wNo p1) (tF X.K X.mg wNo f) (own.map (·.2)) vs1 σ H Q := by
  obtain ⟨H0, A0, A, ρ, ok, P⟩ := hq
  refine ⟨H0, A0, A, ρ, ok, P.bind.mono fun ds H1 s1 P1 J hJ L hL => ?_⟩
  obtain ⟨d, e1, q⟩ := P1.ofO
  obtain ⟨ys, e2, e3⟩ := Option.bind_eq_some_iff.mp e1
  split at e3
  rotate_left
  · cases e3
  rename_i hsz
  cases e3
  have hLa : H L = none := s1.free hL
  have ok1 := ok.same s1
  refine ⟨fun i m H2 => m = ds.length - i ∧ i ≤ ds.length ∧ Same H1 H2 ∧ ∃ vs ys1 ys2, H2 L = some (.lst vs) ∧ RepL X.K H2 (L :: A) vs ys1 ∧ lcL2 tgt p l1 vs1 tgt1 p1 f (wipeE ρ (own.map (·.2))) (ds.drop i) = some ys2 ∧ ys = ys1 ++ ys2,
    ⟨ds.length, rfl, Nat.zero_le _, same_upd hL, [], [], ys, upd_same, .nil, e2, rfl⟩, ?_⟩
  rintro i m H2 ⟨rfl, hile, sm, vs, ys1, ys2, hLv, rl, el, ey⟩
  have okg : Ok X.K H0 (L :: A0) (L :: A) ρ σ H2 := ok1.grow sm hL (by rw [hLv]; intro z; cases z)
  have okw := okg.wipe (own.map (·.2))
  have trL : ∀ {H3 : Hp}, Same H1 H3 → Tr A H1 (L :: A) H3 := fun {H3} s3 => ⟨fun b x h _ => s3 b x h, fun b hb => by
    rcases List.mem_cons.mp hb with rfl | hb
    · exact .inr hL
    · exact .inl hb⟩
  obtain ⟨hgo, hst⟩ := hJ (L :: A) H2 (trL sm) okg.has
  by_cases hlt : i < ds.length
  · refine .inr ⟨(hgo i ds[i] (by simp [hlt])).1, fun H' => Same H1 H' ∧ ∃ vs ys1 ys2, H' L = some (.lst vs) ∧ RepL X.K H' (L :: A) vs ys1 ∧ lcL2 tgt p l1 vs1 tgt1 p1 f (wipeE ρ (own.map (·.2))) (ds.drop (i + 1)) = some ys2 ∧ ys = ys1 ++ ys2,
      fun H' h => ⟨ds.length - (i + 1), by omega, rfl, hlt, h⟩, fun x H3 hy => ?_⟩
    obtain ⟨sx, rx⟩ := (hgo i ds[i] (by simp [hlt])).2 x H3 hy
    rw [List.drop_eq_getElem_cons hlt] at el
    unfold lcL2 at el
    obtain ⟨ρ1, g1, el⟩ := Option.bind_eq_some_iff.mp el
    obtain ⟨bb, g2, el⟩ := Option.bind_eq_some_iff.mp el
    refine ⟨H0, L :: A0, L :: A, wipeE ρ (own.map (·.2)), ds[i], ρ1, okw.same sx, rx, g1, fun σ2 o2 ag => ⟨(wipe_agree hix ag).trans wipe_wipe, H0, L :: A0, L :: A, ρ1, o2, Post.noX g2 fun H4 s4 => ?_⟩⟩
    cases bb with
    | false =>
      rw [if_neg (by decide)] at el
      rw [if_neg (by decide)]
      exact ⟨(sm.trans sx).trans s4, vs, ys1, ys2, s4 _ _ (sx _ _ hLv), (rl.same sx).same s4, el, ey⟩
    | true =>
      rw [if_pos rfl] at el
      rw [if_pos rfl]
      obtain ⟨es, g3, el⟩ := Option.bind_eq_some_iff.mp el
      obtain ⟨us, g4, el⟩ := Option.bind_eq_some_iff.mp el
      obtain ⟨zs, g5, g6⟩ := Option.map_eq_some_iff.mp el
      subst g6
      refine ⟨H0, L :: A0, L :: A, ρ1, o2.same s4, Post.noX g3 fun H5 s5 J1 hJ1 => ?_⟩
      have sm5 : Same H1 H5 := ((sm.trans sx).trans s4).trans s5
      -- the inner loop: us are told already by ws1, still to be told ws2
      refine ⟨fun j k H6 => k = es.length - j ∧ j ≤ es.length ∧ Same H1 H6 ∧ Tr (L :: A) H5 (L :: A) H6 ∧ Ok X.K H0 (L :: A0) (L :: A) ρ1 σ2 H6 ∧ ∃ vs ws1 ws2, H6 L = some (.lst vs) ∧ RepL X.K H6 (L :: A) vs (ys1 ++ ws1) ∧ lcL tgt1 p1 f (wipeE ρ1 vs1) (es.drop j) = some ws2 ∧ us = ws1 ++ ws2,
        ⟨es.length, rfl, Nat.zero_le _, sm5, Tr.refl _ _, (o2.same s4).same s5, vs, [], us, s5 _ _ (s4 _ _ (sx _ _ hLv)), by rw [List.append_nil]; exact ((rl.same sx).same s4).same s5, g4, rfl⟩, ?_⟩
      rintro j k H6 ⟨rfl, hjle, sm6, u6, o6, vs6, ws1, ws2, hLv6, rl6, el6, ey6⟩
      obtain ⟨hgo1, hst1⟩ := hJ1 (L :: A) H6 u6 o6.has
      by_cases hlt1 : j < es.length
      · refine .inr ⟨(hgo1 j es[j] (by simp [hlt1])).1, fun H' => Same H1 H' ∧ Tr (L :: A) H5 (L :: A) H' ∧ Ok X.K H0 (L :: A0) (L :: A) ρ1 σ2 H' ∧ ∃ vs ws1 ws2, H' L = some (.lst vs) ∧ RepL X.K H' (L :: A) vs (ys1 ++ ws1) ∧ lcL tgt1 p1 f (wipeE ρ1 vs1) (es.drop (j + 1)) = some ws2 ∧ us = ws1 ++ ws2,
          fun H' h => ⟨es.length - (j + 1), by omega, rfl, hlt1, h⟩, fun x1 H7 hy1 => ?_⟩
        obtain ⟨sx1, rx1⟩ := (hgo1 j es[j] (by simp [hlt1])).2 x1 H7 hy1
        rw [List.drop_eq_getElem_cons hlt1] at el6
        unfold lcL at el6
        obtain ⟨ρ2, k1, el6⟩ := Option.bind_eq_some_iff.mp el6
        obtain ⟨b2, k2, el6⟩ := Option.bind_eq_some_iff.mp el6
        refine ⟨H0, L :: A0, L :: A, wipeE ρ1 vs1, es[j], ρ2, (o6.same sx1).wipe vs1, rx1, k1, fun σ3 o3 ag1 => ⟨(wipe_agree hix1 ag1).trans wipe_wipe, H0, L :: A0, L :: A, ρ2, o3, Post.noX k2 fun H8 s8 => ?_⟩⟩
        cases b2 with
        | false =>
          rw [if_neg (by decide)] at el6
          rw [if_neg (by decide)]
          exact ⟨(sm6.trans sx1).trans s8, (u6.trans (Tr.same sx1)).trans (Tr.same s8), (o6.same sx1).same s8, vs6, ws1, ws2, s8 _ _ (sx1 _ _ hLv6), (rl6.same sx1).same s8, el6, ey6⟩
        | true =>
          rw [if_pos rfl] at el6
          rw [if_pos rfl]
          obtain ⟨y, k3, el6⟩ := Option.bind_eq_some_iff.mp el6
          obtain ⟨xs, k4, k5⟩ := Option.map_eq_some_iff.mp el6
          subst k5
          refine ⟨H0, L :: A0, L :: A, ρ2, o3.same s8, Post.noX k3 fun H9 s9 v hv => ⟨vs6, s9 _ _ (s8 _ _ (sx1 _ _ hLv6)), ?_, fun b z hb => ?_, ?_, ?_, vs6 ++ [v], ws1 ++ [y], xs, upd_same, ?_, k4, by rw [ey6]; simp⟩⟩
          · rw [rl6.length]
            have h1 : ys.length = ys1.length + (us ++ zs).length := by rw [ey, List.length_append]
            rw [ey6] at h1
            simp only [List.length_append, List.length_cons] at h1 ⊢
            omega
          · rw [upd_ne (ne_of_none hb hL)]
            exact s9 _ _ (s8 _ _ (sx1 _ _ (sm6 _ _ hb)))
          · exact ((((u6.trans (Tr.same sx1)).trans (Tr.same s8)).trans (Tr.same s9))).trans (Tr.write List.mem_cons_self)
          · exact ((((o6.same sx1).same s8).same s9)).touch List.mem_cons_self (ok.ext.free hLa)
          · rw [← List.append_assoc]
            exact (((((rl6.same sx1).same s8).same s9)).append (.one hv)).tr (Tr.write List.mem_cons_self)
      · have e : j = es.length := by omega
        subst e
        rw [List.drop_length] at el6
        cases el6
        rw [List.append_nil] at ey6
        subst ey6
        exact .inl ⟨hst1, sm6, vs6, ys1 ++ us, zs, hLv6, rl6, g5, by rw [ey]; simp⟩
  · have e : i = ds.length := by omega
    subst e
    rw [List.drop_length] at el
    cases el
    rw [List.append_nil] at ey
    subst ey
    exact .inl ⟨hst, q H2 sm _ ⟨L, rfl, hLa, vs, hLv, rl⟩⟩
theorem fn_lc2 {t : Bool} {scope : Scope} {own : List (Str × Nat)} {vs1 ix ix1 : List Nat} (hc : X.calm = true) (hN : X.N.Nodup) (hi : FI X W tg iter l) (okb : BlkOk X.N X.env.scope scope own) (hv1 : ∀ i ∈ vs1, i ∈ own.map (·.2))
    (hg : ∀ (s : Shared) (H : Hp) (C : Addr) (cl : List (Str × Addr)) (fp : List Addr), FG (X.blk s H scope (compEnvC scope cl C X.env) fp) tg ix tgt) (hix : ∀ i ∈ ix, i ∈ own.map (·.2))
    (ht : ∀ (s : Shared) (H : Hp) (C : Addr) (cl : List (Str × Addr)) (fp : List Addr), FTs (X.blk s H scope (compEnvC scope cl C X.env) fp) wNo ifs p)
    (hi1 : ∀ (s : Shared) (H : Hp) (C : Addr) (cl : List (Str × Addr)) (fp : List Addr), FI (X.blk s H scope (compEnvC scope cl C X.env) fp) wNo tg1 iter1 l1)
    (hg1 : ∀ (s : Shared) (H : Hp) (C : Addr) (cl : List (Str × Addr)) (fp : List Addr), FG (X.blk s H scope (compEnvC scope cl C X.env) fp) tg1 ix1 tgt1) (hix1 : ∀ i ∈ ix1, i ∈ vs1)
    (ht1 : ∀ (s : Shared) (H : Hp) (C : Addr) (cl : List (Str × Addr)) (fp : List Addr), FTs (X.blk s H scope (compEnvC scope cl C X.env) fp) wNo ifs1 p1)
    (he : ∀ (s : Shared) (H : Hp) (C : Addr) (cl : List (Str × Addr)) (fp : List Addr), FE (X.blk s H scope (compEnvC scope cl C X.env) fp) wNo elt f) (hs : ∀ x, foldedSetIterable iter X.env x = pure x := by intro _; rfl) (hs1 : ∀ env x, foldedSetIterable iter1 env x = pure x := by intro _ _; rfl) :
    FN X W t (.ListComp elt [⟨tg, iter, ifs, 0⟩, ⟨tg1, iter1, ifs1, 0⟩] scope pos) (cLc2 (own.map (·.2)) vs1 l tgt p l1 tgt1 p1 f) :=
  impE (pe_lc2 (g := tFG X.K ix tgt) (tt := tFT X.K X.mg wNo p) (wi1 := tFI X.K X.mg wNo l1) (g1 := tFG X.K ix1 tgt1) (tt1 := tFT X.K X.mg wNo p1) (te := tF X.K X.mg wNo f) hc hN hi okb hv1 hg ht hi1 hg1 ht1 he hs hs1) (lc2_read hix hix1)
theorem fs_setLc2N {t : Bool} {i : Nat} {y : Str} {py spos : Pos} {scope : Scope} {own : List (Str × Nat)} {vs1 ix ix1 : List Nat} (hc : X.calm = true) (hN : X.N.Nodup) (hy : X.N[i]? = some y) (hyl : X.env.scope.names.lookup y = some .local) (hsw : swapsWith (.ListComp elt [⟨tg, iter, ifs, 0⟩, ⟨tg1, iter1, ifs1, 0⟩] scope pos) (some (.Name y py)) spos.line X.env = pure true) (hi : FI X W tg iter l) (okb : BlkOk X.N X.env.scope scope own) (hv1 : ∀ i ∈ vs1, i ∈ own.map (·.2))
    (hg : ∀ (s : Shared) (H : Hp) (C : Addr) (cl : List (Str × Addr)) (fp : List Addr), FG (X.blk s H scope (compEnvC scope cl C X.env) fp) tg ix tgt) (hix : ∀ i ∈ ix, i ∈ own.map (·.2))
    (ht : ∀ (s : Shared) (H : Hp) (C : Addr) (cl : List (Str × Addr)) (fp : List Addr), FTs (X.blk s H scope (compEnvC scope cl C X.env) fp) wNo ifs p)
    (hi1 : ∀ (s : Shared) (H : Hp) (C : Addr) (cl : List (Str × Addr)) (fp : List Addr), FI (X.blk s H scope (compEnvC scope cl C X.env) fp) wNo tg1 iter1 l1)
    (hg1 : ∀ (s : Shared) (H : Hp) (C : Addr) (cl : List (Str × Addr)) (fp : List Addr), FG (X.blk s H scope (compEnvC scope cl C X.env) fp) tg1 ix1 tgt1) (hix1 : ∀ i ∈ ix1, i ∈ vs1)
    (ht1 : ∀ (s : Shared) (H : Hp) (C : Addr) (cl : List (Str × Addr)) (fp : List Addr), FTs (X.blk s H scope (compEnvC scope cl C X.env) fp) wNo ifs1 p1)
    (he : ∀ (s : Shared) (H : Hp) (C : Addr) (cl : List (Str × Addr)) (fp : List Addr), FE (X.blk s H scope (compEnvC scope cl C X.env) fp) wNo elt f) (hs : ∀ x, foldedSetIterable iter X.env x = pure x := by intro _; rfl) (hs1 : ∀ env x, foldedSetIterable iter1 env x = pure x := by intro _ _; rfl) :
    FS X W (.Assign [.Name y py] (.ListComp elt [⟨tg, iter, ifs, 0⟩, ⟨tg1, iter1, ifs1, 0⟩] scope pos) spos) (sSetN i t (cLc2 (own.map (·.2)) vs1 l tgt p l1 tgt1 p1 f)) := impS (ps_setLc2 (g := tFG X.K ix tgt) (tt := tFT X.K X.mg wNo p) (wi1 := tFI X.K X.mg wNo l1) (g1 := tFG X.K ix1 tgt1) (tt1 := tFT X.K X.mg wNo p1) (te := tF X.K X.mg wNo f) hc hN hy hyl hsw hi okb hv1 hg ht hi1 hg1 ht1 he hs hs1) fun D σ H ⟨H0, A0, A, ρ, o, P⟩ => lc2_read (t := t) hix hix1 σ H _ ⟨H0, A0, A, ρ, o, (P.of o).mono fun d H1 s1 P1 v ⟨a, e, n, r⟩ => by
    subst e
    exact P1 _ H1 (a :: A) (o.setOwn s1 i n r) ⟨fun b x h _ => s1 b x h, fun b hb => by
      rcases List.mem_cons.mp hb with rfl | hb
      · exact .inr n
      · exact .inl hb⟩⟩
theorem fs_setLc2V {i : Nat} {y : Str} {py spos : Pos} {scope : Scope} {own : List (Str × Nat)} {vs1 ix ix1 : List Nat} (hc : X.calm = true) (hN : X.N.Nodup) (hy : X.N[i]? = some y) (hyl : X.env.scope.names.lookup y = some .local) (hsw : swapsWith (.ListComp elt [⟨tg, iter, ifs, 0⟩, ⟨tg1, iter1, ifs1, 0⟩] scope pos) (some (.Name y py)) spos.line X.env = pure true) (hi : FI X W tg iter l) (okb : BlkOk X.N X.env.scope scope own) (hv1 : ∀ i ∈ vs1, i ∈ own.map (·.2))
    (hg : ∀ (s : Shared) (H : Hp) (C : Addr) (cl : List (Str × Addr)) (fp : List Addr), FG (X.blk s H scope (compEnvC scope cl C X.env) fp) tg ix tgt) (hix : ∀ i ∈ ix, i ∈ own.map (·.2))
    (ht : ∀ (s : Shared) (H : Hp) (C : Addr) (cl : List (Str × Addr)) (fp : List Addr), FTs (X.blk s H scope (compEnvC scope cl C X.env) fp) wNo ifs p)
    (hi1 : ∀ (s : Shared) (H : Hp) (C : Addr) (cl : List (Str × Addr)) (fp : List Addr), FI (X.blk s H scope (compEnvC scope cl C X.env) fp) wNo tg1 iter1 l1)
    (hg1 : ∀ (s : Shared) (H : Hp) (C : Addr) (cl : List (Str × Addr)) (fp : List Addr), FG (X.blk s H scope (compEnvC scope cl C X.env) fp) tg1 ix1 tgt1) (hix1 : ∀ i ∈ ix1, i ∈ vs1)
    (ht1 : ∀ (s : Shared) (H : Hp) (C : Addr) (cl : List (Str × Addr)) (fp : List Addr), FTs (X.blk s H scope (compEnvC scope cl C X.env) fp) wNo ifs1 p1)
    (he : ∀ (s : Shared) (H : Hp) (C : Addr) (cl : List (Str × Addr)) (fp : List Addr), FE (X.blk s H scope (compEnvC scope cl C X.env) fp) wNo elt f) (hs : ∀ x, foldedSetIterable iter X.env x = pure x := by intro _; rfl) (hs1 : ∀ env x, foldedSetIterable iter1 env x = pure x := by intro _ _; rfl) :
    FS X W (.Assign [.Name y py] (.ListComp elt [⟨tg, iter, ifs, 0⟩, ⟨tg1, iter1, ifs1, 0⟩] scope pos) spos) (sSet i (cLc2 (own.map (·.2)) vs1 l tgt p l1 tgt1 p1 f)) := impS (ps_setLc2 (g := tFG X.K ix tgt) (tt := tFT X.K X.mg wNo p) (wi1 := tFI X.K X.mg wNo l1) (g1 := tFG X.K ix1 tgt1) (tt1 := tFT X.K X.mg wNo p1) (te := tF X.K X.mg wNo f) hc hN hy hyl hsw hi okb hv1 hg ht hi1 hg1 ht1 he hs hs1) fun D σ H ⟨H0, A0, A, ρ, o, P⟩ => lc2_read (t := false) hix hix1 σ H _ ⟨H0, A0, A, ρ, o, (P.of o).mono fun d H1 s1 P1 v ⟨a, e, n, r⟩ => by
    subst e
    exact P1 _ H1 A ((o.same s1).set i (r.free (fun z => o.has a z n) fun b hb => List.mem_cons_of_mem _ hb)) (Tr.same s1)⟩
end
end G

namespace G
open PySem PySem.Spec PyProof.Rows L2

/-! ### in -/
def flatB1 : D → Bool
  | .none => true
  | .bool _ => true
  | .int _ => true
  | .str _ => true
  | _ => false
/-- whether x is in y -/
def inB (x : D) : D → Option Bool
  | .list ds => if SeqAt.shaped x = true ∧ SeqAt.shaped (.list ds) = true then some (ds.any fun z => PyData.eqv z x) else none
  | .tuple ds => if flatB1 x = true ∧ ds.all flatB1 = true then some (ds.any fun z => PyData.eqv z x) else none
  | .dict kvs => match x with
    | .tuple ds => (keysD ds).bind fun ks => if (kvs.all fun kv => (keyD kv.1).isNone) = true then some (getT kvs ks).isSome else none
    | x => (keyD x).bind fun k => if (kvs.all fun kv => (keyD kv.1).isSome) = true then some (getK kvs k).isSome else none
  | _ => none
def dIn (x y : D) : Option D := (inB x y).map .bool
def dNotIn (x y : D) : Option D := (inB x y).map fun b => .bool (!b)
section
variable {X : Cx}
theorem flat_V {K : Frg} {H : Hp} {A : List Addr} {v : V} {d : D} (h : Rep K H A v d) (f : flatB1 d = true) : flatV v = true ∧ ∀ w e, Rep K H A w e → flatB1 e = true → eqV v w = PyData.eqv d e := by
  cases h with
  | non => exact ⟨rfl, fun w e hw he => by cases hw <;> first | (simp [eqV, PyData.eqv]; done) | cases he⟩
  | bl b => exact ⟨rfl, fun w e hw he => by cases hw <;> first | (simp [eqV, PyData.eqv]; done) | cases he⟩
  | int b => exact ⟨rfl, fun w e hw he => by cases hw <;> first | (simp [eqV, PyData.eqv]; done) | cases he⟩
  | str b => exact ⟨rfl, fun w e hw he => by cases hw <;> first | (simp [eqV, PyData.eqv]; done) | cases he⟩
  | _ => cases f
theorem flat_all {K : Frg} {H : Hp} {A : List Addr} {w : V} {e : D} (hw : Rep K H A w e) (he : flatB1 e = true) : ∀ {vs : List V} {ds : List D}, RepL K H A vs ds → ds.all flatB1 = true → vs.all flatV = true ∧ inV w vs = ds.any fun z => PyData.eqv z e
  | _, _, .nil, _ => ⟨rfl, rfl⟩
  | _, _, .cons a t, h => by
    rw [List.all_cons, Bool.and_eq_true] at h
    obtain ⟨h1, h2⟩ := flat_V a h.1
    obtain ⟨h3, h4⟩ := flat_all hw he t h.2
    refine ⟨by rw [List.all_cons, h1, h3]; rfl, ?_⟩
    unfold inV at h4 ⊢
    rw [List.any_cons, List.any_cons, h4, h2 w e hw he]
def rInDc (neg : Bool) : R2 := fun x y H Q => ∃ a o, y = .ref a ∧ DGet H a x o ∧ Q (.bl (if neg then !o.isSome else o.isSome)) H
theorem op_inDc (hu : X.A.units + 1 < cLine) : OpR X (compareOp .In) (rInDc false) := by
  intro pins s σ H x y v u Q I rx ry h
  obtain ⟨a, o, rfl, g, q⟩ := h
  cases ry
  exact d_in hu I g rx fun s' I' => ⟨.bl _, H, I', rfl, q⟩
theorem op_notInDc (hu : X.A.units + 1 < cLine) : OpR X (compareOp .NotIn) (rInDc true) := by
  intro pins s σ H x y v u Q I rx ry h
  obtain ⟨a, o, rfl, g, q⟩ := h
  cases ry
  exact d_notIn hu I g rx fun s' I' => ⟨.bl _, H, I', rfl, q⟩
/-- an empty dict, of whichever keys -/
theorem bare {P : Program} {w : World} {H : Hp} {h : Heap} {a : Addr} (ok : HOk P w H h) (e : Rd H a (.dK []) ∨ Rd H a (.dT [])) :
    (a == sysModules) = false ∧ h.DictOf (mixKind P w) a [] ∧ h.DictOfH (tupleKind (mixKind P w)) a [] := by
  have q : (a == sysModules) = false ∧ ∃ o es ep, h.get? a = some o ∧ o.ExactDict ∧ o.data = .dict es ep ∧ es.toList = [] := by
    rcases e with e | e
    · obtain ⟨_, hd, vs, rel, dd⟩ := dk_rd ok e
      cases rel
      obtain ⟨o, es, ep, h1, h2, h3, _, h5, _⟩ := dd
      exact ⟨hd, o, es, ep, h1, h2, h3, by cases h6 : es.toList with | nil => rfl | cons x y => rw [h6] at h5; cases h5⟩
    · obtain ⟨_, hd, xs, rel, dd⟩ := dt_rd ok e
      cases rel
      obtain ⟨o, es, ep, h1, h2, h3, h4, _⟩ := dd
      exact ⟨hd, o, es, ep, h1, h2, h3, h4⟩
  obtain ⟨hd, o, es, ep, h1, h2, h3, h4⟩ := q
  have h5 : es = #[] := Array.toList_eq_nil_iff.mp h4
  subst h5
  exact ⟨hd, ⟨o, #[], ep, h1, h2, h3, fun x hx => by simp at hx, .nil, List.nodup_nil⟩, ⟨o, #[], ep, h1, h2, h3, rfl, fun x hx => absurd hx List.not_mem_nil, List.nodup_nil⟩⟩
def rInE (neg : Bool) : R2 := fun x y H Q => ∃ a, y = .ref a ∧ (Rd H a (.dK []) ∨ Rd H a (.dT [])) ∧ ((∃ k, x = kV k) ∨ ∃ (b : Addr) (ks : List Key), x = .ref b ∧ H b = some (.tup (ks.map kV))) ∧ Q (.bl neg) H
theorem op_inE (hu : X.A.units + 1 < cLine) : OpR X (compareOp .In) (rInE false) := by
  intro pins s σ H x y v u Q I rx ry h
  obtain ⟨a, rfl, e, k, q⟩ := h
  cases ry
  obtain ⟨hd, d1, d2⟩ := bare I.hok e
  rcases k with ⟨k, rfl⟩ | ⟨b, ks, rfl, eb⟩
  · exact wpAny_in_of (kV_is rx) hd d1.mapOf ⟨.bl _, H, I.tok _, rfl, q⟩
  · cases rx
    exact wpAny_in_heap (tupleKind_room_in1 hu) (key_of I.hok eb) hd d2 ⟨.bl _, H, I.tok _, rfl, q⟩
theorem op_notInE (hu : X.A.units + 1 < cLine) : OpR X (compareOp .NotIn) (rInE true) := by
  intro pins s σ H x y v u Q I rx ry h
  obtain ⟨a, rfl, e, k, q⟩ := h
  cases ry
  obtain ⟨hd, d1, d2⟩ := bare I.hok e
  rcases k with ⟨k, rfl⟩ | ⟨b, ks, rfl, eb⟩
  · exact wpAny_notIn_of (kV_is rx) hd d1.mapOf ⟨.bl _, H, I.tok _, rfl, q⟩
  · cases rx
    exact wpAny_notIn_heap (tupleKind_room_in1 hu) (key_of I.hok eb) hd d2 ⟨.bl _, H, I.tok _, rfl, q⟩
theorem in_read {K : Frg} {H : Hp} {A : List Addr} {x y : V} {d1 d2 : D} {b : Bool} (hx : Rep K H A x d1) (hy : RepB K H A y d2) (e : inB d1 d2 = some b) :
    (∃ ds, d2 = .list ds ∧ Dp K H x d1 ∧ Dp K H y (.list ds) ∧ SeqAt.shaped d1 = true ∧ SeqAt.shaped (.list ds) = true ∧ b = ds.any fun z => PyData.eqv z d1) ∨
    (∃ p xs, y = .ref p ∧ SqT K H p xs ∧ flatV x = true ∧ xs.all flatV = true ∧ inV x xs = b) ∨ (∃ a o, y = .ref a ∧ DGet H a x o ∧ o.isSome = b) ∨
    ∃ a, y = .ref a ∧ (Rd H a (.dK []) ∨ Rd H a (.dT [])) ∧ ((∃ k, x = kV k) ∨ ∃ (b : Addr) (ks : List Key), x = .ref b ∧ H b = some (.tup (ks.map kV))) ∧ b = false := by
  unfold inB at e
  split at e
  · rename_i ds
    split at e
    · rename_i h
      cases e
      exact .inl ⟨ds, rfl, (RepB.of hx).dp h.1, hy.dp h.2, h.1, h.2, rfl⟩
    · cases e
  · split at e
    · rename_i h
      cases e
      obtain ⟨p, xs, rfl, h1, r⟩ := hy.tup
      obtain ⟨h3, h4⟩ := flat_all hx h.1 r h.2
      exact .inr (.inl ⟨p, xs, rfl, h1, (flat_V hx h.1).1, h3, h4⟩)
    · cases e
  · rename_i kvs
    obtain ⟨a, rfl, hd⟩ := hy.dict
    split at e
    · rename_i ds
      obtain ⟨ks, e1, e2⟩ := Option.bind_eq_some_iff.mp e
      clear e
      obtain rfl := keysD_some e1
      split at e2
      · rename_i hk
        cases e2
        cases hx with
        | tup n hb rk =>
          rw [rep_key rk] at hb
          rcases hd with ⟨rows, h1, r⟩ | ⟨rows, h1, r⟩
          · obtain rfl := repT_of_K r hk
            cases r
            exact .inr (.inr (.inr ⟨a, rfl, .inl h1, .inr ⟨_, ks, rfl, hb⟩, rfl⟩))
          · refine .inr (.inr (.inl ⟨a, valV rows ks, rfl, .inr ⟨rows, ks, _, h1, rfl, hb, rfl⟩, ?_⟩))
            cases hg : getT kvs ks with
            | none => rw [(getT_rep r).2 hg]; rfl
            | some z => obtain ⟨v, h2, _⟩ := (getT_rep r).1 z hg; rw [h2]; rfl
      · cases e2
    · rename_i nt
      obtain ⟨k, e1, e2⟩ := Option.bind_eq_some_iff.mp e
      clear e
      obtain rfl := keyD_some e1
      split at e2
      · rename_i hk
        cases e2
        have ex : x = kV k := by
          cases k with
          | inl n => exact (RepB.of hx).int
          | inr n => exact (RepB.of hx).str
        rcases hd with ⟨rows, h1, r⟩ | ⟨rows, h1, r⟩
        · refine .inr (.inr (.inl ⟨a, valV rows k, rfl, .inl ⟨rows, k, h1, ex, rfl⟩, ?_⟩))
          cases hg : getK kvs k with
          | none => rw [(getK_rep r).2 hg]; rfl
          | some z => obtain ⟨v, h2, _⟩ := (getK_rep r).1 z hg; rw [h2]; rfl
        · obtain rfl := repK_of_T r hk
          cases r
          exact .inr (.inr (.inr ⟨a, rfl, .inr h1, .inl ⟨k, ex⟩, rfl⟩))
      · cases e2
  · cases e
/-- .. the left operand data nobody changes, the right one borrowed -/
def DOpI (X : Cx) (F : Value → Value → Sem Value) (dop : D → D → Option D) : Prop :=
  ∃ r : R2, OpR X F r ∧ ∀ (H : Hp) (A : List Addr) (x y : V) (d1 d2 d : D) (Q : VK), (∀ a ∈ A, H a ≠ none) → Rep X.K H A x d1 → RepB X.K H A y d2 → dop d1 d2 = some d → (∀ v H', Same H H' → Rep X.K H' A v d → Q v H') → r x y H Q
theorem OpR.or {F : Value → Value → Sem Value} {r q : R2} (h : OpR X F r) (k : OpR X F q) : OpR X F (fun x y H Q => r x y H Q ∨ q x y H Q) := by
  intro pins s σ H x y v u Q I rx ry z
  rcases z with z | z
  · exact h pins s σ H x y v u Q I rx ry z
  · exact k pins s σ H x y v u Q I rx ry z
/-- what `in` comes to -/
theorem do_in (hu : X.A.units + 65 < cLine) : DOpI X (compareOp .In) dIn := by
  refine ⟨_, (op_inD hu).or (op_in_seq.or ((op_inDc (by omega)).or (op_inE (by omega)))), fun H A x y d1 d2 d Q hA hx hy e q => ?_⟩
  obtain ⟨b, e1, rfl⟩ := Option.map_eq_some_iff.mp e
  have q' : Q (.bl b) H := q _ H (Same.refl H) (.bl b)
  rcases in_read hx hy e1 with ⟨ds, rfl, h1, h2, h3, h4, rfl⟩ | ⟨p, xs, rfl, h1, h2, h3, rfl⟩ | ⟨a, o, rfl, h1, rfl⟩ | ⟨a, rfl, h1, h2, rfl⟩
  · exact .inl ⟨d1, ds, h1, h2, h3, h4, q'⟩
  · exact .inr (.inl ⟨p, xs, rfl, .inr h1, h2, h3, q'⟩)
  · exact .inr (.inr (.inl ⟨a, o, rfl, h1, q'⟩))
  · exact .inr (.inr (.inr ⟨a, rfl, h1, h2, q'⟩))
theorem do_notin (hu : X.A.units + 65 < cLine) : DOpI X (compareOp .NotIn) dNotIn := by
  refine ⟨_, (op_notInD hu).or (op_notIn_seq.or ((op_notInDc (by omega)).or (op_notInE (by omega)))), fun H A x y d1 d2 d Q hA hx hy e q => ?_⟩
  obtain ⟨b, e1, rfl⟩ := Option.map_eq_some_iff.mp e
  have q' : Q (.bl (!b)) H := q _ H (Same.refl H) (.bl (!b))
  rcases in_read hx hy e1 with ⟨ds, rfl, h1, h2, h3, h4, rfl⟩ | ⟨p, xs, rfl, h1, h2, h3, rfl⟩ | ⟨a, o, rfl, h1, rfl⟩ | ⟨a, rfl, h1, h2, rfl⟩
  · exact .inl ⟨d1, ds, h1, h2, h3, h4, q'⟩
  · exact .inr (.inl ⟨p, xs, rfl, .inr h1, h2, h3, q'⟩)
  · exact .inr (.inr (.inl ⟨a, o, rfl, h1, q'⟩))
  · exact .inr (.inr (.inr ⟨a, rfl, h1, h2, q'⟩))
variable {W : WX} {a b : Expr} {f g : En → R D} {op : CmpOp} {dop : D → D → Option D} {pos : Pos}
theorem fe_inD (ho : DOpI X (compareOp op) dop) (ha : FE X W a f) (hb : FB X W b g) (hm : behindInMarks op b = false) : FE X W (.Compare a [op] [b] pos) (cBin dop f g) := by
  obtain ⟨r, hr, hs⟩ := ho
  refine impE (pe_cmpR hr ha hb hm) fun σ H Q ⟨H0, A0, A, ρ, o, P⟩ => ?_
  refine ⟨H0, A0, A, ρ, o, P.bind.mono fun d1 H1 s1 P1 x hx => ?_⟩
  refine ⟨H0, A0, A, ρ, o.same s1, P1.bind.mono fun d2 H2 s2 P2 y hy => ?_⟩
  obtain ⟨d, e, P3⟩ := P2.ofO
  exact hs H2 A x y d1 d2 d Q ((o.same s1).same s2).has (hx.same s2) hy e fun v H' s3 hv => P3 H' s3 v hv
theorem ft_inD (ho : DOpI X (compareOp op) dop) (ha : FE X W a f) (hb : FB X W b g) (hm : behindInMarks op b = false) : FT X W (.Compare a [op] [b] pos) (cBinT dop f g) := by
  obtain ⟨r, hr, hs⟩ := ho
  refine impT (pt_cmpR hr ha hb hm) fun σ H Q ⟨H0, A0, A, ρ, o, P⟩ => ?_
  refine ⟨H0, A0, A, ρ, o, P.bind.mono fun d1 H1 s1 P1 x hx => ?_⟩
  refine ⟨H0, A0, A, ρ, o.same s1, P1.bind.mono fun d2 H2 s2 P2 y hy => ?_⟩
  obtain ⟨k, e, P3⟩ := P2.ofO
  obtain ⟨d, e1, e2⟩ := Option.bind_eq_some_iff.mp e
  obtain rfl := toB_some e2
  exact hs H2 A x y d1 d2 _ _ ((o.same s1).same s2).has (hx.same s2) hy e1 fun v H' s3 hv => ⟨k, (RepB.of hv).bool, P3 H' s3⟩
end
end G

namespace G
open PySem PySem.Spec PyProof.Rows L2

/-! ### what a def comes to -/
/-- the wish of a call's result -/
def Want (K : Frg) (mg : MgT) (H : Hp) (Av : List Addr) (Q : VK) (E : XK) : R D → Prop
  | .ok d => ∀ v H', Same H H' → Rep K H' Av v d → Q v H'
  | .ex c n => ∀ u p H', Same H H' → H p = none → ErrAt mg c n u p H' → E u (some p) H'
  | .no => False
structure FnG (P : Program) (w : World) (K : Frg) (mg : MgT) (base : Heap) (k : Nat) (f : Addr) (fd : FuncData) (ps : List Str) (F : List D → R D) : Prop where
  run : ∀ (A : Around) (outer : List Env) (s : Shared) (H : Hp) (args : Args) (us : List Value) (vs : List V) (ds : List D) (Av : List Addr) (Q : VK) (E : XK), Room k A → A.guards = some [] → Env0 P w K mg base A outer s H →
    (us.length = ps.length → BindsTo s fd args (ps.zip us)) → Vals vs us → RepL K H Av vs ds → (∀ a ∈ Av, H a ≠ none) → Want K mg H Av Q E (F ds) → codeAny (model P w) A (.call (.ref f) args) (CR (L2.CX P w) outer P w H s Q E) s
theorem FnG.mono {P : Program} {w : World} {K : Frg} {mg : MgT} {base : Heap} {j k : Nat} {f : Addr} {fd : FuncData} {ps : List Str} {F : List D → R D} (h : FnG P w K mg base j f fd ps F) (l : j ≤ k) : FnG P w K mg base k f fd ps F :=
  ⟨fun A outer s H args us vs ds Av Q E hr => h.run A outer s H args us vs ds Av Q E (hr.mono l)⟩
/-- a promise told in other words -/
theorem FnG.imp {P : Program} {w : World} {K : Frg} {mg : MgT} {base : Heap} {k : Nat} {f : Addr} {fd : FuncData} {ps : List Str} {F F' : List D → R D} (h : FnG P w K mg base k f fd ps F) (i : ∀ ds, F' ds = .no ∨ F' ds = F ds) : FnG P w K mg base k f fd ps F' :=
  ⟨fun A outer s H args us vs ds Av Q E hr hg e0 hb r rd ha q => by
    rcases i ds with e | e
    · rw [e] at q; exact q.elim
    · rw [e] at q; exact h.run A outer s H args us vs ds Av Q E hr hg e0 hb r rd ha q⟩
/-- the slots at the entry -/
def enter (n p : Nat) (ds : List D) : En := ds.map (fun d => some (.v d)) ++ List.replicate (n - p) none
def SR.out : SR → R D
  | .nx _ => .ok .none
  | .rt d => .ok d
  | .ex c m _ => .ex c m
  | _ => .no
def runF (n p : Nat) (g : En → SR) (ds : List D) : R D := if ds.length = p then (g (enter n p ds)).out else .no
abbrev wE (E : XK) : WX := fun c d _ H => E c d H
/-- the context of a def's body -/
abbrev bx (P : Program) (w : World) (K : Frg) (mg : MgT) (base : Heap) (N : List Str) (qual : Str) (scope : Scope) (f : Addr) (cd : Value) (A : Around) (outer : List Env) (s : Shared) (H : Hp) (E : XK) : Cx :=
  cxOf (L2.CX P w) P w K mg base N qual scope f cd A outer s H E
theorem bx_takes {P : Program} {w : World} {K : Frg} {mg : MgT} {base : Heap} {N : List Str} {qual : Str} {scope : Scope} {f : Addr} {cd : Value} {A : Around} {outer : List Env} {s : Shared} {H : Hp} {E : XK} : Takes (bx P w K mg base N qual scope f cd A outer s H E) (wE E) :=
  takes_of rfl rfl rfl rfl
theorem bx_owns {P : Program} {w : World} {K : Frg} {mg : MgT} {base : Heap} {N : List Str} {qual : Str} {scope : Scope} {f : Addr} {cd : Value} {A : Around} {outer : List Env} {s : Shared} {H : Hp} {E : XK} :
    PassesOwn (model P w) (bx P w K mg base N qual scope f cd A outer s H E).A (bx P w K mg base N qual scope f cd A outer s H E).env (bx P w K mg base N qual scope f cd A outer s H E).xe := passes_of rfl
theorem Ok.start {K : Frg} {H : Hp} {Av : List Addr} {vs : List V} {ds : List D} {n : Nat} {N : List Str} (hn : N.length = n) (r : RepL K H Av vs ds) (ha : ∀ a ∈ Av, H a ≠ none) (hl : ds.length ≤ n) : Ok K H Av Av (enter n ds.length ds) (L2.start N vs) H where
  len := by
    unfold enter L2.start
    rw [List.length_append, List.length_append, List.length_map, List.length_map, List.length_replicate, List.length_replicate, r.length, hn]
  ext := Same.refl H
  sub := fun _ h => h
  new := fun _ h => .inl h
  has := ha
  slot := fun i s h => by
    unfold enter at h
    by_cases hi : i < ds.length
    · rw [List.getElem?_append_left (by simpa using hi), List.getElem?_map] at h
      obtain ⟨d, h1, h2⟩ := Option.map_eq_some_iff.mp h
      cases h2
      obtain ⟨v, h3, h4⟩ := r.get h1
      refine ⟨v, ?_, h4⟩
      unfold L2.start
      rw [List.getElem?_append_left (by simpa [r.length] using hi), List.getElem?_map, h3]
      rfl
    · rw [List.getElem?_append_right (by simpa using hi), List.getElem?_replicate] at h
      split at h <;> cases h
  dis := fun i j a t t' d d' ne h1 h2 h3 => by
    unfold enter at h1
    by_cases hi : i < ds.length
    · rw [List.getElem?_append_left (by simpa using hi), List.getElem?_map] at h1
      obtain ⟨d, h1, h2⟩ := Option.map_eq_some_iff.mp h1
      cases h2
    · rw [List.getElem?_append_right (by simpa using hi), List.getElem?_replicate] at h1
      split at h1 <;> cases h1
/-- the end of a body -/
theorem want_out {K : Frg} {mg : MgT} {H : Hp} {Av : List Addr} {Q : VK} {E : XK} {r : SR} (h : Want K mg H Av Q E r.out) : PostS K mg (wE E) H Av Av H { nx := fun _ H' => Q .non H', rt := Q } r := by
  cases r with
  | nx ρ => exact fun σ' H' A' o _ => h .non H' o.ext .non
  | rt d => exact h
  | bk ρ => exact h.elim
  | ct ρ => exact h.elim
  | ex c n ρ => exact fun u p σ' H' A' o _ f e => h u p H' o.ext f e
  | no => exact h.elim

/-- THE RULE for a def -/
theorem fng_of {P : Program} {w : World} {K : Frg} {mg : MgT} {base : Heap} {k n p : Nat} {f : Addr} {name qual : Str} {params : Arguments} {body : List Stmt} {scope : Scope} {dV kV doc pm cdv ct oc : Value} {an od : Option Addr}
    {osl : Array (Option Value)} {N ps : List Str} {g : En → SR} (lk : K.lookup f = some ⟨oc, od, .func (PySem.W.fnOf name qual params body scope dV kV doc pm an cdv ct), osl⟩) (hcd : PySem.W.codeIn K cdv qual = true) (S : FnScope N ps scope)
    (hn : N.length = n) (hp : ps.length = p)
    (hbody : ∀ (A : Around) (outer : List Env) (s : Shared) (H : Hp) (E : XK), Room k (A.deeper (envOfC qual scope s.heap.objs.size f cdv)) → A.guards = some [] → FSs (bx P w K mg base N qual scope f cdv A outer s H E) (wE E) body g) :
    FnG P w K mg base (k + 1) f (PySem.W.fnOf name qual params body scope dV kV doc pm an cdv ct) ps (runF n p g) := by
  refine ⟨fun A outer s H args us vs ds Av Q E hr hg e0 hb r rd ha hsp => ?_⟩
  unfold runF at hsp
  split at hsp
  rotate_left
  · exact hsp.elim
  rename_i hds
  have hl : vs.length = ps.length := by rw [rd.length, hds, hp]
  have KX : K.In s.heap := e0.mod.kin.keeps fun b o e => (e0.bs b o e).1
  have lim : s.heap.NoLimit := e0.mod.nolimit.keeps fun b o e => (e0.bs b o e).1
  have hkind : ∀ y ∈ ps.zip us, scope.names.lookup y.1 = some .local ∨ (scope.names.lookup y.1 = some .cell ∧ ((cellsFrom (s.heap.objs.size + 1) scope.names []).lookup y.1).isSome = true) := fun ⟨n, v⟩ hy => by
    rcases S.par n (List.of_mem_zip hy).1 with q | q
    · exact .inl q
    · exact .inr ⟨q, PySem.W.cellsFrom_some _ _ _ (.inl q)⟩
  refine codeAny_call_function hr.depth (KX _ _ lk) rfl S.co S.gen rfl (PySem.W.codeRec_of KX hcd) (hb (by rw [← r.length]; exact hl) _ _ _ _ ?_)
  refine wpAny_newFunctionEnv_cells S.kind hkind fun env he s1 x => ?_
  subst he
  refine ⟨lim.keeps x.toInCall.keep, codeAny_func ?_⟩
  have I : Inv (bx P w K mg base N qual scope f cdv A outer s H E) [] (L2.start N vs) H s1 := inv_start S hr.hd e0 hl r x
  have hpn : p ≤ n := by
    have := congrArg List.length S.pre
    rw [List.length_take] at this
    omega
  have o : Ok K H Av Av (enter n p ds) (L2.start N vs) H := hds ▸ Ok.start hn rd ha (by omega)
  refine wpAny_mono ((hbody A outer s H E (hr.deeper _) hg).run [] s1 (L2.start N vs) H _ I ⟨H, Av, Av, _, o, want_out hsp⟩) (fun fl s' hs => ?_) fun e s' hs => hs
  have fin : ∀ {σ' : St} {H' : Hp} {v : V} {u : Value}, Inv (bx P w K mg base N qual scope f cdv A outer s H E) [] σ' H' s' → RelV v u → Q v H' → CE outer P w H s Q u s' :=
    fun {σ' H' v u} J rv q => ⟨v, H', J.os, J.bare, J.base, J.hok, rv, q⟩
  cases fl with
  | ret u =>
    obtain ⟨v, σ', H', J, rv, q⟩ := hs
    exact fin J rv q
  | next =>
    obtain ⟨σ', H', J, q⟩ := hs
    exact fin (v := V.non) (u := Value.none) J rfl q
  | brk =>
    obtain ⟨_, _, _, q⟩ := hs
    exact False.elim q
  | cont =>
    obtain ⟨_, _, _, q⟩ := hs
    exact False.elim q

/-! ### calls -/
def cCallF (F : List D → R D) (l : En → R (List D)) : En → R D := fun ρ => (l ρ).bind F
section
variable {X : Cx} {W : WX} {k : Nat} {f : Addr} {fd : FuncData} {ps : List Str} {F : List D → R D} {x : Str} {p pos : Pos} {e : Expr} {es : List Expr} {l : En → R (List D)}
theorem run_fng {pins : List (Addr × Obj)} {σ : St} {H : Hp} {s : Shared} {Q : VK} {us : List Value} {vs : List V} {ds : List D} {Av : List Addr} (Fg : FnG X.prog X.w X.K X.mg X.base k f fd ps F) (hr : Room k X.A) (hgd : X.A.guards = some []) (hb : Binds X.K fd ps []) (tk : Takes X W)
    (I : Inv X pins σ H s) (r : Vals vs us) (rd : RepL X.K H Av vs ds) (ha : ∀ a ∈ Av, H a ≠ none) (h : Want X.K X.mg H Av Q (WE W σ) (F ds)) : wpAny (model X.prog X.w) X.A (call (.ref f) us) (EP X pins σ Q) X.xe s := by
  refine wpAny_call (codeAny_mono (Fg.run X.A X.stack s H ⟨us, []⟩ us vs ds Av Q (WE W σ) hr hgd I.env0 (fun hl => ?_) r rd ha h) fun r s' hq => ?_)
  · have b := hb s us I.kIn (by rw [List.append_nil]; exact hl)
    rw [List.append_nil] at b
    exact b
  · cases r with
    | error e => exact passAt tk σ pins H s e s' I hq
    | ok fl =>
      cases fl with
      | ret u => exact I.after hq
      | next => exact False.elim hq
      | brk => exact False.elim hq
      | cont => exact False.elim hq
theorem Post.want {mg : MgT} {K : Frg} {σ : St} {H : Hp} {A : List Addr} {Q : VK} {r : R D} (h : Post mg W σ H (fun d H' => ∀ v, Rep K H' A v d → Q v H') r) : Want K mg H A Q (WE W σ) r := by
  cases r with
  | ok d => exact fun v H' s r => h H' s v r
  | ex c n => exact h
  | no => exact h
theorem fe_call (Fg : FnG X.prog X.w X.K X.mg X.base k f fd ps F) (hr : Room k X.A) (hgd : X.A.guards = some []) (hg : Gl X x) (hm : X.mg x = some (.ref f)) (hk : PySem.W.keepIn X.K (.ref f) = true) (hb : Binds X.K fd ps []) (tk : Takes X W)
    (ha : FA X W (e :: es) l) (hdb : (x == ("__debug__" : Str)) = false := by decide) (he : starEach (e :: es) X.env = (false, eval e X.env) :: starEach es X.env := by rfl) (hpl : (backTo pos (starEach es X.env)).any (·.1) = false := by rfl) :
    FE X W (.Call (.Name x p) (e :: es) [] pos) (cCallF F l) := by
  refine ⟨fun pins s σ H Q I ⟨H0, A0, A, ρ, o, P⟩ => ?_⟩
  refine wpAny_Call_Name_kw (ld_glob I hg hm ?_ hdb)
  refine PySem.W.callWith_K (h₀ := X.base) I.ok.mod.kin hk (thn (ha.run pos pins s σ H (fun vs H1 => Same H H1 ∧ ∃ ds, RepL X.K H1 A vs ds ∧ Want X.K X.mg H1 A Q (WE W σ) (F ds)) I ⟨H0, A0, A, ρ, o, P.bind.mono fun ds H1 s1 P1 vs hv => ⟨s1, ds, hv, P1.want⟩⟩) fun us s1 ⟨vs, H1, I1, r, sm, ds, rd, q⟩ => ⟨I1.kIn, ?_⟩) he hpl
  exact run_fng Fg hr hgd hb tk I1 r rd (o.same sm).has q
theorem fe_call0 (Fg : FnG X.prog X.w X.K X.mg X.base k f fd ps F) (hr : Room k X.A) (hgd : X.A.guards = some []) (hg : Gl X x) (hm : X.mg x = some (.ref f)) (hk : PySem.W.keepIn X.K (.ref f) = true) (hb : Binds X.K fd ps []) (tk : Takes X W)
    (hdb : (x == ("__debug__" : Str)) = false := by decide) : FE X W (.Call (.Name x p) [] [] pos) (cCallF F fun _ => .ok []) := by
  refine ⟨fun pins s σ H Q I ⟨H0, A0, A, ρ, o, P⟩ => ?_⟩
  refine wpAny_Call_Name_kw (ld_glob I hg hm ?_ hdb)
  exact PySem.W.callWith_K0 I.kIn hk (run_fng (us := []) (vs := []) (ds := []) Fg hr hgd hb tk I .nil .nil o.has (Post.want P))
end
end G

namespace G
open PySem PySem.Spec PyProof.Rows L2

/-! ### the law's script -/
def cLenS (i : Nat) : En → R D := fun ρ => match ρ[i]? with
  | some (some (.sc ns)) => .ok (.int ns.length)
  | _ => .no
def cIxS (i : Nat) (g : En → R D) : En → R D := fun ρ => match ρ[i]? with
  | some (some (.sc ns)) => (g ρ).bind fun d => ofO ((toI d).bind fun k => (atI ns k).map .int)
  | _ => .no
def cCallS (i : Nat) (F : List Int → R D) : En → R D := fun ρ => match ρ[i]? with
  | some (some (.sc ns)) => F ns
  | _ => .no
theorem atI_map {α β : Type} {f : α → β} {xs : List α} {k : Int} {y : α} (h : atI xs k = some y) : atI (xs.map f) k = some (f y) := by
  unfold atI at h ⊢
  obtain ⟨j, h1, h2⟩ := Option.bind_eq_some_iff.mp h
  rw [List.length_map, h1, Option.bind_some, List.getElem?_map, h2]
  rfl
section
variable {X : Cx} {W : WX} {x y : Str} {i : Nat} {p q pos : Pos} {b : Expr} {g : En → R D}
theorem fe_lenS (hx : PE X (.Name x q) (tVar i)) (hg : Gl X "len") (hm : X.mg "len" = none) (he : starEach [.Name x q] X.env = (false, eval (.Name x q) X.env) :: starEach [] X.env := by rfl) (hpl : (backTo pos (starEach [] X.env)).any (·.1) = false := by rfl) :
    FE X W (.Call (.Name "len" p) [.Name x q] [] pos) (cLenS i) := impE (pe_callB call_len_seq hg hm PySem.boot_len (pa_cons hx pa_nil) (by decide) (by decide) he hpl) fun σ H Q ⟨H0, A0, A, ρ, o, P⟩ => by
  unfold cLenS at P
  split at P
  · rename_i ns e
    obtain ⟨v, h1, a, e2, h2⟩ := o.slot i _ e
    subst e2
    refine ⟨_, h1, a, ns.map V.int, rfl, .inl h2.sq, ?_⟩
    rw [List.length_map]
    exact Post.at (P := fun d H' => ∀ v, Rep X.K H' A v d → Q v H') P _ (.int _)
  · exact P.elim
theorem fe_ixS (hx : PE X (.Name x q) (tVar i)) (hb : FE X W b g) (hs : PlainIx b) : FE X W (.Subscript (.Name x q) b pos) (cIxS i g) := impE (pe_ix ix_list hx hb hs) fun σ H Q ⟨H0, A0, A, ρ, o, P⟩ => by
  unfold cIxS at P
  split at P
  · rename_i ns e
    obtain ⟨v, h1, a, e2, h2⟩ := o.slot i _ e
    subst e2
    refine ⟨_, h1, H0, A0, A, ρ, o, P.bind.mono fun d2 H2 s2 P2 y hy => ?_⟩
    obtain ⟨d, e3, P3⟩ := P2.ofO
    obtain ⟨k, e4, e5⟩ := Option.bind_eq_some_iff.mp e3
    obtain ⟨z, e6, e7⟩ := Option.map_eq_some_iff.mp e5
    subst e7
    have e8 : d2 = .int k := by
      cases d2 <;> simp [toI] at e4
      rw [e4]
    subst e8
    obtain rfl := (RepB.of hy).int
    exact ⟨a, ns.map V.int, k, .int z, rfl, rfl, (h2.tr (Tr.same s2)).sq, atI_map e6, P3 H2 (Same.refl _) _ (.int z)⟩
  · exact P.elim
end
/-- a def whose one argument is the script -/
structure FnS (P : Program) (w : World) (K : Frg) (mg : MgT) (base : Heap) (k : Nat) (f : Addr) (fd : FuncData) (x : Str) (F : List Int → R D) : Prop where
  run : ∀ (A : Around) (outer : List Env) (s : Shared) (H : Hp) (args : Args) (u : Value) (a : Addr) (ns : List Int) (Av : List Addr) (Q : VK) (E : XK), Room k A → A.guards = some [] → Env0 P w K mg base A outer s H →
    BindsTo s fd args [(x, u)] → RelV (.ref a) u → LRep K H Av a (ns.map V.int) → (∀ a ∈ Av, H a ≠ none) → Want K mg H Av Q E (F ns) → codeAny (model P w) A (.call (.ref f) args) (CR (L2.CX P w) outer P w H s Q E) s
def runS (n : Nat) (g : En → SR) (ns : List Int) : R D := (g (some (.sc ns) :: List.replicate (n - 1) none)).out
theorem fns_of {P : Program} {w : World} {K : Frg} {mg : MgT} {base : Heap} {k n : Nat} {f : Addr} {name qual x : Str} {params : Arguments} {body : List Stmt} {scope : Scope} {dV kV doc pm cdv ct oc : Value} {an od : Option Addr}
    {osl : Array (Option Value)} {N : List Str} {g : En → SR} (lk : K.lookup f = some ⟨oc, od, .func (PySem.W.fnOf name qual params body scope dV kV doc pm an cdv ct), osl⟩) (hcd : PySem.W.codeIn K cdv qual = true) (S : FnScope N [x] scope)
    (hn : N.length = n)
    (hbody : ∀ (A : Around) (outer : List Env) (s : Shared) (H : Hp) (E : XK), Room k (A.deeper (envOfC qual scope s.heap.objs.size f cdv)) → A.guards = some [] → FSs (bx P w K mg base N qual scope f cdv A outer s H E) (wE E) body g) :
    FnS P w K mg base (k + 1) f (PySem.W.fnOf name qual params body scope dV kV doc pm an cdv ct) x (runS n g) := by
  refine ⟨fun A outer s H args u a ns Av Q E hr hg e0 hb r rd ha hsp => ?_⟩
  have KX : K.In s.heap := e0.mod.kin.keeps fun b o e => (e0.bs b o e).1
  have lim : s.heap.NoLimit := e0.mod.nolimit.keeps fun b o e => (e0.bs b o e).1
  have hkind : ∀ y ∈ [(x, u)], scope.names.lookup y.1 = some .local ∨ (scope.names.lookup y.1 = some .cell ∧ ((cellsFrom (s.heap.objs.size + 1) scope.names []).lookup y.1).isSome = true) := fun y hy => by
    obtain rfl := List.mem_singleton.mp hy
    rcases S.par x List.mem_cons_self with q | q
    · exact .inl q
    · exact .inr ⟨q, PySem.W.cellsFrom_some _ _ _ (.inl q)⟩
  refine codeAny_call_function hr.depth (KX _ _ lk) rfl S.co S.gen rfl (PySem.W.codeRec_of KX hcd) (hb _ _ _ _ ?_)
  refine wpAny_newFunctionEnv_cells S.kind hkind fun env he s1 y => ?_
  subst he
  refine ⟨lim.keeps y.toInCall.keep, codeAny_func ?_⟩
  have I : Inv (bx P w K mg base N qual scope f cdv A outer s H E) [] (L2.start N [.ref a]) H s1 := inv_start (ps := [x]) (us := [u]) S hr.hd e0 rfl (.cons r .nil) y
  have hpn : 1 ≤ n := by
    have := congrArg List.length S.pre
    rw [List.length_take] at this
    have h1 : [x].length = 1 := rfl
    omega
  have o : Ok K H Av Av (some (.sc ns) :: List.replicate (n - 1) none) (L2.start N [.ref a]) H := {
    len := by
      unfold L2.start
      simp only [List.length_append, List.length_map, List.length_replicate, List.length_cons, List.length_nil, hn]
      omega
    ext := Same.refl H
    sub := fun _ h => h
    new := fun _ h => .inl h
    has := ha
    slot := fun i s h => by
      cases i with
      | zero =>
        cases h
        exact ⟨.ref a, rfl, a, rfl, rd⟩
      | succ i =>
        rw [List.getElem?_cons_succ, List.getElem?_replicate] at h
        split at h <;> cases h
    dis := fun i j b t t' d d' ne h1 h2 h3 => by
      cases i with
      | zero => cases h1
      | succ i =>
        rw [List.getElem?_cons_succ, List.getElem?_replicate] at h1
        split at h1 <;> cases h1 }
  refine wpAny_mono ((hbody A outer s H E (hr.deeper _) hg).run [] s1 (L2.start N [.ref a]) H _ I ⟨H, Av, Av, _, o, want_out hsp⟩) (fun fl s' hs => ?_) fun e s' hs => hs
  have fin : ∀ {σ' : St} {H' : Hp} {v : V} {u : Value}, Inv (bx P w K mg base N qual scope f cdv A outer s H E) [] σ' H' s' → RelV v u → Q v H' → CE outer P w H s Q u s' :=
    fun {σ' H' v u} J rv q => ⟨v, H', J.os, J.bare, J.base, J.hok, rv, q⟩
  cases fl with
  | ret u =>
    obtain ⟨v, σ', H', J, rv, q⟩ := hs
    exact fin J rv q
  | next =>
    obtain ⟨σ', H', J, q⟩ := hs
    exact fin (v := V.non) (u := Value.none) J rfl q
  | brk =>
    obtain ⟨_, _, _, q⟩ := hs
    exact False.elim q
  | cont =>
    obtain ⟨_, _, _, q⟩ := hs
    exact False.elim q
section
variable {X : Cx} {W : WX} {k i : Nat} {f : Addr} {fd : FuncData} {F : List Int → R D} {x y : Str} {p q pos : Pos}
theorem fe_callS (Fg : FnS X.prog X.w X.K X.mg X.base k f fd y F) (hr : Room k X.A) (hgd : X.A.guards = some []) (hg : Gl X x) (hm : X.mg x = some (.ref f)) (hk : PySem.W.keepIn X.K (.ref f) = true) (hb : Binds X.K fd [y] []) (tk : Takes X W) {z : Str}
    (hx : PE X (.Name z q) (tVar i)) (hdb : (x == ("__debug__" : Str)) = false := by decide) (he : starEach [.Name z q] X.env = (false, eval (.Name z q) X.env) :: starEach [] X.env := by rfl) (hpl : (backTo pos (starEach [] X.env)).any (·.1) = false := by rfl) :
    FE X W (.Call (.Name x p) [.Name z q] [] pos) (cCallS i F) := by
  refine ⟨fun pins s σ H Q I ⟨H0, A0, A, ρ, o, P⟩ => ?_⟩
  unfold cCallS at P
  split at P
  · rename_i ns e
    obtain ⟨v, h1, a, e2, h2⟩ := o.slot i _ e
    subst e2
    refine wpAny_Call_Name_kw (ld_glob I hg hm ?_ hdb)
    refine PySem.W.callWith_K (h₀ := X.base) I.ok.mod.kin hk (thn ((pa_cons hx pa_nil he).run pos pins s σ H (fun vs H1 => vs = [V.ref a] ∧ H = H1) I ⟨.ref a, h1, rfl, rfl⟩) fun us s1 ⟨vs, H1, I1, r, ev, eH⟩ => ⟨I1.kIn, ?_⟩) he hpl
    subst ev
    subst eH
    cases r with
    | cons ru rn =>
      cases rn
      rename_i u _
      have b := hb s1 [u] I1.kIn rfl
      refine wpAny_call (codeAny_mono (Fg.run X.A X.stack s1 H ⟨[u], []⟩ u a ns A Q (WE W σ) hr hgd I1.env0 b ru h2 o.has (Post.want P)) fun r s' hq => ?_)
      cases r with
      | error e => exact passAt tk σ pins H s1 e s' I1 hq
      | ok fl =>
        cases fl with
        | ret u => exact I1.after hq
        | next => exact False.elim hq
        | brk => exact False.elim hq
        | cont => exact False.elim hq
  · exact P.elim
end

/-! ### names of the module -/
def GInt (mg : MgT) (x : Str) (i : Int) : Prop := ∃ t, mg x = some (.int i t)
def GTup (K : Frg) (mg : MgT) (x : Str) (ds : List D) : Prop := ∃ a vs, mg x = some (.ref a) ∧ TupK K a vs ∧ ∀ H A, RepL K H A vs ds
section
variable {X : Cx} {W : WX} {x : Str} {pos : Pos}
theorem fe_gint {i : Int} (h : GInt X.mg x i) (hg : Gl X x) (hd : (x == ("__debug__" : Str)) = false := by decide) : FE X W (.Name x pos) (cK (.int i)) := by
  obtain ⟨t, h⟩ := h
  exact fe_k (pe_glob (v := .int i) hg h ⟨t, rfl⟩ hd) fun _ _ => .int i
theorem fb_gtup {ds : List D} (h : GTup X.K X.mg x ds) (hg : Gl X x) (hd : (x == ("__debug__" : Str)) = false := by decide) : FB X W (.Name x pos) (cK (.tuple ds)) := by
  obtain ⟨a, vs, h, ht, r⟩ := h
  exact impE (pe_glob (v := .ref a) hg h rfl hd) fun σ H Q ⟨H0, A0, A, ρ, o, P⟩ => Post.at (P := fun d H' => ∀ v, RepB X.K H' A v d → Q v H') P _ (.inr (.inr ⟨a, vs, ds, rfl, rfl, ht, r H A⟩))
end
/-- a def that may be called by its name -/
def CallG (P : Program) (w : World) (K : Frg) (mg : MgT) (base : Heap) (k : Nat) (x : Str) (F : List D → R D) : Prop :=
  ∃ f fd ps, FnG P w K mg base k f fd ps F ∧ mg x = some (.ref f) ∧ PySem.W.keepIn K (.ref f) = true ∧ Binds K fd ps []
def CallS (P : Program) (w : World) (K : Frg) (mg : MgT) (base : Heap) (k : Nat) (x : Str) (F : List Int → R D) : Prop :=
  ∃ f fd p, FnS P w K mg base k f fd p F ∧ mg x = some (.ref f) ∧ PySem.W.keepIn K (.ref f) = true ∧ Binds K fd [p] []
/-- a def of the text -/
def DefG (K : Frg) (mg : MgT) (x : Str) (st : Stmt) (ps : List Str) : Prop := ∃ f fd, Fun K x x st f fd ∧ mg x = some (.ref f) ∧ Binds K fd ps []
section
variable {P : Program} {w : World} {K : Frg} {mg : MgT} {base : Heap} {k j n p : Nat} {x y : Str} {F : List D → R D} {st : Stmt} {N ps : List Str} {g : En → SR}
theorem CallG.mono (h : CallG P w K mg base j x F) (l : j ≤ k) : CallG P w K mg base k x F := by
  obtain ⟨f, fd, ps, h1, h2⟩ := h
  exact ⟨f, fd, ps, h1.mono l, h2⟩
theorem DefG.call (h : DefG K mg x st ps) (S : FnScope N ps (defScope st)) (hn : N.length = n) (hp : ps.length = p)
    (hbody : ∀ (f : Addr) (cdv : Value) (A : Around) (outer : List Env) (s : Shared) (H : Hp) (E : XK), Room k (A.deeper (envOfC x (defScope st) s.heap.objs.size f cdv)) → A.guards = some [] → FSs (bx P w K mg base N x (defScope st) f cdv A outer s H E) (wE E) (defBody st) g) :
    CallG P w K mg base (k + 1) x (runF n p g) := by
  obtain ⟨f, fd, F, hm, hb⟩ := h
  obtain ⟨oc, od, kV, doc, pm, an, cdv, ct, osl, rfl, lk, hcd⟩ := F.ex
  exact ⟨f, _, ps, fng_of lk hcd S hn hp fun A outer s H E hr hg => hbody f cdv A outer s H E hr hg, hm, F.kp, hb⟩
theorem DefG.callS (h : DefG K mg x st [y]) (S : FnScope N [y] (defScope st)) (hn : N.length = n)
    (hbody : ∀ (f : Addr) (cdv : Value) (A : Around) (outer : List Env) (s : Shared) (H : Hp) (E : XK), Room k (A.deeper (envOfC x (defScope st) s.heap.objs.size f cdv)) → A.guards = some [] → FSs (bx P w K mg base N x (defScope st) f cdv A outer s H E) (wE E) (defBody st) g) :
    CallS P w K mg base (k + 1) x (runS n g) := by
  obtain ⟨f, fd, F, hm, hb⟩ := h
  obtain ⟨oc, od, kV, doc, pm, an, cdv, ct, osl, rfl, lk, hcd⟩ := F.ex
  exact ⟨f, _, y, fns_of lk hcd S hn fun A outer s H E hr hg => hbody f cdv A outer s H E hr hg, hm, F.kp, hb⟩
end
section
variable {X : Cx} {W : WX} {k i : Nat} {F : List D → R D} {F1 : List Int → R D} {x z : Str} {p q pos : Pos} {e : Expr} {es : List Expr} {l : En → R (List D)}
theorem fe_cl (c : CallG X.prog X.w X.K X.mg X.base k x F) (hr : Room k X.A) (hgd : X.A.guards = some []) (tk : Takes X W) (hg : Gl X x) (ha : FA X W (e :: es) l) (hdb : (x == ("__debug__" : Str)) = false := by decide)
    (he : starEach (e :: es) X.env = (false, eval e X.env) :: starEach es X.env := by rfl) (hpl : (backTo pos (starEach es X.env)).any (·.1) = false := by rfl) :
    FE X W (.Call (.Name x p) (e :: es) [] pos) (cCallF F l) := by
  obtain ⟨f, fd, ps, h1, h2, h3, h4⟩ := c
  exact fe_call h1 hr hgd hg h2 h3 h4 tk ha hdb he hpl
theorem fe_cl0 (c : CallG X.prog X.w X.K X.mg X.base k x F) (hr : Room k X.A) (hgd : X.A.guards = some []) (tk : Takes X W) (hg : Gl X x) (hdb : (x == ("__debug__" : Str)) = false := by decide) :
    FE X W (.Call (.Name x p) [] [] pos) (cCallF F fun _ => .ok []) := by
  obtain ⟨f, fd, ps, h1, h2, h3, h4⟩ := c
  exact fe_call0 h1 hr hgd hg h2 h3 h4 tk hdb
theorem fe_clS (c : CallS X.prog X.w X.K X.mg X.base k x F1) (hr : Room k X.A) (hgd : X.A.guards = some []) (tk : Takes X W) (hg : Gl X x) (hx : PE X (.Name z q) (tVar i)) (hdb : (x == ("__debug__" : Str)) = false := by decide)
    (he : starEach [.Name z q] X.env = (false, eval (.Name z q) X.env) :: starEach [] X.env := by rfl) (hpl : (backTo pos (starEach [] X.env)).any (·.1) = false := by rfl) :
    FE X W (.Call (.Name x p) [.Name z q] [] pos) (cCallS i F1) := by
  obtain ⟨f, fd, y, h1, h2, h3, h4⟩ := c
  exact fe_callS h1 hr hgd hg h2 h3 h4 tk hx hdb he hpl
end
end G

namespace G
open PySem PySem.Spec PyProof.Rows L2
theorem units65 {k : Nat} {A : Around} (r : Room k A) : A.units + 65 < cLine := by
  have := r.un
  omega

/-! ### powers -/
def dPow : D → D → Option D
  | .int a, .int b => if 0 ≤ b ∧ b ≤ 1000000 ∧ a.natAbs < 2 ^ 64 then some (.int (a ^ b.toNat)) else none
  | _, _ => none
section
variable {X : Cx} {W : WX} {a b c e : Expr} {es : List Expr} {f g : En → R D} {l : En → R (List D)} {p q p1 p2 pos : Pos} {x : Str}
theorem do_pow : DOp X (binaryOp .Pow) dPow := by
  refine ⟨_, op_pow, fun H A x y d1 d2 d Q ha hx hy e q => ?_⟩
  unfold dPow at e
  split at e
  · split at e
    · rename_i h
      cases e
      obtain rfl := hx.int
      obtain rfl := hy.int
      exact ⟨_, _, rfl, rfl, h, q _ H (Same.refl H) (.int _)⟩
    · cases e
  · cases e

/-! ### min, max of two -/
def dMax2 : List D → Option D
  | [.int a, .int b] => some (.int (max a b))
  | _ => none
def dMin2 : List D → Option D
  | [.int a, .int b] => some (.int (min a b))
  | _ => none
theorem dc_max2 (hc : X.calm = true) : DCall X (.builtin "max") dMax2 := by
  refine ⟨_, call_max2 hc, fun H A vs ds d Q ha hv e q => ?_⟩
  unfold dMax2 at e
  split at e
  · cases e
    obtain ⟨v, v2, rfl, h1, h2⟩ := pair2 hv
    obtain rfl := h1.int
    obtain rfl := h2.int
    refine ⟨_, _, rfl, ?_⟩
    rename_i a b
    have e : (if b > a then b else a) = max a b := by split <;> omega
    rw [e]
    exact q _ H (Same.refl H) (.int _)
  · cases e
theorem dc_min2 (hc : X.calm = true) : DCall X (.builtin "min") dMin2 := by
  refine ⟨_, call_min2 hc, fun H A vs ds d Q ha hv e q => ?_⟩
  unfold dMin2 at e
  split at e
  · cases e
    obtain ⟨v, v2, rfl, h1, h2⟩ := pair2 hv
    obtain rfl := h1.int
    obtain rfl := h2.int
    refine ⟨_, _, rfl, ?_⟩
    rename_i a b
    have e : (if b < a then b else a) = min a b := by split <;> omega
    rw [e]
    exact q _ H (Same.refl H) (.int _)
  · cases e

/-! ### ints in order -/
def insI (a : Int) : List Int → List Int
  | [] => [a]
  | b :: r => if a ≤ b then a :: b :: r else b :: insI a r
def srtI : List Int → List Int
  | [] => []
  | a :: r => insI a (srtI r)
theorem insI_perm (a : Int) : ∀ r : List Int, (insI a r).Perm (a :: r)
  | [] => .refl _
  | b :: r => by
    unfold insI
    split
    · exact .refl _
    · exact ((insI_perm a r).cons b).trans (.swap a b r)
theorem srtI_perm : ∀ l : List Int, (srtI l).Perm l
  | [] => .refl _
  | a :: r => (insI_perm a (srtI r)).trans ((srtI_perm r).cons a)
theorem insI_sorted {a : Int} : ∀ {r : List Int}, r.Pairwise (· ≤ ·) → (insI a r).Pairwise (· ≤ ·)
  | [], _ => List.pairwise_singleton _ _
  | b :: r, h => by
    rw [List.pairwise_cons] at h
    unfold insI
    split
    · rename_i hab
      refine List.pairwise_cons.mpr ⟨fun y hy => ?_, List.pairwise_cons.mpr h⟩
      rcases List.mem_cons.mp hy with rfl | hy
      · exact hab
      · exact Int.le_trans hab (h.1 y hy)
    · refine List.pairwise_cons.mpr ⟨fun y hy => ?_, insI_sorted h.2⟩
      rcases List.mem_cons.mp ((insI_perm a r).mem_iff.mp hy) with rfl | hy
      · omega
      · exact h.1 y hy
theorem srtI_sorted : ∀ l : List Int, (srtI l).Pairwise (· ≤ ·)
  | [] => .nil
  | a :: r => insI_sorted (srtI_sorted r)
theorem sorted_uniq : ∀ {l m : List Int}, l.Perm m → l.Pairwise (· ≤ ·) → m.Pairwise (· ≤ ·) → l = m
  | [], m, p, _, _ => by rw [List.nil_perm.mp p]
  | a :: l, [], p, _, _ => absurd p.length_eq (by simp)
  | a :: l, b :: m, p, h1, h2 => by
    rw [List.pairwise_cons] at h1 h2
    have hab : a = b := by
      have ha : a ∈ b :: m := p.mem_iff.mp List.mem_cons_self
      have hb : b ∈ a :: l := p.mem_iff.mpr List.mem_cons_self
      rcases List.mem_cons.mp ha with e | ha
      · exact e
      · rcases List.mem_cons.mp hb with e | hb
        · exact e.symm
        · exact Int.le_antisymm (h1.1 b hb) (h2.1 a ha)
    subst hab
    rw [sorted_uniq p.cons_inv h1.2 h2.2]
theorem srtI_eq {l m : List Int} (p : m.Perm l) (h : m.Pairwise (· ≤ ·)) : m = srtI l := sorted_uniq (p.trans (srtI_perm l).symm) h (srtI_sorted l)
theorem ints_data {K : Frg} {H : Hp} {A : List Addr} : ∀ ns : List Int, RepL K H A (ns.map V.int) (ns.map PyData.int)
  | [] => .nil
  | n :: r => .cons (.int n) (ints_data r)
/-- the distinct ones -/
def nubI (l : List Int) : List Int := l.foldl (fun ks a => if ks.contains a then ks else ks ++ [a]) []
theorem nubI_oss (l : List Int) : nubI l = PySem.W.ossOf l := by
  unfold nubI PySem.W.ossOf
  congr 1
  funext ks a
  rw [PySem.W.oss_step]
  by_cases h : a ∈ ks <;> simp [h]
/-- sorted(xs) of ints -/
def dSorted : List D → Option D
  | [.list xs] => (intsOf xs).map fun ns => .list ((srtI ns).map .int)
  | _ => none
theorem dc_sorted : DCallN X (.builtin "sorted") dSorted := by
  refine ⟨_, cr_sortedI, fun H A vs ds d Q ha hv e q => ?_⟩
  unfold dSorted at e
  split at e
  · obtain ⟨ns, h1, h2⟩ := Option.map_eq_some_iff.mp e
    cases h2
    obtain ⟨v, rfl, h⟩ := pair1 hv
    obtain ⟨p, us, rfl, h3, r⟩ := h.lst
    obtain rfl := intsOf_rep r h1
    refine ⟨p, ns, rfl, SqL.of h3, fun ns' n h4 h5 hn => ?_⟩
    obtain rfl := srtI_eq h4 h5
    exact q _ _ (same_upd hn) ⟨n, rfl, hn, orep_lst hn (ints_data _)⟩
  · cases e
theorem fn_callB {id : String} {df : List D → Option D} (hc : DCallN X (.builtin id) df) (hg : Gl X x) (hm : X.mg x = none) (hv : bootBuiltins x = some (.builtin id)) (ha : FAB X W (e :: es) l) (hn : x ≠ "__name__" := by decide) (hdb : (x == ("__debug__" : Str)) = false := by decide)
    (he : starEach (e :: es) X.env = (false, eval e X.env) :: starEach es X.env := by rfl) (hpl : (backTo pos (starEach es X.env)).any (·.1) = false := by rfl) : FN X W false (.Call (.Name x p1) (e :: es) [] pos) (cCall df l) := by
  obtain ⟨r, hr, hs⟩ := hc
  refine impE (pe_callB hr hg hm hv ha hn hdb he hpl) fun σ H Q ⟨H0, A0, A, ρ, o, P⟩ => ?_
  refine ⟨H0, A0, A, ρ, o, P.bind.mono fun ds H1 s1 P1 vs hvs => ?_⟩
  obtain ⟨d, e, P2⟩ := P1.ofO
  refine hs H1 A vs ds d Q (o.same s1).has hvs e fun v H' s hv => P2 H' s v ?_
  obtain ⟨p, e, n, r⟩ := hv
  exact ⟨p, e, s1.free n, r⟩
/-- set(t), t a tuple of ints -/
def rSetT (K : Frg) (w : World) : List V → Hp → VK → Prop := fun xs H Q => ∃ (l : Addr) (ns : List Int), xs = [.ref l] ∧ SqT K H l (ns.map V.int) ∧ ns.length ≤ 1000 ∧
  ∀ p n, H p = none → n ≤ ns.length → Q (.ref p) (upd H p (SetO w p (fun k => decide (k ∈ ns)) n))
theorem cr_setT (hc : X.calm = true) : CallR X (.type "set") (rSetT X.K X.w) := by
  intro pins s σ H xs us Q I r h
  obtain ⟨l, ns, rfl, hq, hl, q⟩ := h
  rw [Vals.ref1 r]
  obtain ⟨its, rv, pt, hz⟩ := I.tuple hq
  have hi : IntsAre its.toArray.toList ns := by simpa using RZ.intsAre_vals rv
  refine call_set_tupI ns (I.ok.hd hc) (show s.heap.IsTuple l its.toArray from pt) hi (by unfold scanBound; omega) fun h' tk c R1 hcn k => ?_
  exact ⟨.ref s.heap.objs.size, _, I.laid k (Nat.le_refl _) (setO_new R1), rfl, q _ c I.fresh hcn⟩
/-- sorted(set(t)) -/
def dSortSet : D → Option D
  | .tuple xs => (intsOf xs).bind fun ns => if ns.length < 64 then some (.list ((srtI (nubI ns)).map .int)) else none
  | _ => none
theorem strict_le {l : List Int} (h : l.Pairwise (· < ·)) : l.Pairwise (· ≤ ·) := h.imp fun h => Int.le_of_lt h
theorem nodup_strict {l : List Int} (h : l.Pairwise (· < ·)) : l.Nodup := h.imp fun h => Int.ne_of_lt h
theorem nubI_mem {l : List Int} {x : Int} : x ∈ nubI l ↔ x ∈ l := by
  rw [nubI_oss]
  exact PySem.W.oss_has
theorem nubI_nodup (l : List Int) : (nubI l).Nodup := by
  unfold nubI
  have : ∀ (l ks : List Int), ks.Nodup → (l.foldl (fun ks a => if ks.contains a then ks else ks ++ [a]) ks).Nodup := by
    intro l
    induction l with
    | nil => exact fun ks h => h
    | cons a l ih =>
      intro ks h
      rw [List.foldl_cons]
      refine ih _ ?_
      split
      · exact h
      · rename_i hn
        refine List.nodup_append.mpr ⟨h, by simp, fun x hx y hy z => ?_⟩
        simp at hy
        subst hy
        subst z
        exact hn (by simpa using hx)
  exact this l [] .nil
theorem perm_nodup {l m : List Int} (h1 : l.Nodup) (h2 : m.Nodup) (h : ∀ x, x ∈ l ↔ x ∈ m) : l.Perm m := (List.perm_ext_iff_of_nodup h1 h2).mpr h
theorem fn_sortset {t : Bool} (hc : X.calm = true) (hg : Gl X "sorted") (hm : X.mg "sorted" = none) (hg2 : Gl X "set") (hm2 : X.mg "set" = none) (ha : FB X W a f) (he : starEach [a] X.env = (false, eval a X.env) :: starEach [] X.env := by rfl)
    (he2 : starEach [.Call (.Name "set" p2) [a] [] q] X.env = (false, eval (.Call (.Name "set" p2) [a] [] q) X.env) :: starEach [] X.env := by rfl) :
    FN X W t (.Call (.Name "sorted" p1) [.Call (.Name "set" p2) [a] [] q] [] pos) (cUn dSortSet f) := by
  refine impE (pe_callB (cr_sortedSet hc) hg hm PyProof.Rows.boot_sorted (pa_cons (pe_callTy (cr_setT hc) hg2 hm2 PyProof.Rows.boot_set (pa_cons ha pa_nil he) (by decide) (by decide) he) pa_nil he2) (by decide) (by decide) he2) fun σ H Q ⟨H0, A0, A, ρ, o, P⟩ => ?_
  refine ⟨H0, A0, A, ρ, o, P.bind.mono fun d H1 s1 P1 v hv => ?_⟩
  obtain ⟨d2, e, P2⟩ := P1.ofO
  unfold dSortSet at e
  split at e
  · obtain ⟨ns, h1, h2⟩ := Option.bind_eq_some_iff.mp e
    split at h2
    · rename_i hl
      cases h2
      obtain ⟨p, us, rfl, h3, r⟩ := hv.tup
      obtain rfl := intsOf_rep r h1
      refine ⟨p, ns, rfl, h3, by omega, fun p' n hn hle => ⟨p', _, n, rfl, upd_same, by omega, fun ns' p'' k1 k2 k3 k4 => ?_⟩⟩
      have e1 : ns' = srtI (nubI ns) := srtI_eq (perm_nodup (nodup_strict k1) (nubI_nodup ns) fun x => by rw [k2 x, decide_eq_true_iff, nubI_mem]) (strict_le k1)
      subst e1
      have sm : Same H1 (upd H1 p' (SetO X.w p' (fun k => decide (k ∈ ns)) n)) := same_upd hn
      exact P2 _ (sm.trans (same_upd k4)) _ ⟨p'', rfl, s1.free (sm.free k4), orep_lst k4 (ints_data _)⟩
    · cases h2
  · cases e
/-- len(set(xs)) -/
def dLenSet : D → Option D
  | .list xs => (intsOf xs).bind fun ns => if ns.length ≤ 1000 then some (.int (nubI ns).length) else none
  | _ => none
theorem fe_lenset (hc : X.calm = true) (hg : Gl X "len") (hm : X.mg "len" = none) (hg2 : Gl X "set") (hm2 : X.mg "set" = none) (ha : FB X W a f) (na : starEach [a] X.env = (false, eval a X.env) :: starEach [] X.env := by rfl) :
    FE X W (.Call (.Name "len" p1) [.Call (.Name "set" p2) [a] [] q] [] pos) (cUn dLenSet f) := by
  refine ⟨fun pins s σ H Q I ⟨H0, A0, A, ρ, o, P⟩ => ?_⟩
  refine Call_ (ld_blt I hg hm PySem.boot_len (PyProof.Rows.callWith_builtin1 (PyProof.Rows.args_cons (Call_ (ld_blt I hg2 hm2 PyProof.Rows.boot_set ?_)) rfl) rfl rfl))
  refine PyProof.Rows.callWith_type1 (PyProof.Rows.args_cons (thn (ha.run pins s σ H (fun x H1 => ∃ l ns, x = V.ref l ∧ SqL X.K H1 l (ns.map V.int) ∧ ns.length ≤ 1000 ∧ Q (.int (nubI ns).length) H1) I ⟨H0, A0, A, ρ, o, P.bind.mono fun d H1 s1 P1 v hv => ?_⟩) fun v s1 ⟨x, H1, I1, r1, q1⟩ => PyProof.Rows.args_nil ?_) na) na rfl
  · obtain ⟨d2, e, P2⟩ := P1.ofO
    unfold dLenSet at e
    split at e
    · obtain ⟨ns, h1, h2⟩ := Option.bind_eq_some_iff.mp e
      split at h2
      · rename_i hl
        cases h2
        obtain ⟨p, us, rfl, h3, r⟩ := hv.lst
        obtain rfl := intsOf_rep r h1
        exact ⟨p, ns, rfl, SqL.of h3, hl, P2 H1 (Same.refl _) _ (.int _)⟩
      · cases h2
    · cases e
  · obtain ⟨p, ns, rfl, hs, hl, q1⟩ := q1
    cases r1
    obtain ⟨its, r, pl, hz⟩ := I1.list hs
    have e1 : its.toArray.size = ns.length := by rw [List.size_toArray, ← r.length, List.length_map]
    refine call_set_list (I1.ok.hd hc) pl.isList (ns := ns) (by simpa using r.ints) (by unfold scanBound; omega) fun h' tk hS hk => ?_
    rw [e1, PySem.W.oss_met, ← nubI_oss] at hS
    refine PyProof.Rows.args_nil ?_
    obtain ⟨o, es, ep, t, ho, hex, hd, _, _, _, hf, hn⟩ := hS
    have I2 : Inv X pins σ H1 { s1 with heap := h', toks := tk } := I1.kept fun b o e => hk b o (Heap.lt_size e) e
    have hb : (nubI ns).length ≤ ns.length := by rw [nubI_oss]; exact PySem.W.oss_len ns
    exact call_len_set ho hex hd hf (by rw [hn]; omega) ⟨.int (nubI ns).length, H1, I2.tok _, ⟨_, by rw [hn]⟩, q1⟩
/-- list(range(n)) -/
def dListRange (o : Option (List D)) : Option D := o.map .list
/-- x.index(y), x a list -/
def idxD (d : D) : List D → Option Nat
  | [] => none
  | z :: r => if PyData.eqv z d = true then some 0 else (idxD d r).map (· + 1)
theorem idxD_some {d : D} : ∀ {ds : List D} {j : Nat}, idxD d ds = some j → ∃ z, ds[j]? = some z ∧ PyData.eqv z d = true ∧ ∀ (m : Nat) (z' : D), m < j → ds[m]? = some z' → PyData.eqv z' d = false
  | [], j, h => by cases h
  | z :: r, j, h => by
    unfold idxD at h
    split at h
    · rename_i hz
      cases h
      exact ⟨z, rfl, hz, fun m z' hm => absurd hm (Nat.not_lt_zero _)⟩
    · rename_i hz
      obtain ⟨i, h1, h2⟩ := Option.map_eq_some_iff.mp h
      subst h2
      obtain ⟨z', h3, h4, h5⟩ := idxD_some h1
      refine ⟨z', by simpa using h3, h4, fun m z2 hm h6 => ?_⟩
      cases m with
      | zero => simp at h6; subst h6; exact Bool.eq_false_iff.mpr hz
      | succ m => exact h5 m z2 (by omega) (by simpa using h6)
def dIndex (ds : List D) (d : D) : Option D := if SeqAt.shaped (.list ds) = true ∧ SeqAt.shaped d = true then (idxD d ds).map fun (j : Nat) => .int j else none
def cIndex (f g : En → R D) : En → R D := fun ρ => (f ρ).bind fun x => match x with
  | .list ds => (g ρ).bind fun d => ofO (dIndex ds d)
  | _ => .no
theorem fe_index {apos cpos : Pos} (hu : X.A.units + 65 < cLine) (ha : FB X W a f) (hb : FE X W b g) (hbase : attributeBase a "index" X.env (eval a X.env) = eval a X.env := by rfl)
    (hfew : ((backTo cpos (starEach (b :: []) X.env)).all (fun x => !x.1) && (backToKw cpos (keywordEach [] X.env)).all (fun x => x.1.isSome)
      && decide ((b :: []).length + ([] : List Keyword).length + (if ([] : List Keyword).isEmpty then 0 else 1) < 30)) = true := by rfl)
    (hline : (apos.endLine == cpos.line) = true := by rfl) (hs : starEach (b :: []) X.env = (false, eval b X.env) :: starEach [] X.env := by rfl) (hplain : (backTo cpos (starEach [] X.env)).any (·.1) = false := by rfl) :
    FE X W (.Call (.Attribute a "index" apos) [b] [] cpos) (cIndex f g) := by
  refine impE (pe_bm PySem.F.plainAttrs_list PySem.F.slot_list_index PySem.F.type_list_index (mt_indexD hu) ha (pa_cons hb pa_nil hs) hbase hfew hline hs hplain) fun σ H Q ⟨H0, A0, A, ρ, o, P⟩ => ?_
  refine ⟨H0, A0, A, ρ, o, P.bind.mono fun d1 H1 s1 P1 x hx => ?_⟩
  split at P1
  · rename_i ds
    obtain ⟨p, vs, rfl, h4, r⟩ := hx.lst
    refine ⟨Or.inl ⟨rfl, vs, SqL.of h4⟩, H0, A0, A, ρ, o.same s1, P1.bind.mono fun d2 H2 s2 P2 y hy => ?_⟩
    obtain ⟨d, e, P3⟩ := P2.ofO
    unfold dIndex at e
    split at e
    · rename_i hsh
      obtain ⟨j, e1, e2⟩ := Option.map_eq_some_iff.mp e
      cases e2
      obtain ⟨z, h1, h2, h3⟩ := idxD_some e1
      exact ⟨p, y, d2, _, j, z, rfl, rfl, (hx.same s2).dp hsh.1, (RepB.of hy).dp hsh.2, hsh.1, hsh.2, h1, h2, h3, P3 H2 (Same.refl _) _ (.int _)⟩
    · cases e
  · exact P1.elim
end
end G

set_option maxHeartbeats 2000000
/-! an own error: super().__init__(at); self.at = at -/
namespace PySem
namespace AeX
open PySem.W PySem.Calls PyProof.Rows PySem.HandSPX
def aA (p1 p2 : Pos) : Arguments := { posonlyargs := [], args := [{ arg := "self", annotation := none, pos := p1 }, { arg := "at", annotation := none, pos := p2 }], vararg := none, kwonlyargs := [], kw_defaults := [], kwarg := none, defaults := [] }
def aB (q0 q1 q2 q3 q4 q5 r1 r2 r3 r4 : Pos) : List Stmt := [.Expr (.Call (.Attribute (.Call (.Name "super" q0) [] [] q1) "__init__" q2) [.Name "at" q3] [] q4) q5, .Assign [.Attribute (.Name "self" r1) "at" r2] (.Name "at" r3) r4]
def aS : Scope := { kind := .function, names := [(PySem.Str.ofString "self", .local), (PySem.Str.ofString "at", .local), (PySem.Str.ofString "__class__", .free), (PySem.Str.ofString "super", .globalImplicit)], isGenerator := false, isCoroutine := false, more := [] }
/-- what the written part says of the error at C, of the base class at D and its __init__ at fI -/
structure Txt (P : Program) (K : Frag) (mg : Str → Option Value) (C D fI : Addr) : Prop where
  cls : ∃ nm q N bs bm sn sub ab col dd k0 k1 k2 k3 k5, K.lookup C = some (excClassObj nm q C N bs bm true sn sub ab col dd k0 k1 k2 k3 k5 "ValueError.__new__") ∧ refsVE bm = true
  sa : findIn K (.ref C) "__setattr__" = some (some (.builtin "object.__setattr__"))
  ga : findIn K (.ref C) "__getattribute__" = some (some (.builtin "BaseException.__getattribute__"))
  gg : findIn K (.ref C) "__getattr__" = some none
  noN : findIn K (.ref C) "at" = some none
  iC : findIn K (.ref C) "__init__" = some (some (.ref fI))
  tC : typeIn K (.ref fI) = some (.type "function")
  kC : keepIn K (.ref C) = true
  exC : subIn K (.ref C) (.type "BaseException") = some true
  tyC : typeIn K (.ref C) = some (.type "type")
  hdC : hasDictIn K C = true
  sup : ks_superIn K C D "__init__" = some (some (.builtin "ValueError.__init__"))
  isD : mroIn K C (.ref D) = some true
  veC : subIn K (.ref C) (.type "ValueError") = some true
  opq : nsIn K cStatics "thirdparty.any" = some none
  clD : ∃ cdD, clsIn K D = some cdD
  nsu : mg "super" = none
  top : (P.main.scope.names.lookup ("super" : Str)).isSome = false
  fn : ∃ (oc : Value) (od : Option Addr) (doc pm : Value) (an : Option Addr) (cda : Addr) (ct : Value) (osl : Array (Option Value)) (cc : Addr) (p1 p2 q0 q1 q2 q3 q4 q5 r1 r2 r3 r4 : Pos),
    K.lookup fI = some ⟨oc, od, .func (ksFn "__init__" "AuctionError.__init__" (aA p1 p2) (aB q0 q1 q2 q3 q4 q5 r1 r2 r3 r4) aS .none .none doc pm an (.ref cda) ct cc), osl⟩ ∧ codeIn K (.ref cda) "AuctionError.__init__" = true ∧
    (∀ env : Env, ∃ pl : Sem Bool, eval (.Call (.Attribute (.Call (.Name "super" q0) [] [] q1) "__init__" q2) [.Name "at" q3] [] q4) env = (do
      let ov ← attributeBase (.Call (.Name "super" q0) [] [] q1) "__init__" env (eval (.Call (.Name "super" q0) [] [] q1) env)
      standAt q2.atName
      let (f, first) ← holding [ov] (getMethod ov "__init__" pl)
      callWith q4 f first (backTo q4 (starEach [.Name "at" q3] env)) [])) ∧
    (∃ (ccl : Value) (cdd : Option Addr) (vs : Array Value) (ccs : Array (Option Value)) (file : Str) (tf : Tok), K.lookup cda = some ⟨ccl, cdd, .fields vs, ccs⟩ ∧ vs[2]? = some (.str file tf) ∧ ((P.main.file : Str) == file) = true) ∧
    ∃ (cl : Value) (cld : Option Addr) (csl : Array (Option Value)), K.lookup cc = some ⟨cl, cld, .cell (some (.ref D)), csl⟩
theorem ldF {M : Model} {A : Around} {E : Value → Shared → Prop} {s : Shared} {name : Str} {scope : Scope} {L a cc : Addr} {cd : Value} {m : Str → Option Value} {x : Str} {pos : Pos} {v : Value} {Q : Value → Shared → Prop} (hn : s.heap.Ns L m) (hv : m x = some v) (h : Q v s)
    (hk : scope.kind = .function := by rfl) (hl : (ksEnv name scope L a cd cc).kindOf x = some .local := by rfl) (hd : (x == ("__debug__" : Str)) = false := by decide) :
    wpAny M A (eval (.Name x pos) (ksEnv name scope L a cd cc)) Q E s := wpAny_Name (wpAny_loadName_local hk hl hn hv h) hd
/-- what __init__ leaves of a fresh error at x -/
structure InitEnd (h h' : Heap) (x C dx : Addr) (v : Value) : Prop where
  keep : ∀ b o, b ≠ x → h.get? b = some o → h'.get? b = some o
  obj : ∃ t1 : Addr, h'.get? x = some { cls := .ref C, dict := some dx, data := .fields #[.ref t1, .none, .none, .none, .bool false, .none] }
  dbig : h.objs.size ≤ dx
  dne : dx ≠ x
  ns : h'.Ns1 dx (fun y => if y = "at" then some v else none)
section
variable {prog : Program} {w : World} {A : Around} {E : Value → Shared → Prop} {R : Result → Shared → Prop} {K : Frag} {mg mb : Str → Option Value} {C D fI : Addr}
variable {nm q : Str} {N : Addr} {bs bm : List Value} {hdct : Bool} {sn : List Str} {sub : List Value} {ab : Bool} {col : Option Bool} {dd : Option Addr} {k0 k1 k2 k3 k5 : Option Value}
/-- the bound ValueError.__init__ is called -/
theorem call_mw {h : Heap} {g : Array GenState} {d : Drawn} {t : Nat} {os : OsState} {u e t0 : Addr} {rest : List Value} {Q : Value → Shared → Prop}
    (hC : h.get? C = some (excClassObj nm q C N bs bm hdct sn sub ab col dd k0 k1 k2 k3 k5 "ValueError.__new__")) (he : h.get? e = some (excO C t0)) (hu : h.get? u = some (kxs_mw "ValueError.__init__" e)) (hrest : rest.length ≤ sizeLine)
    (hq : ∀ h' t1, (∀ b o, b ≠ e → h.get? b = some o → h'.get? b = some o) → h'.get? e = some (excO C t1) → Q .none ⟨h', g, d, t, os⟩) :
    wpAny (model prog w) A (call (.ref u) rest) Q E ⟨h, g, d, t, os⟩ := by
  refine wpAny_call (codeAny_of_tree ?_)
  show wpAny _ A.in1 (callAny (.ref u) ⟨rest, []⟩) _ _ _
  simp only [callAny]
  refine wpAny_bind (wpAny_load hu ?_)
  simp only [kxs_mw, show (Value.type "method-wrapper" == Value.type "method" || Value.type "method-wrapper" == Value.type "builtin_function_or_method" || Value.type "method-wrapper" == Value.type "method-wrapper") = true by decide, if_true]
  refine W.KFB.if_so (by decide) ?_
  refine wpAny_bind (ESX.check_bound F.excBase_ValueError hC he rfl ?_)
  refine wpAny_bind (wpAny_pure (wpAny_pure ?_))
  refine ⟨Code.quiet_builtin _ (by decide +kernel), codeAny_builtin F.excBase_ValueError.initEntry ?_⟩
  rw [Around.under_plainId F.excBase_ValueError.init.plain _]
  wp_walk
  refine hq _ h.objs.size (fun b o hb ho => ?_) ?_
  · rw [Heap.get?_update_other _ _ (Ne.symm hb)]
    exact Heap.get?_push_of_some _ ho
  · rw [Heap.get?_update_self _ (Heap.get?_push_of_some _ he) rfl]
    rfl
theorem ae_init {s : Shared} (T : Txt prog K mg C D fI) {x t0 : Addr} {v : Value} (X : K.In s.heap) (hG : s.heap.Ns mainGlobals mg) (hB : s.heap.Ns builtinsNs mb) (hbb : ∀ x : Str, x ≠ "__name__" → mb x = bootBuiltins x) (hlim : s.heap.NoLimit) (hx : s.heap.get? x = some (excO C t0)) (hnx : K.lookup x = none) (hroom : A.depth < recursionLimit)
    (hq : ∀ h' tk dx, InitEnd s.heap h' x C dx v → R (.ok (.ret .none)) { s with heap := h', toks := tk }) :
    codeAny (model prog w) A (.call (.ref fI) ⟨[.ref x, v], []⟩) R s := by
  obtain ⟨oc, od, doc, pm, an, cda, ct, osl, cc, p1, p2, q0, q1, q2, q3, q4, q5, r1, r2, r3, r4, ho, hcd, hev, ⟨ccl, cdd, vs, ccs, file, tf, hcode, hvs, hfile⟩, ⟨cl, cld, csl, hcell⟩⟩ := T.fn
  obtain ⟨nm, q, N, bs, bm, sn, sub, ab, col, dd, k0, k1, k2, k3, k5, hC, hbm⟩ := T.cls
  obtain ⟨cdD, hD⟩ := T.clD
  have hcl : clsIn K C = some { name := nm, bases := bs, mro := .ref C :: bm, ns := N, qualname := q, hasDict := true, slotNames := sn, subclasses := sub, abstract := ab, collection := col, hasDel := false } := by unfold clsIn; rw [hC] <;> rfl
  refine ks_codeAny_call_defAt (binds := [("self", .ref x), ("at", v)]) hroom (X _ _ ho) rfl hlim (codeRec_of X hcd) rfl (BindsTo.of_eq (by first | rfl | with_unfolding_all rfl)) (show ∀ y ∈ aS.names, y.2 ≠ .cell by decide) (show ∀ y ∈ [(("self" : Str), Value.ref x), ("at", v)], aS.names.lookup y.1 = some .local from fun y hy => ?_) (fun h₁ hn k => ?_) rfl rfl rfl
  · rcases List.mem_cons.mp hy with rfl | hy
    · rfl
    · obtain rfl := List.mem_singleton.mp hy
      rfl
  have hxL : s.heap.objs.size ≠ x := Nat.ne_of_gt (Heap.lt_size hx)
  have X₁ : K.In h₁ := X.keeps k
  have hx₁ := k _ _ hx
  obtain ⟨oD, hD1, hD2⟩ : ∃ oD, h₁.get? D = some oD ∧ oD.data = .cls cdD := by
    unfold clsIn at hD
    split at hD
    · rename_i c d cd' sl ho
      cases hD
      exact ⟨_, X₁ _ _ ho, rfl⟩
    · cases hD
  have I₁ : InstAt h₁ x (excO C t0) C none := ⟨hx₁, rfl, rfl, trivial⟩
  obtain ⟨pl, he⟩ := hev (ksEnv "AuctionError.__init__" aS s.heap.objs.size fI (.ref cda) cc)
  refine ks_wpAt_execs_cons (ks_wpAt_Expr_any (ks_wpAt_MethodCall (pl := pl) ?_ he))
  -- super()
  refine ks_wpAt_super_base (env := ksEnv "AuctionError.__init__" aS s.heap.objs.size fI (.ref cda) cc) rfl rfl (by decide) rfl (X₁ _ _ ho) rfl rfl rfl (X₁ _ _ hcode) rfl hvs hfile T.top ?_
  refine ks_loadName_global rfl rfl (loadGlobal_builtin (env := ksEnv "AuctionError.__init__" aS s.heap.objs.size fI (.ref cda) cc) (hG.keeps k) T.nsu (hB.keeps k) ((hbb _ (by decide +kernel)).trans (by first | rfl | kernel_rfl)) ⟨rfl, ?_⟩)
  refine wpAny_loadName_free rfl rfl rfl ⟨_, X₁ _ _ hcell, rfl⟩ ?_
  refine wpAny_loadName_local rfl rfl hn (show _ = some (Value.ref x) from by first | rfl | with_unfolding_all rfl) ?_
  refine ks_wpAny_isType_cls hD1 hD2 ⟨rfl, ?_⟩
  refine ks_wpAny_call_super hD1 hD2 I₁.at_ I₁.cls (fun c e => ?_) (looks_mroIn X₁ T.isD) (fun h2 e2 k2 => ?_)
  · cases e
  -- .__init__
  have X₂ : K.In h2 := X₁.keeps k2
  have I₂ : InstAt h2 x (excO C t0) C none := ⟨k2 _ _ hx₁, rfl, rfl, trivial⟩
  have hm := T.sup
  unfold ks_superIn at hm
  rw [hcl] at hm
  refine kxs_getMethod kxs_ValueError e2 (looks_opaque X₂ T.opq) (l₀ := .ref C :: bm) ?_ rfl X₂ hm (I₂.type.andThen (looks_subIn X₂ T.veC)) (ks_ne X₂ I₂ hcl) (by decide) ?_
  · exact fun A Q E s k q => wpAny_bind ((looks_clsIn X₂ hcl) A _ E s k (wpAny_pure q))
  -- (at)
  have k3 : ∀ b o, h2.get? b = some o → (h2.push (kxs_mw "ValueError.__init__" x)).get? b = some o := fun b o e => Heap.get?_push_of_some _ e
  have hmw : (h2.push (kxs_mw "ValueError.__init__" x)).get? h2.objs.size = some (kxs_mw "ValueError.__init__" x) := Heap.get?_push_at rfl rfl
  refine kxs_callWith (i := "ValueError.__init__") (x := x) rfl (evalArgs_plain (PyProof.Rows.args_cons (ldF (v := v) ((hn.keeps k2).keeps k3) (by first | rfl | with_unfolding_all rfl) (PyProof.Rows.args_nil ?_)) rfl))
  refine ⟨hmw, ?_⟩
  refine call_mw (k3 _ _ (X₂ _ _ hC)) (k3 _ _ I₂.at_) hmw (by show 1 ≤ sizeLine; rw [sizeLine_eq]; omega) fun h4 t1 k4 hx4 => ?_
  have kk : ∀ b o, b ≠ x → h₁.get? b = some o → h4.get? b = some o := fun b o hb e => k4 b o hb (k3 b o (k2 b o e))
  have X₄ : K.In h4 := fun a o e => kk a o (fun z => by rw [z, hnx] at e; cases e) (X₁ _ _ e)
  have hn4 : h4.Ns s.heap.objs.size (fun y => [(("self" : Str), Value.ref x), ("at", v)].reverse.lookup y) := by
    obtain ⟨o, es, ep, e, r⟩ := hn
    exact ⟨o, es, ep, kk _ _ hxL e, r⟩
  -- self.at = at
  refine wpAt_of_wpAny (wpAny_execs_cons (plainObj_wpAny_Assign_Attribute ?_))
  refine ldF (v := v) hn4 (by first | rfl | with_unfolding_all rfl) (ldF (v := .ref x) hn4 (by first | rfl | with_unfolding_all rfl) ?_)
  refine set_plain X₄ (ox := excO C t1) (od := none) ⟨hx4, rfl, rfl, trivial⟩ T.sa ?_
  refine exc_osa X₄ hx4 hcl (show refsVE (.ref C :: bm) = true from hbm) rfl T.noN (fun h₅ tk₅ dx k₅ dn dne hx₅ hn₅ => ?_)
  have z : s.heap.objs.size < h₁.objs.size := hn.lt
  have z4 : s.heap.objs.size < h4.objs.size := hn4.lt
  exact wpAny_execs_nil (hq h₅ tk₅ dx ⟨fun b o hb e => k₅ b o hb (kk b o hb (k b o e)), ⟨t1, hx₅⟩, Nat.le_of_lt (Nat.lt_of_lt_of_le z4 dn), dne, hn₅⟩)
/-- a made error -/
structure Made (h h' : Heap) (e C d : Addr) (v : Value) : Prop where
  keep : ∀ b o, h.get? b = some o → h'.get? b = some o
  new : h.objs.size ≤ e
  obj : ∃ oe vs, h'.get? e = some oe ∧ oe.cls = .ref C ∧ oe.dict = some d ∧ oe.data = .fields vs ∧ vs[1]? = some .none
  dbig : h.objs.size ≤ d
  dne : d ≠ e
  ns : h'.Ns1 d (fun y => if y = "at" then some v else none)
theorem ae_made {s : Shared} (T : Txt prog K mg C D fI) {v : Value} (X : K.In s.heap) (hG : s.heap.Ns mainGlobals mg) (hB : s.heap.Ns builtinsNs mb) (hbb : ∀ x : Str, x ≠ "__name__" → mb x = bootBuiltins x) (hlim : s.heap.NoLimit) (hroom : A.depth + 1 < recursionLimit)
    (hq : ∀ h' tk e d, Made s.heap h' e C d v → R (.ok (.ret (.ref e))) { s with heap := h', toks := tk }) : codeAny (model prog w) A (.call (.ref C) ⟨[v], []⟩) R s := by
  obtain ⟨nm, q, N, bs, bm, sn, sub, ab, col, dd, k0, k1, k2, k3, k5, hC, hbm⟩ := T.cls
  obtain ⟨hp, g, dr, tk, os⟩ := s
  have k : ∀ b o, hp.get? b = some o → ((hp.push (kdv_tup [v])).push (excO C hp.objs.size)).get? b = some o := fun b o e => Heap.get?_push_of_some _ (Heap.get?_push_of_some _ e)
  have hx : ((hp.push (kdv_tup [v])).push (excO C hp.objs.size)).get? (hp.objs.size + 1) = some (excO C hp.objs.size) := by heap_get
  have hnx : K.lookup (hp.objs.size + 1) = none := by
    cases e : K.lookup (hp.objs.size + 1) with
    | none => rfl
    | some o => exact absurd (Nat.lt_of_succ_lt (Heap.lt_size (show hp.get? (hp.objs.size + 1) = some o from X _ _ e))) (Nat.lt_irrefl _)
  refine call_own F.excBase_ValueError (fun X => refsVE_contains X bm hbm) (X _ _ hC) (looks_findIn X T.iC) (fun self => bind_fn X self T.tC) (by show 1 ≤ sizeLine; rw [sizeLine_eq]; omega) ?_
  refine ae_init (s := ⟨(hp.push (kdv_tup [v])).push (excO C hp.objs.size), g, dr, tk, os⟩) T (X.keeps k) (hG.keeps k) (hB.keeps k) hbb (hlim.keeps k) hx hnx (show A.depth + 1 < recursionLimit from hroom) fun h' tk' dx M => ?_
  have old : ∀ b o, hp.get? b = some o → h'.get? b = some o := fun b o e => M.keep b o (Nat.ne_of_lt (Nat.lt_succ_of_lt (Heap.lt_size e))) (k b o e)
  obtain ⟨t1, ho⟩ := M.obj
  have z : hp.objs.size ≤ dx := by
    have z2 := M.dbig
    simp only [Heap.size_push] at z2
    omega
  exact ⟨rfl, hq h' tk' (hp.objs.size + 1) dx ⟨old, Nat.le_succ _, ⟨_, _, ho, rfl, rfl, rfl, rfl⟩, z, M.dne, M.ns⟩⟩
end
end AeX
end PySem
namespace G
open PySem PySem.Spec PyProof.Rows L2
theorem relO_at {v : V} {v' : Value} (r : RelV v v') (f : Str) : RelO (List.lookup f [(("at" : Str), v)]) (if f = "at" then some v' else none) := by
  by_cases hw : f = "at"
  · subst hw
    rw [if_pos rfl, show List.lookup ("at" : Str) [(("at" : Str), v)] = some v by simp [List.lookup]]
    exact r
  · have qw : (f == ("at" : Str)) = false := by simpa using hw
    rw [if_neg hw, show List.lookup f [(("at" : Str), v)] = none by simp [List.lookup, qw]]
    trivial
/-- the errors that may be raised by their names -/
def ErrG (P : Program) (K : Frg) (mg : MgT) (x : Str) : Prop := ∃ C D fI, mg x = some (.ref C) ∧ PySem.AeX.Txt P K mg C D fI
section
variable {X : Cx} {W : WX} {C D1 fI : Addr} {a : Expr} {ta : TA} {x : Str} {p pos pos2 : Pos} {k : Nat} {f : En → R D}
def tMkE (C : Addr) (ta : TA) : St → Hp → XK → Prop := fun σ H Q => ta σ H fun vs H1 => ∃ v, vs = [v] ∧ ∀ d, H1 d = none → Q (.ref C) (some d) (upd H1 d (.xd [(("at" : Str), v)]))
theorem pmk_err (T : PySem.AeX.Txt X.prog X.K X.mg C D1 fI) (gC : X.mg x = some (.ref C)) (hr : Room k X.A) (ha : PA X [a] ta) (hg : Gl X x) (hdb : (x == ("__debug__" : Str)) = false := by decide)
    (he : starEach (a :: []) X.env = (false, eval a X.env) :: starEach [] X.env := by rfl) (hpl : (backTo pos (starEach [] X.env)).any (·.1) = false := by rfl) :
    PMk X (.Call (.Name x p) [a] [] pos) (tMkE C ta) := by
  intro pins s σ H Q I h
  refine wpAny_Call_Name_kw (ld_glob I hg gC ?_ hdb)
  refine PySem.W.callWith_K (h₀ := X.base) I.ok.mod.kin T.kC (thn (ha.run pos pins s σ H _ I h) fun us s1 ⟨vs, H1, I1, r1, v, ev, q1⟩ => ?_) he hpl
  subst ev
  refine ⟨I1.kIn, ?_⟩
  cases r1 with
  | cons rv rn =>
    rename_i v' us'
    cases rn
    obtain ⟨mb, hb, hbb⟩ := I1.ok.mod.blt
    have hG := I1.ok.mod.glob.keeps I1.bk
    have hB := hb.keeps I1.bk
    have hlim := I1.nolimit
    have hK := I1.kIn
    obtain ⟨hp, g, dr, tk, os⟩ := s1
    refine wpAny_call (PySem.AeX.ae_made T hK hG hB hbb hlim (by have := hr.dp; omega) fun h' tk' e d M => ?_)
    show MkP X pins σ Q (.ref e) ⟨h', g, dr, tk', os⟩
    obtain ⟨oe, fv, hoe, hc, hd, hdat, h1⟩ := M.obj
    obtain ⟨G', g1, g2⟩ := restrict h' fun b => decide (b ≠ e)
    have gk : ∀ b, b ≠ e → G'.get? b = h'.get? b := fun b hb => g1 b (decide_eq_true hb)
    have ge : G'.get? e = none := g2 e (by simp)
    have ob : ObjOk X.prog X.w (upd H1 d (.xd [(("at" : Str), v)])) G' d (.xd [(("at" : Str), v)]) := ⟨_, M.ns.at (fun o q => (gk d M.dne).trans q), fun f => relO_at rv f⟩
    have J : Inv X pins σ (upd H1 d (.xd [(("at" : Str), v)])) ⟨G', g, dr, tk', os⟩ :=
      I1.laid (t' := tk') (fun b o q => (gk b (Nat.ne_of_lt (Nat.lt_of_lt_of_le (Heap.lt_size q) M.new))).trans (M.keep b o q)) M.dbig ob
    refine ⟨e, oe, fv, ⟨G', g, dr, tk', os⟩, _, .ref C, some d, rfl, J, fun b o q => ?_, ge, hoe, ⟨hc, hd⟩, hdat, h1, ?_, rfl, I1.bare, raises_own T.exC T.tyC, q1 d (I1.hok.fresh M.dbig)⟩
    · have q' : G'.get? b = some o := q
      by_cases hb : b = e
      · rw [hb, ge] at q'; cases q'
      · exact (gk b hb).symm.trans q'
    · rw [upd_ne (Ne.symm M.dne)]
      exact I1.hok.fresh M.new
/-- raise c(e), e an int -/
def sRaise (c : String) (f : En → R D) : En → SR := fun ρ => .of (f ρ) ρ fun d => match d with
  | .int n => .ex c n ρ
  | _ => .no
theorem fs_raise {c : String} (hx : x = Str.ofString c) (T : ErrG X.prog X.K X.mg x) (hc : X.calm = true) (hr : Room k X.A) (tk : Takes X W) (hg : Gl X x) (ha : FE X W a f) (hdb : (x == ("__debug__" : Str)) = false := by decide)
    (he : starEach (a :: []) X.env = (false, eval a X.env) :: starEach [] X.env := by rfl) (hpl : (backTo pos (starEach [] X.env)).any (·.1) = false := by rfl) :
    FS X W (.Raise (some (.Call (.Name x p) [a] [] pos)) none pos2) (sRaise c f) := by
  obtain ⟨C, D1, fI, gC, T⟩ := T
  refine impS (ps_raise hc tk (pmk_err T gC hr (pa_cons ha pa_nil he) hg hdb he hpl)) fun E σ H ⟨H0, A0, A, ρ, o, P⟩ => ?_
  refine ⟨H0, A0, A, ρ, o, (P.of o).mono fun d H1 s1 P1 v hv => ⟨v, rfl, fun dd hdd => ?_⟩⟩
  split at P1
  · rename_i n
    obtain rfl := (RepB.of hv).int
    have sm : Same H1 (upd H1 dd (.xd [(("at" : Str), .int n)])) := same_upd hdd
    exact P1 (.ref C) dd σ _ A ((o.same s1).same sm) (Tr.same (s1.trans sm)) (o.ext.free (s1.free hdd)) ⟨by rw [← hx]; exact gC, upd_same⟩
  · exact P1.elim
end
end G

namespace G
open PySem PySem.Spec PyProof.Rows L2

/-! ### several clauses, each with the same name for the error -/
def gone (i : Nat) (D : Ends) : Ends := { nx := fun τ K1 => D.nx (τ.set i none) K1, rt := D.rt, bk := fun τ K1 => D.bk (τ.set i none) K1, ct := fun τ K1 => D.ct (τ.set i none) K1 }
abbrev Cls := Value × (Addr → Value → Option Addr → TS)
def wAll (K : Frg) (i : Nat) (Wo : WX) (D : Ends) : List Cls → WX
  | [] => Wo
  | q :: r => fun cls dx τ K1 => ∃ b, PySem.W.exmOne K cls q.1 = some b ∧ (b = true → ∀ a, K1 a = none → q.2 a cls dx (gone i D) (τ.set i (some (.ref a))) K1) ∧ (b = false → wAll K i Wo D r cls dx τ K1)
inductive HdsAs (X : Cx) (n : Str) : List ExceptHandler → List Cls → Prop
  | nil : HdsAs X n [] []
  | cons {x : Str} {c : Value} {ts : Addr → Value → Option Addr → TS} {st : Stmt} {sts : List Stmt} {np hp : Pos} {hds : List ExceptHandler} {l : List Cls} (named : Names X x c)
      (does : ∀ (a : Addr) (oe : Obj) (cls : Value) (dx : Option Addr) (pn : List (Addr × Obj)), Zc cls dx oe → (∃ vs, oe.data = .fields vs) → PSs (X.suite a ((a, oe) :: pn)) (st :: sts) (ts a cls dx)) (rest : HdsAs X n hds l) :
      HdsAs X n (.ExceptHandler (some (.Name x np)) (some n) (st :: sts) hp :: hds) ((c, ts) :: l)
section
variable {X : Cx} {n : Str} {i : Nat} {body : List Stmt} {hd1 : ExceptHandler} {hds : List ExceptHandler} {l : List Cls} {pos : Pos} {tb : WX → TS} {Wo : WX}
theorem ps_try_all (hst : X.stack = X.env :: X.outer) (hfr0 : X.env.frame = some X.env.locals) (hN : X.N.Nodup) (hi : X.N[i]? = some n) (hln : X.env.kindOf n = some .local) (tk : Takes X Wo)
    (hb : ∀ (W : WX) (pn : List (Addr × Obj)) (xe : Value → Shared → Prop), Takes (X.tr pn xe) W → PassesOwn (model X.prog X.w) X.A X.env xe → PSs (X.tr pn xe) body (tb W))
    (hh : HdsAs X n (hd1 :: hds) l) : PS X (.Try body (hd1 :: hds) [] [] pos) (fun D τ K1 => tb (wAll X.K i Wo D l) D τ K1) := by
  refine ⟨fun pins s τ0 K0 D I h => ?_⟩
  have okX := I.ok
  have hfr : X.A.frames = some (X.env :: X.outer) := okX.frames.trans (by rw [hst])
  have there : Loc X.env.scope n := .inl hln
  refine wpAny_Try_except (wpAny_mono ((hb (wAll X.K i Wo D l) (X.pn ++ pins) _ (fun u s' air => ?_) PassesOwn.looking).run [] s τ0 K0 D (I.toTry _) h) (fun f s1 done => ?_) fun _ _ he => he)
  · obtain ⟨a, B, sI, pins', τ, K1, cls, dx, rfl, J', nb, up, sky, na, os, ag, w⟩ := air
    have J : Inv X pins τ K1 sI := J'.ofTry okX
    refine Sky.land Zc.steady hfr hfr0 (show Sky B (X.env :: X.outer) a (Zc cls dx) X.env.locals s'.heap from hst ▸ sky) fun h3 fl3 up3 => ?_
    have J3 : Inv X pins τ K1 { s' with heap := h3 } := J.landed nb fl3.1 (up.trans up3) os ag
    obtain ⟨oe3, vs3, he3, hz3, hd3⟩ := fl3.there
    have apart : a ∉ frs (X.env :: X.outer) := fun hm => by
      obtain ⟨_, o2, e2, ne2⟩ := fl3.2.2.1.mem hm
      cases he3.symm.trans e2
      exact ne2 _ hd3
    have nL : a ≠ X.env.locals := fun z => apart (List.mem_filterMap.mpr ⟨X.env, List.mem_cons_self, by rw [hfr0, z]⟩)
    have nF : a ∉ X.fs := fun hm => by
      obtain ⟨e, he, q⟩ := List.mem_filterMap.mp hm
      exact apart (List.mem_filterMap.mpr ⟨e, List.mem_cons_of_mem _ he, q⟩)
    have S3 := J3.suite he3 hd3 na nL nF
    have go : ∀ {hs' : List ExceptHandler} {l' : List Cls}, HdsAs X n hs' l' → wAll X.K i Wo D l' cls dx τ K1 → wpAny (model X.prog X.w) X.A (handleBy (.ref a) X.env hs') (SP X pins D) X.xe { s' with heap := h3 } := by
      intro hs' l' hk
      induction hk with
      | nil =>
        intro w
        obtain ⟨_, _, _, oe, vs, T, oT, ts', he, hz, hd, h1, _⟩ := id fl3
        refine wpAny_handleBy_nil ?_
        unfold PySem.passOn
        refine wpAny_bind (wpAny_field he hd h1 ?_)
        rw [if_neg (show ¬ ((Value.ref T == Value.none) = true) from by simp)]
        have fin : wpAny (model X.prog X.w) X.A (setFlight (.ref a) X.env.frame) (fun _ s4 => wpAny (model X.prog X.w) X.A (throw (.ref a) : Sem Flow) (SP X pins D) X.xe s4) X.xe { s' with heap := h3 } :=
          hfr0 ▸ HandSPX.setFlight_upZ fl3 fun h4 hh4 up4 => wpAny_throw (tk _ _ ⟨a, B, sI, pins, τ, K1, cls, dx, rfl, J, nb, (up.trans up3).trans up4, .inr (.inr (hst ▸ hh4)), na, os, ag, w⟩)
        first
          | exact wpAny_bind (wpAny_pure (wpAny_bind fin))
          | exact wpAny_bind fin
      | @cons x c ts st sts np hp hs2 l2 named does rest ih =>
        intro w
        obtain ⟨b, hb1, hyes, hno⟩ := w
        refine wpAny_handleBy_cons (codeAny_handlers_test ?_) (by intro q; cases q)
        have LT : PySem.W.Looks (model X.prog X.w) h3 (typeOf (.ref a)) cls := fun A Q E s k q => wpAny_typeOf_ref (k _ _ he3) (by rw [hz3.1]; exact q)
        have LM := PySem.W.exm_one (M := model X.prog X.w) J3.kIn LT hb1
        have asked : ∀ {Q : Value → Shared → Prop} {E : Value → Shared → Prop}, Q c { s' with heap := h3 } → wpAny (model X.prog X.w) (X.A.mark (some (.ref a))) (eval (.Name x np) X.env) Q E { s' with heap := h3 } := fun {Q E} q => by
          obtain ⟨hg, hdb, hm | ⟨hm, hv, hnn⟩⟩ := named
          · exact ld_glob (X := X.suite a ((a, oe3) :: (X.pn ++ pins))) S3 hg hm q hdb
          · exact ld_blt (X := X.suite a ((a, oe3) :: (X.pn ++ pins))) S3 hg hm hv q hnn hdb
        refine asked (LM.here ?_)
        cases b with
        | false => exact ih (hno rfl)
        | true =>
          refine codeAny_handlers_suite_as (HandSPX.lands_againZ fl3 fun h4 fl4 up4 => ?_)
          have J4 : Inv X pins τ K1 { s' with heap := h4 } := J.landed nb fl4.1 ((up.trans up3).trans up4) os ag
          obtain ⟨oe4, vs4, he4, hz4, hd4⟩ := fl4.there
          refine store_ok (X := X.suite a ((a, oe4) :: (X.pn ++ pins))) (v := .ref a) (J4.suite he4 hd4 na nL nF) hN hi there rfl (fun s5 S5 => ?_) (.inr hln)
          refine wpAny_mono ((does a oe4 cls dx (X.pn ++ pins) hz4 ⟨_, hd4⟩).run [] s5 _ K1 _ S5 (hyes rfl a na)) (fun f s6 hsp => ?_) fun _ _ z => z.elim
          have over : ∀ {τ6 : St} {K6 : Hp} {Q : Shared → Prop}, Inv (X.suite a ((a, oe4) :: (X.pn ++ pins))) [] τ6 K6 s6 → (∀ s7, Inv X pins (τ6.set i none) K6 s7 → Q s7) →
              wpAny (model X.prog X.w) X.A (do bindName X.env n .none; unbindBehindTheSuite X.env n hp) (fun _ s7 => Q s7) X.xe s6 := fun {τ6 K6 Q} S6 hq => gone_ok (S6.unsuite okX) hN hi hln hq
          cases f with
          | next =>
            obtain ⟨τ6, K6, S6, q6⟩ := hsp
            exact over S6 fun s7 J7 => ⟨_, _, J7, q6⟩
          | brk =>
            obtain ⟨τ6, K6, S6, q6⟩ := hsp
            exact over S6 fun s7 J7 => ⟨_, _, J7, q6⟩
          | cont =>
            obtain ⟨τ6, K6, S6, q6⟩ := hsp
            exact over S6 fun s7 J7 => ⟨_, _, J7, q6⟩
          | ret u =>
            obtain ⟨v6, τ6, K6, S6, r6, q6⟩ := hsp
            exact over S6 fun s7 J7 => ⟨_, _, _, J7, r6, q6⟩
    exact go hh w
  · cases f with
    | next =>
      obtain ⟨τ, K1, J, q⟩ := done
      exact wpAny_execs_nil ⟨τ, K1, J.ofTry okX, q⟩
    | brk =>
      obtain ⟨τ, K1, J, q⟩ := done
      exact ⟨τ, K1, J.ofTry okX, q⟩
    | cont =>
      obtain ⟨τ, K1, J, q⟩ := done
      exact ⟨τ, K1, J.ofTry okX, q⟩
    | ret u =>
      obtain ⟨v, τ, K1, J, r, q⟩ := done
      exact ⟨v, τ, K1, J.ofTry okX, r, q⟩
end
/-! ### the error's number -/
def tAtOf (mg : MgT) (P : Program) (K : Frg) (a : Addr) (cls : Value) (dx : Option Addr) (te : TE) : TE := fun τ K0 Q => te τ K0 fun x K1 => x = .ref a ∧ ∃ (C D1 fI dd : Addr) (v : V), cls = .ref C ∧ PySem.AeX.Txt P K mg C D1 fI ∧ dx = some dd ∧ K1 dd = some (.xd [(("at" : Str), v)]) ∧ Q v K1
section
variable {X : Cx} {W : WX} {n : Str} {i : Nat}
theorem pe_at {a : Addr} {oe : Obj} {cls : Value} {dx : Option Addr} {pn : List (Addr × Obj)} {e : Expr} {te : TE} {pos : Pos} (hz : Zc cls dx oe) (hf : ∃ vs, oe.data = .fields vs) (he : PE (X.suite a ((a, oe) :: pn)) e te)
    (hb : attributeBase e "at" X.env (eval e X.env) = eval e X.env := by rfl) : PE (X.suite a ((a, oe) :: pn)) (.Attribute e "at" pos) (tAtOf X.mg X.prog X.K a cls dx te) := by
  refine ⟨fun pins s τ K0 Q I h => attr_of hb (thn (he.run pins s τ K0 _ I h) fun u s1 hh => ?_)⟩
  obtain ⟨x, K1, I1, rx, rfl, C, D1, fI, dd, v, rfl, T, rfl, ea, q⟩ := hh
  obtain rfl : u = Value.ref a := rx
  obtain ⟨vs, hd⟩ := hf
  obtain ⟨ha, _⟩ := I1.pin (a, oe) (List.mem_append_left _ List.mem_cons_self)
  obtain ⟨mA, hns, hr⟩ := (show ObjOk X.prog X.w K1 s1.heap dd (.xd [(("at" : Str), v)]) from I1.hok dd _ ea)
  obtain ⟨od, ho, hl⟩ := lookIn_ns hns
  obtain ⟨u, hu, ru⟩ := RelO.some_of (v := v) (o := mA "at") (by rw [← show List.lookup ("at" : Str) [(("at" : Str), v)] = some v by simp [List.lookup]]; exact hr "at")
  have J : PySem.W.InstAt s1.heap a oe C (some od) := ⟨ha, hz.1, by unfold PySem.W.notCls; rw [hd] <;> rfl, by rw [hz.2]; exact ho⟩
  exact HandSPX.exc_get I1.kIn J T.ga T.gg T.exC (PySem.W.findObj_own T.hdC T.noN rfl (by rw [hl, hu])) (handed_of ru) ⟨v, K1, I1.tok _, ru, q⟩
/-- one error is, or is not, below another -/
def ExM (P : Program) (K : Frg) (mg : MgT) (c x : String) (b : Bool) : Prop := ∃ u v, mg (Str.ofString c) = some u ∧ mg (Str.ofString x) = some v ∧ PySem.W.exmOne K u v = some b ∧ ErrG P K mg (Str.ofString c)
theorem fa0 {α : Type} {P : α → Prop} : ∀ q ∈ ([] : List α), P q := fun q h => absurd h List.not_mem_nil
theorem fa1 {α : Type} {P : α → Prop} {a : α} {l : List α} (h : P a) (t : ∀ q ∈ l, P q) : ∀ q ∈ a :: l, P q := fun q m => by
  rcases List.mem_cons.mp m with rfl | m
  · exact h
  · exact t q m
theorem ErrG.named {P : Program} {K : Frg} {mg : MgT} {x : Str} (h : ErrG P K mg x) : ∃ v, mg x = some v := by
  obtain ⟨C, _, _, e, _⟩ := h
  exact ⟨_, e⟩
inductive HdAt (X : Cx) (n : Str) : List ExceptHandler → List (List (String × Bool) × Str) → Prop
  | nil : HdAt X n [] []
  | cons {x : String} {z : Str} {j k : Nat} {np p2 p3 p4 p5 p6 hp : Pos} {hds : List ExceptHandler} {tab : List (String × Bool)} {l : List (List (String × Bool) × Str)} (hg : Gl X (Str.ofString x)) (hdb : ((Str.ofString x) == ("__debug__" : Str)) = false)
      (hm : ∃ v, X.mg (Str.ofString x) = some v) (ht : ∀ q ∈ tab, ExM X.prog X.K X.mg q.1 x q.2) (rest : HdAt X n hds l) :
      HdAt X n (.ExceptHandler (some (.Name (Str.ofString x) np)) (some n) [.Return (some (.Tuple [.Constant (.str z) j p2, .Attribute (.Name n p3) "at" p4] k p5)) p6] hp :: hds) ((tab, z) :: l)
def tryAt (c : String) (m : Int) (ρ : En) : List (List (String × Bool) × Str) → SR
  | [] => .ex c m ρ
  | (tab, z) :: r => match tab.lookup c with
    | some true => .rt (.tuple [.str z, .int m])
    | some false => tryAt c m ρ r
    | none => .no
def sTryAt (i : Nat) (g : En → SR) (cl : List (List (String × Bool) × Str)) : En → SR := fun ρ => match g ρ with
  | .ex c m ρ1 => if i < ρ1.length then tryAt c m ρ1 cl else .no
  | r => r
def tsAt (X : Cx) (i : Nat) (z : Str) : Addr → Value → Option Addr → TS := fun a cls dx => tRet (tTup (tCons (tC (.str z)) (tCons (tAtOf X.mg X.prog X.K a cls dx (tVar i)) tNil)))
theorem hds_at (hN : X.N[i]? = some n) (hv : Vis X.env.scope n) (hd : (n == ("__debug__" : Str)) = false) (hcd : (n == ("__classdict__" : Str)) = false) (hbase : ∀ p, attributeBase (.Name n p) "at" X.env (eval (.Name n p) X.env) = eval (.Name n p) X.env)
    (hs : ∀ (z : Str) (j : Nat) (p2 p3 p4 : Pos), starEach [.Constant (.str z) j p2, .Attribute (.Name n p3) "at" p4] X.env = (false, eval (.Constant (.str z) j p2) X.env) :: starEach [.Attribute (.Name n p3) "at" p4] X.env)
    (hs2 : ∀ (p3 p4 : Pos), starEach [.Attribute (.Name n p3) "at" p4] X.env = (false, eval (.Attribute (.Name n p3) "at" p4) X.env) :: starEach [] X.env) {hds : List ExceptHandler} {l : List (List (String × Bool) × Str)} (h : HdAt X n hds l) :
    ∃ l' : List Cls, HdsAs X n hds l' ∧ Paired (fun (p : Cls) (q : List (String × Bool) × Str) => p.2 = tsAt X i q.2 ∧ ∀ r ∈ q.1, ∃ u, X.mg (Str.ofString r.1) = some u ∧ PySem.W.exmOne X.K u p.1 = some r.2 ∧ ErrG X.prog X.K X.mg (Str.ofString r.1)) l' l := by
  induction h with
  | nil => exact ⟨[], .nil, .nil⟩
  | @cons x z j k np p2 p3 p4 p5 p6 hp hds tab l hg hdb hm ht rest ih =>
    obtain ⟨v, hm⟩ := hm
    obtain ⟨l', h1, h2⟩ := ih
    refine ⟨(v, tsAt X i z) :: l', .cons ⟨hg, hdb, .inl hm⟩ (fun a oe cls dx pn hz hf => pss_one (ps_ret (pe_tup (pa_cons pe_str (pa_cons (pe_at hz hf (pe_var hN hv hd hcd) (hbase _)) pa_nil (hs2 _ _)) (hs _ _ _ _ _))))) h1, .cons ⟨rfl, fun r hr => ?_⟩ h2⟩
    obtain ⟨u, v', e1, e2, e3, e4⟩ := ht r hr
    cases hm.symm.trans e2
    exact ⟨u, e1, e3, e4⟩
theorem lookup_mem {c : String} {b : Bool} : ∀ {tab : List (String × Bool)}, tab.lookup c = some b → (c, b) ∈ tab
  | [], h => by cases h
  | (c', b') :: r, h => by
    rw [List.lookup_cons] at h
    split at h
    · rename_i e
      cases h
      rw [beq_iff_eq.mp e]
      exact List.mem_cons_self
    · exact List.mem_cons_of_mem _ (lookup_mem h)
theorem try_post {K : Frg} {mg : MgT} {H0 : Hp} {A0 : List Addr} {E : Ends} {Wo : WX} (hK : K = X.K) (hmg : mg = X.mg) {c : String} {m : Int} {ρ1 : En} {σ' : St} {H' : Hp} {A' A : List Addr} {H : Hp} {u : Value} {p : Addr} (o' : Ok K H0 A0 A' ρ1 σ' H') (tr : Tr A H A' H') (hp : H0 p = none) (he : ErrAt mg c m u p H') (hi : i < ρ1.length) :
    ∀ {l' : List Cls} {l : List (List (String × Bool) × Str)}, Paired (fun (p : Cls) (q : List (String × Bool) × Str) => p.2 = tsAt X i q.2 ∧ ∀ r ∈ q.1, ∃ u, X.mg (Str.ofString r.1) = some u ∧ PySem.W.exmOne X.K u p.1 = some r.2 ∧ ErrG X.prog X.K X.mg (Str.ofString r.1)) l' l →
      PostS K mg Wo H0 A0 A H E (tryAt c m ρ1 l) → wAll K i Wo E l' u (some p) σ' H'
  | _, _, .nil, P => P u p σ' H' A' o' tr hp he
  | _, _, .cons (a := q) (b := (tab, z)) ⟨e1, e2⟩ rest, P => by
    unfold tryAt at P
    split at P
    · rename_i hl
      obtain ⟨u', h1, h2, C, D1, fI, h3, T⟩ := e2 _ (lookup_mem hl)
      subst hK
      subst hmg
      cases he.1.symm.trans h1
      cases h1.symm.trans h3
      refine ⟨true, h2, fun _ a ha => ?_, fun z => Bool.noConfusion z⟩
      rw [e1]
      refine ⟨.ref a, by rw [List.getElem?_set_self (by rw [o'.len]; exact hi)], rfl, C, D1, fI, p, .int m, rfl, T, rfl, he.2, (by show 2 ≤ sizeLine; rw [sizeLine_eq]; omega), fun t ht => ?_⟩
      exact P _ _ (o'.ext.trans (same_upd ht)) (rep_tup (fun z => o'.has t (o'.sub t z) ht) ht (.cons (.str z) (.one (.int m))))
    · rename_i hl
      obtain ⟨u', h1, h2, _⟩ := e2 _ (lookup_mem hl)
      subst hK
      subst hmg
      cases he.1.symm.trans h1
      exact ⟨false, h2, fun z => Bool.noConfusion z, fun _ => try_post rfl rfl o' tr hp he hi rest P⟩
    · exact P.elim
theorem fs_tryAt {body : List Stmt} {hd1 : ExceptHandler} {hds : List ExceptHandler} {l : List (List (String × Bool) × Str)} {pos : Pos} {gb : En → SR} (hst : X.stack = X.env :: X.outer) (hfr0 : X.env.frame = some X.env.locals) (hN : X.N.Nodup) (hi : X.N[i]? = some n) (hln : X.env.kindOf n = some .local) (tk : Takes X W)
    (hv : Vis X.env.scope n) (hd : (n == ("__debug__" : Str)) = false) (hcd : (n == ("__classdict__" : Str)) = false) (hbase : ∀ p, attributeBase (.Name n p) "at" X.env (eval (.Name n p) X.env) = eval (.Name n p) X.env)
    (hs : ∀ (z : Str) (j : Nat) (p2 p3 p4 : Pos), starEach [.Constant (.str z) j p2, .Attribute (.Name n p3) "at" p4] X.env = (false, eval (.Constant (.str z) j p2) X.env) :: starEach [.Attribute (.Name n p3) "at" p4] X.env)
    (hs2 : ∀ (p3 p4 : Pos), starEach [.Attribute (.Name n p3) "at" p4] X.env = (false, eval (.Attribute (.Name n p3) "at" p4) X.env) :: starEach [] X.env)
    (hb : ∀ (W' : WX) (pn : List (Addr × Obj)) (xe : Value → Shared → Prop), Takes (X.tr pn xe) W' → PassesOwn (model X.prog X.w) X.A X.env xe → FSs (X.tr pn xe) W' body gb)
    (hh : HdAt X n (hd1 :: hds) l) : FS X W (.Try body (hd1 :: hds) [] [] pos) (sTryAt i gb l) := by
  obtain ⟨l', h1, h2⟩ := hds_at hi hv hd hcd hbase hs hs2 hh
  refine impS (ps_try_all (tb := fun W' => tFS X.K X.mg W' gb) hst hfr0 hN hi hln tk hb h1) fun E σ H ⟨H0, A0, A, ρ, o, P⟩ => ⟨H0, A0, A, ρ, o, ?_⟩
  unfold sTryAt at P
  cases hg : gb ρ with
  | ex c m ρ1 =>
    rw [hg] at P
    have P : PostS X.K X.mg W H0 A0 A H E (if i < ρ1.length then tryAt c m ρ1 l else .no) := P
    split at P
    · rename_i hlt
      exact fun u p σ' H' A' o' tr hp he => try_post rfl rfl o' tr hp he hlt h2 P
    · exact P.elim
  | nx _ => rw [hg] at P; exact P
  | rt _ => rw [hg] at P; exact P
  | bk _ => rw [hg] at P; exact P
  | ct _ => rw [hg] at P; exact P
  | no => rw [hg] at P; exact P
end
end G

namespace G
open PySem PySem.Spec PyProof.Rows L2

/-! ### one of several defs, picked by a number -/
def cPick (g : En → R D) (Fs : List (List D → R D)) (l : En → R (List D)) : En → R D := fun ρ => (g ρ).bind fun d => match (toI d).bind (atI Fs) with
  | some F => (l ρ).bind F
  | none => .no
section
variable {X : Cx} {W : WX} {k : Nat} {a b e : Expr} {es : List Expr} {f g : En → R D} {l : En → R (List D)} {p1 p2 q pos : Pos} {x : Str}
inductive FnList (X : Cx) (k : Nat) : List Expr → List (List D → R D) → Prop
  | nil : FnList X k [] []
  | cons {x : Str} {p : Pos} {es : List Expr} {F : List D → R D} {Fs : List (List D → R D)} (c : CallG X.prog X.w X.K X.mg X.base k x F) (hg : Gl X x) (hdb : (x == ("__debug__" : Str)) = false) (hs : starEach (.Name x p :: es) X.env = (false, eval (.Name x p) X.env) :: starEach es X.env)
      (rest : FnList X k es Fs) : FnList X k (.Name x p :: es) (F :: Fs)
abbrev IsFn (X : Cx) (k : Nat) (v : V) (F : List D → R D) : Prop := ∃ f fd ps, v = V.ref f ∧ FnG X.prog X.w X.K X.mg X.base k f fd ps F ∧ PySem.W.keepIn X.K (.ref f) = true ∧ Binds X.K fd ps []
theorem FnList.pa {Fs : List (List D → R D)} (h : FnList X k es Fs) : ∃ vs, Paired (IsFn X k) vs Fs ∧ PA X es (fun _ H Q => Q vs H) := by
  induction h with
  | nil => exact ⟨[], .nil, pa_nil⟩
  | @cons x p es F Fs c hg hdb hs rest ih =>
    obtain ⟨f, fd, ps, h1, h2, h3, h4⟩ := c
    obtain ⟨vs, h5, h6⟩ := ih
    exact ⟨.ref f :: vs, .cons ⟨f, fd, ps, rfl, h1, h3, h4⟩ h5, pa_cons (pe_glob (v := .ref f) hg h2 rfl hdb) h6 hs⟩
theorem paired_len {α β : Type} {R : α → β → Prop} : ∀ {xs : List α} {ys : List β}, Paired R xs ys → xs.length = ys.length
  | _, _, .nil => rfl
  | _, _, .cons _ t => by rw [List.length_cons, List.length_cons, paired_len t]
theorem paired_get {α β : Type} {R : α → β → Prop} : ∀ {xs : List α} {ys : List β} {i : Nat} {y : β}, Paired R xs ys → ys[i]? = some y → ∃ x, xs[i]? = some x ∧ R x y
  | _, _, _, _, .nil, h => by simp at h
  | _, _, 0, _, .cons a _, h => by simp at h; subst h; exact ⟨_, rfl, a⟩
  | _, _, i + 1, _, .cons _ t, h => by
    obtain ⟨v, h1, h2⟩ := paired_get (i := i) t (by simpa using h)
    exact ⟨v, by simpa using h1, h2⟩
theorem paired_at {α β : Type} {R : α → β → Prop} {xs : List α} {ys : List β} {i : Int} {y : β} (h : Paired R xs ys) (e : atI ys i = some y) : ∃ x, atI xs i = some x ∧ R x y := by
  unfold atI at e ⊢
  obtain ⟨j, h1, h2⟩ := Option.bind_eq_some_iff.mp e
  obtain ⟨x, h3, h4⟩ := paired_get h h2
  exact ⟨x, by rw [paired_len h, h1]; exact h3, h4⟩
theorem fe_pick {fs : List Expr} {Fs : List (List D → R D)} (hf : FnList X k fs Fs) (hr : Room k X.A) (hgd : X.A.guards = some []) (tk : Takes X W) (hi : FE X W b g) (ha : FA X W (e :: es) l) (hl : Fs.length ≤ sizeLine) (hs : PlainIx b)
    (hev : eval (.Call (.Subscript (.List fs p1) b p2) (e :: es) [] pos) X.env = (do callWith pos (← eval (.Subscript (.List fs p1) b p2) X.env) [] (backTo pos (starEach (e :: es) X.env)) (backToKw pos (keywordEach [] X.env))) := by rfl)
    (he : starEach (e :: es) X.env = (false, eval e X.env) :: starEach es X.env := by rfl) (hpl : (backTo pos (starEach es X.env)).any (·.1) = false := by rfl) :
    FE X W (.Call (.Subscript (.List fs p1) b p2) (e :: es) [] pos) (cPick g Fs l) := by
  obtain ⟨vs0, h1, h2⟩ := hf.pa
  refine ⟨fun pins s σ H Q I ⟨H0, A0, A, ρ, o, P⟩ => ?_⟩
  refine Call_ (thn ((pe_ix ix_list (pe_lst h2) hi hs).run pins s σ H (fun v H1 => Same H H1 ∧ ∃ F, IsFn X k v F ∧ Post X.mg W σ H1 (fun d H2 => ∀ v, Rep X.K H2 A v d → Q v H2) ((l ρ).bind F)) I ?_) ?_) hev
  · refine ⟨by rw [paired_len h1]; exact hl, fun p hp => ?_⟩
    have o1 := o.same (same_upd (o := .lst vs0) hp)
    refine ⟨H0, A0, A, ρ, o1, (Post.bind (Post.same (r := cPick g Fs l ρ) P (same_upd hp))).mono fun d H1 s1 P1 y hy => ?_⟩
    split at P1
    · rename_i F hF
      obtain ⟨i, h3, h4⟩ := Option.bind_eq_some_iff.mp hF
      obtain ⟨v, h5, h6⟩ := paired_at h1 h4
      have e : d = .int i := by
        cases d <;> simp [toI] at h3
        rw [h3]
      subst e
      obtain rfl := (RepB.of hy).int
      exact ⟨p, vs0, i, v, rfl, rfl, SqL.of (s1 _ _ upd_same), h5, (same_upd hp).trans s1, F, h6, P1⟩
    · exact P1.elim
  · intro v s1 ⟨x, H1, I1, rx, sm, F, ⟨f, fd, ps, ex, hF, hk, hb⟩, P1⟩
    subst ex
    obtain rfl : v = Value.ref f := rx
    have o1 := o.same sm
    refine PySem.W.callWith_K (h₀ := X.base) I1.ok.mod.kin hk (thn (ha.run pos pins s1 σ H1 (fun vs H2 => Same H1 H2 ∧ ∃ ds, RepL X.K H2 A vs ds ∧ Want X.K X.mg H2 A Q (WE W σ) (F ds)) I1 ⟨H0, A0, A, ρ, o1, P1.bind.mono fun ds H2 s2 P2 vs hv => ⟨s2, ds, hv, P2.want⟩⟩) fun us s2 ⟨vs, H2, I2, r, sm2, ds, rd, q⟩ => ⟨I2.kIn, ?_⟩) he hpl
    exact run_fng hF hr hgd hb tk I2 r rd (o1.same sm2).has q
/-! ### the place of a number in a written tuple -/
def cIdxK (ns : List Int) (g : En → R D) : En → R D := fun ρ => (g ρ).bind fun d => ofO ((toI d).bind fun k => if k ∈ ns then some (.int (ns.idxOf k : Nat)) else none)
def GTupI (K : Frg) (mg : MgT) (x : Str) (ns : List Int) : Prop := ∃ a, mg x = some (.ref a) ∧ TupK K a (ns.map V.int) ∧ ∃ o, K.lookup a = some o ∧ o.cls = .type "tuple" ∧ o.dict = none
theorem mt_tupI : MtR X "tuple.index" (fun x xs H Q => ∃ (p0 : Addr) (ns : List Int) (k : Int), x = .ref p0 ∧ xs = [.int k] ∧ SqT X.K H p0 (ns.map V.int) ∧ k ∈ ns ∧ Q (.int (ns.idxOf k : Nat)) H) := by
  intro pins s σ H x xs v us Q I rx rs h
  obtain ⟨p0, ns, k, rfl, rfl, hq, hk, q⟩ := h
  cases rx
  obtain ⟨u, rfl, t, rfl⟩ := vals1 rs
  obtain ⟨its, r, pl, hz⟩ := I.tuple hq
  exact PySem.SeqAt.tuple_index_ints (show s.heap.IsTuple p0 its.toArray from pl) (RZ.intsAre_vals r) hk ⟨.int _, H, I.tok _, ⟨_, rfl⟩, q⟩
theorem fe_idxK {apos cpos : Pos} {ns : List Int} (h : GTupI X.K X.mg x ns) (hg : Gl X x) (hb : FE X W b g) (hd : (x == ("__debug__" : Str)) = false := by decide)
    (hbase : attributeBase (.Name x q) "index" X.env (eval (.Name x q) X.env) = eval (.Name x q) X.env := by rfl)
    (hfew : ((backTo cpos (starEach (b :: []) X.env)).all (fun x => !x.1) && (backToKw cpos (keywordEach [] X.env)).all (fun x => x.1.isSome)
      && decide ((b :: []).length + ([] : List Keyword).length + (if ([] : List Keyword).isEmpty then 0 else 1) < 30)) = true := by rfl)
    (hline : (apos.endLine == cpos.line) = true := by rfl) (hs : starEach (b :: []) X.env = (false, eval b X.env) :: starEach [] X.env := by rfl) (hplain : (backTo cpos (starEach [] X.env)).any (·.1) = false := by rfl) :
    FE X W (.Call (.Attribute (.Name x q) "index" apos) [b] [] cpos) (cIdxK ns g) := by
  obtain ⟨a, h1, h2, ob, h3, h4, h5⟩ := h
  refine impE (pe_bm PySem.F.plainAttrs_tuple PySem.F.slot_tuple_index PySem.F.type_tuple_index mt_tupI (pe_glob (v := .ref a) hg h1 rfl hd) (pa_cons hb pa_nil hs) hbase hfew hline hs hplain) fun σ H Q ⟨H0, A0, A, ρ, o, P⟩ => ?_
  refine ⟨.inr (.inl ⟨rfl, ob, h3, h4, h5⟩), H0, A0, A, ρ, o, P.bind.mono fun d H1 s1 P1 y hy => ?_⟩
  obtain ⟨d2, e, P2⟩ := P1.ofO
  obtain ⟨k, e1, e2⟩ := Option.bind_eq_some_iff.mp e
  have e3 : d = .int k := by
    cases d <;> simp [toI] at e1
    rw [e1]
  subst e3
  obtain rfl := (RepB.of hy).int
  split at e2
  · rename_i hk
    cases e2
    exact ⟨a, ns, k, rfl, rfl, .inr h2, hk, P2 H1 (Same.refl _) _ (.int _)⟩
  · cases e2

/-! ### repr -/
def dRepr (d : D) : Option D := if d.hasDict = false ∧ d.showable = true ∧ d.depth ≤ 60 ∧ d.shown.length ≤ sizeLine then some (.str d.shown) else none
theorem cr_repr (hgd : X.A.guards = some []) (hu : X.A.units + 65 < cLine) : CallR X (.builtin "repr") (fun xs H Q => ∃ (v : V) (d : D), xs = [v] ∧ Dp X.K H v d ∧ d.hasDict = false ∧ d.showable = true ∧ d.depth ≤ 60 ∧ d.shown.length ≤ sizeLine ∧ Q (.str d.shown) H) := by
  intro pins s σ H xs us Q I r h
  obtain ⟨v, d, rfl, hd, h1, h2, h3, h4, q⟩ := h
  obtain ⟨u, rfl, rx⟩ := vals1 r
  obtain ⟨as, rd⟩ := Dp.reads I d v u hd rx
  have fin : ∀ h' tk t, (∀ b o, s.heap.get? b = some o → h'.get? b = some o) → EP X pins σ Q (.str d.shown t) { s with heap := h', toks := tk } := fun h' tk t k => ⟨.str d.shown, H, I.kept k, ⟨_, rfl⟩, q⟩
  cases hd with
  | non => cases rx; exact PySem.P.repr_of_none (fin _ _ _ fun _ _ e => e)
  | bl b =>
    cases rx
    refine PySem.P.repr_of_bool ?_
    have := fin s.heap (s.toks + 1) s.toks fun _ _ e => e
    cases b <;> exact this
  | int i =>
    obtain ⟨t, rfl⟩ := rx
    exact PySem.P.repr_of_int (by simpa [PyData.showable] using h2) (fin _ _ _ fun _ _ e => e)
  | str z =>
    obtain ⟨t, rfl⟩ := rx
    exact PySem.P.repr_of_str (fin _ _ _ fun _ _ e => e) h4
  | lst a b =>
    cases rx
    exact PySem.repr_of_reads' rd h2 (fun z => by rw [h1] at z; cases z) hgd (by omega) (fun _ _ e => e) (fun h' t tk k => fin h' tk t k) h4
  | tup a b =>
    cases rx
    exact PySem.repr_of_reads' rd h2 (fun z => by rw [h1] at z; cases z) hgd (by omega) (fun _ _ e => e) (fun h' t tk k => fin h' tk t k) h4
theorem fe_repr (hu : X.A.units + 65 < cLine) (hgd : X.A.guards = some []) (hg : Gl X "repr") (hm : X.mg "repr" = none) (ha : FE X W a f) (hs : starEach (a :: []) X.env = (false, eval a X.env) :: starEach [] X.env := by rfl) (hpl : (backTo pos (starEach [] X.env)).any (·.1) = false := by rfl) :
    FE X W (.Call (.Name "repr" p1) [a] [] pos) (cUn dRepr f) := by
  refine impE (pe_callB (cr_repr hgd hu) hg hm PyProof.Rows.boot_repr (pa_cons ha pa_nil hs) (by decide) (by decide) hs hpl) fun σ H Q ⟨H0, A0, A, ρ, o, P⟩ => ?_
  refine ⟨H0, A0, A, ρ, o, P.bind.mono fun d H1 s1 P1 v hv => ?_⟩
  obtain ⟨d2, e, P2⟩ := P1.ofO
  unfold dRepr at e
  split at e
  · rename_i h
    cases e
    exact ⟨v, d, rfl, hv.dp h.1, h.1, h.2.1, h.2.2.1, h.2.2.2, P2 H1 (Same.refl _) _ (.str _)⟩
  · cases e

/-! ### written dicts -/
def mergeD (kds : List (Key × D)) : List (D × D) := kds.foldl (fun ds kd => putD (isK kd.1) (kD kd.1) kd.2 ds) []
def cDict (h : En → R (List (Key × D))) : En → R D := fun ρ => (h ρ).bind fun kds => if kds.length ≤ 15 then .ok (.dict (mergeD kds)) else .no
def cKd (k : Key) (f : En → R D) (h : En → R (List (Key × D))) : En → R (List (Key × D)) := fun ρ => (f ρ).bind fun d => (h ρ).bind fun kds => .ok ((k, d) :: kds)
abbrev PairK (K : Frg) (H : Hp) (A : List Addr) (p : Key × V) (q : Key × D) : Prop := p.1 = q.1 ∧ Rep K H A p.2 q.2
def FDs (X : Cx) (W : WX) (keys : List (Option Expr)) (values : List Expr) (h : En → R (List (Key × D))) : Prop := ∃ trs, (∀ pos, PPs X pos keys values trs) ∧ ∀ σ H Q,
  (∃ H0 A0 A ρ, Ok X.K H0 A0 A ρ σ H ∧ Post X.mg W σ H (fun kds H' => ∀ kvs, Paired (PairK X.K H' A) kvs kds → Q (kvs.map fun kv => (kV kv.1, kv.2)) H') (h ρ)) → tPairs trs σ H Q
theorem fds_nil : FDs X W [] [] (fun _ => .ok []) := ⟨[], fun _ => pps_nil, fun σ H Q ⟨H0, A0, A, ρ, o, P⟩ => Post.at (a := ([] : List (Key × D))) (P := fun kds H' => ∀ kvs, Paired (PairK X.K H' A) kvs kds → Q (kvs.map fun kv => (kV kv.1, kv.2)) H') P [] .nil⟩
theorem paired_same {K : Frg} {H H' : Hp} {A : List Addr} (s : Same H H') : ∀ {kvs : List (Key × V)} {kds : List (Key × D)}, Paired (PairK K H A) kvs kds → Paired (PairK K H' A) kvs kds
  | _, _, .nil => .nil
  | _, _, .cons h t => .cons ⟨h.1, h.2.same s⟩ (paired_same s t)
theorem fds_cons {key : Key} {ke ve : Expr} {keys : List (Option Expr)} {values : List Expr} {h : En → R (List (Key × D))} (hk : PE X ke (tC (kV key))) (hv : FE X W ve f) (hr : FDs X W keys values h) : FDs X W (some ke :: keys) (ve :: values) (cKd key f h) := by
  obtain ⟨trs, h1, h2⟩ := hr
  refine ⟨_, fun pos => pps_cons hk hv (h1 pos), fun σ H Q ⟨H0, A0, A, ρ, o, P⟩ => ?_⟩
  show tPairs ((tC (kV key), tF X.K X.mg W f) :: trs) σ H Q
  refine ⟨H0, A0, A, ρ, o, P.bind.mono fun d H1 s1 P1 v hv => ?_⟩
  refine h2 σ H1 _ ⟨H0, A0, A, ρ, o.same s1, P1.bind.mono fun kds H2 s2 P2 kvs hp => ?_⟩
  exact P2 H2 (Same.refl _) ((key, v) :: kvs) (.cons ⟨rfl, hv.same s2⟩ hp)
theorem fold_rep {K : Frg} {H : Hp} {A : List Addr} : ∀ {kvs : List (Key × V)} {kds : List (Key × D)} {acc : List (Key × V)} {ds : List (D × D)}, Paired (PairK K H A) kvs kds → RepK K H A acc ds →
    RepK K H A (kvs.foldl (fun acc kv => putK acc kv.1 kv.2) acc) (kds.foldl (fun ds kd => putD (isK kd.1) (kD kd.1) kd.2 ds) ds)
  | _, _, _, _, .nil, r => r
  | _, _, _, _, .cons (a := p) (b := q) h t, r => by
    obtain ⟨k, v⟩ := p
    obtain ⟨k', d⟩ := q
    obtain ⟨rfl, h⟩ := h
    rw [List.foldl_cons, List.foldl_cons]
    exact fold_rep t (put_repK h r)
theorem fn_disp {keys : List (Option Expr)} {values : List Expr} {h : En → R (List (Key × D))} (hd : FDs X W keys values h) (hall : keys.all (·.isSome) = true := by rfl) (hl : keys.length = values.length := by rfl) (h0 : keys ≠ [] := by simp) (h15 : keys.length ≤ 15 := by decide) :
    FN X W false (.Dict keys values pos) (cDict h) := by
  obtain ⟨trs, h1, h2⟩ := hd
  refine impE (pe_disp (h1 pos) hall hl h0 h15) fun σ H Q ⟨H0, A0, A, ρ, o, P⟩ => fun p hp => ?_
  have sm : Same H (upd H p (.dK [])) := same_upd hp
  have og : Ok X.K H0 (p :: A0) (p :: A) ρ σ (upd H p (.dK [])) := o.grow sm hp (by rw [upd_same]; intro z; cases z)
  have P1 : Post X.mg W σ H (fun kds H1 => Post X.mg W σ H1 (fun d H' => ∀ v, RepN X.K false H H' A v d → Q v H') (if kds.length ≤ 15 then .ok (.dict (mergeD kds)) else .no)) (h ρ) := P.bind
  refine h2 σ _ _ ⟨H0, p :: A0, p :: A, ρ, og, ?_⟩
  cases hh : h ρ with
  | no => rw [hh] at P1; exact P1.elim
  | ex c m => rw [hh] at P1; exact fun u q H' s' f e => P1 u q H' (sm.trans s') (sm.free f) e
  | ok kds =>
    rw [hh] at P1
    have P2 : Post X.mg W σ H (fun d H' => ∀ v, RepN X.K false H H' A v d → Q v H') (if kds.length ≤ 15 then .ok (.dict (mergeD kds)) else .no) := P1 H (Same.refl _)
    split at P2
    · rename_i hk
      refine fun H2 s2 kvs hpr => ⟨s2 _ _ upd_same, kvs, rfl, by rw [paired_len hpr]; exact hk, ?_⟩
      have u : Tr (p :: A) H2 (p :: A) (upd H2 p (.dK (mergeK [] kvs))) := Tr.write List.mem_cons_self
      refine P2 (upd H2 p (.dK (mergeK [] kvs))) (fun b x e => ?_) _ ⟨p, rfl, hp, .inl ⟨rfl, _, upd_same, (fold_rep hpr .nil).tr u⟩⟩
      rw [upd_ne (ne_of_none e hp)]
      exact s2 _ _ (sm _ _ e)
    · exact P2.elim
theorem fn_dnewK : FN X W false (.Dict [] [] pos) (cK (.dict [])) := impE pe_dnewK fun σ H Q ⟨H0, A0, A, ρ, o, P⟩ => fun p hp => P _ (same_upd hp) _ ⟨p, rfl, hp, .inl ⟨rfl, [], upd_same, .nil⟩⟩
theorem fn_dnewT : FN X W true (.Dict [] [] pos) (cK (.dict [])) := impE pe_dnewT fun σ H Q ⟨H0, A0, A, ρ, o, P⟩ => fun p hp => P _ (same_upd hp) _ ⟨p, rfl, hp, .inr ⟨rfl, [], upd_same, .nil⟩⟩
end
end G

namespace G
open PySem PySem.Spec PyProof.Rows L2

/-! ### zip of three lists -/
def Itz3 (K : Frg) (a b c : Addr) : It :=
  ⟨fun i H => ∃ (xs ys zs : List V) (x y z : V), SqL K H a xs ∧ SqL K H b ys ∧ SqL K H c zs ∧ xs[i]? = some x ∧ ys[i]? = some y ∧ zs[i]? = some z,
   fun i H v H' => ∃ T x y z, v = .ref T ∧ H T = none ∧ H' = upd H T (.tup [x, y, z]) ∧ (∀ l, SqL K H a l → l[i]? = some x) ∧ (∀ l, SqL K H b l → l[i]? = some y) ∧ ∀ l, SqL K H c l → l[i]? = some z,
   fun i H => ∃ xs ys zs : List V, SqL K H a xs ∧ SqL K H b ys ∧ SqL K H c zs ∧ i ≤ xs.length ∧ i ≤ ys.length ∧ i ≤ zs.length ∧ (i = xs.length ∨ i = ys.length ∨ i = zs.length)⟩
abbrev cells3 (N : Nat) : List Addr := [N + 5, N + 3, N + 4, N, N + 1, N + 2]
def At3 (N a b c : Nat) (i : Nat) (h : Heap) : Prop := IsZip h (N + 5) (N + 3) (N + 4) .none ∧ IsTupOf3 h (N + 3) (.ref N) (.ref (N + 1)) (.ref (N + 2)) ∧ (∃ x y z, IsTupOf3 h (N + 4) x y z) ∧ h.IsListIter N a i ∧ h.IsListIter (N + 1) b i ∧ h.IsListIter (N + 2) c i
theorem cells3_of {N x : Nat} (h : x ∈ cells3 N) : x = N + 5 ∨ x = N + 3 ∨ x = N + 4 ∨ x = N ∨ x = N + 1 ∨ x = N + 2 := by simpa [cells3] using h
theorem At3.lt {N a b c i : Nat} {h : Heap} (st : At3 N a b c i h) {x : Nat} (m : x ∈ cells3 N) : x < h.objs.size := by
  obtain ⟨hz, _⟩ := st
  have h5 : N + 5 < h.objs.size := Heap.lt_size hz
  show (x : Nat) < h.objs.size
  rcases cells3_of m with q | q | q | q | q | q <;> (have q : (x : Nat) = _ := q; omega)
theorem turn_zip3 {P : Program} {w : World} {K : Frg} {elts : List Expr} {kk : Nat} {tpos : Pos} {N a b c : Nat} (ha : a < N) (hb : b < N) (hc0 : c < N) : Turn P w K (.Tuple elts kk tpos) (Itz3 K a b c) (cells3 N) (N + 5) (At3 N a b c) where
  mem := by simp
  obj := fun i h st x hx => by
    obtain ⟨hz, hTI, ⟨x1, y1, z1, hTO⟩, ⟨o1, e1, _, d1⟩, ⟨o2, e2, _, d2⟩, ⟨o3, e3, _, d3⟩⟩ := st
    rcases cells3_of hx with q | q | q | q | q | q
    · rw [q]; exact ⟨_, hz, fun v z => nomatch z⟩
    · rw [q]; exact ⟨_, hTI, fun v z => nomatch z⟩
    · rw [q]; exact ⟨_, hTO, fun v z => nomatch z⟩
    · rw [q]; exact ⟨o1, e1, fun v z => by rw [d1] at z; cases z⟩
    · rw [q]; exact ⟨o2, e2, fun v z => by rw [d2] at z; cases z⟩
    · rw [q]; exact ⟨o3, e3, fun v z => by rw [d3] at z; cases z⟩
  keep := fun i h h' st k => by
    obtain ⟨hz, hTI, ⟨x1, y1, z1, hTO⟩, h1, h2, h3⟩ := st
    exact ⟨k _ (by simp) _ hz, k _ (by simp) _ hTI, ⟨x1, y1, z1, k _ (by simp) _ hTO⟩, h1.at fun o q => k N (by simp) o q, h2.at fun o q => k (N + 1) (by simp) o q, h3.at fun o q => k (N + 2) (by simp) o q⟩
  item := by
    intro X hP hw hK hc i pins s σ H E I hf st hg
    subst hP hw hK
    have st0 := st
    obtain ⟨hz, hTI, ⟨x0, y0, z0, hTO⟩, h1, h2, h3⟩ := st
    obtain ⟨xs, ys, zs, x, y, z, q1, q2, q3, g1, g2, g3⟩ := hg
    obtain ⟨its1, r1, p1, _⟩ := I.list q1
    obtain ⟨its2, r2, p2, _⟩ := I.list q2
    obtain ⟨its3, r3, p3, _⟩ := I.list q3
    obtain ⟨u1, k1, ru1⟩ := r1.get g1
    obtain ⟨u2, k2, ru2⟩ := r2.get g2
    obtain ⟨u3, k3, ru3⟩ := r3.get g3
    have hh := I.ok.hd hc
    have l1 : i < its1.length := (List.getElem?_eq_some_iff.mp k1).1
    have l2 : i < its2.length := (List.getElem?_eq_some_iff.mp k2).1
    have l3 : i < its3.length := (List.getElem?_eq_some_iff.mp k3).1
    have S := zip_sep3 (N := N) (fp1 := [a]) (fp2 := [b]) (fp3 := [c]) (by simpa using ha) (by simpa using hb) (by simpa using hc0)
    have a1 : a ≠ N := Nat.ne_of_lt ha
    have a2 : b ≠ N + 1 := Nat.ne_of_lt (Nat.lt_succ_of_lt hb)
    have a3 : c ≠ N + 2 := Nat.ne_of_lt (Nat.lt_succ_of_lt (Nat.lt_succ_of_lt hc0))
    refine wpAny_pyNext_zipD3_item S (Draws.list (A := X.A.in1) hh N a a1 its1.toArray) (Draws.list (A := X.A.in1) hh (N + 1) b a2 its2.toArray) (Draws.list (A := X.A.in1) hh (N + 2) c a3 its3.toArray) hz hTI hTO ⟨h1, p1.isList⟩ ⟨h2, p2.isList⟩ ⟨h3, p3.isList⟩ (by simpa using l1) (by simpa using l2) (by simpa using l3) fun v1 v2 v3 h' tk e1 e2 e3 z' TO' n1 n2 n3 hT hsz hk => ?_
    have f1 : v1 = u1 := Option.some.inj ((by simpa using e1 : its1[i]? = some v1).symm.trans k1)
    have f2 : v2 = u2 := Option.some.inj ((by simpa using e2 : its2[i]? = some v2).symm.trans k2)
    have f3 : v3 = u3 := Option.some.inj ((by simpa using e3 : its3[i]? = some v3).symm.trans k3)
    subst f1 f2 f3
    refine ⟨_, rfl, wpAny_letOwnedTupleGo_zip (s := { s with heap := h', toks := tk }) z' fun h'' z'' sb => ?_⟩
    have nz : s.heap.objs.size ≠ N + 5 := Nat.ne_of_gt (st0.lt (by simp))
    have hT2 : h''.get? s.heap.objs.size = some { cls := .type "tuple", data := .seq #[v1, v2, v3] } := (sb.2 _ nz).trans hT
    have new : ObjOk X.prog X.w (upd H s.heap.objs.size (.tup [x, y, z])) h'' s.heap.objs.size (.tup [x, y, z]) := ⟨by show 3 ≤ sizeLine; decide, [v1, v2, v3], .cons ru1 (.cons ru2 (.cons ru3 .nil)), ⟨_, hT2, rfl, _, rfl⟩⟩
    have I1 : Inv X pins σ (upd H s.heap.objs.size (.tup [x, y, z])) { s with heap := h'', toks := tk } :=
      I.turnedNew (t' := tk) (ch := cells3 N) (fun d o hb q => (sb.2 d (fun q' => hb (by simp [q']))).trans (hk d o (fun q' => hb (by simp [q'])) (fun q' => hb (by simp [q'])) (fun q' => hb (by simp [q'])) (fun q' => hb (by simp [q'])) (fun q' => hb (by simp [q'])) q)) hf (Nat.le_refl _) new
    refine ⟨.ref s.heap.objs.size, _, I1, rfl, ⟨_, x, y, z, rfl, I.hok.fresh (Nat.le_refl _), rfl, fun l hl => by rw [I.list_inj hl q1]; exact g1, fun l hl => by rw [I.list_inj hl q2]; exact g2, fun l hl => by rw [I.list_inj hl q3]; exact g3⟩, ⟨z'', ?_, ⟨v1, v2, v3, ?_⟩, ?_, ?_, ?_⟩, fun d hd => ?_⟩
    · exact (sb.2 _ S.TIz).trans (hk _ _ S.TIz S.TITO S.TIi1 S.TIi2 S.TIi3 hTI)
    · exact (sb.2 _ S.TOz).trans TO'
    · exact n1.1.at fun o q => (sb.2 _ (Ne.symm S.zi1)).trans q
    · exact n2.1.at fun o q => (sb.2 _ (Ne.symm S.zi2)).trans q
    · exact n3.1.at fun o q => (sb.2 _ (Ne.symm S.zi3)).trans q
    · rw [upd_ne (Nat.ne_of_lt (st0.lt hd))]
      exact (hf d hd).1
  done := by
    intro X hP hw hK hc i pins s σ H E I hf st hg
    subst hP hw hK
    obtain ⟨hz, hTI, ⟨x0, y0, z0, hTO⟩, h1, h2, h3⟩ := st
    obtain ⟨xs, ys, zs, q1, q2, q3, m1, m2, m3, hend⟩ := hg
    obtain ⟨its1, r1, p1, _⟩ := I.list q1
    obtain ⟨its2, r2, p2, _⟩ := I.list q2
    obtain ⟨its3, r3, p3, _⟩ := I.list q3
    have hh := I.ok.hd hc
    have S := zip_sep3 (N := N) (fp1 := [a]) (fp2 := [b]) (fp3 := [c]) (by simpa using ha) (by simpa using hb) (by simpa using hc0)
    have a1 : a ≠ N := Nat.ne_of_lt ha
    have a2 : b ≠ N + 1 := Nat.ne_of_lt (Nat.lt_succ_of_lt hb)
    have a3 : c ≠ N + 2 := Nat.ne_of_lt (Nat.lt_succ_of_lt (Nat.lt_succ_of_lt hc0))
    have l1 := r1.length
    have l2 := r2.length
    have l3 := r3.length
    refine wpAny_pyNext_zipD3_end S (Draws.list (A := X.A.in1) hh N a a1 its1.toArray) (Draws.list (A := X.A.in1) hh (N + 1) b a2 its2.toArray) (Draws.list (A := X.A.in1) hh (N + 2) c a3 its3.toArray) hz hTI hTO ⟨h1, p1.isList⟩ ⟨h2, p2.isList⟩ ⟨h3, p3.isList⟩ (by simp; omega) (by simp; omega) (by simp; omega) (by simp; omega) fun h' tk hk => ⟨rfl, ?_⟩
    exact I.turnedL (t' := tk) (ch := cells3 N) (fun d o hb q => hk d o (fun q' => hb (by simp [q'])) (fun q' => hb (by simp [q'])) (fun q' => hb (by simp [q'])) (fun q' => hb (by simp [q'])) (fun q' => hb (by simp [q'])) q) hf
  self := fun A i s Q E st h => wpAny_pyIter_zip st.1 h
def zipL3 : List D → List D → List D → List D
  | x :: xs, y :: ys, z :: zs => .tuple [x, y, z] :: zipL3 xs ys zs
  | _, _, _ => []
def dZip3 : List D → Option (List D)
  | [.list xs, .list ys, .list zs] => some (zipL3 xs ys zs)
  | _ => none
theorem zipL3_len : ∀ xs ys zs : List D, (zipL3 xs ys zs).length ≤ xs.length ∧ (zipL3 xs ys zs).length ≤ ys.length ∧ (zipL3 xs ys zs).length ≤ zs.length ∧ ((zipL3 xs ys zs).length = xs.length ∨ (zipL3 xs ys zs).length = ys.length ∨ (zipL3 xs ys zs).length = zs.length)
  | [], ys, zs => by simp [zipL3]
  | x :: xs, [], zs => by simp [zipL3]
  | x :: xs, y :: ys, [] => by simp [zipL3]
  | x :: xs, y :: ys, z :: zs => by
    have := zipL3_len xs ys zs
    simp only [zipL3, List.length_cons]
    omega
theorem zipL3_get : ∀ {xs ys zs : List D} {i : Nat} {d : D}, (zipL3 xs ys zs)[i]? = some d → ∃ x y z, xs[i]? = some x ∧ ys[i]? = some y ∧ zs[i]? = some z ∧ d = .tuple [x, y, z]
  | [], _, _, _, _, h => by simp [zipL3] at h
  | _ :: _, [], _, _, _, h => by simp [zipL3] at h
  | _ :: _, _ :: _, [], _, _, h => by simp [zipL3] at h
  | x :: xs, y :: ys, z :: zs, 0, d, h => by
    simp [zipL3] at h
    exact ⟨x, y, z, rfl, rfl, rfl, h.symm⟩
  | x :: xs, y :: ys, z :: zs, i + 1, d, h => by
    simp only [zipL3, List.getElem?_cons_succ] at h
    obtain ⟨a, b, c, h1, h2, h3, h4⟩ := zipL3_get h
    exact ⟨a, b, c, by simpa using h1, by simpa using h2, by simpa using h3, h4⟩
theorem walk_itz3 {K : Frg} {A : List Addr} {H : Hp} {a b c : Addr} {xs ys zs : List D} (r1 : Rep K H A (.ref a) (.list xs)) (r2 : Rep K H A (.ref b) (.list ys)) (r3 : Rep K H A (.ref c) (.list zs)) : WalkJ K A (Itz3 K a b c) H (zipL3 xs ys zs) := fun A' H' u hA => by
  obtain ⟨_, v1, e, h1, l1, _⟩ := rep_listAt (H' := H') (A' := A') (r1.tr u)
  cases e
  obtain ⟨_, v2, e, h2, l2, _⟩ := rep_listAt (H' := H') (A' := A') (r2.tr u)
  cases e
  obtain ⟨_, v3, e, h3, l3, _⟩ := rep_listAt (H' := H') (A' := A') (r3.tr u)
  cases e
  refine ⟨fun i d hd => ?_, v1, v2, v3, .of h1, .of h2, .of h3, ?_⟩
  · obtain ⟨x, y, z, g1, g2, g3, rfl⟩ := zipL3_get hd
    obtain ⟨w1, k1, m1⟩ := l1.get g1
    obtain ⟨w2, k2, m2⟩ := l2.get g2
    obtain ⟨w3, k3, m3⟩ := l3.get g3
    refine ⟨⟨v1, v2, v3, w1, w2, w3, .of h1, .of h2, .of h3, k1, k2, k3⟩, fun q H'' ⟨T, x1, x2, x3, e1, n, e2, y1, y2, y3⟩ => ?_⟩
    subst e1 e2
    have j1 := (y1 _ (.of h1)).symm.trans k1
    have j2 := (y2 _ (.of h2)).symm.trans k2
    have j3 := (y3 _ (.of h3)).symm.trans k3
    cases j1
    cases j2
    cases j3
    exact ⟨same_upd n, rep_tup (fun z => hA T z n) n (.cons m1 (.cons m2 (.one m3)))⟩
  · have := zipL3_len xs ys zs
    rw [l1.length, l2.length, l3.length]
    exact this
section
variable {X : Cx} {W : WX} {a b c : Expr} {l : En → R (List D)} {q1 pos : Pos}
theorem fi_zip3 {elts : List Expr} {kk : Nat} {tpos : Pos} (hg : Gl X "zip") (hm : X.mg "zip" = none) (ha : FA X W [a, b, c] l) (hs : starEach [a, b, c] X.env = (false, eval a X.env) :: starEach [b, c] X.env := by rfl) (hpl : (backTo pos (starEach [b, c] X.env)).any (·.1) = false := by rfl) :
    FI X W (.Tuple elts kk tpos) (.Call (.Name "zip" q1) [a, b, c] [] pos) (cIter dZip3 l) := by
  refine ⟨fun pins s σ H R I ⟨H0, A0, A, ρ, o, P⟩ => ?_⟩
  refine Call_ (ld_blt I hg hm PyProof.Rows.boot_zip (PyProof.Rows.callWith_type1 (thn (ha.run pos pins s σ H (fun vs H1 => ∃ x y z xs ys zs, vs = [.ref x, .ref y, .ref z] ∧ SqL X.K H1 x xs ∧ SqL X.K H1 y ys ∧ SqL X.K H1 z zs ∧ R (Itz3 X.K x y z) H1) I ⟨H0, A0, A, ρ, o, P.bind.mono fun ds H1 s1 P1 vs hv => ?_⟩) fun us s1 ⟨vs, H1, I1, r1, q⟩ => ?_) hs hpl))
  · obtain ⟨es, e1, q⟩ := P1.ofO
    unfold dZip3 at e1
    split at e1
    · cases e1
      cases hv with
      | cons h1 hv =>
        obtain ⟨v2, v3, rfl, h2, h3⟩ := repL2 hv
        obtain ⟨x, xs, rfl, m1, _⟩ := rep_listAt (H' := H1) (A' := A) h1
        obtain ⟨y, ys, rfl, m2, _⟩ := rep_listAt (H' := H1) (A' := A) h2
        obtain ⟨z, zs, rfl, m3, _⟩ := rep_listAt (H' := H1) (A' := A) h3
        exact ⟨x, y, z, xs, ys, zs, rfl, .of m1, .of m2, .of m3, q H1 (Same.refl _) _ (walk_itz3 h1 h2 h3)⟩
    · cases e1
  · obtain ⟨x, y, z, xs, ys, zs, rfl, m1, m2, m3, q⟩ := q
    cases r1 with
    | cons r rr =>
      cases rr with
      | cons r' rr =>
        cases rr with
        | cons r'' rr =>
          cases rr
          cases r
          cases r'
          cases r''
          obtain ⟨its1, _, p1, _⟩ := I1.list m1
          obtain ⟨its2, _, p2, _⟩ := I1.list m2
          obtain ⟨its3, _, p3, _⟩ := I1.list m3
          refine zip_begins3 (begins_list x its1.toArray) (begins_list y its2.toArray) (begins_list z its3.toArray) p1.isList p2.isList p3.isList fun h' g1 g2 g3 g4 g5 g6 hsz hk => wpAny_pyIter_zip g1 ?_
          have I2 : Inv X pins σ H1 { s1 with heap := h' } := I1.kept (t' := s1.toks) hk
          refine ⟨s1.heap.objs.size + 5, cells3 s1.heap.objs.size, _, _, H1, rfl, I2, turn_zip3 p1.lt p2.lt p3.lt, ⟨g1, g2, ⟨_, _, _, g3⟩, ⟨_, g4, rfl, rfl⟩, ⟨_, g5, rfl, rfl⟩, ⟨_, g6, rfl, rfl⟩⟩, fun d hd => ?_, q⟩
          have hle : s1.heap.objs.size ≤ d := by
            rcases cells3_of hd with e | e | e | e | e | e <;> (show s1.heap.objs.size ≤ (d : Nat); have e : (d : Nat) = _ := e; omega)
          exact I1.fpOk hle (I1.hok.fresh hle)
end
end G

namespace G
open PySem PySem.Spec PyProof.Rows L2

/-! ### x = [list(r) for r in e]; x[k][j] = v -/
def rowsOf : List D → Option (List (List D))
  | [] => some []
  | .list r :: ds => (rowsOf ds).map fun rs => r :: rs
  | _ => none
theorem rowsOf_some : ∀ {ds : List D} {rs : List (List D)}, rowsOf ds = some rs → ds = rs.map .list
  | [], rs, h => by cases h; rfl
  | .list r :: ds, rs, h => by
    obtain ⟨rs', h1, h2⟩ := Option.map_eq_some_iff.mp (show (rowsOf ds).map _ = some rs from h)
    subst h2
    rw [rowsOf_some h1]
    rfl
  | .none :: _, _, h => by cases h
  | .bool _ :: _, _, h => by cases h
  | .int _ :: _, _, h => by cases h
  | .str _ :: _, _, h => by cases h
  | .tuple _ :: _, _, h => by cases h
  | .dict _ :: _, _, h => by cases h
/-- the lists at bs are new, no other thing holds them but the list at L -/
structure Copied (K : Frg) (H H2 : Hp) (A : List Addr) (L : Addr) (bs : List Addr) (rows : List (List D)) : Prop where
  same : Same H H2
  free : H L = none
  top : H2 L = some (.lst (bs.map V.ref))
  nd : bs.Nodup
  out : L ∉ bs
  new : ∀ b ∈ bs, H b = none
  it : ∀ (i : Nat) (b : Addr), bs[i]? = some b → ∃ r vs, rows[i]? = some r ∧ H2 b = some (.lst vs) ∧ RepL K H2 (L :: (bs ++ A)) vs r
section
variable {K : Frg} {H H2 H3 : Hp} {A : List Addr} {L b : Addr} {bs : List Addr} {rows : List (List D)}
theorem Copied.tr (c : Copied K H H2 A L bs rows) : Tr A H (L :: (bs ++ A)) H2 := ⟨fun b o h _ => c.same b o h, fun a ha => by
  rcases List.mem_cons.mp ha with rfl | ha
  · exact .inr c.free
  · rcases List.mem_append.mp ha with h | h
    · exact .inr (c.new a h)
    · exact .inl h⟩
/-- more of the heap -/
theorem Copied.more (c : Copied K H H2 A L bs rows) (s : Same H2 H3) : Copied K H H3 A L bs rows := ⟨c.same.trans s, c.free, s _ _ c.top, c.nd, c.out, c.new, fun i b h => by
  obtain ⟨r, vs, h1, h2, h3⟩ := c.it i b h
  exact ⟨r, vs, h1, s _ _ h2, h3.same s⟩⟩
/-- one list more -/
theorem Copied.next (c : Copied K H H2 A L bs rows) (hb : H2 b = none) {vs : List V} {r : List D} (rl : RepL K H2 (L :: (bs ++ A)) vs r) :
    Copied K H (upd (upd H2 b (.lst vs)) L (.lst ((bs ++ [b]).map V.ref))) A L (bs ++ [b]) (rows.take bs.length ++ [r]) := by
  have hL : L ≠ b := fun z => by have := c.top; rw [z, hb] at this; cases this
  have hn : b ∉ bs := fun z => by
    obtain ⟨i, hi⟩ := List.getElem?_of_mem z
    obtain ⟨_, _, _, h2, _⟩ := c.it i b hi
    rw [hb] at h2; cases h2
  have hHb : H b = none := c.same.free hb
  have u : Tr (L :: (bs ++ A)) H2 (L :: (bs ++ [b] ++ A)) (upd (upd H2 b (.lst vs)) L (.lst ((bs ++ [b]).map V.ref))) := ⟨fun x o h n => by
    rw [upd_ne (show x ≠ L from fun z => n (by rw [z]; exact List.mem_cons_self)), upd_ne (show x ≠ b from fun z => by rw [z, hb] at h; cases h)]
    exact h, fun x hx => by
    rcases List.mem_cons.mp hx with rfl | hx
    · exact .inl List.mem_cons_self
    · rcases List.mem_append.mp hx with hx | hx
      · rcases List.mem_append.mp hx with hx | hx
        · exact .inl (List.mem_cons_of_mem _ (List.mem_append_left _ hx))
        · simp at hx; subst hx; exact .inr hb
      · exact .inl (List.mem_cons_of_mem _ (List.mem_append_right _ hx))⟩
  refine ⟨fun x o h => ?_, c.free, upd_same, List.nodup_append.mpr ⟨c.nd, by simp, fun x hx y hy z => ?_⟩, fun z => ?_, fun x hx => ?_, fun i x hi => ?_⟩
  · rw [upd_ne (ne_of_none h c.free), upd_ne (ne_of_none h hHb)]
    exact c.same x o h
  · simp at hy; subst hy; subst z; exact hn hx
  · rcases List.mem_append.mp z with z | z
    · exact c.out z
    · simp at z; exact hL z
  · rcases List.mem_append.mp hx with z | z
    · exact c.new x z
    · simp at z; subst z; exact hHb
  · by_cases hlt : i < bs.length
    · rw [List.getElem?_append_left hlt] at hi
      obtain ⟨r', vs', h1, h2, h3⟩ := c.it i x hi
      refine ⟨r', vs', ?_, ?_, h3.tr u⟩
      · rw [List.getElem?_append_left (by rw [List.length_take]; have := (List.getElem?_eq_some_iff.mp h1).1; omega), List.getElem?_take_of_lt hlt]
        exact h1
      · rw [upd_ne (show x ≠ L from fun z => c.out (by rw [← z]; exact List.mem_of_getElem? hi)), upd_ne (show x ≠ b from fun z => hn (by rw [← z]; exact List.mem_of_getElem? hi))]
        exact h2
    · have hi2 : i = bs.length := by
        have := (List.getElem?_eq_some_iff.mp hi).1
        rw [List.length_append, List.length_singleton] at this
        omega
      subst hi2
      rw [List.getElem?_append_right (Nat.le_refl _), Nat.sub_self] at hi
      simp at hi
      subst hi
      refine ⟨r, vs, ?_, ?_, rl.tr u⟩
      · by_cases hr : bs.length ≤ rows.length
        · rw [List.getElem?_append_right (by rw [List.length_take]; omega), List.length_take, Nat.min_eq_left hr, Nat.sub_self]
          rfl
        · exfalso
          cases hl : bs.getLast? with
          | none => rw [List.getLast?_eq_none_iff] at hl; subst hl; simp at hr
          | some z =>
            rw [List.getLast?_eq_getElem?] at hl
            obtain ⟨_, _, h1, _⟩ := c.it _ z hl
            have := (List.getElem?_eq_some_iff.mp h1).1
            omega
      · rw [upd_ne (Ne.symm hL), upd_same]
end
section
variable {X : Cx} {W : WX} {l : En → R (List D)} {r : Nat}
abbrev rListR (X : Cx) : List V → Hp → VK → Prop := fun xs H Q => ∃ p ys, xs = [.ref p] ∧ (SqL X.K H p ys ∨ SqT X.K H p ys) ∧ ∀ l, H l = none → Q (.ref l) (upd H l (.lst ys))
theorem lc_copy {own : List (Str × Nat)} (hix : r ∈ own.map (·.2)) {σ : St} {H : Hp} {Q : VK} {H0 : Hp} {A0 A : List Addr} {ρ : En} (ok : Ok X.K H0 A0 A ρ σ H) (hr : r < ρ.length)
    (P : Post X.mg W σ H (fun ds H1 => ∃ rows, rowsOf ds = some rows ∧ ds.length ≤ sizeLine ∧ ∀ L bs H2, Copied X.K H1 H2 A L bs rows → bs.length = rows.length → Q (.ref L) H2) (l ρ)) :
    tLc (tFI X.K X.mg W l) (tFG X.K [r] (gN r)) (tFT X.K X.mg wNo cTrue) (tCB (rListR X) (tCons (tVar r) tNil)) (own.map (·.2)) σ H Q := by
  refine ⟨H0, A0, A, ρ, ok, P.mono fun ds H1 s1 ⟨rows, e1, hsz, q⟩ J hJ L hL => ?_⟩
  obtain rfl := rowsOf_some e1
  have ok1 := ok.same s1
  have hHL : H L = none := s1.free hL
  rw [List.length_map] at hsz
  refine ⟨fun i m H2 => m = rows.length - i ∧ i ≤ rows.length ∧ ∃ bs, bs.length = i ∧ Copied X.K H1 H2 A L bs (rows.take i), ⟨rows.length, rfl, Nat.zero_le _, [], rfl, ⟨same_upd hL, hL, upd_same, .nil, List.not_mem_nil, fun _ h => absurd h List.not_mem_nil, fun i b h => by simp at h⟩⟩, ?_⟩
  rintro i m H2 ⟨rfl, hile, bs, hbl, c⟩
  have okc : Ok X.K H0 (L :: A0) (L :: A) ρ σ H2 := ok1.grow c.same hL (by rw [c.top]; intro z; cases z)
  have hall : ∀ a ∈ L :: (bs ++ A), H2 a ≠ none := fun a ha z => by
    rcases List.mem_cons.mp ha with rfl | ha
    · rw [c.top] at z; cases z
    · rcases List.mem_append.mp ha with h | h
      · obtain ⟨j, hj⟩ := List.getElem?_of_mem h
        obtain ⟨_, _, _, h2, _⟩ := c.it j a hj
        rw [h2] at z; cases z
      · exact ok1.has a h (c.same.free z)
  obtain ⟨hgo, hst⟩ := hJ (L :: (bs ++ A)) H2 c.tr hall
  by_cases hlt : i < rows.length
  · have hget : (rows.map PyData.list)[i]? = some (.list rows[i]) := by simp [hlt]
    refine .inr ⟨(hgo i _ hget).1, fun H' => ∃ bs, bs.length = i + 1 ∧ Copied X.K H1 H' A L bs (rows.take (i + 1)), fun H' ⟨bs', h1, h2⟩ => ⟨rows.length - (i + 1), by omega, rfl, hlt, bs', h1, h2⟩, fun x H3 hy => ?_⟩
    obtain ⟨sx, rx⟩ := (hgo i _ hget).2 x H3 hy
    -- at the item: its state, all lists made so far kept away
    have oka : Ok X.K H0 (L :: (bs ++ A0)) (L :: (bs ++ A)) ρ σ H2 := by
      refine ⟨ok1.len, ok1.ext.trans c.same, fun a ha => ?_, fun a ha => ?_, hall, fun j s hs => ?_, ok1.dis⟩
      · rcases List.mem_cons.mp ha with rfl | ha
        · exact List.mem_cons_self
        · rcases List.mem_append.mp ha with h | h
          · exact List.mem_cons_of_mem _ (List.mem_append_left _ h)
          · exact List.mem_cons_of_mem _ (List.mem_append_right _ (ok1.sub a h))
      · rcases List.mem_cons.mp ha with rfl | ha
        · exact .inl List.mem_cons_self
        · rcases List.mem_append.mp ha with h | h
          · exact .inl (List.mem_cons_of_mem _ (List.mem_append_left _ h))
          · rcases ok1.new a h with z | z
            · exact .inl (List.mem_cons_of_mem _ (List.mem_append_right _ z))
            · exact .inr z
      · obtain ⟨v, h1, h2⟩ := ok1.slot j s hs
        refine ⟨v, h1, ?_⟩
        cases s with
        | v d => exact Rep.tr c.tr h2
        | er _ _ => exact trivial
        | sc ns =>
          obtain ⟨a, e, h3⟩ := h2
          exact ⟨a, e, h3.tr c.tr⟩
        | own t d =>
          obtain ⟨a, e, ha, n0, h3⟩ := h2
          refine ⟨a, e, List.mem_cons_of_mem _ (List.mem_append_right _ ha), ⟨n0.1, fun z => ?_⟩, h3.tr c.same c.tr⟩
          rcases List.mem_cons.mp z with z | z
          · exact ok1.has a ha (by rw [z]; exact hL)
          · rcases List.mem_append.mp z with z | z
            · exact ok1.has a ha (c.new a z)
            · exact n0.2 z
    have okw := (oka.same sx).wipe (own.map (·.2))
    refine ⟨H0, _, _, wipeE ρ (own.map (·.2)), .list rows[i], _, okw, rx, rfl, fun σ2 o2 ag => ⟨(wipe_agree (fun j hj => by simp at hj; subst hj; exact hix) ag).trans wipe_wipe, H0, _, _, _, o2, ?_⟩⟩
    show ∀ H4, Same H3 H4 → _
    intro H4 s4
    dsimp only
    rw [if_pos rfl]
    obtain ⟨v, hv, rv⟩ := (o2.same s4).slot r (.v (.list rows[i])) (by rw [List.getElem?_set_self (by rw [wipeE_length]; exact hr)])
    obtain ⟨p, us, e, h5, r5⟩ := RepB.lst (.inl rv)
    subst e
    refine ⟨_, hv, p, us, rfl, .inl (SqL.of h5), fun b hb => ?_⟩
    have c4 : Copied X.K H1 H4 A L bs (rows.take i) := (c.more sx).more s4
    have hLb : L ≠ b := fun z => by have := c4.top; rw [z, hb] at this; cases this
    refine ⟨bs.map V.ref, (upd_ne hLb).trans c4.top, by rw [List.length_map, hbl]; omega, bs ++ [b], by rw [List.length_append, hbl]; rfl, ?_⟩
    have c5 := c4.next hb r5
    rw [hbl, List.take_take, Nat.min_self, ← List.take_succ_eq_append_getElem hlt] at c5
    rw [show bs.map V.ref ++ [V.ref b] = (bs ++ [b]).map V.ref by simp]
    exact c5
  · have e : i = rows.length := by omega
    subst e
    rw [List.take_length] at c
    exact .inl ⟨by have := hst; rw [List.length_map] at this; exact this, q L bs H2 c hbl⟩
theorem Post.noXW {mg : MgT} {α : Type} {σ : St} {H : Hp} {P : α → Hp → Prop} {r : R α} {a : α} (h : G.noX r = some a) (q : ∀ H', Same H H' → P a H') : Post mg W σ H P r := by
  cases r with
  | ok b => cases h; exact q
  | ex c n => cases h
  | no => cases h
def setLL (rows : List (List D)) (k j : Int) (v : D) : Option (List (List D)) := (ixN rows.length k).bind fun a => (rows[a]?).bind fun r => (ixN r.length j).map fun b => rows.set a (r.set b v)
def bentBy (fk fj f : En → R D) (rows : List (List D)) (ρ1 : En) : Option (List (List D)) := (noX (f ρ1)).bind fun v => if flatD v = true then (noX (fk ρ1)).bind fun k => (toI k).bind fun k => (noX (fj ρ1)).bind fun j => (toI j).bind fun j => setLL rows k j v else none
def sBent (ix r : Nat) (l : En → R (List D)) (fk fj f : En → R D) : En → SR := fun ρ => if r < ρ.length ∧ ix < ρ.length then (.of (l ρ) ρ fun ds => match rowsOf ds with
  | some rows => if ds.length ≤ sizeLine then (match bentBy fk fj f rows (ρ.set ix (some (.own false (.list ds)))) with
      | some rows' => .nx (ρ.set ix (some (.own false (.list (rows'.map .list)))))
      | none => .no) else .no
  | none => .no) else .no
theorem orep_copied {K : Frg} {H H2 : Hp} {A : List Addr} {L : Addr} {bs : List Addr} {rows : List (List D)} (c : Copied K H H2 A L bs rows) (hl : bs.length = rows.length) (hA : ∀ a ∈ A, H a ≠ none) : ORep K H2 (L :: A) L false (.list (rows.map .list)) := by
  refine ⟨bs.map V.ref, c.top, ?_⟩
  have all : ∀ (xs : List Addr) (rs : List (List D)), xs.length = rs.length → (∀ (i : Nat) (b : Addr), xs[i]? = some b → b ∈ bs ∧ ∃ r vs, rs[i]? = some r ∧ H2 b = some (.lst vs) ∧ RepL K H2 (L :: (bs ++ A)) vs r) → RepL K H2 (L :: A) (xs.map V.ref) (rs.map .list) := by
    intro xs
    induction xs with
    | nil => intro rs hl _; cases rs with
      | nil => exact .nil
      | cons _ _ => simp at hl
    | cons b xs ih =>
      intro rs hl h
      cases rs with
      | nil => simp at hl
      | cons r rs =>
        obtain ⟨hb, r', vs, h1, h2, h3⟩ := h 0 b rfl
        simp at h1
        subst h1
        refine .cons (.lst (fun z => ?_) h2 (h3.sub fun a ha => ?_)) (ih rs (by simpa using hl) fun i x hx => ?_)
        · rcases List.mem_cons.mp z with z | z
          · exact c.out (by rw [← z]; exact hb)
          · exact hA b z (c.new b hb)
        · rcases List.mem_cons.mp ha with rfl | ha
          · exact List.mem_cons_self
          · exact List.mem_cons_of_mem _ (List.mem_append_right _ ha)
        · obtain ⟨h4, r', vs', h5, h6⟩ := h (i + 1) x (by simpa using hx)
          exact ⟨h4, r', vs', by simpa using h5, h6⟩
  exact all bs rows hl fun i b hb => ⟨List.mem_of_getElem? hb, c.it i b hb⟩
/-- one of the lists is changed -/
theorem Copied.set {K : Frg} {H H2 : Hp} {A : List Addr} {L : Addr} {bs : List Addr} {rows : List (List D)} (c : Copied K H H2 A L bs rows) {a : Nat} {b : Addr} {r : List D} {vs : List V} {j : Nat} {w : V} {d : D} (hb : bs[a]? = some b) (hr : rows[a]? = some r) (hv : H2 b = some (.lst vs)) (rl : RepL K H2 (L :: (bs ++ A)) vs r) (hw : Rep K H2 (L :: (bs ++ A)) w d) :
    Copied K H (upd H2 b (.lst (vs.set j w))) A L bs (rows.set a (r.set j d)) := by
  have hm : b ∈ bs := List.mem_of_getElem? hb
  have u : Tr (L :: (bs ++ A)) H2 (L :: (bs ++ A)) (upd H2 b (.lst (vs.set j w))) := Tr.write (List.mem_cons_of_mem _ (List.mem_append_left _ hm))
  refine ⟨fun x o h => ?_, c.free, (upd_ne (show L ≠ b from fun z => c.out (by rw [z]; exact hm))).trans c.top, c.nd, c.out, c.new, fun i x hi => ?_⟩
  · rw [upd_ne (ne_of_none h (c.new b hm))]
    exact c.same x o h
  · by_cases e : i = a
    · subst e
      cases hb.symm.trans hi
      exact ⟨r.set j d, vs.set j w, by rw [List.getElem?_set_self (List.getElem?_eq_some_iff.mp hr).1], upd_same, (RepL.set j rl hw).tr u⟩
    · obtain ⟨r', vs', h1, h2, h3⟩ := c.it i x hi
      refine ⟨r', vs', by rw [List.getElem?_set_ne (Ne.symm e)]; exact h1, ?_, h3.tr u⟩
      rw [upd_ne (show x ≠ b from fun z => ?_)]
      · exact h2
      · subst z
        obtain ⟨l1, e1⟩ := List.getElem?_eq_some_iff.mp hb
        obtain ⟨l2, e2⟩ := List.getElem?_eq_some_iff.mp hi
        have := (List.pairwise_iff_getElem.mp c.nd)
        rcases Nat.lt_or_gt_of_ne e with q | q
        · exact this i a l2 l1 q (by rw [e1, e2])
        · exact this a i l1 l2 q (by rw [e1, e2])
theorem fss_bent {ix : Nat} {x rn : Str} {py spos pos pos2 p1 p2 p3 p4 p5 p6 p7 : Pos} {iter ke je ve : Expr} {scope : Scope} {own : List (Str × Nat)} {rest : List Stmt} {fk fj f : En → R D} {g : En → SR} (hc : X.calm = true) (hN : X.N.Nodup) (hy : X.N[ix]? = some x) (hyl : X.env.scope.names.lookup x = some .local)
    (hsw : swapsWith (.ListComp (.Call (.Name "list" p1) [.Name rn p2] [] p3) [⟨.Name rn p4, iter, [], 0⟩] scope pos) (some (.Name x py)) spos.line X.env = pure true) (hi : FI X W (.Name rn p4) iter l) (okb : BlkOk X.N X.env.scope scope own)
    (hg : ∀ (s : Shared) (H : Hp) (C : Addr) (cl : List (Str × Addr)) (fp : List Addr), FG (X.blk s H scope (compEnvC scope cl C X.env) fp) (.Name rn p4) [r] (gN r)) (hix : r ∈ own.map (·.2))
    (hr : ∀ (s : Shared) (H : Hp) (C : Addr) (cl : List (Str × Addr)) (fp : List Addr), PE (X.blk s H scope (compEnvC scope cl C X.env) fp) (.Name rn p2) (tVar r))
    (hgl : ∀ (s : Shared) (H : Hp) (C : Addr) (cl : List (Str × Addr)) (fp : List Addr), Gl (X.blk s H scope (compEnvC scope cl C X.env) fp) "list") (hm : X.mg "list" = none)
    (hxe : PE X (.Name x p5) (tVar ix)) (hk : FE X W ke fk) (hj : FE X W je fj) (hv : FE X W ve f) (hsl : PlainIx ke) (hrest : FSs X W rest g)
    (hst : ∀ (s : Shared) (H : Hp) (C : Addr) (cl : List (Str × Addr)) (fp : List Addr), starEach [.Name rn p2] (X.blk s H scope (compEnvC scope cl C X.env) fp).env = (false, eval (.Name rn p2) (X.blk s H scope (compEnvC scope cl C X.env) fp).env) :: starEach [] (X.blk s H scope (compEnvC scope cl C X.env) fp).env := by intros; rfl)
    (hpl : ∀ (s : Shared) (H : Hp) (C : Addr) (cl : List (Str × Addr)) (fp : List Addr), (backTo p3 (starEach [] (X.blk s H scope (compEnvC scope cl C X.env) fp).env)).any (·.1) = false := by intros; rfl)
    (hfi : ∀ x, foldedSetIterable iter X.env x = pure x := by intro _; rfl)
    (ha : ∀ v, assign (.Subscript (.Subscript (.Name x p5) ke p6) je p7) X.env v = (do
      let ov ← holding [v] (eval (.Subscript (.Name x p5) ke p6) X.env)
      let iv ← holding [v, ov] (eval je X.env)
      standAt p7
      holding [v, ov, iv] (setItem ov iv v)
      release [v, ov, iv] []) := by intro _; rfl)
    (hs2 : swapsWithSole [.Subscript (.Subscript (.Name x p5) ke p6) je p7] ve pos2.line X.env = pure false := by rfl) (hw2 : swappedStores [.Subscript (.Subscript (.Name x p5) ke p6) je p7] ve X.env = pure none := by rfl)
    (h12 : (assignEach [.Subscript (.Subscript (.Name x p5) ke p6) je p7] X.env).map (·.2) = [assign (.Subscript (.Subscript (.Name x p5) ke p6) je p7) X.env] := by rfl) :
    FSs X W (.Assign [.Name x py] (.ListComp (.Call (.Name "list" p1) [.Name rn p2] [] p3) [⟨.Name rn p4, iter, [], 0⟩] scope pos) spos :: .Assign [.Subscript (.Subscript (.Name x p5) ke p6) je p7] ve pos2 :: rest) (sSeq (sBent ix r l fk fj f) g) := by
  refine impSs (pss_cons (ps_setLc (g := tFG X.K [r] (gN r)) (tt := tFT X.K X.mg wNo cTrue) hc hN hy hyl hsw hi okb hg (fun s H C cl fp => fts_nil) (fun s H C cl fp => pe_callTy (r := rListR X) (call_list_of (X := X.blk s H scope (compEnvC scope cl C X.env) fp)) (hgl s H C cl fp) hm (by rfl) (pa_cons (hr s H C cl fp) pa_nil (hst s H C cl fp)) (by decide) (by decide) (hst s H C cl fp) (hpl s H C cl fp)) hfi)
    (pss_cons (ps_asg hv (pg_sub (pe_ix ix_list hxe hk hsl) hj set_list ha) hs2 hw2 h12) hrest)) fun Ee σ H ⟨H0, A0, A, ρ, ok, P⟩ => ?_
  have P' : PostS X.K X.mg W H0 A0 A H { Ee with nx := tFS X.K X.mg W g Ee } (sBent ix r l fk fj f ρ) := PostS.seq P
  unfold sBent at P'
  split at P'
  rotate_left
  · exact P'.elim
  rename_i hrl
  obtain ⟨hrl, hixl⟩ := hrl
  show tLc (tFI X.K X.mg W l) (tFG X.K [r] (gN r)) (tFT X.K X.mg wNo cTrue) (tCB (rListR X) (tCons (tVar r) tNil)) (own.map (·.2)) σ H (fun u K1 => tSeq (tAsg (tF X.K X.mg W f) (gSub (tOp (rIxL X.K) (tVar ix) (tF X.K X.mg W fk)) (tF X.K X.mg W fj) rSetL)) (tFS X.K X.mg W g) Ee (σ.set ix (some u)) K1)
  refine lc_copy hix ok hrl ((P'.of ok).mono fun ds H1 s1 P1 => ?_)
  split at P1
  rotate_left
  · exact P1.elim
  rename_i rows hrows
  split at P1
  rotate_left
  · exact P1.elim
  rename_i hsz
  split at P1
  rotate_left
  · exact P1.elim
  rename_i rows' hb
  have eds := rowsOf_some hrows
  subst eds
  refine ⟨rows, hrows, hsz, fun L bs H2 c hbl => ?_⟩
  have ok1 := ok.same s1
  unfold bentBy at hb
  obtain ⟨v, e1, hb⟩ := Option.bind_eq_some_iff.mp hb
  split at hb
  rotate_left
  · cases hb
  rename_i hflat
  obtain ⟨kd, e2, hb⟩ := Option.bind_eq_some_iff.mp hb
  obtain ⟨k, e3, hb⟩ := Option.bind_eq_some_iff.mp hb
  obtain ⟨jd, e4, hb⟩ := Option.bind_eq_some_iff.mp hb
  obtain ⟨j, e5, hb⟩ := Option.bind_eq_some_iff.mp hb
  unfold setLL at hb
  obtain ⟨a, e6, hb⟩ := Option.bind_eq_some_iff.mp hb
  obtain ⟨row, e7, hb⟩ := Option.bind_eq_some_iff.mp hb
  obtain ⟨b, e8, e9⟩ := Option.map_eq_some_iff.mp hb
  have hA := ok1.has
  have o2 : Ok X.K H0 A0 (L :: A) (ρ.set ix (some (.own false (.list (rows.map .list))))) (σ.set ix (some (.ref L))) H2 := ok1.setOwn c.same ix c.free (orep_copied c hbl hA)
  -- the value, then the places
  refine ⟨H0, A0, L :: A, _, o2, Post.noXW e1 fun H3 s3 w hw => ?_⟩
  have o3 := o2.same s3
  have hix2 : ix < σ.length := by rw [ok.len]; exact hixl
  refine ⟨.ref L, by rw [List.getElem?_set_self hix2], H0, A0, L :: A, _, o3, Post.noXW e2 fun H4 s4 y hyk => ?_⟩
  have o4 := o3.same s4
  have ek := toI_some e3
  subst ek
  obtain rfl := (RepB.of hyk).int
  have c4 := (c.more s3).more s4
  obtain ⟨hlt, e10⟩ := List.getElem?_eq_some_iff.mp e7
  obtain ⟨ba, hba⟩ : ∃ ba, bs[a]? = some ba := ⟨_, List.getElem?_eq_getElem (show a < bs.length by omega)⟩
  refine ⟨L, bs.map V.ref, k, .ref ba, rfl, rfl, SqL.of c4.top, ?_, H0, A0, L :: A, _, o4, Post.noXW e4 fun H5 s5 z hz => ?_⟩
  · unfold atI
    rw [List.length_map, hbl, e6, Option.bind_some, List.getElem?_map, hba]
    rfl
  have ej := toI_some e5
  subst ej
  obtain rfl := (RepB.of hz).int
  have c5 := c4.more s5
  obtain ⟨r', vs, h1, h2, h3⟩ := c5.it a _ hba
  cases e7.symm.trans h1
  refine ⟨_, vs, j, b, rfl, rfl, h2, by rw [h3.length]; exact e8, ?_⟩
  have hw5 : Rep X.K H5 (L :: (bs ++ A)) w v := flat_rep (hw.same (s4.trans s5)) (by cases v <;> first | rfl | cases hflat)
  have c6 := c5.set (j := b) hba e7 h2 h3 hw5
  subst e9
  have fin := ok1.setOwn c6.same ix c6.free (orep_copied c6 (by rw [List.length_set]; exact hbl) hA)
  refine P1 _ _ _ fin ⟨fun q o h n => c6.same q o (s1 q o h), fun q hq => ?_⟩
  rcases List.mem_cons.mp hq with rfl | hq
  · exact .inr (s1.free c6.free)
  · exact .inl hq
end
end G

namespace G
open PySem PySem.Spec PyProof.Rows L2

/-! ### the law's own head -/
/-- a law def of one script, whose answer is true, called by the claim -/
theorem law_done {P : Program} {w : World} {K : Frg} {mg mb : MgT} {k : Nat} {x : Str} {F : List Int → R D} {s₁ : Shared} {fa a : Addr} {us : List Value} {ns : List Int} (KX : K.In s₁.heap) (hns : s₁.heap.Ns mainGlobals mg) (hb : s₁.heap.Ns builtinsNs mb) (hbb : ∀ z : Str, z ≠ "__name__" → mb z = bootBuiltins z)
    (hlim : s₁.heap.NoLimit) (hgens : s₁.gens = #[]) (hobj : s₁.heap.get? a = some { cls := .type "list", data := .seq us.toArray }) (hints : IntsAre us ns) (hlen : ns.length ≤ sizeLine) (hr : Room k callerA) (hfa : mg x = some (.ref fa))
    (C : ∀ base : Heap, K.In base → base.Ns mainGlobals mg → CallS P w K mg base k x F) (good : F ns = .ok (.bool true)) :
    codeAny (model P w) callerA (.call (.ref fa) ⟨[.ref a], []⟩) (fun r s' => r = .ok (.ret (.bool true)) ∧ OldK s₁.heap s'.heap ∧ s'.os = s₁.os ∧ AllBare s'.gens) s₁ := by
  have vals := vals_ints hints
  have size := hints.length
  -- whatever is tracked of it at the start
  have from_ : ∀ H : Hp, Only H → LRep K H [] a (ns.map V.int) → HOk P w H s₁.heap → (∀ b, H b ≠ none → b = a ∧ K.lookup a = none) →
      codeAny (model P w) callerA (.call (.ref fa) ⟨[.ref a], []⟩) (fun r s' => r = .ok (.ret (.bool true)) ∧ OldK s₁.heap s'.heap ∧ s'.os = s₁.os ∧ AllBare s'.gens) s₁ := by
    intro H only rep ok one
    have untracked : ∀ {b : Addr}, b ≠ a → H b = none := fun {b} n => by
      cases q : H b with
      | none => rfl
      | some u => exact absurd (one b (by rw [q]; simp)).1 n
    have lay : ∀ {b : Addr} {m : Str → Option Value}, s₁.heap.Ns b m → (hidT s₁.heap H).Ns b m := fun {b m} ⟨o, es, ep, e, d, r⟩ => by
      refine ⟨o, es, ep, hidT_get e (untracked fun z => ?_), d, r⟩
      subst z
      rw [hobj] at e
      cases e
      cases (show Data.seq us.toArray _ = Data.dict es ep from d)
    have kin : K.In (hidT s₁.heap H) := fun b o e => hidT_get (KX b o e) (by
      cases q : H b with
      | none => rfl
      | some u =>
        obtain ⟨z1, z2⟩ := one b (by rw [q]; simp)
        rw [z1, z2] at e
        cases e)
    obtain ⟨mc, l1, l2⟩ := hlim
    have e0 : Env0 P w K mg (hidT s₁.heap H) callerA [] s₁ H :=
      ⟨rfl, ⟨kin, lay hns, ⟨mb, lay hb, hbb⟩, ⟨mc, lay l1, l2⟩⟩, fun b o e => of_hidT e, Nat.le_of_eq (hidT_size _ _), trivial, fun b hb => absurd (show b ∈ ([] : List Addr) from hb) (by simp), ok, .of_eq hgens⟩
    obtain ⟨f, fd, p, hF, hm, hkp, hB⟩ := C _ kin (lay hns)
    cases hfa.symm.trans hm
    refine codeAny_mono (hF.run callerA [] s₁ H ⟨[.ref a], []⟩ (.ref a) a ns [] (fun v _ => v = .bl true) (fun _ _ _ => False) hr rfl e0 (by have b := hB s₁ [.ref a] KX rfl; exact b) rfl rep (fun _ z => absurd z List.not_mem_nil) (by rw [good]; exact fun v H' _ r => by cases r; rfl)) fun r s' h => ?_
    cases r with
    | error e =>
      obtain ⟨_, _, _, _, _, _, _, _, _, _, _, _, z⟩ := h
      exact z.elim
    | ok fl =>
      cases fl with
      | next => exact h.elim
      | brk => exact h.elim
      | cont => exact h.elim
      | ret u =>
        obtain ⟨v, H', os, bare, un, ok', rv, q⟩ := h
        obtain rfl : v = .bl true := q
        obtain rfl : u = Value.bool true := rv
        refine ⟨rfl, OldK.of_keep fun b o e => ?_, os, bare⟩
        cases q : H b with
        | none => exact un.keep b o e q (fun z => absurd (show b ∈ ([] : List Addr) from z) (by simp)) (by simp)
        | some u =>
          rcases only b with z | ⟨ob, xs, z⟩
          · rw [q] at z; cases z
          · obtain ⟨g1, _⟩ := ok b _ z
            obtain ⟨g2, _⟩ := ok' b _ (un.frzs b ob _ z)
            cases e.symm.trans g1
            exact g2
  cases hk : K.lookup a with
  | some o =>
    have e := KX a o hk
    rw [hobj] at e
    cases e
    exact from_ (fun _ => none) (fun _ => .inl rfl) (.inr ⟨_, us.toArray, _, hk, rfl, rfl, rfl, by rw [List.size_toArray, size]; exact hlen, by simpa using vals⟩) (fun b u z => by cases (show (none : Option HO) = some u from z)) fun b z => absurd rfl z
  | none =>
    refine from_ (fun b => if b = a then some (.frz { cls := .type "list", data := .seq us.toArray } (.lst (ns.map V.int))) else none) (fun b => ?_) (.inl ⟨List.not_mem_nil, .inr ⟨{ cls := .type "list", data := .seq us.toArray }, if_pos rfl⟩⟩) (fun b u z => ?_) fun b z => ?_
    · by_cases hb : b = a
      · exact .inr ⟨_, _, if_pos hb⟩
      · exact .inl (if_neg hb)
    · by_cases hb : b = a
      · cases (if_pos hb).symm.trans z
        subst hb
        exact ⟨hobj, by rw [List.length_map]; exact hlen, us, _, vals, hobj⟩
      · cases (if_neg hb).symm.trans z
    · by_cases hb : b = a
      · exact ⟨hb, hk⟩
      · exact absurd (if_neg hb) z
theorem walk_g {l : PySem.W.OpenLaw} {n k : Nat} {q : Program} {loose : List Str} {XP : (Str → Option Value) → Heap → Prop} {YP : World → Heap → Prop} {d : DefRec} {K : Params → Frg} {F : List Int → R D}
    (hn : l.most = some n) (hn2 : n ≤ sizeLine) (hdf : d.params.defaults = []) (hr : Room k callerA) (hY : ∀ (w : World) (h : Heap), YP w h → (K w.params).In h)
    (C : ∀ (w : World) (mg : MgT) (h : Heap), (K w.params).In h → h.Ns mainGlobals mg → ∀ base : Heap, (K w.params).In base → base.Ns mainGlobals mg → CallS l.prog w (K w.params) mg base k d.name F)
    (good : ∀ ns : List Int, ns.length ≤ n → F ns = .ok (.bool true)) : PySem.W.WalkO q loose XP YP l.row.toRowW d [] (fun f vs => PySem.call f vs) :=
  Att.attach_call hn hdf fun w s₀ s₁ mg mb fa o pm cd doc a us ns G0 Y ho hd hcd hmg hobj hints hlen hg =>
    law_done (hY w _ Y) G0.T.g G0.T.b G0.T.builtins G0.T.nolimit hg hobj hints (Nat.le_trans hlen hn2) hr hmg (C w mg _ (hY w _ Y) G0.T.g) (good ns hlen)
/-! ### what the top has written -/
section
variable {P : Program} {K : Frg} {mg : MgT} {h : Heap} {x : Str}
theorem mk_def {st : Stmt} {ps : List Str} {f : Addr} {oc : Value} {od an : Option Addr} {osl : Array (Option Value)} {kV doc pm cdv ct : Value} (X : K.In h) (G0 : h.Ns mainGlobals mg) (a : PySem.W.nsIn K mainGlobals x = some (some (.ref f)))
    (l : K.lookup f = some ⟨oc, od, .func (PySem.W.fnOf x x (defArgs st) (defBody st) (defScope st) .none kV doc pm an cdv ct), osl⟩) (c : PySem.W.codeIn K cdv x = true) (k : PySem.W.keepIn K (.ref f) = true)
    (hb : ∀ (kV doc pm : Value) (an : Option Addr) (cdv ct : Value) (us : List Value), us.length = ps.length → bindArgs (PySem.W.fnOf x x (defArgs st) (defBody st) (defScope st) .none kV doc pm an cdv ct) ⟨us, []⟩ = pure (ps.zip us)) : DefG K mg x st ps :=
  ⟨f, _, fun_mk l c k, PySem.W.mg_of X G0 a, (fun_mk l c k).binds hb⟩
theorem mk_none (X : K.In h) (G0 : h.Ns mainGlobals mg) (a : PySem.W.nsIn K mainGlobals x = some none) : mg x = none := PySem.W.mg_none_of X G0 a
theorem mk_int {i : Int} {t : Tok} (X : K.In h) (G0 : h.Ns mainGlobals mg) (a : PySem.W.nsIn K mainGlobals x = some (some (.int i t))) : GInt mg x i := ⟨t, PySem.W.mg_of X G0 a⟩
/-- a written tuple's items -/
inductive ItemsD : List Value → List V → List D → Prop
  | nil : ItemsD [] [] []
  | int {i : Int} {t : Tok} {us : List Value} {vs : List V} {ds : List D} (r : ItemsD us vs ds) : ItemsD (.int i t :: us) (.int i :: vs) (.int i :: ds)
  | str {z : Str} {t : Tok} {us : List Value} {vs : List V} {ds : List D} (r : ItemsD us vs ds) : ItemsD (.str z t :: us) (.str z :: vs) (.str z :: ds)
theorem ItemsD.vals : ∀ {us : List Value} {vs : List V} {ds : List D}, ItemsD us vs ds → Vals vs us
  | _, _, _, .nil => .nil
  | _, _, _, .int r => .cons ⟨_, rfl⟩ r.vals
  | _, _, _, .str r => .cons ⟨_, rfl⟩ r.vals
theorem ItemsD.rep : ∀ {us : List Value} {vs : List V} {ds : List D}, ItemsD us vs ds → ∀ H A, RepL K H A vs ds
  | _, _, _, .nil, _, _ => .nil
  | _, _, _, .int r, H, A => .cons (.int _) (r.rep H A)
  | _, _, _, .str r, H, A => .cons (.str _) (r.rep H A)
theorem mk_tup {a : Addr} {us : List Value} {vs : List V} {ds : List D} {n : Nat} {od : Option Addr} {sl : Array (Option Value)} (X : K.In h) (G0 : h.Ns mainGlobals mg) (e : PySem.W.nsIn K mainGlobals x = some (some (.ref a))) (l : K.lookup a = some ⟨.type "tuple", od, .seq us.toArray n, sl⟩) (it : ItemsD us vs ds) (hz : us.length ≤ sizeLine) : GTup K mg x ds :=
  ⟨a, vs, PySem.W.mg_of X G0 e, ⟨_, us.toArray, n, l, rfl, rfl, by rw [List.size_toArray]; exact hz, by simpa using it.vals⟩, it.rep⟩
theorem ints_items : ∀ {us : List Value} {vs : List V} {ns : List Int}, ItemsD us vs (ns.map .int) → vs = ns.map V.int
  | _, _, [], h => by cases h; rfl
  | _, _, n :: ns, h => by
    rw [List.map_cons] at h
    cases h with
    | int r => rw [ints_items r]; rfl
theorem mk_tupI {a : Addr} {us : List Value} {vs : List V} {ns : List Int} {n : Nat} {sl : Array (Option Value)} (X : K.In h) (G0 : h.Ns mainGlobals mg) (e : PySem.W.nsIn K mainGlobals x = some (some (.ref a))) (l : K.lookup a = some ⟨.type "tuple", none, .seq us.toArray n, sl⟩) (it : ItemsD us vs (ns.map .int)) (hz : us.length ≤ sizeLine) : GTupI K mg x ns := by
  obtain rfl := ints_items it
  exact ⟨a, PySem.W.mg_of X G0 e, ⟨_, us.toArray, n, l, rfl, rfl, by rw [List.size_toArray]; exact hz, by simpa using it.vals⟩, _, l, rfl, rfl⟩
theorem mk_exm {c z : String} {C C2 : Addr} {b : Bool} (X : K.In h) (G0 : h.Ns mainGlobals mg) (a1 : PySem.W.nsIn K mainGlobals (Str.ofString c) = some (some (.ref C))) (a2 : PySem.W.nsIn K mainGlobals (Str.ofString z) = some (some (.ref C2))) (e : PySem.W.exmOne K (.ref C) (.ref C2) = some b) (er : ErrG P K mg (Str.ofString c)) : ExM P K mg c z b :=
  ⟨_, _, PySem.W.mg_of X G0 a1, PySem.W.mg_of X G0 a2, e, er⟩
end
end G
namespace PySem
namespace AeX
open PySem.W PySem.Calls PyProof.Rows PySem.HandSPX
variable {P : Program} {K : Frag} {mg : Str → Option Value} {h : Heap} {x : Str} {C D fI : Addr}
theorem mk_err {nm q : Str} {N : Addr} {bs bm : List Value} {sn : List Str} {sub : List Value} {ab : Bool} {col : Option Bool} {dd : Option Addr} {k0 k1 k2 k3 k5 : Option Value} {cdD : ClassData}
    {oc : Value} {od : Option Addr} {doc pm : Value} {an : Option Addr} {cda : Addr} {ct : Value} {osl : Array (Option Value)} {cc : Addr} {p1 p2 q0 q1 q2 q3 q4 q5 r1 r2 r3 r4 : Pos} {ccl : Value} {cdd : Option Addr} {vs : Array Value} {ccs : Array (Option Value)} {file : Str} {tf : Tok} {cl : Value} {cld : Option Addr} {csl : Array (Option Value)}
    (X : K.In h) (G0 : h.Ns mainGlobals mg) (gC : nsIn K mainGlobals x = some (some (.ref C))) (cls : K.lookup C = some (excClassObj nm q C N bs bm true sn sub ab col dd k0 k1 k2 k3 k5 "ValueError.__new__")) (hbm : refsVE bm = true)
    (sa : findIn K (.ref C) "__setattr__" = some (some (.builtin "object.__setattr__"))) (ga : findIn K (.ref C) "__getattribute__" = some (some (.builtin "BaseException.__getattribute__"))) (gg : findIn K (.ref C) "__getattr__" = some none) (noN : findIn K (.ref C) "at" = some none)
    (iC : findIn K (.ref C) "__init__" = some (some (.ref fI))) (tC : typeIn K (.ref fI) = some (.type "function")) (kC : keepIn K (.ref C) = true) (exC : subIn K (.ref C) (.type "BaseException") = some true) (tyC : typeIn K (.ref C) = some (.type "type")) (hdC : hasDictIn K C = true)
    (sup : ks_superIn K C D "__init__" = some (some (.builtin "ValueError.__init__"))) (isD : mroIn K C (.ref D) = some true) (veC : subIn K (.ref C) (.type "ValueError") = some true) (opq : nsIn K cStatics "thirdparty.any" = some none) (clD : clsIn K D = some cdD)
    (nsu : nsIn K mainGlobals "super" = some none) (top : (P.main.scope.names.lookup ("super" : Str)).isSome = false)
    (fn : K.lookup fI = some ⟨oc, od, .func (ksFn "__init__" "AuctionError.__init__" (aA p1 p2) (aB q0 q1 q2 q3 q4 q5 r1 r2 r3 r4) aS .none .none doc pm an (.ref cda) ct cc), osl⟩) (hcd : codeIn K (.ref cda) "AuctionError.__init__" = true)
    (hev : (∀ env : Env, ∃ pl : Sem Bool, eval (.Call (.Attribute (.Call (.Name "super" q0) [] [] q1) "__init__" q2) [.Name "at" q3] [] q4) env = (do
      let ov ← attributeBase (.Call (.Name "super" q0) [] [] q1) "__init__" env (eval (.Call (.Name "super" q0) [] [] q1) env)
      standAt q2.atName
      let (f, first) ← holding [ov] (getMethod ov "__init__" pl)
      callWith q4 f first (backTo q4 (starEach [.Name "at" q3] env)) [])))
    (code : K.lookup cda = some ⟨ccl, cdd, .fields vs, ccs⟩) (hvs : vs[2]? = some (.str file tf)) (hfile : ((P.main.file : Str) == file) = true) (cell : K.lookup cc = some ⟨cl, cld, .cell (some (.ref D)), csl⟩) : G.ErrG P K mg x :=
  ⟨C, D, fI, mg_of X G0 gC, ⟨⟨nm, q, N, bs, bm, sn, sub, ab, col, dd, k0, k1, k2, k3, k5, cls, hbm⟩, sa, ga, gg, noN, iC, tC, kC, exC, tyC, hdC, sup, isD, veC, opq, ⟨cdD, clD⟩, mg_none_of X G0 nsu, top,
    ⟨oc, od, doc, pm, an, cda, ct, osl, cc, p1, p2, q0, q1, q2, q3, q4, q5, r1, r2, r3, r4, fn, hcd, hev, ⟨ccl, cdd, vs, ccs, file, tf, code, hvs, hfile⟩, ⟨cl, cld, csl, cell⟩⟩⟩⟩
end AeX
end PySem

namespace G
open PySem PySem.Spec PyProof.Rows L2
section
variable {X : Cx} {pos : Pos}
/-- a, b, .. = a list -/
def gTL (t : List D → En → Option En) : TgF := fun d ρ => match d with
  | .list ds => t ds ρ
  | _ => none
theorem fg_unl {es : List Expr} {k n : Nat} {ix : List Nat} {tgs : List D → En → Option En} (hc : X.calm = true) (hg : FGs X es ix tgs) (hl : ∀ ds ρ ρ', tgs ds ρ = some ρ' → ds.length = n)
    (hn : (assignEach es X.env).length = n := by rfl) (hst : (assignEach es X.env).findIdx? (·.1) = none := by rfl) : FG X (.Tuple es k pos) ix (gTL tgs) := impG (pg_lst hc hg hn hst) fun v σ H Q ⟨H0, A0, A, ρ, d, ρ', o, r, e, q⟩ => by
  unfold gTL at e
  split at e
  · obtain ⟨a, vs, rfl, h1, r1⟩ := (RepB.of r).lst
    exact ⟨a, vs, rfl, .of h1, by rw [r1.length]; exact hl _ _ _ e, H0, A0, A, ρ, _, ρ', o, r1, e, q⟩
  · cases e
end
end G

namespace G
open PySem PySem.Spec PyProof.Rows L2
section
variable {X : Cx} {W : WX} {a b : Expr} {f g : En → R D} {dop : D → D → Option D}
/-! ### a list that a sum or a product makes anew -/
def DOpN (X : Cx) (F : Value → Value → Sem Value) (dop : D → D → Option D) : Prop :=
  ∃ r : R2, OpR X F r ∧ ∀ (H : Hp) (A : List Addr) (x y : V) (d1 d2 d : D) (Q : VK), (∀ a ∈ A, H a ≠ none) → RepB X.K H A x d1 → RepB X.K H A y d2 → dop d1 d2 = some d → (∀ v H', Same H H' → RepN X.K false H H' A v d → Q v H') → r x y H Q
theorem fn_op {op : Operator} (ho : DOpN X (binaryOp op) dop) (ha : FB X W a f) (hb : FB X W b g) : FN X W false (.BinOp a op b pos) (cBin dop f g) := by
  obtain ⟨r, hr, hs⟩ := ho
  refine impE (pe_op hr ha hb) fun σ H Q ⟨H0, A0, A, ρ, o, P⟩ => ?_
  refine ⟨H0, A0, A, ρ, o, P.bind.mono fun d1 H1 s1 P1 x hx => ?_⟩
  refine ⟨H0, A0, A, ρ, o.same s1, P1.bind.mono fun d2 H2 s2 P2 y hy => ?_⟩
  obtain ⟨d, e, P3⟩ := P2.ofO
  refine hs H2 A x y d1 d2 d Q ((o.same s1).same s2).has (hx.same s2) hy e fun v H' s3 hv => P3 H' s3 v ?_
  obtain ⟨p, e, n, r⟩ := hv
  exact ⟨p, e, s1.free (s2.free n), r⟩
/-- a list, so many times -/
def dTimes : D → D → Option D
  | .list xs, .int j => if j < 1000000 ∧ xs.length * j.toNat ≤ sizeLine ∧ -1000000 < j then some (.list (List.replicate j.toNat xs).flatten) else none
  | _, _ => none
theorem dn_times : DOpN X (binaryOp .Mult) dTimes := by
  refine ⟨_, OpR.or op_mulW op_rep, fun H A x y d1 d2 d Q ha hx hy e q => ?_⟩
  unfold dTimes at e
  split at e
  · split at e
    · rename_i hl
      cases e
      obtain ⟨a, vs, rfl, h1, r1⟩ := hx.lst
      obtain rfl := hy.int
      obtain ⟨h2, h3, h4⟩ := hl
      exact .inr ⟨a, _, vs, rfl, rfl, h1, by omega, by omega, by rw [r1.length]; exact h3, fun p hp => q _ _ (same_upd hp) ⟨p, rfl, hp, orep_lst hp (r1.flatRep _)⟩⟩
    · cases e
  · cases e
/-- two lists, one behind the other -/
def dJoin : D → D → Option D
  | .list xs, .list ys => if xs.length + ys.length ≤ sizeLine then some (.list (xs ++ ys)) else none
  | _, _ => none
theorem dn_join : DOpN X (binaryOp .Add) dJoin := by
  refine ⟨_, op_cat, fun H A x y d1 d2 d Q ha hx hy e q => ?_⟩
  unfold dJoin at e
  split at e
  · split at e
    · rename_i hl
      cases e
      obtain ⟨a, vs, rfl, h1, r1⟩ := hx.lst
      obtain ⟨b, us, rfl, h2, r2⟩ := hy.lst
      exact ⟨a, b, vs, us, rfl, rfl, h1, h2, by rw [r1.length, r2.length]; exact hl, fun p hp => q _ _ (same_upd hp) ⟨p, rfl, hp, orep_lst hp (r1.append r2)⟩⟩
    · cases e
  · cases e
end
end G

namespace G
open PySem PySem.Spec PyProof.Rows L2
/-! ### the least of rows, rows sorted -/
def notNone : D → Bool
  | .none => false
  | _ => true
def alikeB (xs : List D) : Bool := xs.all fun x => notNone x && xs.all fun y => PySem.W.alike x y
theorem alikeB_all {xs : List D} (h : alikeB xs = true) : PySem.W.AlikeAll xs := by
  unfold alikeB at h
  rw [List.all_eq_true] at h
  refine ⟨fun x hx y hy => ?_, fun x hx z => ?_⟩
  · have := h x hx
    rw [Bool.and_eq_true, List.all_eq_true] at this
    exact this.2 y hy
  · have := h x hx
    subst z
    simp [notNone] at this
theorem repL_get {K : Frg} {H : Hp} {A : List Addr} : ∀ {vs : List V} {ds : List D}, RepL K H A vs ds → ∀ (i : Nat) (v : V), vs[i]? = some v → ∃ d, ds[i]? = some d ∧ Rep K H A v d
  | _, _, .nil, i, v, e => by simp at e
  | _, _, .cons a b, 0, v, e => by simp at e; subst e; exact ⟨_, rfl, a⟩
  | _, _, .cons a b, i + 1, v, e => by
    obtain ⟨d, e2, r⟩ := repL_get b i v (by simpa using e)
    exact ⟨d, by simpa using e2, r⟩
theorem dpAll_get {K : Frg} {H : Hp} : ∀ {vs : List V} {ds : List D}, DpAll K H vs ds → ∀ (i : Nat) (v : V), vs[i]? = some v → ∃ d, ds[i]? = some d ∧ Dp K H v d
  | _, _, .nil, i, v, e => by simp at e
  | _, _, .cons a b, 0, v, e => by simp at e; subst e; exact ⟨_, rfl, a⟩
  | _, _, .cons a b, i + 1, v, e => by
    obtain ⟨d, e2, r⟩ := dpAll_get b i v (by simpa using e)
    exact ⟨d, by simpa using e2, r⟩
theorem vals_get' : ∀ {xs : List V} {us : List Value}, Vals xs us → ∀ (i : Nat) (u : Value), us[i]? = some u → ∃ x, xs[i]? = some x ∧ RelV x u
  | _, _, .nil, i, u, e => by simp at e
  | _, _, .cons a b, 0, u, e => by simp at e; subst e; exact ⟨_, rfl, a⟩
  | _, _, .cons a b, i + 1, u, e => by
    obtain ⟨d, e2, r⟩ := vals_get' b i u (by simpa using e)
    exact ⟨d, by simpa using e2, r⟩
def rMinD (K : Frg) : List V → Hp → VK → Prop := fun vs H Q => ∃ (a : Addr) (xs : List V) (d : D) (ds : List D), vs = [V.ref a] ∧ SqL K H a xs ∧ DpAll K H xs (d :: ds) ∧ alikeB (d :: ds) = true ∧ PyData.depthAll (d :: ds) ≤ 60 ∧
  ∀ (i : Nat) x, xs[i]? = some x → (d :: ds)[i]? = some (PySem.W.minD d ds) → Q x H
section
variable {X : Cx}
theorem cr_minD (hc : X.calm = true) (hu : X.A.units + 65 < cLine) : CallR X (.builtin "min") (rMinD X.K) := by
  intro pins s σ H vs us Q I r h
  obtain ⟨a, xs, d, ds, rfl, hs, hd, hal, hdep, q⟩ := h
  obtain ⟨its, rv, hl, hz⟩ := I.list hs
  rw [Vals.ref1 r]
  obtain ⟨as, rd⟩ := Dp.readsAll I (d :: ds) xs its hd rv
  refine PySem.W.min_list_data (vs := its.toArray) (I.ok.hd hc) hl.isList (by simpa using rd) (alikeB_all hal) (by omega) fun i v h' tk bs hv hr hk => ?_
  obtain ⟨x, hx, rx⟩ := vals_get' rv i v (by simpa using hv)
  obtain ⟨e, he, hde⟩ := dpAll_get hd i x hx
  obtain ⟨as2, rd2⟩ := Dp.reads I e x v hde rx
  obtain ⟨e1, _⟩ := PyProof.Rows.reads_det (fun _ _ e _ => e) hr (PyProof.Rows.Reads.keeps hk rd2)
  exact ⟨x, H, I.kept hk, rx, q i x hx (by rw [he, e1])⟩
def dMinRows : List D → Option D
  | [.list (d :: ds)] => if alikeB (d :: ds) = true ∧ PyData.depthAll (d :: ds) ≤ 60 ∧ PyData.hasDictAll (d :: ds) = false then some (PySem.W.minD d ds) else none
  | _ => none
theorem dc_minRows (hc : X.calm = true) (hu : X.A.units + 65 < cLine) : DCall X (.builtin "min") dMinRows := by
  refine ⟨_, cr_minD hc hu, fun H A vs ds d Q ha hv e q => ?_⟩
  unfold dMinRows at e
  split at e
  · split at e
    · rename_i hl
      cases e
      obtain ⟨v, rfl, h⟩ := pair1 hv
      obtain ⟨p, us, rfl, h1, r⟩ := h.lst
      refine ⟨p, us, _, _, rfl, SqL.of h1, r.dp hl.2.2, hl.1, hl.2.1, fun i x hx he => ?_⟩
      obtain ⟨d2, e2, r2⟩ := repL_get r i x hx
      rw [he] at e2
      cases e2
      exact q x H (Same.refl H) r2
    · cases e
  · cases e
def sortB (xs : List D) : Bool := (xs.all fun d => match d with | .tuple (_ :: _) => true | _ => false) || (xs.all fun d => match d with | .tuple _ => false | .none => false | _ => true)
theorem sortB_of {xs : List D} (h : sortB xs = true) : PySem.W.Sortable xs := by
  unfold sortB at h
  rcases Bool.or_eq_true_iff.mp h with h | h
  · rw [List.all_eq_true] at h
    refine .inl fun d hd => ?_
    have := h d hd
    split at this
    · exact ⟨_, _, rfl⟩
    · cases this
  · rw [List.all_eq_true] at h
    refine .inr fun d hd => ?_
    have := h d hd
    split at this
    · cases this
    · cases this
    · rename_i n1 n2
      exact ⟨fun z => n2 z, fun xs z => n1 xs z⟩
theorem alikeB_pairs {xs : List D} (h : alikeB xs = true) : PySem.W.AllAlike xs := fun x hx y hy => (alikeB_all h).1 x hx y hy
def rowSort (xs : List D) : List D := xs.mergeSort (PySem.W.dataLe false id)
def rSortD (K : Frg) : List V → Hp → VK → Prop := fun vs H Q => ∃ (a : Addr) (xs : List V) (ds : List D), vs = [V.ref a] ∧ SqL K H a xs ∧ DpAll K H xs ds ∧ alikeB ds = true ∧ sortB ds = true ∧ PyData.depthAll ds ≤ 60 ∧
  ∀ (bs : List (V × D)) (p : Addr), bs.Perm (xs.zip ds) → bs.map (·.2) = rowSort ds → H p = none → Q (.ref p) (upd H p (.lst (bs.map (·.1))))
theorem depth_mem : ∀ {xs : List D} {d : D}, d ∈ xs → d.depth ≤ PyData.depthAll xs
  | x :: xs, d, h => by
    rw [PyData.depthAll]
    rcases List.mem_cons.mp h with rfl | h
    · omega
    · have := depth_mem h
      omega
theorem dpAll_len {K : Frg} {H : Hp} : ∀ {vs : List V} {ds : List D}, DpAll K H vs ds → vs.length = ds.length
  | _, _, .nil => rfl
  | _, _, .cons _ b => by simp [dpAll_len b]
theorem each_zip {P : Value → D → Prop} : ∀ {xs : List V} {us : List Value} {ds : List D}, Vals xs us → xs.length = ds.length → (∀ (i : Nat) u d, us[i]? = some u → ds[i]? = some d → P u d) → PySem.W.EachIs (fun u (b : V × D) => RelV b.1 u ∧ P u b.2) us (xs.zip ds)
  | _, _, [], .nil, _, _ => .nil
  | x :: xs, u :: us, d :: ds, .cons a b, h, hp => .cons ⟨a, hp 0 u d rfl rfl⟩ (each_zip b (by simpa using h) fun i u d e1 e2 => hp (i + 1) u d (by simpa using e1) (by simpa using e2))
theorem vals_each : ∀ {us : List Value} {bs : List (V × D)}, PySem.W.EachIs (fun u (b : V × D) => RelV b.1 u) us bs → Vals (bs.map (·.1)) us
  | _, _, .nil => .nil
  | _, _, .cons a b => .cons a (vals_each b)
theorem map_snd_zip {α β : Type} : ∀ {xs : List α} {ds : List β}, xs.length = ds.length → (xs.zip ds).map (·.2) = ds
  | [], [], _ => rfl
  | x :: xs, d :: ds, h => by simp [map_snd_zip (xs := xs) (ds := ds) (by simpa using h)]
theorem cr_sortD (hu : X.A.units + 65 < cLine) : CallR X (.builtin "sorted") (rSortD X.K) := by
  intro pins s σ H vs us Q I r h
  obtain ⟨a, xs, ds, rfl, hs, hd, hal, hso, hdep, q⟩ := h
  obtain ⟨its, rv, hl, hz⟩ := I.list hs
  rw [Vals.ref1 r]
  have hlen := dpAll_len hd
  have hsnd := map_snd_zip hlen
  have he : PySem.W.EachIs (fun u (b : V × D) => RelV b.1 u ∧ ∃ as, Reads s.heap u b.2 as) its (xs.zip ds) := each_zip rv hlen fun i u d e1 e2 => by
    obtain ⟨x, hx, rx⟩ := vals_get' rv i u e1
    obtain ⟨d', e3, hde⟩ := dpAll_get hd i x hx
    rw [e2] at e3
    cases e3
    exact Dp.reads I d x u hde rx
  refine PySem.W.sorted_data (vs := its) (bs := xs.zip ds) (enc := fun b => b.2) (R := fun u b => RelV b.1 u) hl.isList (he.mono fun _ _ z => z.1) (he.mono fun _ _ z => z.2) (by rw [hsnd]; exact alikeB_pairs hal) (by rw [hsnd]; exact sortB_of hso) ?_ (fun b hb => ?_) fun out ho heo => ?_
  · rw [List.length_zip]; omega
  · have : b.2 ∈ ds := by rw [← hsnd]; exact List.mem_map.mpr ⟨b, hb, rfl⟩
    have := depth_mem this
    omega
  · obtain ⟨ep, he'⟩ := PyProof.Rows.sortedAll_at s.heap its (List.toArray out)
    have hvs := vals_each heo
    have hl2 : (((xs.zip ds).mergeSort (PySem.W.dataLe false fun b => b.2)).map (·.1)).length ≤ sizeLine := by
      rw [List.length_map, List.length_mergeSort, List.length_zip]; omega
    refine ⟨.ref _, upd H (s.heap.objs.size + 1) (.lst (((xs.zip ds).mergeSort (PySem.W.dataLe false fun b => b.2)).map (·.1))), I.laid (t' := s.toks) (fun _ _ => PyProof.Rows.sortedAll_old) (Nat.le_succ _) ⟨hl2, (List.toArray out).toList, ep, by simpa using hvs, he'⟩, rfl, q _ _ (List.mergeSort_perm _ _) ?_ (I.hok.fresh (Nat.le_succ _))⟩
    unfold rowSort
    have em := List.map_mergeSort (r := PySem.W.dataLe false fun b : V × D => b.2) (s := PySem.W.dataLe false id) (f := fun b : V × D => b.2) (l := xs.zip ds) (fun _ _ _ _ => rfl)
    rw [hsnd] at em
    exact em
def dSortRows : List D → Option D
  | [.list ds] => if alikeB ds = true ∧ sortB ds = true ∧ PyData.depthAll ds ≤ 60 ∧ PyData.hasDictAll ds = false then some (.list (rowSort ds)) else none
  | _ => none
theorem rep_zip {K : Frg} {H : Hp} {A : List Addr} : ∀ {vs : List V} {ds : List D}, RepL K H A vs ds → ∀ b ∈ vs.zip ds, Rep K H A b.1 b.2
  | _, _, .nil, b, h => by simp at h
  | _, _, .cons x y, b, h => by
    rcases List.mem_cons.mp h with rfl | h
    · exact x
    · exact rep_zip y b h
theorem rep_of_zip {K : Frg} {H : Hp} {A : List Addr} : ∀ {bs : List (V × D)}, (∀ b ∈ bs, Rep K H A b.1 b.2) → RepL K H A (bs.map (·.1)) (bs.map (·.2))
  | [], _ => .nil
  | b :: bs, h => .cons (h b List.mem_cons_self) (rep_of_zip fun a ha => h a (List.mem_cons_of_mem _ ha))
theorem dc_sortRows (hu : X.A.units + 65 < cLine) : DCallN X (.builtin "sorted") dSortRows := by
  refine ⟨_, cr_sortD hu, fun H A vs ds d Q ha hv e q => ?_⟩
  unfold dSortRows at e
  split at e
  · split at e
    · rename_i hl
      cases e
      obtain ⟨v, rfl, h⟩ := pair1 hv
      obtain ⟨p, us, rfl, h1, r⟩ := h.lst
      refine ⟨p, us, _, rfl, SqL.of h1, r.dp hl.2.2.2, hl.1, hl.2.1, hl.2.2.1, fun bs n hp hb hn => q _ _ (same_upd hn) ⟨n, rfl, hn, orep_lst hn ?_⟩⟩
      rw [← hb]
      exact rep_of_zip fun b hm => rep_zip r b (hp.mem_iff.mp hm)
    · cases e
  · cases e
end
end G

namespace G
open PySem PySem.Spec PyProof.Rows L2
/-- a comprehension over data told by xs -/
theorem lcL_gen {α : Type} {tgt : TgF} {p : En → R Bool} {f : En → R D} {ρ : En} {enc : α → D} (ρ' : α → En) (keep : α → Bool) (val : α → D) : ∀ {xs : List α}, (∀ x ∈ xs, tgt (enc x) ρ = some (ρ' x) ∧ p (ρ' x) = .ok (keep x) ∧ (keep x = true → f (ρ' x) = .ok (val x))) →
    lcL tgt p f ρ (xs.map enc) = some ((xs.filter keep).map val)
  | [], _ => rfl
  | x :: xs, h => by
    obtain ⟨h1, h2, h3⟩ := h x List.mem_cons_self
    have ih := lcL_gen ρ' keep val (xs := xs) fun y hy => h y (List.mem_cons_of_mem _ hy)
    rw [List.map_cons]
    unfold lcL
    rw [h1, Option.bind_some, h2]
    simp only [noX, Option.bind_some]
    cases hk : keep x with
    | false => simp [hk, ih]
    | true => simp [hk, ih, h3 hk]
theorem lcL_map {α : Type} {tgt : TgF} {f : En → R D} {ρ : En} {enc : α → D} (ρ' : α → En) (val : α → D) {xs : List α} (h : ∀ x ∈ xs, tgt (enc x) ρ = some (ρ' x) ∧ f (ρ' x) = .ok (val x)) : lcL tgt cTrue f ρ (xs.map enc) = some (xs.map val) := by
  rw [lcL_gen ρ' (fun _ => true) val fun x hx => ⟨(h x hx).1, rfl, fun _ => (h x hx).2⟩]
  rw [List.filter_eq_self.mpr fun _ _ => rfl]
theorem intsOf_int {α : Type} (f : α → Int) (xs : List α) : intsOf (xs.map fun x => .int (f x)) = some (xs.map f) := by
  have := intsOf_map (xs.map f)
  rw [List.map_map] at this
  exact this
section
variable {c : En → R Bool} {body : En → SR} {n : Nat} {ρ ρ2 : En} {d : D}
theorem whileL_step (h1 : c ρ = .ok true) (h2 : body ρ = .nx ρ2) : whileL c body (n + 1) ρ = whileL c body n ρ2 := by
  conv => lhs; unfold whileL
  rw [h1]
  simp only [SR.of, if_true, h2]
theorem whileL_stop (h1 : c ρ = .ok false) : whileL c body (n + 1) ρ = .nx ρ := by
  unfold whileL
  rw [h1]
  rfl
theorem whileL_ret (h1 : c ρ = .ok true) (h2 : body ρ = .rt d) : whileL c body (n + 1) ρ = .rt d := by
  unfold whileL
  rw [h1]
  simp only [SR.of, if_true, h2]
end
theorem fdiv_nat (a b : Nat) : (a : Int).fdiv (b : Int) = ((a / b : Nat) : Int) := by
  rw [Int.fdiv_eq_ediv_of_nonneg _ (Int.natCast_nonneg b)]
  rfl
theorem fmod_nat (a b : Nat) : (a : Int).fmod (b : Int) = ((a % b : Nat) : Int) := by
  rw [Int.fmod_eq_emod_of_nonneg _ (Int.natCast_nonneg b)]
  rfl
theorem fdiv_pos (a : Int) {b : Int} (h : 0 < b) : a.fdiv b = a / b := Int.fdiv_eq_ediv_of_nonneg _ (Int.le_of_lt h)
theorem fmod_pos (a : Int) {b : Int} (h : 0 < b) : a.fmod b = a % b := Int.fmod_eq_emod_of_nonneg _ (Int.le_of_lt h)
@[simp] theorem dDiv_nat2 (a : Nat) : dDiv (.int (a : Int)) (.int 2) = some (.int ((a / 2 : Nat) : Int)) := by
  show (if (2 : Int) ≠ 0 ∧ (2 : Int).natAbs.log2 < 9000 then some (PyData.int ((a : Int).fdiv 2)) else none) = _
  rw [if_pos (by decide)]
  exact congrArg (fun z => some (PyData.int z)) (fdiv_nat a 2)
@[simp] theorem dMod_nat2 (a : Nat) : dMod (.int (a : Int)) (.int 2) = some (.int ((a % 2 : Nat) : Int)) := by
  show (if (2 : Int) ≠ 0 then some (PyData.int ((a : Int).fmod 2)) else none) = _
  rw [if_pos (by decide)]
  exact congrArg (fun z => some (PyData.int z)) (fmod_nat a 2)
@[simp] theorem dAdd_int (a b : Int) : dAdd (.int a) (.int b) = some (.int (a + b)) := rfl
@[simp] theorem dLt_int (a b : Int) : dLt (.int a) (.int b) = some (.bool (decide (a < b))) := rfl
theorem dMod_pos (a : Int) {b : Int} (h : 0 < b) : dMod (.int a) (.int b) = some (.int (a % b)) := by
  show (if b ≠ 0 then some (PyData.int (a.fmod b)) else none) = _
  rw [if_pos (by omega), fmod_pos a h]
theorem dDiv_pos (a : Int) {b : Int} (h : 0 < b) (h2 : b.natAbs.log2 < 9000) : dDiv (.int a) (.int b) = some (.int (a / b)) := by
  show (if b ≠ 0 ∧ b.natAbs.log2 < 9000 then some (PyData.int (a.fdiv b)) else none) = _
  rw [if_pos ⟨by omega, h2⟩, fdiv_pos a h]
theorem dEq_int (a b : Int) : dEq (.int a) (.int b) = some (.bool (decide (a = b))) := by
  unfold dEq
  rw [if_pos ⟨rfl, rfl⟩]
  simp [PyData.eqv]
  rfl
theorem dNe_int (a b : Int) : dNe (.int a) (.int b) = some (.bool (decide (a ≠ b))) := by
  unfold dNe
  rw [if_pos ⟨rfl, rfl⟩]
  simp [PyData.eqv]
  rfl
end G

namespace C
/-! ### the best share, in plain words -/
/-- a within b, digit by digit; n digits are looked at -/
def subF : Nat → Nat → Nat → Bool
  | 0, _, _ => true
  | n + 1, a, b => if a = 0 then true else if b % 2 < a % 2 then false else subF n (a / 2) (b / 2)
def sub (a b : Nat) : Bool := subF 99 a b
def parts (w : Nat) : List Nat := (List.range (w + 1)).filter fun p => sub p w
theorem subF_zero (n b : Nat) : subF n 0 b = true := by cases n <;> simp [subF]
theorem zero_part (w : Nat) : 0 ∈ parts w := by
  simp [parts, sub, subF_zero]
theorem part_le {p w : Nat} (h : p ∈ parts w) : p ≤ w := by
  have := (List.mem_filter.mp h).1
  rw [List.mem_range] at this
  omega
abbrev Tbl := List Int
def at_ (t : Tbl) (p : Nat) : Int := t.getD p 0
/-- the greatest of a list that is not empty -/
def top (l : List Int) : Int := l.foldl max (l.headD 0)
theorem le_foldl (l : List Int) : ∀ a : Int, a ≤ l.foldl max a ∧ ∀ x ∈ l, x ≤ l.foldl max a := by
  induction l with
  | nil => intro a; exact ⟨Int.le_refl a, fun x h => absurd h List.not_mem_nil⟩
  | cons y l ih =>
    intro a
    rw [List.foldl_cons]
    obtain ⟨h1, h2⟩ := ih (max a y)
    refine ⟨by omega, fun x hx => ?_⟩
    rcases List.mem_cons.mp hx with rfl | hx
    · omega
    · exact h2 x hx
theorem foldl_in (l : List Int) : ∀ a : Int, l.foldl max a = a ∨ l.foldl max a ∈ l := by
  induction l with
  | nil => intro a; exact .inl rfl
  | cons y l ih =>
    intro a
    rw [List.foldl_cons]
    rcases ih (max a y) with h | h
    · rcases Int.le_total a y with q | q
      · right; rw [h, Int.max_eq_right q]; exact List.mem_cons_self
      · left; rw [h, Int.max_eq_left q]
    · exact .inr (List.mem_cons_of_mem _ h)
theorem top_ge {l : List Int} {x : Int} (h : x ∈ l) : x ≤ top l := (le_foldl l _).2 x h
theorem top_mem {l : List Int} (h : l ≠ []) : top l ∈ l := by
  cases l with
  | nil => exact absurd rfl h
  | cons a l =>
    rcases foldl_in (a :: l) a with e | e
    · show (a :: l).foldl max a ∈ _; rw [e]; exact List.mem_cons_self
    · exact e
theorem top_eq {l : List Int} {m : Int} (h1 : m ∈ l) (h2 : ∀ x ∈ l, x ≤ m) : top l = m := by
  have h3 : top l ∈ l := top_mem (by intro z; rw [z] at h1; cases h1)
  have := h2 _ h3
  have := top_ge h1
  omega
/-- the most that tables make of parted goods within w -/
def best : List Tbl → Nat → Int
  | [], _ => 0
  | t :: ts, w => top ((parts w).map fun p => at_ t p + best ts (w - p))
/-- all ways to part goods within w, in the order of numbers -/
def seqs : Nat → Nat → List (List Nat)
  | 0, _ => [[]]
  | n + 1, w => (parts w).flatMap fun p => (seqs n (w - p)).map fun s => p :: s
def sumOf : List Tbl → List Nat → Int
  | t :: ts, p :: s => at_ t p + sumOf ts s
  | _, _ => 0
/-- the first way that makes the most -/
def pick : List Tbl → Nat → List Nat
  | [], _ => []
  | t :: ts, w => match (parts w).find? fun p => at_ t p + best ts (w - p) == best (t :: ts) w with
    | some p => p :: pick ts (w - p)
    | none => []
theorem best_ge {t : Tbl} {ts : List Tbl} {w p : Nat} (h : p ∈ parts w) : at_ t p + best ts (w - p) ≤ best (t :: ts) w := top_ge (List.mem_map.mpr ⟨p, h, rfl⟩)
theorem best_at (t : Tbl) (ts : List Tbl) (w : Nat) : ∃ p ∈ parts w, at_ t p + best ts (w - p) = best (t :: ts) w := by
  have : best (t :: ts) w ∈ (parts w).map fun p => at_ t p + best ts (w - p) := top_mem (by
    intro z
    rw [List.map_eq_nil_iff] at z
    have := zero_part w
    rw [z] at this
    cases this)
  exact List.mem_map.mp this
theorem sum_le : ∀ (ts : List Tbl) (w : Nat) (s : List Nat), s ∈ seqs ts.length w → sumOf ts s ≤ best ts w
  | [], _, s, h => by
    simp [seqs] at h
    subst h
    simp [sumOf, best]
  | t :: ts, w, s, h => by
    simp only [seqs, List.length_cons, List.mem_flatMap, List.mem_map] at h
    obtain ⟨p, hp, r, hr, rfl⟩ := h
    have h1 := sum_le ts (w - p) r hr
    have h2 := best_ge (t := t) (ts := ts) hp
    simp only [sumOf]
    omega
theorem pick_some (t : Tbl) (ts : List Tbl) (w : Nat) : ∃ p ∈ parts w, at_ t p + best ts (w - p) = best (t :: ts) w ∧ pick (t :: ts) w = p :: pick ts (w - p) ∧ (parts w).find? (fun p => at_ t p + best ts (w - p) == best (t :: ts) w) = some p := by
  obtain ⟨p0, h0, e0⟩ := best_at t ts w
  cases hf : (parts w).find? fun p => at_ t p + best ts (w - p) == best (t :: ts) w with
  | none => exact absurd (List.find?_eq_none.mp hf p0 h0) (by simp [e0])
  | some p => exact ⟨p, List.mem_of_find?_eq_some hf, by have := List.find?_some hf; simpa using this, by simp [pick, hf], rfl⟩
theorem pick_in : ∀ (ts : List Tbl) (w : Nat), pick ts w ∈ seqs ts.length w ∧ sumOf ts (pick ts w) = best ts w
  | [], _ => by simp [pick, seqs, sumOf, best]
  | t :: ts, w => by
    obtain ⟨p, hp, e, e2, _⟩ := pick_some t ts w
    obtain ⟨h1, h2⟩ := pick_in ts (w - p)
    rw [e2]
    refine ⟨?_, by simp only [sumOf]; omega⟩
    simp only [seqs, List.length_cons, List.mem_flatMap, List.mem_map]
    exact ⟨p, hp, _, h1, rfl⟩
/-- one list of numbers ahead of another of as many -/
def lexLt : List Nat → List Nat → Bool
  | a :: r, b :: s => decide (a < b) || (decide (a = b) && lexLt r s)
  | _, _ => false
theorem parts_sorted (w : Nat) : (parts w).Pairwise (· < ·) := (List.pairwise_lt_range).filter _
theorem find_first {w : Nat} {f : Nat → Bool} : ∀ {l : List Nat} {p q : Nat}, l.Pairwise (· < ·) → l.find? f = some p → q ∈ l → f q = true → p ≤ q
  | a :: l, p, q, h, hf, hq, hfq => by
    rw [List.pairwise_cons] at h
    rw [List.find?_cons] at hf
    split at hf
    · cases hf
      rcases List.mem_cons.mp hq with rfl | hq
      · exact Nat.le_refl _
      · exact Nat.le_of_lt (h.1 q hq)
    · rename_i hn
      rcases List.mem_cons.mp hq with rfl | hq
      · rw [hfq] at hn; cases hn
      · exact find_first (w := w) h.2 hf hq hfq
/-- any other way that makes the most comes later -/
theorem pick_first : ∀ (ts : List Tbl) (w : Nat) (s : List Nat), s ∈ seqs ts.length w → sumOf ts s = best ts w → s ≠ pick ts w → lexLt (pick ts w) s = true
  | [], _, s, h, _, hn => by
    simp [seqs] at h
    subst h
    exact absurd rfl hn
  | t :: ts, w, s, h, e, hn => by
    simp only [seqs, List.length_cons, List.mem_flatMap, List.mem_map] at h
    obtain ⟨q, hq, r, hr, rfl⟩ := h
    obtain ⟨p, hp, e1, e2, e3⟩ := pick_some t ts w
    have hs := sum_le ts (w - q) r hr
    have hb := best_ge (t := t) (ts := ts) hq
    simp only [sumOf] at e
    have hle : p ≤ q := find_first (w := w) (parts_sorted w) e3 hq (by simp; omega)
    rw [e2] at hn ⊢
    rcases Nat.lt_or_eq_of_le hle with h | h
    · simp [lexLt, h]
    · subst h
      have : r ≠ pick ts (w - p) := fun z => hn (by rw [z])
      have ih := pick_first ts (w - p) r hr (by omega) this
      simp [lexLt, ih]
end C

namespace G
open PySem PySem.Spec PyProof.Rows L2
abbrev nD (n : Nat) : D := .int n
abbrev tD (t : List Int) : D := .list (t.map PyData.int)
theorem rangeD_nat (n : Nat) : rangeD 0 n = (List.range n).map nD := by
  unfold rangeD
  simp
theorem dRange1_nat {n : Nat} (h : n < 2 ^ 62) : dRange1 [.int (n : Int)] = some ((List.range n).map nD) := by
  have e : dRange1 [.int (n : Int)] = (if -(2 ^ 62) ≤ (n : Int) ∧ (n : Int) < 2 ^ 62 then some (rangeD 0 (n : Int).toNat) else none) := by simp only [dRange1]
  rw [e, if_pos (by omega), ← rangeD_nat]
  simp
@[simp] theorem atI_nat {α : Type} (xs : List α) (i : Nat) : atI xs (i : Int) = xs[i]? := by
  unfold atI ixN
  by_cases h : i < xs.length
  · simp [h]
  · simp [h]
@[simp] theorem dIx_nat (xs : List D) (i : Nat) : dIx (.list xs) (.int (i : Int)) = xs[i]? := atI_nat xs i
@[simp] theorem dIxT_nat (xs : List D) (i : Nat) : dIx (.tuple xs) (.int (i : Int)) = xs[i]? := atI_nat xs i
@[simp] theorem dIx_zero (xs : List D) : dIx (.list xs) (.int 0) = xs[0]? := atI_nat xs 0
@[simp] theorem dIxT_zero (xs : List D) : dIx (.tuple xs) (.int 0) = xs[0]? := atI_nat xs 0
@[simp] theorem dIx_one (xs : List D) : dIx (.list xs) (.int 1) = xs[1]? := atI_nat xs 1
@[simp] theorem dIxT_one (xs : List D) : dIx (.tuple xs) (.int 1) = xs[1]? := atI_nat xs 1
@[simp] theorem dIx_last (xs : List D) : dIx (.list xs) (.int (-1)) = xs.getLast? := by
  show atI xs (-1) = _
  unfold atI ixN
  cases xs with
  | nil => simp
  | cons a r =>
    have h1 : ¬ (0 : Int) ≤ -1 := by omega
    have h2 : -(((a :: r).length : Nat) : Int) ≤ -1 := by rw [List.length_cons]; omega
    have h3 : ((-1 : Int) + (((a :: r).length : Nat) : Int)).toNat = r.length := by rw [List.length_cons]; omega
    rw [if_neg h1, if_pos h2, h3, List.getLast?_eq_getElem?]
    simp
theorem getD_tbl {t : List Int} {i : Nat} (h : i < t.length) : t[i]? = some (C.at_ t i) := by
  unfold C.at_
  simp [h]
theorem dMax_top {xs : List Int} (h : xs ≠ []) : dMax [tD xs] = some (.int (C.top xs)) := by
  cases xs with
  | nil => exact absurd rfl h
  | cons a r =>
    show ((intsOf ((a :: r).map PyData.int)).bind maxI).map PyData.int = _
    rw [intsOf_map]
    simp [maxI, C.top]
theorem dLen_list (xs : List D) : dLen [.list xs] = some (.int (xs.length : Nat)) := by rfl
theorem cLc_of {vs : List Nat} {l : En → R (List D)} {tgt : TgF} {p : En → R Bool} {f : En → R D} {ρ : En} {ds ys : List D} (h1 : l ρ = .ok ds) (h2 : lcL tgt p f (wipeE ρ vs) ds = some ys) (h3 : ys.length ≤ sizeLine) : cLc vs l tgt p f ρ = .ok (.list ys) := by
  unfold cLc
  rw [h1]
  show ofO ((lcL tgt p f (wipeE ρ vs) ds).bind fun ys => if ys.length ≤ sizeLine then some (PyData.list ys) else none) = _
  rw [h2, Option.bind_some, if_pos h3]
  rfl
theorem sRet_of {f : En → R D} {ρ : En} {d : D} (h : f (disown ρ) = .ok d) : (sRet f ρ).out = .ok d := by
  unfold sRet
  rw [h]
  rfl
theorem runF_of {n p : Nat} {g : En → SR} {ds : List D} {r : R D} (h0 : ds.length = p) (h : (g (enter n p ds)).out = r) : runF n p g ds = r := by
  unfold runF
  rw [if_pos h0, h]
theorem cCall1_of {df : List D → Option D} {f : En → R D} {ρ : En} {d e : D} (h : f ρ = .ok d) (h2 : df [d] = some e) : cCall df (cCons f cNil) ρ = .ok e := by
  simp only [cCall, cCons, cNil, h, R.bind, h2, ofO]
theorem cCallF_of {F : List D → R D} {l : En → R (List D)} {ρ : En} {ds : List D} {r : R D} (h : l ρ = .ok ds) (h2 : F ds = r) : cCallF F l ρ = r := by
  simp only [cCallF, h, R.bind, h2]
theorem sSeq_nx {g1 g2 : En → SR} {ρ ρ1 : En} {r : SR} (h1 : g1 ρ = .nx ρ1) (h2 : g2 ρ1 = r) : sSeq g1 g2 ρ = r := by
  unfold sSeq
  rw [h1]
  exact h2
theorem sSet_of {i : Nat} {f : En → R D} {ρ : En} {d : D} (h : f ρ = .ok d) : sSet i f ρ = .nx (ρ.set i (some (.v d))) := by
  unfold sSet
  rw [h]
  rfl
theorem sSetN_of {i : Nat} {t : Bool} {f : En → R D} {ρ : En} {d : D} (h : f ρ = .ok d) : sSetN i t f ρ = .nx (ρ.set i (some (.own t d))) := by
  unfold sSetN
  rw [h]
  rfl
theorem sAppend_of {i : Nat} {f : En → R D} {ρ : En} {t : Bool} {ds : List D} {d : D} (ho : ρ[i]? = some (some (.own t (.list ds)))) (h : f ρ = .ok d) (hz : ds.length < sizeLine) : sAppend i f ρ = .nx (ρ.set i (some (.own t (.list (ds ++ [d]))))) := by
  unfold sAppend ownL
  rw [ho]
  show SR.of (f ρ) ρ _ = _
  rw [h]
  show (if ds.length < sizeLine then _ else _) = _
  rw [if_pos hz]
theorem sFor_of {tgt : TgF} {l : En → R (List D)} {body : En → SR} {ρ : En} {ds : List D} {r : SR} (h : l ρ = .ok ds) (h2 : loopL tgt body ds ρ = r) : sFor tgt l body ρ = r := by
  unfold sFor
  rw [h]
  exact h2
theorem loopL_nx {tgt : TgF} {body : En → SR} {d : D} {ds : List D} {ρ ρ1 ρ2 : En} {r : SR} (h1 : tgt d ρ = some ρ1) (h2 : body ρ1 = .nx ρ2) (h3 : loopL tgt body ds ρ2 = r) : loopL tgt body (d :: ds) ρ = r := by
  conv => lhs; unfold loopL
  rw [h1]
  simp only [h2]
  exact h3
theorem loopL_rt {tgt : TgF} {body : En → SR} {d e : D} {ds : List D} {ρ ρ1 : En} (h1 : tgt d ρ = some ρ1) (h2 : body ρ1 = .rt e) : loopL tgt body (d :: ds) ρ = .rt e := by
  conv => lhs; unfold loopL
  rw [h1]
  simp only [h2]
theorem loopL_nil {tgt : TgF} {body : En → SR} {ρ : En} : loopL tgt body [] ρ = .nx ρ := rfl
theorem sIf_true {c : En → R Bool} {g1 g2 : En → SR} {ρ : En} {r : SR} (h : c ρ = .ok true) (h2 : g1 ρ = r) : sIf c g1 g2 ρ = r := by
  unfold sIf
  rw [h]
  simpa [SR.of] using h2
theorem sIf_false {c : En → R Bool} {g1 g2 : En → SR} {ρ : En} {r : SR} (h : c ρ = .ok false) (h2 : g2 ρ = r) : sIf c g1 g2 ρ = r := by
  unfold sIf
  rw [h]
  simpa [SR.of] using h2
theorem cCallF1_of {F : List D → R D} {f : En → R D} {ρ : En} {d : D} {r : R D} (h : f ρ = .ok d) (h2 : F [d] = r) : cCallF F (cCons f cNil) ρ = r := by
  simp only [cCallF, cCons, cNil, h, R.bind, h2]
theorem cItems_of {f : En → R D} {ρ : En} {ds : List D} (h : f ρ = .ok (.list ds)) : cItems f ρ = .ok ds := by
  simp only [cItems, h, R.bind, itemsOf, ofO]
theorem cItemsT_of {f : En → R D} {ρ : En} {ds : List D} (h : f ρ = .ok (.tuple ds)) : cItems f ρ = .ok ds := by
  simp only [cItems, h, R.bind, itemsOf, ofO]
theorem cIter1_of {df : List D → Option (List D)} {f : En → R D} {ρ : En} {d : D} {e : List D} (h : f ρ = .ok d) (h2 : df [d] = some e) : cIter df (cCons f cNil) ρ = .ok e := by
  simp only [cIter, cCons, cNil, h, R.bind, h2, ofO]
theorem cBin_of {dop : D → D → Option D} {f g : En → R D} {ρ : En} {a b e : D} (h1 : f ρ = .ok a) (h2 : g ρ = .ok b) (h : dop a b = some e) : cBin dop f g ρ = .ok e := by
  simp only [cBin, h1, h2, R.bind, h, ofO]
end G

namespace K05
open PySem PySem.Spec PyProof.Rows L2 G
def g_number_of : En → SR :=
  (sRet (cCall dSum (cCons (cLc [1] (cItems (cVar 0)) (gN 1) cTrue (cBin dIx (cK (.tuple [(.int 1), (.int 2), (.int 4), (.int 8), (.int 16), (.int 32), (.int 64)])) (cVar 1))) cNil)))
def f_number_of : List D → R D := runF 2 1 g_number_of
def g_bundle_of : En → SR :=
  (sSeq (sSetN 1 false (cList cNil))
    (sSeq (sSet 2 (cVar 0))
    (sSeq (sSet 3 (cK (.int 0)))
    (sSeq (sWhile 100 (cBinT dGt (cVarB 2) (cK (.int 0)))
    (sSeq (sIf (cBinT dEq (cBin dMod (cVarB 2) (cK (.int 2))) (cK (.int 1)))
    (sAppend 1 (cVar 3))
    sNext)
    (sSeq (sSet 2 (cBin dDiv (cVarB 2) (cK (.int 2))))
    (sSet 3 (cBin dAdd (cVar 3) (cK (.int 1)))))))
    (sRet (cCall dTupOf (cCons (cVar 1) cNil)))))))
def f_bundle_of : List D → R D := runF 4 1 g_bundle_of
def g_within : En → SR :=
  (sSeq (sPar 2 3 (cCons (cVar 0) (cCons (cVar 1) cNil)))
    (sSeq (sWhile 100 (cBinT dGt (cVarB 2) (cK (.int 0)))
    (sSeq (sIf (cBinT dGt (cBin dMod (cVarB 2) (cK (.int 2))) (cBin dMod (cVarB 3) (cK (.int 2))))
    (sRet (cK (.bool false)))
    sNext)
    (sPar 2 3 (cCons (cBin dDiv (cVarB 2) (cK (.int 2))) (cCons (cBin dDiv (cVarB 3) (cK (.int 2))) cNil)))))
    (sRet (cK (.bool true)))))
def f_within : List D → R D := runF 4 2 g_within
def g_with_lie : En → SR :=
  (sRet (cList (cStar (cSlice (cVar 0) cPartN (cPart (cVar 1))) (cCons (cVar 2) (cStar (cSlice (cVar 0) (cPart (cBin dAdd (cVar 1) (cK (.int 1)))) cPartN) cNil)))))
def f_with_lie : List D → R D := runF 3 3 g_with_lie
def g_check_rule : En → SR :=
  (sSeq (sIf (cNot (cChainT dLe dLe (cK (.int 1)) (cCall dLen (cCons (cVarB 0) cNil)) (cK (.int 6))))
    (sRaise "BadType" (cUn dNeg (cK (.int 1))))
    sNext)
    (sSeq (sFor (gT (gC (gN 2) (gC (gN 3) gE))) (cIter dEnum (cCons (cVar 0) cNil))
    (sSeq (sIf (cOr (cNot (cChainT dLe dLe (cK (.int 1)) (cCall dLen (cCons (cVarB 3) cNil)) (cK (.int 64)))) (cBinT dNe (cCall dLen (cCons (cVarB 3) cNil)) (cCall dLen (cCons (cBin dIx (cVarB 0) (cK (.int 0))) cNil))))
    (sRaise "BadType" (cVar 2))
    sNext)
    (sIf (cNot (cTest (cCall dAll (cCons (cLc [5] (cItems (cVar 3)) (gN 5) cTrue (cChain dLe dLe (cK (.int 0)) (cVarB 5) (cK (.int 1000000)))) cNil))))
    (sRaise "BadType" (cVar 2))
    sNext)))
    (sSeq (sFor (gT (gC (gN 2) (gC (gN 4) gE))) (cIter dEnum (cCons (cSlice (cVar 1) cPartN (cPart (cCall dLen (cCons (cVarB 0) cNil)))) cNil))
    (sIf (cNot (cChainT dLe dLt (cK (.int 0)) (cVarB 4) (cCall dLen (cCons (cBin dIx (cVarB 0) (cK (.int 0))) cNil))))
    (sRaise "BadEnd" (cVar 2))
    sNext))
    (sIf (cBinT dNe (cCall dLen (cCons (cVarB 1) cNil)) (cCall dLen (cCons (cVarB 0) cNil)))
    (sRaise "BadEnd" (cCall dLen (cCons (cVarB 0) cNil)))
    sNext))))
def f_check_rule : List D → R D := runF 6 2 g_check_rule
def g_likes_more : En → SR :=
  (sRet (cBin dSub (cBin dIx (cBin dIx (cVarB 0) (cVar 2)) (cBin dIx (cVarB 1) (cVar 3))) (cBin dIx (cBin dIx (cVarB 0) (cVar 2)) (cBin dIx (cVarB 1) (cVar 2)))))
def f_likes_more : List D → R D := runF 4 4 g_likes_more
def g_longer : En → SR :=
  (sRet (cLc2 [2, 3] [3] (cItems (cVar 0)) (gN 2) cTrue (cIter dRange2 (cCons (cBin dAdd (cBin dIx (cVarB 2) (cK (.int 0))) (cK (.int 1))) (cCons (cVarB 1) cNil))) (gN 3) (cBinT dNotIn (cVar 3) (cVarB 2)) (cList (cStar (cVarB 2) (cCons (cVar 3) cNil)))))
def f_longer : List D → R D := runF 4 2 g_longer
def g_l_draws : En → SR :=
  (sSeq (sSetN 1 false (cList cNil))
    (sSeq (sFor (gN 2) (cIter dRange1 (cCons (cCall dMin2 (cCons (cK (.int 63)) (cCons (cLenS 0) cNil))) cNil))
    (sSeq (sSet 3 (cCall dAbs (cCons (cIxS 0 (cVar 2)) cNil)))
    (sIf (cBinT dGe (cVarB 3) (cBin dPow (cK (.int 10)) (cK (.int 18))))
    (sFor (gN 4) (cIter dRange1 (cCons (cK (.int 60)) cNil))
    (sIf (cBinT dGt (cVarB 3) (cK (.int 0)))
    (sSeq (sAppend 1 (cBin dMod (cCall dInt (cCons (cVarB 3) cNil)) (cK (.int 65536))))
    (sSet 3 (cBin dDiv (cVarB 3) (cK (.int 65536)))))
    sNext))
    (sSeq (sSet 5 (cBin dMod (cCall dInt (cCons (cBin dAdd (cBin dMul (cVarB 3) (cK (.int 48271))) (cBin dMul (cBin dAdd (cVar 2) (cK (.int 1))) (cK (.int 69621)))) cNil)) (cK (.int 2147483647))))
    (sSeq (sSet 5 (cBin dMod (cCall dInt (cCons (cBin dAdd (cBin dAdd (cBin dMul (cVarB 5) (cK (.int 16807))) (cBin dMul (cK (.int 11)) (cVarB 2))) (cK (.int 5))) cNil)) (cK (.int 2147483629))))
    (sSeq (sAppend 1 (cBin dMod (cCall dInt (cCons (cVarB 5) cNil)) (cK (.int 65536))))
    (sAppend 1 (cBin dMod (cCall dInt (cCons (cBin dDiv (cVarB 5) (cK (.int 65536))) cNil)) (cK (.int 32768))))))))))
    (sRet (cVar 1))))
def f_l_draws : List Int → R D := runS 6 g_l_draws
def g_l_mix : En → SR :=
  (sSeq (sSet 3 (cK (.int 0)))
    (sSeq (sIf (cBinT dGt (cCall dLen (cCons (cVarB 0) cNil)) (cK (.int 0)))
    (sSet 3 (cBin dIx (cVarB 0) (cBin dMod (cCall dInt (cCons (cVarB 1) cNil)) (cCall dLen (cCons (cVarB 0) cNil)))))
    sNext)
    (sSeq (sIf (cBinT dLt (cVarB 1) (cCall dLen (cCons (cVarB 0) cNil)))
    (sRet (cBin dMod (cCall dInt (cCons (cVarB 3) cNil)) (cVarB 2)))
    sNext)
    (sRet (cBin dMod (cCall dInt (cCons (cBin dDiv (cCall dInt (cCons (cBin dAdd (cBin dMul (cVarB 3) (cK (.int 7919))) (cBin dMul (cVarB 1) (cK (.int 104729)))) cNil)) (cK (.int 3))) cNil)) (cVarB 2))))))
def f_l_mix : List D → R D := runF 4 3 g_l_mix
def g_l_subsets : En → SR :=
  (sSeq (sSet 1 (cList (cCons (cTup cNil) cNil)))
    (sSeq (sFor (gN 2) (cIter dRange1 (cCons (cVarB 0) cNil))
    (sSet 1 (cBin dAdd (cVar 1) (cLc [3] (cItems (cVar 1)) (gN 3) cTrue (cBin dAdd (cVar 3) (cTup (cCons (cVar 2) cNil)))))))
    (sRet (cVar 1))))
def f_l_subsets : List D → R D := runF 4 1 g_l_subsets
def g_l_at : En → SR :=
  (sRet (cBin dIx (cVarB 0) (cCall dSum (cCons (cLc [2] (cItems (cVar 1)) (gN 2) cTrue (cBin dIx (cList (cCons (cK (.int 1)) (cCons (cK (.int 2)) (cCons (cK (.int 4)) (cCons (cK (.int 8)) (cCons (cK (.int 16)) (cCons (cK (.int 32)) cNil))))))) (cVar 2))) cNil))))
def f_l_at : List D → R D := runF 3 2 g_l_at
def g_l_shares : En → SR :=
  (sSeq (sSet 2 (cList (cCons (cBin dMul (cList (cCons (cTup cNil) cNil)) (cVarB 0)) cNil)))
    (sSeq (sFor (gN 3) (cIter dRange1 (cCons (cVarB 1) cNil))
    (sSeq (sSet 4 (cCall dListOf (cCons (cVarB 2) cNil)))
    (sSeq (sFor (gN 5) (cItems (cVar 2))
    (sSet 4 (cBin dAdd (cVar 4) (cLc [6] (cIter dRange1 (cCons (cVarB 0) cNil)) (gN 6) cTrue (cBin dAdd (cBin dAdd (cSlice (cVar 5) cPartN (cPart (cVar 6))) (cList (cCons (cBin dAdd (cBin dIx (cVarB 5) (cVar 6)) (cTup (cCons (cVar 3) cNil))) cNil))) (cSlice (cVar 5) (cPart (cBin dAdd (cVar 6) (cK (.int 1)))) cPartN))))))
    (sSet 2 (cVar 4)))))
    (sRet (cVar 2))))
def f_l_shares : List D → R D := runF 7 2 g_l_shares
def g_l_numbers : En → SR :=
  (sRet (cLc [1] (cItems (cVar 0)) (gN 1) cTrue (cCall dSum (cCons (cLc [2] (cItems (cVar 1)) (gN 2) cTrue (cBin dIx (cList (cCons (cK (.int 1)) (cCons (cK (.int 2)) (cCons (cK (.int 4)) (cCons (cK (.int 8)) (cCons (cK (.int 16)) (cCons (cK (.int 32)) cNil))))))) (cVar 2))) cNil))))
def f_l_numbers : List D → R D := runF 3 1 g_l_numbers
def g_l_more : En → SR :=
  (sRet (cBin dSub (cBin dIx (cBin dIx (cVarB 0) (cVar 2)) (cBin dIx (cVarB 1) (cVar 3))) (cBin dIx (cBin dIx (cVarB 0) (cVar 2)) (cBin dIx (cVarB 1) (cVar 2)))))
def f_l_more : List D → R D := runF 4 4 g_l_more
def g_l_keeps : En → SR :=
  (sSeq (sFor (gN 3) (cIter dRange1 (cCons (cCall dLen (cCons (cVarB 0) cNil)) cNil))
    (sFor (gN 4) (cIter dRange1 (cCons (cCall dLen (cCons (cVarB 0) cNil)) cNil))
    (sIf (cBinT dGt (cBin dSub (cBin dIx (cBin dIx (cVarB 0) (cVar 3)) (cBin dIx (cVarB 1) (cVar 4))) (cBin dIx (cVarB 2) (cVar 4))) (cBin dSub (cBin dIx (cBin dIx (cVarB 0) (cVar 3)) (cBin dIx (cVarB 1) (cVar 3))) (cBin dIx (cVarB 2) (cVar 3))))
    (sRet (cK (.bool false)))
    sNext)))
    (sRet (cK (.bool true))))
def f_l_keeps : List D → R D := runF 5 3 g_l_keeps
def g_l_rows : En → SR :=
  (sSeq (sSet 1 (cLc [6] (cIter dRange1 (cCons (cVarB 0) cNil)) (gN 6) cTrue (cList (cCons (cVar 6) cNil))))
    (sSeq (sSet 2 (cCall dListOf (cCons (cVarB 1) cNil)))
    (sSeq (sFor (gN 3) (cIter dRange1 (cCons (cBin dSub (cVarB 0) (cK (.int 1))) cNil))
    (sSeq (sSet 4 (cList cNil))
    (sSeq (sFor (gN 5) (cItems (cVar 1))
    (sSet 4 (cBin dAdd (cVar 4) (cLc [6] (cIter dRange1 (cCons (cVarB 0) cNil)) (gN 6) (cBinT dNotIn (cVar 6) (cVarB 5)) (cBin dAdd (cVar 5) (cList (cCons (cVar 6) cNil)))))))
    (sSeq (sSet 1 (cVar 4))
    (sSet 2 (cBin dAdd (cVar 2) (cVar 1)))))))
    (sRet (cVar 2)))))
def f_l_rows : List D → R D := runF 7 1 g_l_rows
def g_parts_of (F_within : List D → R D) : En → SR :=
  (sRet (cLc [1] (cIter dRange1 (cCons (cBin dAdd (cVar 0) (cK (.int 1))) cNil)) (gN 1) (cTest (cCallF F_within (cCons (cVar 1) (cCons (cVar 0) cNil)))) (cVar 1)))
def f_parts_of : List D → R D := runF 2 1 (g_parts_of f_within)
def g_is_table (F_bundle_of : List D → R D) : En → SR :=
  (sSeq (sIf (cOr (cBinT dNotIn (cCall dLen (cCons (cVarB 0) cNil)) (cK (.tuple [(.int 2), (.int 4), (.int 8), (.int 16), (.int 32), (.int 64)]))) (cOr (cBinT dNe (cBin dIx (cVarB 0) (cK (.int 0))) (cK (.int 0))) (cNot (cChainT dLe dLe (cK (.int 0)) (cBin dIx (cVarB 0) (cUn dNeg (cK (.int 1)))) (cK (.int 1000000))))))
    (sRet (cK (.bool false)))
    sNext)
    (sSeq (sFor (gN 1) (cIter dRange1 (cCons (cCall dLen (cCons (cVarB 0) cNil)) cNil))
    (sFor (gN 2) (cItems (cCallF F_bundle_of (cCons (cVar 1) cNil)))
    (sIf (cBinT dGt (cBin dIx (cVarB 0) (cBin dSub (cVarB 1) (cBin dIx (cK (.tuple [(.int 1), (.int 2), (.int 4), (.int 8), (.int 16), (.int 32), (.int 64)])) (cVar 2)))) (cBin dIx (cVarB 0) (cVar 1)))
    (sRet (cK (.bool false)))
    sNext)))
    (sRet (cK (.bool true)))))
def f_is_table : List D → R D := runF 3 1 (g_is_table f_bundle_of)
def g_does_keep (F_likes_more : List D → R D) : En → SR :=
  (sSeq (sFor (gN 3) (cIter dRange1 (cCons (cCall dLen (cCons (cVarB 0) cNil)) cNil))
    (sFor (gN 4) (cIter dRange1 (cCons (cCall dLen (cCons (cVarB 0) cNil)) cNil))
    (sIf (cBinT dGt (cCallF F_likes_more (cCons (cVar 0) (cCons (cVar 1) (cCons (cVar 3) (cCons (cVar 4) cNil))))) (cBin dSub (cBin dIx (cVarB 2) (cVar 4)) (cBin dIx (cVarB 2) (cVar 3))))
    (sRet (cK (.bool false)))
    sNext)))
    (sRet (cK (.bool true))))
def f_does_keep : List D → R D := runF 5 3 (g_does_keep f_likes_more)
def g_sum_round (F_likes_more : List D → R D) : En → SR :=
  (sRet (cCall dSum (cCons (cLc [3] (cIter dRange1 (cCons (cCall dLen (cCons (cVarB 2) cNil)) cNil)) (gN 3) cTrue (cCallF F_likes_more (cCons (cVar 0) (cCons (cVar 1) (cCons (cBin dIx (cVarB 2) (cBin dSub (cVarB 3) (cK (.int 1)))) (cCons (cBin dIx (cVarB 2) (cVar 3)) cNil)))))) cNil)))
def f_sum_round : List D → R D := runF 4 3 (g_sum_round f_likes_more)
def g_l_drawn (F_l_subsets : List D → R D) (F_l_mix : List D → R D) : En → SR :=
  (sSeq (sSet 3 (cCallF F_l_subsets (cCons (cVar 2) cNil)))
    (sSeq (sSet 4 (cLc [12] (cIter dRange1 (cCons (cVarB 2) cNil)) (gN 12) cTrue (cCallF F_l_mix (cCons (cVar 0) (cCons (cBin dAdd (cVar 1) (cVar 12)) (cCons (cK (.int 9)) cNil))))))
    (sSeq (sSet 5 (cCallF F_l_mix (cCons (cVar 0) (cCons (cBin dAdd (cVar 1) (cK (.int 7))) (cCons (cK (.int 6)) cNil)))))
    (sSeq (sSet 6 (cLc [12] (cIter dRange1 (cCons (cVarB 2) cNil)) (gN 12) (cBinT dEq (cCallF F_l_mix (cCons (cVar 0) (cCons (cBin dAdd (cBin dAdd (cVar 1) (cK (.int 9))) (cVar 12)) (cCons (cK (.int 2)) cNil)))) (cK (.int 0))) (cVar 12)))
    (sSeq (sSetN 7 true (cK (.dict [])))
    (sSeq (sFor (gN 8) (cIter dRange1 (cCons (cCall dLen (cCons (cVarB 3) cNil)) cNil))
    (sSeq (sSet 9 (cBin dIx (cVarB 3) (cVar 8)))
    (sSeq (sSet 10 (cLc [12] (cItems (cVar 9)) (gN 12) cTrue (cBin dIx (cVarB 7) (cCall dTupOf (cCons (cLc [13] (cItems (cVar 9)) (gN 13) (cBinT dNe (cVarB 13) (cVarB 12)) (cVar 13)) cNil)))))
    (sSeq (sSet 11 (cCallF F_l_mix (cCons (cVar 0) (cCons (cBin dAdd (cBin dAdd (cVar 1) (cK (.int 8))) (cVar 8)) (cCons (cK (.int 14)) cNil)))))
    (sSeq (sIf (cBinT dEq (cVarB 5) (cK (.int 1)))
    (sSet 11 (cCall dSum (cCons (cLc [12] (cItems (cVar 9)) (gN 12) cTrue (cBin dIx (cVarB 4) (cVar 12))) cNil)))
    (sIf (cBinT dEq (cVarB 5) (cK (.int 2)))
    (sSet 11 (cCall dSum (cCons (cSlice (cRev (cCall dSorted (cCons (cLc [12] (cItems (cVar 9)) (gN 12) cTrue (cBin dIx (cVarB 4) (cVar 12))) cNil))) cPartN (cPart (cBin dAdd (cK (.int 1)) (cCallF F_l_mix (cCons (cVar 0) (cCons (cBin dAdd (cVar 1) (cK (.int 8))) (cCons (cK (.int 2)) cNil))))))) cNil)))
    (sIf (cBinT dEq (cVarB 5) (cK (.int 3)))
    (sSet 11 (cBin dSub (cCall dSum (cCons (cLc [12] (cItems (cVar 9)) (gN 12) cTrue (cBin dIx (cVarB 4) (cVar 12))) cNil)) (cBin dDiv (cBin dMul (cCall dLen (cCons (cVarB 9) cNil)) (cBin dSub (cCall dLen (cCons (cVarB 9) cNil)) (cK (.int 1)))) (cK (.int 2)))))
    (sIf (cBinT dEq (cVarB 5) (cK (.int 4)))
    (sSet 11 (cBin dMul (cBin dAdd (cK (.int 1)) (cBin dIx (cVarB 4) (cK (.int 0)))) (cCall dInt (cCons (cBin dEq (cCall dLen (cCons (cLc [12] (cItems (cVar 6)) (gN 12) (cBinT dNotIn (cVar 12) (cVarB 9)) (cVar 12)) cNil)) (cK (.int 0))) cNil))))
    (sIf (cBinT dEq (cVarB 5) (cK (.int 5)))
    (sSet 11 (cBin dMul (cBin dMul (cCallF F_l_mix (cCons (cVar 0) (cCons (cBin dAdd (cVar 1) (cK (.int 8))) (cCons (cK (.int 3)) cNil)))) (cCall dLen (cCons (cVarB 9) cNil))) (cCall dLen (cCons (cVarB 9) cNil))))
    sNext)))))
    (sSetD 7 (cVar 9) (cCall dMax (cCons (cBin dAdd (cBin dAdd (cList (cCons (cK (.int 0)) cNil)) (cVar 10)) (cList (cCons (cBin dMul (cVarB 11) (cCall dInt (cCons (cBin dNe (cVarB 9) (cTup cNil)) cNil))) cNil))) cNil))))))))
    (sRet (cLc [9] (cItems (cVar 3)) (gN 9) cTrue (cBin dIx (cVarB 7) (cVar 9))))))))))
def f_l_drawn : List D → R D := runF 14 3 (g_l_drawn f_l_subsets f_l_mix)
def g_l_sum (F_l_at : List D → R D) : En → SR :=
  (sRet (cCall dSum (cCons (cLc [2] (cIter dRange1 (cCons (cCall dLen (cCons (cVarB 0) cNil)) cNil)) (gN 2) cTrue (cCallF F_l_at (cCons (cBin dIx (cVarB 0) (cVar 2)) (cCons (cBin dIx (cVarB 1) (cVar 2)) cNil)))) cNil)))
def f_l_sum : List D → R D := runF 3 2 (g_l_sum f_l_at)
def g_l_total (F_l_more : List D → R D) : En → SR :=
  (sRet (cCall dSum (cCons (cLc [3] (cIter dRange1 (cCons (cCall dLen (cCons (cVarB 2) cNil)) cNil)) (gN 3) cTrue (cCallF F_l_more (cCons (cVar 0) (cCons (cVar 1) (cCons (cBin dIx (cVarB 2) (cVar 3)) (cCons (cBin dIx (cBin dAdd (cVar 2) (cVar 2)) (cBin dAdd (cVar 3) (cK (.int 1)))) cNil)))))) cNil)))
def f_l_total : List D → R D := runF 4 3 (g_l_total f_l_more)
def g_l_rule (F_l_mix : List D → R D) : En → SR :=
  (sSeq (sSet 2 (cBin dAdd (cK (.int 1)) (cCallF F_l_mix (cCons (cVar 0) (cCons (cVar 1) (cCons (cK (.int 5)) cNil))))))
    (sSeq (sSet 3 (cBin dAdd (cK (.int 1)) (cCallF F_l_mix (cCons (cVar 0) (cCons (cBin dAdd (cVar 1) (cK (.int 1))) (cCons (cK (.int 5)) cNil))))))
    (sSeq (sSet 4 (cLc [8] (cIter dRange1 (cCons (cVarB 2) cNil)) (gN 8) cTrue (cLc [10] (cIter dRange1 (cCons (cVarB 3) cNil)) (gN 10) cTrue (cCallF F_l_mix (cCons (cVar 0) (cCons (cBin dAdd (cBin dAdd (cBin dAdd (cVar 1) (cK (.int 3))) (cBin dMul (cK (.int 6)) (cVarB 8))) (cVar 10)) (cCons (cBin dIx (cList (cCons (cK (.int 4)) (cCons (cK (.int 12)) cNil))) (cCallF F_l_mix (cCons (cVar 0) (cCons (cBin dAdd (cVar 1) (cK (.int 2))) (cCons (cK (.int 2)) cNil))))) cNil)))))))
    (sSeq (sSetN 5 false (cLc [8] (cIter dRange1 (cCons (cVarB 2) cNil)) (gN 8) cTrue (cCallF F_l_mix (cCons (cVar 0) (cCons (cBin dAdd (cBin dAdd (cVar 1) (cK (.int 40))) (cVar 8)) (cCons (cVar 3) cNil))))))
    (sSeq (sIf (cBinT dEq (cCallF F_l_mix (cCons (cVar 0) (cCons (cBin dAdd (cVar 1) (cK (.int 46))) (cCons (cK (.int 2)) cNil)))) (cK (.int 0)))
    (sSeq (sSet 6 (cLc [10] (cIter dRange1 (cCons (cVarB 3) cNil)) (gN 10) cTrue (cCallF F_l_mix (cCons (cVar 0) (cCons (cBin dAdd (cBin dAdd (cVar 1) (cK (.int 50))) (cVar 10)) (cCons (cK (.int 6)) cNil))))))
    (sSeq (sSetN 5 false (cList cNil))
    (sFor (gN 7) (cItems (cVar 4))
    (sSeq (sSet 9 (cLc [10] (cIter dRange1 (cCons (cVarB 3) cNil)) (gN 10) cTrue (cBin dSub (cBin dIx (cVarB 7) (cVar 10)) (cBin dIx (cVarB 6) (cVar 10)))))
    (sAppend 5 (cIndex (cVarB 9) (cCall dMax (cCons (cVarB 9) cNil))))))))
    sNext)
    (sRet (cTup (cCons (cVar 4) (cCons (cVar 5) cNil)))))))))
def f_l_rule : List D → R D := runF 11 2 (g_l_rule f_l_mix)
def g_check_book (F_is_table : List D → R D) : En → SR :=
  (sSeq (sIf (cNot (cChainT dLe dLe (cK (.int 1)) (cCall dLen (cCons (cVarB 0) cNil)) (cK (.int 6))))
    (sRaise "BadBook" (cCall dLen (cCons (cVarB 0) cNil)))
    sNext)
    (sFor (gT (gC (gN 1) (gC (gN 2) gE))) (cIter dEnum (cCons (cVar 0) cNil))
    (sIf (cOr (cNot (cTest (cCallF F_is_table (cCons (cVar 2) cNil)))) (cBinT dNe (cCall dLen (cCons (cVarB 2) cNil)) (cCall dLen (cCons (cBin dIx (cVarB 0) (cK (.int 0))) cNil))))
    (sRaise "BadTable" (cVar 1))
    sNext)))
def f_check_book : List D → R D := runF 3 1 (g_check_book f_is_table)
def g_most_at (F_parts_of : List D → R D) : En → SR :=
  (sRet (cCall dMax (cCons (cLc [3] (cItems (cCallF F_parts_of (cCons (cVar 2) cNil))) (gN 3) cTrue (cBin dAdd (cBin dIx (cVarB 0) (cVar 3)) (cBin dIx (cVarB 1) (cBin dSub (cVarB 2) (cVarB 3))))) cNil)))
def f_most_at : List D → R D := runF 4 3 (g_most_at f_parts_of)
def g_keep_truth (F_check_rule : List D → R D) (F_does_keep : List D → R D) : En → SR :=
  (sSeq (sExpr (cCallF F_check_rule (cCons (cVar 0) (cCons (cVar 1) cNil))))
    (sSeq (sIf (cBinT dNe (cCall dLen (cCons (cVarB 2) cNil)) (cCall dLen (cCons (cVarB 0) cNil)))
    (sRaise "BadPaid" (cK (.int 0)))
    sNext)
    (sRet (cCallF F_does_keep (cCons (cVar 0) (cCons (cVar 1) (cCons (cVar 2) cNil)))))))
def f_keep_truth : List D → R D := runF 3 3 (g_keep_truth f_check_rule f_does_keep)
def g_gain_of_round (F_check_rule : List D → R D) (F_sum_round : List D → R D) : En → SR :=
  (sSeq (sExpr (cCallF F_check_rule (cCons (cVar 0) (cCons (cVar 1) cNil))))
    (sRet (cCallF F_sum_round (cCons (cVar 0) (cCons (cVar 1) (cCons (cVar 2) cNil))))))
def f_gain_of_round : List D → R D := runF 3 3 (g_gain_of_round f_check_rule f_sum_round)
def g_round_of_gains (F_check_rule : List D → R D) (F_longer : List D → R D) (F_sum_round : List D → R D) : En → SR :=
  (sSeq (sExpr (cCallF F_check_rule (cCons (cVar 0) (cCons (cVar 1) cNil))))
    (sSeq (sSet 2 (cLc [4] (cIter dRange1 (cCons (cCall dLen (cCons (cVarB 0) cNil)) cNil)) (gN 4) cTrue (cList (cCons (cVar 4) cNil))))
    (sSeq (sWhile 100 (cBinT dGt (cCall dLen (cCons (cVarB 2) cNil)) (cK (.int 0)))
    (sSeq (sSet 2 (cCallF F_longer (cCons (cVar 2) (cCons (cCall dLen (cCons (cVarB 0) cNil)) cNil))))
    (sSeq (sSet 3 (cLc [5] (cItems (cVar 2)) (gN 5) (cBinT dGt (cCallF F_sum_round (cCons (cVar 0) (cCons (cVar 1) (cCons (cVar 5) cNil)))) (cK (.int 0))) (cVar 5)))
    (sIf (cBinT dGt (cCall dLen (cCons (cVarB 3) cNil)) (cK (.int 0)))
    (sRet (cCall dMinRows (cCons (cVarB 3) cNil)))
    sNext))))
    (sRet (cK .none)))))
def f_round_of_gains : List D → R D := runF 6 2 (g_round_of_gains f_check_rule f_longer f_sum_round)
def g_greatest_payments (F_check_rule : List D → R D) (F_likes_more : List D → R D) (F_does_keep : List D → R D) : En → SR :=
  (sSeq (sExpr (cCallF F_check_rule (cCons (cVar 0) (cCons (cVar 1) cNil))))
    (sSeq (sSet 2 (cCall dLen (cCons (cVarB 0) cNil)))
    (sSeq (sSetN 3 false (cLc [6] (cIter dRange1 (cCons (cVarB 2) cNil)) (gN 6) cTrue (cUn dNeg (cCallF F_likes_more (cCons (cVar 0) (cCons (cVar 1) (cCons (cVar 6) (cCons (cK (.int 0)) cNil))))))))
    (sSeq (sFor (gN 4) (cIter dRange1 (cCons (cVarB 2) cNil))
    (sFor (gN 5) (cIter dRange1 (cCons (cVarB 2) cNil))
    (sFor (gN 7) (cIter dRange1 (cCons (cVarB 2) cNil))
    (sSetL 3 (cVar 7) (cCall dMin2 (cCons (cBin dIx (cVarB 3) (cVar 7)) (cCons (cBin dSub (cBin dIx (cVarB 3) (cVar 5)) (cCallF F_likes_more (cCons (cVar 0) (cCons (cVar 1) (cCons (cVar 7) (cCons (cVar 5) cNil)))))) cNil)))))))
    (sRet (cIf (cAnd (cTest (cCallF F_does_keep (cCons (cVar 0) (cCons (cVar 1) (cCons (cVar 3) cNil))))) (cBinT dEq (cBin dIx (cVarB 3) (cK (.int 0))) (cK (.int 0)))) (cVar 3) (cK .none)))))))
def f_greatest_payments : List D → R D := runF 8 2 (g_greatest_payments f_check_rule f_likes_more f_does_keep)
def g_l_book (F_l_mix : List D → R D) (F_l_drawn : List D → R D) : En → SR :=
  (sRet (cLc [4] (cIter dRange1 (cCons (cBin dAdd (cK (.int 1)) (cCallF F_l_mix (cCons (cVar 0) (cCons (cBin dAdd (cVar 1) (cK (.int 400))) (cCons (cVar 2) cNil))))) cNil)) (gN 4) cTrue (cCallF F_l_drawn (cCons (cVar 0) (cCons (cBin dAdd (cVar 1) (cBin dMul (cK (.int 50)) (cVarB 4))) (cCons (cVar 3) cNil))))))
def f_l_book : List D → R D := runF 5 4 (g_l_book f_l_mix f_l_drawn)
def g_l_best (F_l_shares : List D → R D) (F_l_sum : List D → R D) (F_l_numbers : List D → R D) : En → SR :=
  (sSeq (sIf (cBinT dEq (cVarB 0) (cList cNil))
    (sRet (cTup (cCons (cList cNil) (cCons (cK (.int 0)) cNil))))
    sNext)
    (sSeq (sSet 2 (cK .none))
    (sSeq (sFor (gN 3) (cItems (cCallF F_l_shares (cCons (cCall dLen (cCons (cVarB 0) cNil)) (cCons (cVar 1) cNil))))
    (sSeq (sSet 4 (cTup (cCons (cUn dNeg (cCallF F_l_sum (cCons (cVar 0) (cCons (cVar 3) cNil)))) (cCons (cCallF F_l_numbers (cCons (cVar 3) cNil)) cNil))))
    (sIf (cOr (cBinT dIs (cVarB 2) (cK .none)) (cBinT dLt (cVarB 4) (cBin dIx (cVarB 2) (cK (.int 0)))))
    (sSet 2 (cTup (cCons (cVar 4) (cCons (cVar 3) cNil))))
    sNext)))
    (sRet (cTup (cCons (cBin dIx (cVarB 2) (cK (.int 1))) (cCons (cUn dNeg (cBin dIx (cBin dIx (cVarB 2) (cK (.int 0))) (cK (.int 0)))) cNil)))))))
def f_l_best : List D → R D := runF 5 2 (g_l_best f_l_shares f_l_sum f_l_numbers)
def g_l_round (F_l_rows : List D → R D) (F_l_total : List D → R D) : En → SR :=
  (sSeq (sSet 2 (cLc [3] (cItems (cCallF F_l_rows (cCons (cCall dLen (cCons (cVarB 0) cNil)) cNil))) (gN 3) (cAnd (cBinT dGt (cCall dLen (cCons (cVarB 3) cNil)) (cK (.int 1))) (cAnd (cBinT dEq (cBin dIx (cVarB 3) (cK (.int 0))) (cCall dMin (cCons (cVarB 3) cNil))) (cBinT dGt (cCallF F_l_total (cCons (cVar 0) (cCons (cVar 1) (cCons (cVar 3) cNil)))) (cK (.int 0))))) (cTup (cCons (cCall dLen (cCons (cVarB 3) cNil)) (cCons (cVar 3) cNil)))))
    (sRet (cBin dIx (cBin dIx (cBin dAdd (cCall dSortRows (cCons (cVarB 2) cNil)) (cList (cCons (cTup (cCons (cK (.int 0)) (cCons (cK .none) cNil))) cNil))) (cK (.int 0))) (cK (.int 1)))))
def f_l_round : List D → R D := runF 4 2 (g_l_round f_l_rows f_l_total)
def g_rests (F_most_at : List D → R D) : En → SR :=
  (sSeq (sSetN 1 false (cList (cCons (cBin dMul (cList (cCons (cK (.int 0)) cNil)) (cCall dLen (cCons (cBin dIx (cVarB 0) (cK (.int 0))) cNil))) cNil)))
    (sSeq (sFor (gN 2) (cItems (cRev (cVarB 0)))
    (sSeq (sSet 3 (cBin dIx (cVarB 1) (cUn dNeg (cK (.int 1)))))
    (sAppend 1 (cLc [4] (cIter dRange1 (cCons (cCall dLen (cCons (cVarB 2) cNil)) cNil)) (gN 4) cTrue (cCallF F_most_at (cCons (cVar 2) (cCons (cVar 3) (cCons (cVar 4) cNil))))))))
    (sRet (cRev (cVarB 1)))))
def f_rests : List D → R D := runF 5 1 (g_rests f_most_at)
def g_check_bidder (F_check_book : List D → R D) : En → SR :=
  (sSeq (sExpr (cCallF F_check_book (cCons (cVar 0) cNil)))
    (sIf (cNot (cChainT dLe dLt (cK (.int 0)) (cVarB 1) (cCall dLen (cCons (cVarB 0) cNil))))
    (sRaise "BadBidder" (cVar 1))
    sNext))
def f_check_bidder : List D → R D := runF 2 2 (g_check_bidder f_check_book)
def g_l_paid (F_l_best : List D → R D) (F_l_at : List D → R D) : En → SR :=
  (sSeq (sAsg (gT (gC (gN 5) (gC (gN 6) gE))) (cCallF F_l_best (cCons (cVar 0) (cCons (cVar 1) cNil))))
    (sSeq (sSetN 3 false (cList cNil))
    (sSeq (sFor (gN 4) (cIter dRange1 (cCons (cCall dLen (cCons (cVarB 0) cNil)) cNil))
    (sSeq (sSet 7 (cCallF F_l_at (cCons (cBin dIx (cVarB 0) (cVar 4)) (cCons (cBin dIx (cVarB 5) (cVar 4)) cNil))))
    (sSeq (sSet 8 (cK (.int 0)))
    (sSeq (sIf (cBinT dEq (cVarB 2) (cK (.str "fair")))
    (sSet 8 (cBin dAdd (cBin dSub (cBin dIx (cCallF F_l_best (cCons (cBin dAdd (cSlice (cVar 0) cPartN (cPart (cVar 4))) (cSlice (cVar 0) (cPart (cBin dAdd (cVar 4) (cK (.int 1)))) cPartN)) (cCons (cVar 1) cNil))) (cK (.int 1))) (cVarB 6)) (cVar 7)))
    sNext)
    (sAppend 3 (cBin dIx (cDict (cKd (.inr "fair") (cVar 8) (cKd (.inr "bid") (cVar 7) (cKd (.inr "none") (cK (.int 0)) (fun _ => .ok []))))) (cVar 2)))))))
    (sRet (cVar 3)))))
def f_l_paid : List D → R D := runF 9 3 (g_l_paid f_l_best f_l_at)
def g_l_greatest (F_l_round : List D → R D) (F_l_rows : List D → R D) (F_l_more : List D → R D) : En → SR :=
  (sSeq (sIf (cBinT dIsNot (cCallF F_l_round (cCons (cVar 0) (cCons (cVar 1) cNil))) (cK .none))
    (sRet (cK .none))
    sNext)
    (sSeq (sSetN 2 false (cList cNil))
    (sSeq (sFor (gN 3) (cIter dRange1 (cCons (cCall dLen (cCons (cVarB 0) cNil)) cNil))
    (sSeq (sSetN 4 false (cBin dTimes (cList (cCons (cK (.int 0)) cNil)) (cCall dInt (cCons (cBin dEq (cVarB 3) (cK (.int 0))) cNil))))
    (sSeq (sFor (gN 5) (cItems (cCallF F_l_rows (cCons (cCall dLen (cCons (cVarB 0) cNil)) cNil)))
    (sIf (cAnd (cBinT dEq (cBin dIx (cVarB 5) (cK (.int 0))) (cK (.int 0))) (cAnd (cBinT dEq (cBin dIx (cVarB 5) (cUn dNeg (cK (.int 1)))) (cVarB 3)) (cBinT dGt (cCall dLen (cCons (cVarB 5) cNil)) (cK (.int 1)))))
    (sAppend 4 (cCall dSum (cCons (cLc [6] (cIter dRange2 (cCons (cK (.int 1)) (cCons (cCall dLen (cCons (cVarB 5) cNil)) cNil))) (gN 6) cTrue (cUn dNeg (cCallF F_l_more (cCons (cVar 0) (cCons (cVar 1) (cCons (cBin dIx (cVarB 5) (cVar 6)) (cCons (cBin dIx (cVarB 5) (cBin dSub (cVarB 6) (cK (.int 1)))) cNil))))))) cNil)))
    sNext))
    (sAppend 2 (cCall dMin (cCons (cVarB 4) cNil))))))
    (sRet (cVar 2)))))
def f_l_greatest : List D → R D := runF 7 2 (g_l_greatest f_l_round f_l_rows f_l_more)
def g_l_fault (F_keep_truth : List D → R D) (F_gain_of_round : List D → R D) (F_round_of_gains : List D → R D) (F_greatest_payments : List D → R D) : En → SR :=
  (sSeq (sTryAt 4 (sIf (cBinT dEq (cVarB 0) (cK (.int 0)))
    (sExpr (cCallF F_keep_truth (cCons (cVar 1) (cCons (cVar 2) (cCons (cVar 3) cNil)))))
    (sIf (cBinT dEq (cVarB 0) (cK (.int 1)))
    (sExpr (cCallF F_gain_of_round (cCons (cVar 1) (cCons (cVar 2) (cCons (cList (cCons (cK (.int 0)) cNil)) cNil)))))
    (sExpr (cPick (cBin dSub (cVarB 0) (cK (.int 2))) [F_round_of_gains, F_greatest_payments] (cCons (cVar 1) (cCons (cVar 2) cNil)))))) [([("BadTable", false), ("BadBook", false), ("BadBidder", false), ("BadType", true), ("BadEnd", false), ("BadPaid", false)], "type"), ([("BadTable", false), ("BadBook", false), ("BadBidder", false), ("BadType", false), ("BadEnd", true), ("BadPaid", false)], "end"), ([("BadTable", false), ("BadBook", false), ("BadBidder", false), ("BadType", false), ("BadEnd", false), ("BadPaid", true)], "paid")])
    (sRet (cTup (cCons (cK (.str "")) (cCons (cK (.int 0)) cNil)))))
def f_l_fault : List D → R D := runF 5 4 (g_l_fault f_keep_truth f_gain_of_round f_round_of_gains f_greatest_payments)
def g_best_of (F_rests : List D → R D) (F_parts_of : List D → R D) (F_bundle_of : List D → R D) : En → SR :=
  (sSeq (sSet 1 (cCallF F_rests (cCons (cVar 0) cNil)))
    (sSeq (sSet 2 (cBin dSub (cCall dLen (cCons (cBin dIx (cVarB 0) (cK (.int 0))) cNil)) (cK (.int 1))))
    (sSeq (sSetN 3 false (cList cNil))
    (sSeq (sFor (gT (gC (gN 4) (gC (gN 5) gE))) (cIter dEnum (cCons (cVar 0) cNil))
    (sSeq (sSet 6 (cLc [7] (cItems (cCallF F_parts_of (cCons (cVar 2) cNil))) (gN 7) (cBinT dEq (cBin dAdd (cBin dIx (cVarB 5) (cVar 7)) (cBin dIx (cBin dIx (cVarB 1) (cBin dAdd (cVar 4) (cK (.int 1)))) (cBin dSub (cVarB 2) (cVarB 7)))) (cBin dIx (cBin dIx (cVarB 1) (cVar 4)) (cVar 2))) (cVar 7)))
    (sSeq (sAppend 3 (cCallF F_bundle_of (cCons (cBin dIx (cVarB 6) (cK (.int 0))) cNil)))
    (sSet 2 (cBin dSub (cVarB 2) (cBin dIx (cVarB 6) (cK (.int 0))))))))
    (sRet (cTup (cCons (cVar 3) (cCons (cBin dIx (cBin dIx (cVarB 1) (cK (.int 0))) (cUn dNeg (cK (.int 1)))) cNil))))))))
def f_best_of : List D → R D := runF 8 1 (g_best_of f_rests f_parts_of f_bundle_of)
def g_check_wishes (F_check_bidder : List D → R D) (F_is_table : List D → R D) : En → SR :=
  (sSeq (sExpr (cCallF F_check_bidder (cCons (cVar 0) (cCons (cVar 1) cNil))))
    (sSeq (sIf (cNot (cChainT dLe dLe (cK (.int 1)) (cCall dLen (cCons (cVarB 2) cNil)) (cK (.int 6))))
    (sRaise "BadTable" (cUn dNeg (cK (.int 1))))
    sNext)
    (sFor (gT (gC (gN 3) (gC (gN 4) gE))) (cIter dEnum (cCons (cVar 2) cNil))
    (sIf (cOr (cNot (cTest (cCallF F_is_table (cCons (cVar 4) cNil)))) (cBinT dNe (cCall dLen (cCons (cVarB 4) cNil)) (cCall dLen (cCons (cBin dIx (cVarB 0) (cK (.int 0))) cNil))))
    (sRaise "BadTable" (cVar 3))
    sNext))))
def f_check_wishes : List D → R D := runF 5 3 (g_check_wishes f_check_bidder f_is_table)
def g_sum_without (F_best_of : List D → R D) : En → SR :=
  (sSeq (sSet 2 (cBin dAdd (cSlice (cVar 0) cPartN (cPart (cVar 1))) (cSlice (cVar 0) (cPart (cBin dAdd (cVar 1) (cK (.int 1)))) cPartN)))
    (sRet (cIf (cBinT dGt (cCall dLen (cCons (cVarB 2) cNil)) (cK (.int 0))) (cBin dIx (cCallF F_best_of (cCons (cVar 2) cNil)) (cK (.int 1))) (cK (.int 0)))))
def f_sum_without : List D → R D := runF 3 2 (g_sum_without f_best_of)
def g_rule_in (F_check_wishes : List D → R D) (F_number_of : List D → R D) (F_best_of : List D → R D) (F_with_lie : List D → R D) : En → SR :=
  (sSeq (sExpr (cCallF F_check_wishes (cCons (cVar 0) (cCons (cVar 1) (cCons (cVar 2) cNil)))))
    (sSeq (sSet 3 (cLc [4] (cItems (cVar 2)) (gN 4) cTrue (cCallF F_number_of (cCons (cBin dIx (cBin dIx (cCallF F_best_of (cCons (cCallF F_with_lie (cCons (cVar 0) (cCons (cVar 1) (cCons (cVar 4) cNil)))) cNil)) (cK (.int 0))) (cVar 1)) cNil))))
    (sRet (cTup (cCons (cLc [4] (cItems (cVar 2)) (gN 4) cTrue (cCall dListOf (cCons (cVarB 4) cNil))) (cCons (cVar 3) cNil))))))
def f_rule_in : List D → R D := runF 5 3 (g_rule_in f_check_wishes f_number_of f_best_of f_with_lie)
def g_paid_by (F_number_of : List D → R D) (F_sum_without : List D → R D) : En → SR :=
  (sSeq (sSet 5 (cBin dIx (cBin dIx (cVarB 0) (cVar 3)) (cCallF F_number_of (cCons (cBin dIx (cVarB 1) (cVar 3)) cNil))))
    (sSeq (sIf (cBinT dEq (cVarB 4) (cK (.str "fair")))
    (sRet (cBin dSub (cCallF F_sum_without (cCons (cVar 0) (cCons (cVar 3) cNil))) (cBin dSub (cVarB 2) (cVarB 5))))
    sNext)
    (sRet (cIf (cBinT dEq (cVarB 4) (cK (.str "bid"))) (cVar 5) (cK (.int 0))))))
def f_paid_by : List D → R D := runF 6 5 (g_paid_by f_number_of f_sum_without)
def g_all_paid (F_best_of : List D → R D) (F_paid_by : List D → R D) : En → SR :=
  (sSeq (sAsg (gT (gC (gN 2) (gC (gN 3) gE))) (cCallF F_best_of (cCons (cVar 0) cNil)))
    (sRet (cLc [4] (cIter dRange1 (cCons (cCall dLen (cCons (cVarB 0) cNil)) cNil)) (gN 4) cTrue (cCallF F_paid_by (cCons (cVar 0) (cCons (cVar 2) (cCons (cVar 3) (cCons (cVar 4) (cCons (cVar 1) cNil)))))))))
def f_all_paid : List D → R D := runF 5 2 (g_all_paid f_best_of f_paid_by)
def g_fair_in (F_check_wishes : List D → R D) (F_all_paid : List D → R D) (F_with_lie : List D → R D) : En → SR :=
  (sSeq (sExpr (cCallF F_check_wishes (cCons (cVar 0) (cCons (cVar 1) (cCons (cVar 2) cNil)))))
    (sRet (cLc [3] (cItems (cVar 2)) (gN 3) cTrue (cBin dIx (cCallF F_all_paid (cCons (cCallF F_with_lie (cCons (cVar 0) (cCons (cVar 1) (cCons (cVar 3) cNil)))) (cCons (cK (.str "fair")) cNil))) (cVar 1)))))
def f_fair_in : List D → R D := runF 4 3 (g_fair_in f_check_wishes f_all_paid f_with_lie)
def g_l_book_fault (F_rule_in : List D → R D) (F_fair_in : List D → R D) : En → SR :=
  (sSeq (sTryAt 4 (sExpr (cPick (cVar 0) [F_rule_in, F_fair_in] (cCons (cVar 1) (cCons (cVar 2) (cCons (cVar 3) cNil))))) [([("BadTable", false), ("BadBook", true), ("BadBidder", false), ("BadType", false), ("BadEnd", false), ("BadPaid", false)], "book"), ([("BadTable", false), ("BadBook", false), ("BadBidder", true), ("BadType", false), ("BadEnd", false), ("BadPaid", false)], "bidder"), ([("BadTable", true), ("BadBook", false), ("BadBidder", false), ("BadType", false), ("BadEnd", false), ("BadPaid", false)], "table")])
    (sRet (cTup (cCons (cK (.str "")) (cCons (cK (.int 0)) cNil)))))
def f_l_book_fault : List D → R D := runF 5 4 (g_l_book_fault f_rule_in f_fair_in)
def g_l_faults (F_l_fault : List D → R D) (F_l_book_fault : List D → R D) : En → SR :=
  (sSeq (sFor (gN 0) (cIter dRange1 (cCons (cK (.int 4)) cNil))
    (sSeq (sIf (cOr (cBinT dNe (cCallF F_l_fault (cCons (cVar 0) (cCons (cList cNil) (cCons (cList (cCons (cK (.int 9)) cNil)) (cCons (cList cNil) cNil))))) (cTup (cCons (cK (.str "type")) (cCons (cUn dNeg (cK (.int 1))) cNil)))) (cBinT dNe (cCallF F_l_fault (cCons (cVar 0) (cCons (cBin dMul (cList (cCons (cList (cCons (cK (.int 0)) cNil)) cNil)) (cK (.int 7))) (cCons (cList (cCons (cK (.int 9)) cNil)) (cCons (cList cNil) cNil))))) (cTup (cCons (cK (.str "type")) (cCons (cUn dNeg (cK (.int 1))) cNil)))))
    (sRet (cK (.bool false)))
    sNext)
    (sSeq (sFor (gN 2) (cItems (cList (cCons (cList cNil) (cCons (cList (cCons (cK (.int 0)) cNil)) (cCons (cList (cCons (cK (.int 0)) (cCons (cUn dNeg (cK (.int 1))) cNil))) (cCons (cList (cCons (cK (.int 0)) (cCons (cK (.int 1000001)) cNil))) (cCons (cBin dMul (cList (cCons (cK (.int 0)) cNil)) (cK (.int 65))) cNil)))))))
    (sIf (cBinT dNe (cCallF F_l_fault (cCons (cVar 0) (cCons (cList (cCons (cList (cCons (cK (.int 0)) (cCons (cK (.int 1)) cNil))) (cCons (cVar 2) cNil))) (cCons (cList (cCons (cK (.int 9)) cNil)) (cCons (cList cNil) cNil))))) (cTup (cCons (cK (.str "type")) (cCons (cK (.int 1)) cNil))))
    (sRet (cK (.bool false)))
    sNext))
    (sFor (gT (gC (gN 3) (gC (gN 4) gE))) (cItems (cList (cCons (cTup (cCons (cList (cCons (cK (.int 0)) (cCons (cK (.int 2)) cNil))) (cCons (cK (.int 1)) cNil))) (cCons (cTup (cCons (cList (cCons (cUn dNeg (cK (.int 1))) (cCons (cK (.int 0)) cNil))) (cCons (cK (.int 0)) cNil))) (cCons (cTup (cCons (cList (cCons (cK (.int 0)) cNil)) (cCons (cK (.int 2)) cNil))) (cCons (cTup (cCons (cList (cCons (cK (.int 0)) (cCons (cK (.int 0)) (cCons (cK (.int 0)) cNil)))) (cCons (cK (.int 2)) cNil))) (cCons (cTup (cCons (cList cNil) (cCons (cK (.int 2)) cNil))) cNil)))))))
    (sIf (cBinT dNe (cCallF F_l_fault (cCons (cVar 0) (cCons (cList (cCons (cList (cCons (cK (.int 0)) (cCons (cK (.int 1)) cNil))) (cCons (cList (cCons (cK (.int 1)) (cCons (cK (.int 0)) cNil))) cNil))) (cCons (cVar 3) (cCons (cList cNil) cNil))))) (cTup (cCons (cK (.str "end")) (cCons (cVar 4) cNil))))
    (sRet (cK (.bool false)))
    sNext)))))
    (sSeq (sSet 1 (cList (cCons (cK (.int 0)) (cCons (cK (.int 1)) cNil))))
    (sSeq (sFor (gN 0) (cIter dRange1 (cCons (cK (.int 2)) cNil))
    (sSeq (sIf (cOr (cBinT dNe (cCallF F_l_book_fault (cCons (cVar 0) (cCons (cList cNil) (cCons (cK (.int 9)) (cCons (cList cNil) cNil))))) (cTup (cCons (cK (.str "book")) (cCons (cK (.int 0)) cNil)))) (cOr (cBinT dNe (cCallF F_l_book_fault (cCons (cVar 0) (cCons (cList (cCons (cVar 1) cNil)) (cCons (cK (.int 1)) (cCons (cList cNil) cNil))))) (cTup (cCons (cK (.str "bidder")) (cCons (cK (.int 1)) cNil)))) (cBinT dNe (cCallF F_l_book_fault (cCons (cVar 0) (cCons (cList (cCons (cVar 1) cNil)) (cCons (cK (.int 0)) (cCons (cList cNil) cNil))))) (cTup (cCons (cK (.str "table")) (cCons (cUn dNeg (cK (.int 1))) cNil))))))
    (sRet (cK (.bool false)))
    sNext)
    (sIf (cOr (cBinT dNe (cCallF F_l_book_fault (cCons (cVar 0) (cCons (cList (cCons (cVar 1) cNil)) (cCons (cK (.int 0)) (cCons (cBin dMul (cList (cCons (cVar 1) cNil)) (cK (.int 7))) cNil))))) (cTup (cCons (cK (.str "table")) (cCons (cUn dNeg (cK (.int 1))) cNil)))) (cBinT dNe (cCallF F_l_book_fault (cCons (cVar 0) (cCons (cList (cCons (cVar 1) cNil)) (cCons (cK (.int 0)) (cCons (cList (cCons (cVar 1) (cCons (cList (cCons (cK (.int 0)) (cCons (cK (.int 1)) (cCons (cK (.int 1)) (cCons (cK (.int 1)) cNil))))) cNil))) cNil))))) (cTup (cCons (cK (.str "table")) (cCons (cK (.int 1)) cNil)))))
    (sRet (cK (.bool false)))
    sNext)))
    (sRet (cBin dEq (cCallF F_l_fault (cCons (cK (.int 0)) (cCons (cList (cCons (cList (cCons (cK (.int 0)) (cCons (cK (.int 1)) cNil))) cNil)) (cCons (cList (cCons (cK (.int 0)) cNil)) (cCons (cList cNil) cNil))))) (cTup (cCons (cK (.str "paid")) (cCons (cK (.int 0)) cNil))))))))
def f_l_faults : List D → R D := runF 5 0 (g_l_faults f_l_fault f_l_book_fault)
def g_law (F_l_draws : List Int → R D) (F_l_rule : List D → R D) (F_l_round : List D → R D) (F_greatest_payments : List D → R D) (F_round_of_gains : List D → R D) (F_l_greatest : List D → R D) (F_keep_truth : List D → R D) (F_l_keeps : List D → R D) (F_l_mix : List D → R D) (F_l_rows : List D → R D) (F_gain_of_round : List D → R D) (F_l_total : List D → R D) (F_l_book : List D → R D) (F_l_drawn : List D → R D) (F_rule_in : List D → R D) (F_l_numbers : List D → R D) (F_l_best : List D → R D) (F_l_paid : List D → R D) (F_fair_in : List D → R D) (F_l_faults : List D → R D) : En → SR :=
  (sSeq (sSet 1 (cCallS 0 F_l_draws))
    (sSeq (sAsg (gT (gC (gN 15) (gC (gN 16) gE))) (cCallF F_l_rule (cCons (cVar 1) (cCons (cK (.int 10)) cNil))))
    (sSeq (sSet 2 (cUn dRepr (cTup (cCons (cVar 15) (cCons (cVar 16) cNil)))))
    (sSeq (sSet 3 (cCallF F_l_round (cCons (cVar 15) (cCons (cVar 16) cNil))))
    (sSeq (sSet 4 (cCallF F_greatest_payments (cCons (cVar 15) (cCons (cVar 16) cNil))))
    (sSeq (sIf (cOr (cBinT dNe (cUn dRepr (cCallF F_round_of_gains (cCons (cVar 15) (cCons (cVar 16) cNil)))) (cUn dRepr (cVar 3))) (cOr (cBinT dNe (cUn dRepr (cVar 4)) (cUn dRepr (cCallF F_l_greatest (cCons (cVar 15) (cCons (cVar 16) cNil))))) (cBinT dNe (cBin dIs (cVarB 4) (cK .none)) (cBin dIsNot (cVarB 3) (cK .none)))))
    (sRet (cK (.bool false)))
    sNext)
    (sSeq (sIf (cAnd (cBinT dIsNot (cVarB 4) (cK .none)) (cOr (cBinT dIsNot (cCallF F_keep_truth (cCons (cVar 15) (cCons (cVar 16) (cCons (cVar 4) cNil)))) (cK (.bool true))) (cOr (cNot (cTest (cCallF F_l_keeps (cCons (cVar 15) (cCons (cVar 16) (cCons (cVar 4) cNil)))))) (cBinT dNe (cBin dIx (cVarB 4) (cK (.int 0))) (cK (.int 0))))))
    (sRet (cK (.bool false)))
    sNext)
    (sSeq (sFor (gN 5) (cIter dRange1 (cCons (cK (.int 5)) cNil))
    (sSeq (sSet 17 (cLc [20] (cIter dRange1 (cCons (cCall dLen (cCons (cVarB 15) cNil)) cNil)) (gN 20) cTrue (cBin dSub (cCallF F_l_mix (cCons (cVar 1) (cCons (cBin dAdd (cBin dAdd (cK (.int 70)) (cBin dMul (cK (.int 6)) (cVarB 5))) (cVar 20)) (cCons (cK (.int 9)) cNil)))) (cK (.int 3)))))
    (sSeq (sIf (cAnd (cBinT dLt (cVarB 5) (cK (.int 2))) (cBinT dIsNot (cVarB 4) (cK .none)))
    (sSet 17 (cLc [20] (cIter dRange1 (cCons (cCall dLen (cCons (cVarB 15) cNil)) cNil)) (gN 20) cTrue (cBin dAdd (cBin dIx (cVarB 4) (cVar 20)) (cBin dMul (cCall dInt (cCons (cBin dEq (cVarB 5) (cK (.int 1))) cNil)) (cCall dInt (cCons (cBin dGt (cVarB 20) (cK (.int 0))) cNil))))))
    sNext)
    (sSeq (sSet 18 (cCallF F_l_keeps (cCons (cVar 15) (cCons (cVar 16) (cCons (cVar 17) cNil)))))
    (sSeq (sIf (cOr (cBinT dNe (cUn dRepr (cCallF F_keep_truth (cCons (cVar 15) (cCons (cVar 16) (cCons (cVar 17) cNil))))) (cUn dRepr (cVar 18))) (cAnd (cTest (cVar 18)) (cBinT dIsNot (cVarB 3) (cK .none))))
    (sRet (cK (.bool false)))
    sNext)
    (sIf (cAnd (cTest (cVar 18)) (cBinT dNe (cLc [20] (cIter dRange1 (cCons (cCall dLen (cCons (cVarB 15) cNil)) cNil)) (gN 20) (cBinT dGt (cBin dSub (cBin dIx (cVarB 17) (cVar 20)) (cBin dIx (cVarB 17) (cK (.int 0)))) (cBin dIx (cVarB 4) (cVar 20))) (cVar 20)) (cList cNil)))
    (sRet (cK (.bool false)))
    sNext))))))
    (sSeq (sSet 6 (cBin dIx (cCallF F_l_rows (cCons (cCall dLen (cCons (cVarB 15) cNil)) cNil)) (cCallF F_l_mix (cCons (cVar 1) (cCons (cK (.int 110)) (cCons (cCall dLen (cCons (cCallF F_l_rows (cCons (cCall dLen (cCons (cVarB 15) cNil)) cNil)) cNil)) cNil))))))
    (sSeq (sIf (cBinT dNe (cCallF F_gain_of_round (cCons (cVar 15) (cCons (cVar 16) (cCons (cVar 6) cNil)))) (cCallF F_l_total (cCons (cVar 15) (cCons (cVar 16) (cCons (cVar 6) cNil)))))
    (sRet (cK (.bool false)))
    sNext)
    (sSeq (sSet 7 (cList (cCons (cList (cCons (cK (.int 1)) (cCons (cK (.int 2)) (cCons (cK (.int 0)) cNil)))) (cCons (cList (cCons (cK (.int 0)) (cCons (cK (.int 1)) (cCons (cK (.int 2)) cNil)))) (cCons (cList (cCons (cK (.int 2)) (cCons (cK (.int 0)) (cCons (cK (.int 1)) cNil)))) cNil)))))
    (sSeq (sIf (cOr (cBinT dNe (cCallF F_round_of_gains (cCons (cVar 7) (cCons (cList (cCons (cK (.int 0)) (cCons (cK (.int 1)) (cCons (cK (.int 2)) cNil)))) cNil))) (cList (cCons (cK (.int 0)) (cCons (cK (.int 1)) (cCons (cK (.int 2)) cNil))))) (cBinT dIsNot (cCallF F_greatest_payments (cCons (cVar 7) (cCons (cList (cCons (cK (.int 0)) (cCons (cK (.int 1)) (cCons (cK (.int 2)) cNil)))) cNil))) (cK .none)))
    (sRet (cK (.bool false)))
    sNext)
    (sSeq (sSet 8 (cBin dAdd (cK (.int 1)) (cCallF F_l_mix (cCons (cVar 1) (cCons (cK (.int 1)) (cCons (cK (.int 2)) cNil))))))
    (sSeq (sSet 9 (cCallF F_l_book (cCons (cVar 1) (cCons (cK (.int 120)) (cCons (cK (.int 3)) (cCons (cVar 8) cNil))))))
    (sSeq (sSet 10 (cCallF F_l_mix (cCons (cVar 1) (cCons (cK (.int 2)) (cCons (cCall dLen (cCons (cVarB 9) cNil)) cNil)))))
    (sSeq (sSet 11 (cLc [5] (cIter dRange1 (cCons (cBin dAdd (cK (.int 1)) (cCallF F_l_mix (cCons (cVar 1) (cCons (cK (.int 3)) (cCons (cK (.int 5)) cNil))))) cNil)) (gN 5) cTrue (cCallF F_l_drawn (cCons (cVar 1) (cCons (cBin dAdd (cK (.int 600)) (cBin dMul (cK (.int 40)) (cVarB 5))) (cCons (cVar 8) cNil))))))
    (sSeq (sSet 12 (cCallF F_rule_in (cCons (cVar 9) (cCons (cVar 10) (cCons (cVar 11) cNil)))))
    (sSeq (sSet 13 (cLc [19] (cItems (cVar 11)) (gN 19) cTrue (cBin dIx (cCallF F_l_numbers (cCons (cBin dIx (cCallF F_l_best (cCons (cBin dAdd (cBin dAdd (cSlice (cVar 9) cPartN (cPart (cVar 10))) (cList (cCons (cVar 19) cNil))) (cSlice (cVar 9) (cPart (cBin dAdd (cVar 10) (cK (.int 1)))) cPartN)) (cCons (cVar 8) cNil))) (cK (.int 0))) cNil)) (cVar 10))))
    (sSeq (sSet 14 (cLc [19] (cItems (cVar 11)) (gN 19) cTrue (cBin dIx (cCallF F_l_paid (cCons (cBin dAdd (cBin dAdd (cSlice (cVar 9) cPartN (cPart (cVar 10))) (cList (cCons (cVar 19) cNil))) (cSlice (cVar 9) (cPart (cBin dAdd (cVar 10) (cK (.int 1)))) cPartN)) (cCons (cVar 8) (cCons (cK (.str "fair")) cNil)))) (cVar 10))))
    (sSeq (sIf (cOr (cBinT dNe (cUn dRepr (cVar 12)) (cUn dRepr (cTup (cCons (cVar 11) (cCons (cVar 13) cNil))))) (cBinT dNe (cCallF F_fair_in (cCons (cVar 9) (cCons (cVar 10) (cCons (cVar 11) cNil)))) (cVarB 14)))
    (sRet (cK (.bool false)))
    sNext)
    (sSeq (sIf (cOr (cBinT dIsNot (cCallF F_round_of_gains (cCons (cBin dIx (cVarB 12) (cK (.int 0))) (cCons (cBin dIx (cVarB 12) (cK (.int 1))) cNil))) (cK .none)) (cBinT dIsNot (cCallF F_keep_truth (cCons (cBin dIx (cVarB 12) (cK (.int 0))) (cCons (cBin dIx (cVarB 12) (cK (.int 1))) (cCons (cVar 14) cNil)))) (cK (.bool true))))
    (sRet (cK (.bool false)))
    sNext)
    (sRet (cAndV (cBin dEq (cUn dRepr (cTup (cCons (cVar 15) (cCons (cVar 16) cNil)))) (cVarB 2)) (cCallF F_l_faults fun _ => .ok []))))))))))))))))))))))))
def f_law : List Int → R D := runS 21 (g_law f_l_draws f_l_rule f_l_round f_greatest_payments f_round_of_gains f_l_greatest f_keep_truth f_l_keeps f_l_mix f_l_rows f_gain_of_round f_l_total f_l_book f_l_drawn f_rule_in f_l_numbers f_l_best f_l_paid f_fair_in f_l_faults)
end K05


namespace K05
open PySem PySem.Spec PyProof.Rows L2 G

abbrev w_c : En → R Bool := cBinT dGt (cVarB 2) (cK (.int 0))
abbrev w_b : En → SR := sSeq (sIf (cBinT dGt (cBin dMod (cVarB 2) (cK (.int 2))) (cBin dMod (cVarB 3) (cK (.int 2)))) (sRet (cK (.bool false))) sNext)
      (sPar 2 3 (cCons (cBin dDiv (cVarB 2) (cK (.int 2))) (cCons (cBin dDiv (cVarB 3) (cK (.int 2))) cNil)))
theorem within_loop (x y : Option Sl) : ∀ (n a b : Nat), a < 2 ^ n → ∃ a' b' : Nat, whileL w_c w_b (n + 1) [x, y, some (.v (nD a)), some (.v (nD b))] =
    if C.subF n a b = true then .nx [x, y, some (.v (nD a')), some (.v (nD b'))] else .rt (.bool false)
  | 0, a, b, h => by
    have : a = 0 := by simp at h; exact h
    subst this
    exact ⟨0, b, whileL_stop (by simp [cVar, cVarB, cK, cBin, cBinT, cCons, cNil, sNext, sSeq, sRet, sIf, sSet, sPar, SR.of, SR.out, enter, runF, ofO, toI, toB, disown, G.letGo, dSub, dNeg, dLe, dGt, dGe, R.bind])⟩
  | n + 1, a, b, h => by
    by_cases ha : a = 0
    · subst ha
      exact ⟨0, b, whileL_stop (by simp [cVar, cVarB, cK, cBin, cBinT, cCons, cNil, sNext, sSeq, sRet, sIf, sSet, sPar, SR.of, SR.out, enter, runF, ofO, toI, toB, disown, G.letGo, dSub, dNeg, dLe, dGt, dGe, R.bind])⟩
    · have hc : w_c [x, y, some (.v (nD a)), some (.v (nD b))] = .ok true := by simp [cVar, cVarB, cK, cBin, cBinT, cCons, cNil, sNext, sSeq, sRet, sIf, sSet, sPar, SR.of, SR.out, enter, runF, ofO, toI, toB, disown, G.letGo, dSub, dNeg, dLe, dGt, dGe, R.bind]; omega
      by_cases hb : b % 2 < a % 2
      · refine ⟨0, 0, (whileL_ret (d := .bool false) hc ?_).trans ?_⟩
        · simp [cVar, cVarB, cK, cBin, cBinT, cCons, cNil, sNext, sSeq, sRet, sIf, sSet, sPar, SR.of, SR.out, enter, runF, ofO, toI, toB, disown, G.letGo, dSub, dNeg, dLe, dGt, dGe, R.bind]
          rw [if_pos (by omega)]
        · simp [C.subF, ha, hb]
      · obtain ⟨a', b', ih⟩ := within_loop x y n (a / 2) (b / 2) (by rw [Nat.pow_succ] at h; omega)
        refine ⟨a', b', (whileL_step (ρ2 := [x, y, some (.v (nD (a / 2))), some (.v (nD (b / 2)))]) hc ?_).trans ?_⟩
        · simp [cVar, cVarB, cK, cBin, cBinT, cCons, cNil, sNext, sSeq, sRet, sIf, sSet, sPar, SR.of, SR.out, enter, runF, ofO, toI, toB, disown, G.letGo, dSub, dNeg, dLe, dGt, dGe, R.bind]
          rw [if_neg (by omega)]
          simp
        · rw [ih]
          simp [C.subF, ha, hb]
theorem within_eq (a b : Nat) (h : a < 2 ^ 99) : f_within [nD a, nD b] = .ok (.bool (C.sub a b)) := by
  obtain ⟨a', b', e⟩ := within_loop (some (.v (nD a))) (some (.v (nD b))) 99 a b h
  unfold f_within
  simp [g_within, sWhile, e, cVar, cVarB, cK, cBin, cBinT, cCons, cNil, sNext, sSeq, sRet, sIf, sSet, sPar, SR.of, SR.out, enter, runF, ofO, toI, toB, disown, G.letGo, dSub, dNeg, dLe, dGt, dGe, R.bind]
  unfold C.sub
  cases C.subF 99 a b <;> rfl
end K05

namespace K05
open PySem PySem.Spec PyProof.Rows L2 G
theorem parts_len (w : Nat) : (C.parts w).length ≤ w + 1 := by
  have := List.length_filter_le (fun p => C.sub p w) (List.range (w + 1))
  simpa [C.parts] using this
theorem range1 (w : Nat) (h : w < 2 ^ 20) : dRange1 [.int ((w : Int) + 1)] = some ((List.range (w + 1)).map nD) := dRange1_nat (n := w + 1) (by omega)
theorem parts_lc (w : Nat) (h : w < 2 ^ 20) : lcL (gN 1) (cTest (cCallF f_within (cCons (cVar 1) (cCons (cVar 0) cNil)))) (cVar 1) [some (.v (nD w)), none] ((List.range (w + 1)).map nD) = some ((C.parts w).map nD) := 
  lcL_gen (enc := nD) (fun p => [some (.v (nD w)), some (.v (nD p))]) (fun p => C.sub p w) nD fun p hp => ⟨rfl, by
    rw [List.mem_range] at hp
    have := within_eq p w (by omega)
    show ((f_within [nD p, nD w]).bind fun d => ofO (toB d)) = _
    rw [this]
    rfl, fun _ => rfl⟩
theorem parts_sz (w : Nat) (h : w < 2 ^ 20) : ((C.parts w).map nD).length ≤ sizeLine := by rw [List.length_map]; have := parts_len w; unfold sizeLine; omega
theorem parts_eq (w : Nat) (h : w < 2 ^ 20) : f_parts_of [nD w] = .ok (.list ((C.parts w).map nD)) := by
  unfold f_parts_of g_parts_of
  refine runF_of rfl (sRet_of (ρ := [some (.v (nD w)), none]) ?_)
  refine cLc_of (cIter1_of (d := .int ((w : Int) + 1)) ?_ (range1 w h)) (parts_lc w h) (parts_sz w h)
  exact cBin_of rfl rfl rfl
theorem parts_ne (w : Nat) : C.parts w ≠ [] := by
  intro z
  have := C.zero_part w
  rw [z] at this
  cases this
/-- one wish's table and what the others make -/
theorem most_at_eq (t o : List Int) (w : Nat) (h : w < 2 ^ 20) (h1 : w < t.length) (h2 : w < o.length) :
    f_most_at [tD t, tD o, nD w] = .ok (.int (C.top ((C.parts w).map fun p => C.at_ t p + C.at_ o (w - p)))) := by
  have e := lcL_map (tgt := gN 3) (f := cBin dAdd (cBin dIx (cVarB 0) (cVar 3)) (cBin dIx (cVarB 1) (cBin dSub (cVarB 2) (cVarB 3)))) (ρ := [some (.v (tD t)), some (.v (tD o)), some (.v (nD w)), none]) (enc := nD) (fun p => [some (.v (tD t)), some (.v (tD o)), some (.v (nD w)), some (.v (nD p))]) (fun p => .int (C.at_ t p + C.at_ o (w - p))) (xs := C.parts w) fun p hp => ⟨rfl, by
    have hp := C.part_le hp
    have e1 : dIx (tD t) (nD p) = some (.int (C.at_ t p)) := by rw [dIx_nat, List.getElem?_map, getD_tbl (by omega)]; rfl
    have e2 : dIx (tD o) (.int ((w : Int) - p)) = some (.int (C.at_ o (w - p))) := by
      rw [show (w : Int) - p = ((w - p : Nat) : Int) by omega, dIx_nat, List.getElem?_map, getD_tbl (by omega)]; rfl
    exact cBin_of (cBin_of rfl rfl e1) (cBin_of rfl (cBin_of rfl rfl rfl) e2) rfl⟩
  unfold f_most_at g_most_at
  refine runF_of rfl (sRet_of (ρ := [some (.v (tD t)), some (.v (tD o)), some (.v (nD w)), none]) ?_)
  refine cCall1_of (cLc_of (cItems_of (cCallF1_of (d := nD w) rfl (parts_eq w h))) e ?_) ?_
  · rw [List.length_map, ← List.length_map (f := nD)]; exact parts_sz w h
  · rw [← dMax_top (by simpa using parts_ne w), tD, List.map_map]
    rfl
/-! ### the rows of rests -/
/-- what the tables make of each whole, of g goods -/
def row (n : Nat) (b : List (List Int)) : List Int := (List.range n).map fun w => C.best b w
def rows (n : Nat) : List (List Int) → List (List Int)
  | [] => [row n []]
  | t :: ts => row n (t :: ts) :: rows n ts
theorem row_len (n : Nat) (b : List (List Int)) : (row n b).length = n := by simp [row]
theorem row_at {n w : Nat} (b : List (List Int)) (h : w < n) : C.at_ (row n b) w = C.best b w := by
  simp [C.at_, row, h]
theorem row_cons (n : Nat) (t : List Int) (ts : List (List Int)) : row n (t :: ts) = (List.range n).map fun w => C.top ((C.parts w).map fun p => C.at_ t p + C.at_ (row n ts) (w - p)) := by
  refine List.map_congr_left fun w hw => ?_
  rw [List.mem_range] at hw
  show C.top _ = _
  refine congrArg C.top (List.map_congr_left fun p hp => ?_)
  rw [row_at ts (by omega)]
abbrev bD (b : List (List Int)) : D := .list (b.map tD)
theorem rests_step (n : Nat) (hn : n < 2 ^ 19) (b : D) (t : List Int) (ts : List (List Int)) (x : Option Sl) (f : Bool) (done : List D) (ht : t.length = n) (hd : done.length < 2 ^ 20) :
    (sSeq (sSet 3 (cBin dIx (cVarB 1) (cUn dNeg (cK (.int 1)))))
      (sAppend 1 (cLc [4] (cIter dRange1 (cCons (cCall dLen (cCons (cVarB 2) cNil)) cNil)) (gN 4) cTrue (cCallF f_most_at (cCons (cVar 2) (cCons (cVar 3) (cCons (cVar 4) cNil))))))) [some (.v b), some (.own f (.list (done ++ [tD (row n ts)]))), some (.v (tD t)), x, none] =
    .nx [some (.v b), some (.own f (.list (done ++ [tD (row n ts)] ++ [tD (row n (t :: ts))]))), some (.v (tD t)), some (.v (tD (row n ts))), none] := by
  have e := lcL_map (tgt := gN 4) (f := cCallF f_most_at (cCons (cVar 2) (cCons (cVar 3) (cCons (cVar 4) cNil)))) (ρ := [some (.v b), some (.own f (.list (done ++ [tD (row n ts)]))), some (.v (tD t)), some (.v (tD (row n ts))), none]) (enc := nD)
    (fun w => [some (.v b), some (.own f (.list (done ++ [tD (row n ts)]))), some (.v (tD t)), some (.v (tD (row n ts))), some (.v (nD w))]) (fun w => .int (C.top ((C.parts w).map fun p => C.at_ t p + C.at_ (row n ts) (w - p)))) (xs := List.range n) fun w hw => ⟨rfl, by
      rw [List.mem_range] at hw
      exact cCallF_of (ds := [tD t, tD (row n ts), nD w]) rfl (most_at_eq t (row n ts) w (by omega) (by omega) (by rw [row_len]; exact hw))⟩
  refine sSeq_nx (sSet_of (d := tD (row n ts)) ?_) ((sAppend_of (d := tD (row n (t :: ts))) rfl (cLc_of (cIter1_of (d := nD n) ?_ (dRange1_nat (by omega))) (by rw [row_cons, List.map_map]; exact e) ?_) ?_).trans ?_)
  · exact cBin_of rfl rfl (by rw [dIx_last]; simp)
  · exact cCall1_of (d := tD t) rfl (by rw [dLen_list, List.length_map, ht])
  · rw [List.length_map, row_len]; unfold sizeLine; omega
  · simp; unfold sizeLine; omega
  · simp
theorem rows_head (n : Nat) (ts : List (List Int)) : ∃ r, rows n ts = row n ts :: r ∧ r.length = ts.length := by
  induction ts with
  | nil => exact ⟨[], rfl, rfl⟩
  | cons t ts ih => obtain ⟨r, e, l⟩ := ih; exact ⟨rows n ts, rfl, by rw [e]; simp [l]⟩
abbrev rests_b : En → SR := (sSeq (sSet 3 (cBin dIx (cVarB 1) (cUn dNeg (cK (.int 1)))))
      (sAppend 1 (cLc [4] (cIter dRange1 (cCons (cCall dLen (cCons (cVarB 2) cNil)) cNil)) (gN 4) cTrue (cCallF f_most_at (cCons (cVar 2) (cCons (cVar 3) (cCons (cVar 4) cNil)))))))
theorem rests_loop (n : Nat) (hn : n < 2 ^ 19) (b : D) (f : Bool) : ∀ (l ts : List (List Int)) (x y : Option Sl), (∀ t ∈ l, t.length = n) → ts.length + l.length < 2 ^ 19 → ∃ x' y', loopL (gN 2) rests_b (l.map tD) [some (.v b), some (.own f (.list ((rows n ts).reverse.map tD))), x, y, none] = .nx [some (.v b), some (.own f (.list ((rows n (l.reverse ++ ts)).reverse.map tD))), x', y', none]
  | [], ts, x, y, _, _ => ⟨x, y, rfl⟩
  | t :: l, ts, x, y, hl, hz => by
    obtain ⟨r, er, lr⟩ := rows_head n ts
    obtain ⟨x', y', ih⟩ := rests_loop n hn b f l (t :: ts) (some (.v (tD t))) (some (.v (tD (row n ts)))) (fun a h => hl a (List.mem_cons_of_mem _ h)) (by simp at hz ⊢; omega)
    refine ⟨x', y', loopL_nx (ρ1 := [some (.v b), some (.own f (.list (r.reverse.map tD ++ [tD (row n ts)]))), some (.v (tD t)), y, none]) ?_ (rests_step n hn b t ts y f (r.reverse.map tD) (hl t List.mem_cons_self) ?_) ?_⟩
    · rw [er]; simp [gN]
    · rw [List.length_map, List.length_reverse, lr]; omega
    · have e : ((rows n (t :: ts)).reverse.map tD) = r.reverse.map tD ++ [tD (row n ts)] ++ [tD (row n (t :: ts))] := by
        show ((row n (t :: ts) :: rows n ts).reverse.map tD) = _
        rw [er]; simp
      rw [← e]
      rw [show (t :: l).reverse ++ ts = l.reverse ++ (t :: ts) by simp]
      exact ih
theorem row_nil (n : Nat) : row n [] = List.replicate n 0 := List.eq_replicate_iff.mpr ⟨by simp [row], fun x hx => by
  simp [row, C.best] at hx
  exact hx.2.symm⟩
theorem rests_eq (n : Nat) (hn : n < 2 ^ 19) (t : List Int) (ts : List (List Int)) (hl : ∀ a ∈ t :: ts, a.length = n) (hz : (t :: ts).length < 2 ^ 19) : f_rests [bD (t :: ts)] = .ok (.list ((rows n (t :: ts)).map tD)) := by
  obtain ⟨x', y', e⟩ := rests_loop n hn (bD (t :: ts)) false (t :: ts).reverse [] none none (fun a h => hl a (List.mem_reverse.mp h)) (by simpa using hz)
  unfold f_rests g_rests
  have hn2 : t.length = n := hl t List.mem_cons_self
  have e1 : dMul (.list [.int 0]) (nD n) = some (tD (row n [])) := by
    have : dMul (.list [.int 0]) (nD n) = if (n : Int) < 1000000 ∧ [PyData.int 0].length * (n : Int).toNat ≤ sizeLine ∧ -1000000 < (n : Int) then some (PyData.list (List.replicate (n : Int).toNat [PyData.int 0]).flatten) else none := by simp only [dMul]
    rw [this, if_pos ⟨by omega, by simp; unfold sizeLine; omega, by omega⟩]
    rw [row_nil, tD, List.map_replicate, List.flatten_replicate_singleton]
    simp
  have e0 : cList (cCons (cBin dMul (cList (cCons (cK (.int 0)) cNil)) (cCall dLen (cCons (cBin dIx (cVarB 0) (cK (.int 0))) cNil))) cNil) [some (.v (bD (t :: ts))), none, none, none, none] = .ok (.list ((rows n []).reverse.map tD)) := by
    have h1 : cBin dIx (cVarB 0) (cK (.int 0)) [some (.v (bD (t :: ts))), none, none, none, none] = .ok (tD t) := cBin_of rfl rfl (by rw [dIx_zero]; rfl)
    have h2 : cBin dMul (cList (cCons (cK (.int 0)) cNil)) (cCall dLen (cCons (cBin dIx (cVarB 0) (cK (.int 0))) cNil)) [some (.v (bD (t :: ts))), none, none, none, none] = .ok (tD (row n [])) :=
      cBin_of rfl (cCall1_of h1 (by rw [dLen_list, List.length_map, hn2])) e1
    simp only [cList, cCons, cNil, h2, R.bind]
    rfl
  refine runF_of (r := .ok (.list ((rows n (t :: ts)).map tD))) rfl ?_
  have e2 := sSeq_nx (g2 := sSeq (sFor (gN 2) (cItems (cRev (cVarB 0))) rests_b) (sRet (cRev (cVarB 1)))) (sSetN_of (i := 1) (t := false) e0) (sSeq_nx (sFor_of (cItems_of (ds := (t :: ts).reverse.map tD) ?_) e) rfl)
  · refine (congrArg SR.out e2).trans (sRet_of ?_)
    simp [cRev, dRev, disown, G.letGo, cVar, cVarB, ofO, R.bind]
  · simp [cRev, dRev, cVar, cVarB, ofO, R.bind]
end K05

namespace K05
open PySem PySem.Spec PyProof.Rows L2 G
def bun (p : Nat) : List Nat := (List.range 6).filter fun g => p / 2 ^ g % 2 == 1
abbrev bunD (p : Nat) : D := .tuple ((bun p).map nD)
theorem bundle_eq : ∀ p : Nat, p < 64 → f_bundle_of [nD p] = .ok (bunD p)
  | 0, _ => by kernel_rfl
  | 1, _ => by kernel_rfl
  | 2, _ => by kernel_rfl
  | 3, _ => by kernel_rfl
  | 4, _ => by kernel_rfl
  | 5, _ => by kernel_rfl
  | 6, _ => by kernel_rfl
  | 7, _ => by kernel_rfl
  | 8, _ => by kernel_rfl
  | 9, _ => by kernel_rfl
  | 10, _ => by kernel_rfl
  | 11, _ => by kernel_rfl
  | 12, _ => by kernel_rfl
  | 13, _ => by kernel_rfl
  | 14, _ => by kernel_rfl
  | 15, _ => by kernel_rfl
  | 16, _ => by kernel_rfl
  | 17, _ => by kernel_rfl
  | 18, _ => by kernel_rfl
  | 19, _ => by kernel_rfl
  | 20, _ => by kernel_rfl
  | 21, _ => by kernel_rfl
  | 22, _ => by kernel_rfl
  | 23, _ => by kernel_rfl
  | 24, _ => by kernel_rfl
  | 25, _ => by kernel_rfl
  | 26, _ => by kernel_rfl
  | 27, _ => by kernel_rfl
  | 28, _ => by kernel_rfl
  | 29, _ => by kernel_rfl
  | 30, _ => by kernel_rfl
  | 31, _ => by kernel_rfl
  | 32, _ => by kernel_rfl
  | 33, _ => by kernel_rfl
  | 34, _ => by kernel_rfl
  | 35, _ => by kernel_rfl
  | 36, _ => by kernel_rfl
  | 37, _ => by kernel_rfl
  | 38, _ => by kernel_rfl
  | 39, _ => by kernel_rfl
  | 40, _ => by kernel_rfl
  | 41, _ => by kernel_rfl
  | 42, _ => by kernel_rfl
  | 43, _ => by kernel_rfl
  | 44, _ => by kernel_rfl
  | 45, _ => by kernel_rfl
  | 46, _ => by kernel_rfl
  | 47, _ => by kernel_rfl
  | 48, _ => by kernel_rfl
  | 49, _ => by kernel_rfl
  | 50, _ => by kernel_rfl
  | 51, _ => by kernel_rfl
  | 52, _ => by kernel_rfl
  | 53, _ => by kernel_rfl
  | 54, _ => by kernel_rfl
  | 55, _ => by kernel_rfl
  | 56, _ => by kernel_rfl
  | 57, _ => by kernel_rfl
  | 58, _ => by kernel_rfl
  | 59, _ => by kernel_rfl
  | 60, _ => by kernel_rfl
  | 61, _ => by kernel_rfl
  | 62, _ => by kernel_rfl
  | 63, _ => by kernel_rfl
  | n + 64, h => absurd h (by omega)
theorem number_eq : ∀ p : Nat, p < 64 → f_number_of [bunD p] = .ok (nD p)
  | 0, _ => by kernel_rfl
  | 1, _ => by kernel_rfl
  | 2, _ => by kernel_rfl
  | 3, _ => by kernel_rfl
  | 4, _ => by kernel_rfl
  | 5, _ => by kernel_rfl
  | 6, _ => by kernel_rfl
  | 7, _ => by kernel_rfl
  | 8, _ => by kernel_rfl
  | 9, _ => by kernel_rfl
  | 10, _ => by kernel_rfl
  | 11, _ => by kernel_rfl
  | 12, _ => by kernel_rfl
  | 13, _ => by kernel_rfl
  | 14, _ => by kernel_rfl
  | 15, _ => by kernel_rfl
  | 16, _ => by kernel_rfl
  | 17, _ => by kernel_rfl
  | 18, _ => by kernel_rfl
  | 19, _ => by kernel_rfl
  | 20, _ => by kernel_rfl
  | 21, _ => by kernel_rfl
  | 22, _ => by kernel_rfl
  | 23, _ => by kernel_rfl
  | 24, _ => by kernel_rfl
  | 25, _ => by kernel_rfl
  | 26, _ => by kernel_rfl
  | 27, _ => by kernel_rfl
  | 28, _ => by kernel_rfl
  | 29, _ => by kernel_rfl
  | 30, _ => by kernel_rfl
  | 31, _ => by kernel_rfl
  | 32, _ => by kernel_rfl
  | 33, _ => by kernel_rfl
  | 34, _ => by kernel_rfl
  | 35, _ => by kernel_rfl
  | 36, _ => by kernel_rfl
  | 37, _ => by kernel_rfl
  | 38, _ => by kernel_rfl
  | 39, _ => by kernel_rfl
  | 40, _ => by kernel_rfl
  | 41, _ => by kernel_rfl
  | 42, _ => by kernel_rfl
  | 43, _ => by kernel_rfl
  | 44, _ => by kernel_rfl
  | 45, _ => by kernel_rfl
  | 46, _ => by kernel_rfl
  | 47, _ => by kernel_rfl
  | 48, _ => by kernel_rfl
  | 49, _ => by kernel_rfl
  | 50, _ => by kernel_rfl
  | 51, _ => by kernel_rfl
  | 52, _ => by kernel_rfl
  | 53, _ => by kernel_rfl
  | 54, _ => by kernel_rfl
  | 55, _ => by kernel_rfl
  | 56, _ => by kernel_rfl
  | 57, _ => by kernel_rfl
  | 58, _ => by kernel_rfl
  | 59, _ => by kernel_rfl
  | 60, _ => by kernel_rfl
  | 61, _ => by kernel_rfl
  | 62, _ => by kernel_rfl
  | 63, _ => by kernel_rfl
  | n + 64, h => absurd h (by omega)
theorem at_ix (t : D) : ∀ p : Nat, p < 64 → (cCall dSum (cCons (cLc [2] (cItems (cVar 1)) (gN 2) cTrue (cBin dIx (cList (cCons (cK (.int 1)) (cCons (cK (.int 2)) (cCons (cK (.int 4)) (cCons (cK (.int 8)) (cCons (cK (.int 16)) (cCons (cK (.int 32)) cNil))))))) (cVar 2))) cNil)) [some (.v t), some (.v (bunD p)), none] = .ok (nD p)
  | 0, _ => by kernel_rfl
  | 1, _ => by kernel_rfl
  | 2, _ => by kernel_rfl
  | 3, _ => by kernel_rfl
  | 4, _ => by kernel_rfl
  | 5, _ => by kernel_rfl
  | 6, _ => by kernel_rfl
  | 7, _ => by kernel_rfl
  | 8, _ => by kernel_rfl
  | 9, _ => by kernel_rfl
  | 10, _ => by kernel_rfl
  | 11, _ => by kernel_rfl
  | 12, _ => by kernel_rfl
  | 13, _ => by kernel_rfl
  | 14, _ => by kernel_rfl
  | 15, _ => by kernel_rfl
  | 16, _ => by kernel_rfl
  | 17, _ => by kernel_rfl
  | 18, _ => by kernel_rfl
  | 19, _ => by kernel_rfl
  | 20, _ => by kernel_rfl
  | 21, _ => by kernel_rfl
  | 22, _ => by kernel_rfl
  | 23, _ => by kernel_rfl
  | 24, _ => by kernel_rfl
  | 25, _ => by kernel_rfl
  | 26, _ => by kernel_rfl
  | 27, _ => by kernel_rfl
  | 28, _ => by kernel_rfl
  | 29, _ => by kernel_rfl
  | 30, _ => by kernel_rfl
  | 31, _ => by kernel_rfl
  | 32, _ => by kernel_rfl
  | 33, _ => by kernel_rfl
  | 34, _ => by kernel_rfl
  | 35, _ => by kernel_rfl
  | 36, _ => by kernel_rfl
  | 37, _ => by kernel_rfl
  | 38, _ => by kernel_rfl
  | 39, _ => by kernel_rfl
  | 40, _ => by kernel_rfl
  | 41, _ => by kernel_rfl
  | 42, _ => by kernel_rfl
  | 43, _ => by kernel_rfl
  | 44, _ => by kernel_rfl
  | 45, _ => by kernel_rfl
  | 46, _ => by kernel_rfl
  | 47, _ => by kernel_rfl
  | 48, _ => by kernel_rfl
  | 49, _ => by kernel_rfl
  | 50, _ => by kernel_rfl
  | 51, _ => by kernel_rfl
  | 52, _ => by kernel_rfl
  | 53, _ => by kernel_rfl
  | 54, _ => by kernel_rfl
  | 55, _ => by kernel_rfl
  | 56, _ => by kernel_rfl
  | 57, _ => by kernel_rfl
  | 58, _ => by kernel_rfl
  | 59, _ => by kernel_rfl
  | 60, _ => by kernel_rfl
  | 61, _ => by kernel_rfl
  | 62, _ => by kernel_rfl
  | 63, _ => by kernel_rfl
  | n + 64, h => absurd h (by omega)
theorem at_eq (t : List Int) (p : Nat) (h : p < t.length) (h2 : p < 64) : f_l_at [tD t, bunD p] = .ok (.int (C.at_ t p)) := by
  unfold f_l_at g_l_at
  refine runF_of rfl (sRet_of (ρ := [some (.v (tD t)), some (.v (bunD p)), none]) ?_)
  exact cBin_of rfl (at_ix (tD t) p h2) (by rw [dIx_nat, List.getElem?_map, getD_tbl h]; rfl)
end K05

namespace K05
open PySem PySem.Spec PyProof.Rows L2 G
theorem rows_get (n : Nat) : ∀ (b : List (List Int)) (k : Nat), k ≤ b.length → (rows n b)[k]? = some (row n (b.drop k))
  | [], k, h => by
    obtain rfl : k = 0 := by simpa using h
    rfl
  | t :: ts, 0, h => rfl
  | t :: ts, k + 1, h => by
    show (rows n ts)[k]? = _
    rw [rows_get n ts k (by simpa using h)]
    rfl
abbrev best_b : En → SR := (sSeq (sSet 6 (cLc [7] (cItems (cCallF f_parts_of (cCons (cVar 2) cNil))) (gN 7) (cBinT dEq (cBin dAdd (cBin dIx (cVarB 5) (cVar 7)) (cBin dIx (cBin dIx (cVarB 1) (cBin dAdd (cVar 4) (cK (.int 1)))) (cBin dSub (cVarB 2) (cVarB 7)))) (cBin dIx (cBin dIx (cVarB 1) (cVar 4)) (cVar 2))) (cVar 7)))
    (sSeq (sAppend 3 (cCallF f_bundle_of (cCons (cBin dIx (cVarB 6) (cK (.int 0))) cNil)))
    (sSet 2 (cBin dSub (cVarB 2) (cBin dIx (cVarB 6) (cK (.int 0)))))))
theorem cBinT_of {dop : D → D → Option D} {f g : En → R D} {ρ : En} {a b : D} {e : Bool} (h1 : f ρ = .ok a) (h2 : g ρ = .ok b) (h : dop a b = some (.bool e)) : cBinT dop f g ρ = .ok e := by
  simp only [cBinT, cBin, h1, h2, R.bind, h, ofO, cTest]
  rfl
theorem tbl_ix (t : List Int) (w : Nat) (h : w < t.length) : dIx (tD t) (nD w) = some (.int (C.at_ t w)) := by
  rw [dIx_nat, List.getElem?_map, getD_tbl h]
  rfl
theorem best_step (n : Nat) (hn : n ≤ 64) (full : List (List Int)) (k left : Nat) (t : List Int) (ts : List (List Int)) (b : D) (f : Bool) (sh : List D) (x : Option Sl) (hd : full.drop k = t :: ts) (ht : t.length = n) (hleft : left < n) (hsh : sh.length < 2 ^ 20) :
    ∃ p g, C.pick (t :: ts) left = p :: C.pick ts (left - p) ∧ p ≤ left ∧ best_b [some (.v b), some (.v (.list ((rows n full).map tD))), some (.v (nD left)), some (.own f (.list sh)), some (.v (nD k)), some (.v (tD t)), x, none] =
      .nx [some (.v b), some (.v (.list ((rows n full).map tD))), some (.v (nD (left - p))), some (.own f (.list (sh ++ [bunD p]))), some (.v (nD k)), some (.v (tD t)), g, none] := by
  obtain ⟨p, hp, ep, e1, e2⟩ := C.pick_some t ts left
  have hk : k < full.length := by
    rcases Nat.lt_or_ge k full.length with h | h
    · exact h
    · rw [List.drop_eq_nil_of_le h] at hd; cases hd
  have hd2 : full.drop (k + 1) = ts := by
    rw [show k + 1 = k + 1 from rfl, ← List.drop_drop, hd]
    rfl
  have r1 : ((rows n full).map tD)[k]? = some (tD (row n (t :: ts))) := by rw [List.getElem?_map, rows_get n full k (by omega), hd]; rfl
  have r2 : ((rows n full).map tD)[k + 1]? = some (tD (row n ts)) := by rw [List.getElem?_map, rows_get n full (k + 1) (by omega), hd2]; rfl
  have l := lcL_gen (tgt := gN 7) (p := cBinT dEq (cBin dAdd (cBin dIx (cVarB 5) (cVar 7)) (cBin dIx (cBin dIx (cVarB 1) (cBin dAdd (cVar 4) (cK (.int 1)))) (cBin dSub (cVarB 2) (cVarB 7)))) (cBin dIx (cBin dIx (cVarB 1) (cVar 4)) (cVar 2))) (f := cVar 7)
    (ρ := [some (.v b), some (.v (.list ((rows n full).map tD))), some (.v (nD left)), some (.own f (.list sh)), some (.v (nD k)), some (.v (tD t)), x, none]) (enc := nD)
    (fun q => [some (.v b), some (.v (.list ((rows n full).map tD))), some (.v (nD left)), some (.own f (.list sh)), some (.v (nD k)), some (.v (tD t)), x, some (.v (nD q))]) (fun q => C.at_ t q + C.best ts (left - q) == C.best (t :: ts) left) nD (xs := C.parts left) fun q hq => ⟨rfl, by
      have hq := C.part_le hq
      refine cBinT_of (a := .int (C.at_ t q + C.best ts (left - q))) (b := .int (C.best (t :: ts) left)) (cBin_of (cBin_of rfl rfl (tbl_ix t q (by omega))) (cBin_of (b := nD (left - q)) (cBin_of rfl (b := nD (k + 1)) (cBin_of rfl rfl rfl) (by rw [dIx_nat]; exact r2)) (cBin_of (a := nD left) (b := nD q) rfl rfl (by show some (PyData.int ((left : Int) - q)) = _; rw [show (left : Int) - q = ((left - q : Nat) : Int) by omega])) (tbl_ix (row n ts) (left - q) (by rw [row_len]; omega))) ?_) (cBin_of (cBin_of rfl rfl (by rw [dIx_nat]; exact r1)) rfl (by rw [tbl_ix (row n (t :: ts)) left (by rw [row_len]; omega), row_at (t :: ts) hleft])) ?_
      · rw [row_at ts (by omega)]; rfl
      · rw [dEq_int]; rfl, fun _ => rfl⟩
  have hple := C.part_le hp
  let gs := ((C.parts left).filter fun q => C.at_ t q + C.best ts (left - q) == C.best (t :: ts) left).map nD
  have hg : gs[0]? = some (nD p) := by
    show (((C.parts left).filter fun q => C.at_ t q + C.best ts (left - q) == C.best (t :: ts) left).map nD)[0]? = _
    rw [List.getElem?_map, ← List.head?_eq_getElem?, List.head?_filter, e2]
    rfl
  have hz : gs.length ≤ sizeLine := by
    show (((C.parts left).filter fun q => C.at_ t q + C.best ts (left - q) == C.best (t :: ts) left).map nD).length ≤ _
    rw [List.length_map]
    have h1 := List.length_filter_le (fun q => C.at_ t q + C.best ts (left - q) == C.best (t :: ts) left) (C.parts left)
    have h2 := parts_len left
    unfold sizeLine
    omega
  refine ⟨p, some (.v (.list gs)), e1, hple, ?_⟩
  refine sSeq_nx (sSet_of (d := .list gs) (cLc_of (cItems_of (cCallF1_of (d := nD left) rfl (parts_eq left (by omega)))) l hz)) (sSeq_nx (sAppend_of (d := bunD p) (t := f) (ds := sh) rfl (cCallF1_of (d := nD p) (cBin_of rfl rfl (by rw [dIx_zero]; exact hg)) (bundle_eq p (by omega))) (by unfold sizeLine; omega)) ((sSet_of (d := nD (left - p)) (cBin_of (a := nD left) (b := nD p) rfl (cBin_of rfl rfl (by rw [dIx_zero]; exact hg)) ?_)).trans rfl))
  show some (PyData.int ((left : Int) - p)) = _
  rw [show (left : Int) - p = ((left - p : Nat) : Int) by omega]
abbrev shD (s : List Nat) : D := .list (s.map bunD)
theorem best_loop (n : Nat) (hn : n ≤ 64) (full : List (List Int)) (b : D) (f : Bool) : ∀ (ts : List (List Int)) (k left : Nat) (sh : List D) (x y z : Option Sl), full.drop k = ts → (∀ t ∈ ts, t.length = n) → left < n → sh.length + ts.length < 2 ^ 20 →
    ∃ w x' y' z', loopL (gT (gC (gN 4) (gC (gN 5) gE))) best_b (enumL k (ts.map tD)) [some (.v b), some (.v (.list ((rows n full).map tD))), some (.v (nD left)), some (.own f (.list sh)), x, y, z, none] =
      .nx [some (.v b), some (.v (.list ((rows n full).map tD))), w, some (.own f (.list (sh ++ (C.pick ts left).map bunD))), x', y', z', none]
  | [], k, left, sh, x, y, z, _, _, _, _ => ⟨some (.v (nD left)), x, y, z, by show SR.nx _ = _; simp [C.pick]⟩
  | t :: ts, k, left, sh, x, y, z, hd, hl, hleft, hz => by
    obtain ⟨p, g, e1, e2, e3⟩ := best_step n hn full k left t ts b f sh z hd (hl t List.mem_cons_self) hleft (by omega)
    have hd2 : full.drop (k + 1) = ts := by
      rw [show k + 1 = k + 1 from rfl, ← List.drop_drop, hd]
      rfl
    obtain ⟨w, x', y', z', e⟩ := best_loop n hn full b f ts (k + 1) (left - p) (sh ++ [bunD p]) (some (.v (nD k))) (some (.v (tD t))) g hd2 (fun a h => hl a (List.mem_cons_of_mem _ h)) (by omega) (by simp at hz ⊢; omega)
    refine ⟨w, x', y', z', loopL_nx (ρ1 := [some (.v b), some (.v (.list ((rows n full).map tD))), some (.v (nD left)), some (.own f (.list sh)), some (.v (nD k)), some (.v (tD t)), z, none]) rfl e3 ?_⟩
    rw [e, e1]
    simp
theorem best_of_eq (n : Nat) (hn : n ≤ 64) (t : List Int) (ts : List (List Int)) (hl : ∀ a ∈ t :: ts, a.length = n) (hn0 : 0 < n) (hz : (t :: ts).length < 2 ^ 19) : f_best_of [bD (t :: ts)] = .ok (.tuple [shD (C.pick (t :: ts) (n - 1)), .int (C.best (t :: ts) (n - 1))]) := by
  obtain ⟨w, x', y', z', e⟩ := best_loop n hn (t :: ts) (bD (t :: ts)) false (t :: ts) 0 (n - 1) [] none none none rfl hl (by omega) (by simp at hz ⊢; omega)
  have hr := rests_eq n (by omega) t ts hl hz
  have hn2 : t.length = n := hl t List.mem_cons_self
  unfold f_best_of g_best_of
  refine runF_of rfl ?_
  have h1 : cBin dIx (cVarB 0) (cK (.int 0)) [some (.v (bD (t :: ts))), some (.v (.list ((rows n (t :: ts)).map tD))), none, none, none, none, none, none] = .ok (tD t) := cBin_of rfl rfl (by rw [dIx_zero]; rfl)
  have h2 : cBin dSub (cCall dLen (cCons (cBin dIx (cVarB 0) (cK (.int 0))) cNil)) (cK (.int 1)) [some (.v (bD (t :: ts))), some (.v (.list ((rows n (t :: ts)).map tD))), none, none, none, none, none, none] = .ok (nD (n - 1)) :=
    cBin_of (cCall1_of h1 (by rw [dLen_list, List.length_map, hn2])) rfl (by show some (PyData.int ((n : Int) - 1)) = _; rw [show (n : Int) - 1 = ((n - 1 : Nat) : Int) by omega])
  obtain ⟨r, er, _⟩ := rows_head n (t :: ts)
  have e9 := sSeq_nx (g2 := sSeq (sSet 2 (cBin dSub (cCall dLen (cCons (cBin dIx (cVarB 0) (cK (.int 0))) cNil)) (cK (.int 1)))) (sSeq (sSetN 3 false (cList cNil)) (sSeq (sFor (gT (gC (gN 4) (gC (gN 5) gE))) (cIter dEnum (cCons (cVar 0) cNil)) best_b) (sRet (cTup (cCons (cVar 3) (cCons (cBin dIx (cBin dIx (cVarB 1) (cK (.int 0))) (cUn dNeg (cK (.int 1)))) cNil)))))))
    (ρ := enter 8 1 [bD (t :: ts)]) (sSet_of (i := 1) (cCallF1_of (f := cVar 0) (d := bD (t :: ts)) rfl hr)) (sSeq_nx (sSet_of h2) (sSeq_nx (sSetN_of (t := false) (d := .list []) rfl) (sSeq_nx (sFor_of (cIter1_of (df := dEnum) (d := bD (t :: ts)) rfl rfl) e) rfl)))
  refine (congrArg SR.out e9).trans (sRet_of ?_)
  have h3 : cBin dIx (cBin dIx (cVarB 1) (cK (.int 0))) (cUn dNeg (cK (.int 1))) (disown [some (.v (bD (t :: ts))), some (.v (.list ((rows n (t :: ts)).map tD))), w, some (.own false (.list ([] ++ (C.pick (t :: ts) (n - 1)).map bunD))), x', y', z', none]) = .ok (.int (C.best (t :: ts) (n - 1))) := by
    refine cBin_of (cBin_of rfl rfl (b := .int 0) (e := tD (row n (t :: ts))) (by rw [dIx_zero, er]; rfl)) (b := .int (-1)) rfl ?_
    rw [dIx_last, List.getLast?_map, List.getLast?_eq_getElem?, row_len, getD_tbl (by rw [row_len]; omega), row_at _ (by omega)]
    rfl
  simp only [cTup, cCons, cNil, h3, R.bind]
  rfl
end K05

namespace K05
open PySem PySem.Spec PyProof.Rows L2 G
theorem cut_to (xs : List D) (k : Nat) : cutL xs none (some (k : Int)) = xs.take k := by
  unfold cutL
  rw [HT.sIx_nat, HT.sIx_none]
  simp
theorem cut_from (xs : List D) (k : Nat) : cutL xs (some (k : Int)) none = xs.drop k := by
  unfold cutL
  rw [HT.sIx_nat, HT.sIx_none]
  rcases Nat.lt_or_ge k xs.length with h | h
  · rw [Nat.min_eq_left (by omega), List.take_of_length_le (by simp)]
  · rw [Nat.min_eq_right (by omega), List.drop_of_length_le (Nat.le_refl _), List.drop_of_length_le h]; simp
theorem cSlice_to {f g : En → R D} {ρ : En} {xs : List D} {k : Nat} (h : f ρ = .ok (.list xs)) (h2 : g ρ = .ok (nD k)) : cSlice f cPartN (cPart g) ρ = .ok (.list (xs.take k)) := by
  have : cPart g ρ = .ok (some (k : Int)) := by
    simp only [cPart, h2, R.bind, toI, ofO]
  simp only [cSlice, h, this, R.bind, cPartN]
  show ofO (some (PyData.list (cutL xs none (some (k : Int))))) = _
  rw [cut_to]
  rfl
theorem cSlice_from {f g : En → R D} {ρ : En} {xs : List D} {k : Nat} (h : f ρ = .ok (.list xs)) (h2 : g ρ = .ok (nD k)) : cSlice f (cPart g) cPartN ρ = .ok (.list (xs.drop k)) := by
  have : cPart g ρ = .ok (some (k : Int)) := by
    simp only [cPart, h2, R.bind, toI, ofO]
  simp only [cSlice, h, this, R.bind, cPartN]
  show ofO (some (PyData.list (cutL xs (some (k : Int)) none))) = _
  rw [cut_from]
  rfl
theorem dAdd_list {xs ys : List D} (h : xs.length + ys.length ≤ sizeLine) : dAdd (.list xs) (.list ys) = some (.list (xs ++ ys)) := by
  show (if xs.length + ys.length ≤ sizeLine then _ else _) = _
  rw [if_pos h]
def others (b : List (List Int)) (k : Nat) : List (List Int) := b.take k ++ b.drop (k + 1)
/-- a book of tables of one length -/
structure Book (n : Nat) (b : List (List Int)) : Prop where
  len : ∀ t ∈ b, t.length = n
  few : b.length < 1000
theorem Book.others {n : Nat} {b : List (List Int)} (h : Book n b) (k : Nat) : Book n (others b k) := ⟨fun t m => by
  rcases List.mem_append.mp m with m | m
  · exact h.len t (List.mem_of_mem_take m)
  · exact h.len t (List.mem_of_mem_drop m), by
  have := h.few
  simp [K05.others]
  omega⟩
theorem Book.best {n : Nat} (hn : n ≤ 64) (hn0 : 0 < n) {b : List (List Int)} (h : Book n b) (h0 : b ≠ []) : f_best_of [bD b] = .ok (.tuple [shD (C.pick b (n - 1)), .int (C.best b (n - 1))]) := by
  cases b with
  | nil => exact absurd rfl h0
  | cons t ts => exact best_of_eq n hn t ts h.len hn0 (by have := h.few; omega)
theorem without_cut {n : Nat} {b : List (List Int)} (h : Book n b) (k : Nat) (x : Option Sl) (r : List (Option Sl)) : cBin dAdd (cSlice (cVar 0) cPartN (cPart (cVar 1))) (cSlice (cVar 0) (cPart (cBin dAdd (cVar 1) (cK (.int 1)))) cPartN) (some (.v (bD b)) :: some (.v (nD k)) :: r) = .ok (bD (others b k)) := by
  refine cBin_of (cSlice_to (xs := b.map tD) (k := k) rfl rfl) (cSlice_from (xs := b.map tD) (k := k + 1) rfl (cBin_of rfl rfl rfl)) ?_
  rw [dAdd_list (by have := h.few; simp; unfold sizeLine; omega)]
  simp [others]
theorem sum_without_eq {n : Nat} (hn : n ≤ 64) (hn0 : 0 < n) {b : List (List Int)} (h : Book n b) (k : Nat) : f_sum_without [bD b, nD k] = .ok (.int (C.best (others b k) (n - 1))) := by
  unfold f_sum_without g_sum_without
  refine runF_of rfl ?_
  refine (congrArg SR.out (sSeq_nx (sSet_of (without_cut h k none [none])) rfl)).trans (sRet_of ?_)
  show cIf _ _ _ [some (.v (bD b)), some (.v (nD k)), some (.v (bD (others b k)))] = _
  by_cases h0 : others b k = []
  · rw [h0]
    rfl
  · have e : cBinT dGt (cCall dLen (cCons (cVarB 2) cNil)) (cK (.int 0)) [some (.v (bD b)), some (.v (nD k)), some (.v (bD (others b k)))] = .ok true := by
      refine cBinT_of (cCall1_of rfl (dLen_list _)) rfl ?_
      have : 0 < (others b k).length := List.length_pos_iff.mpr h0
      show some (PyData.bool (decide _)) = _
      rw [decide_eq_true]
      simpa using this
    have e2 : cBin dIx (cCallF f_best_of (cCons (cVar 2) cNil)) (cK (.int 1)) [some (.v (bD b)), some (.v (nD k)), some (.v (bD (others b k)))] = .ok (.int (C.best (others b k) (n - 1))) := cBin_of (cCallF1_of rfl ((h.others k).best hn hn0 h0)) rfl (by rw [dIxT_one]; rfl)
    simp only [cIf, e, R.bind, if_true, e2]
end K05

namespace K05
open PySem PySem.Spec PyProof.Rows L2 G
inductive Wd | fair | bid | non
  deriving DecidableEq
def Wd.d : Wd → D
  | .fair => .str "fair"
  | .bid => .str "bid"
  | .non => .str "none"
theorem word_fair (w : Wd) : dEq w.d (.str "fair") = some (.bool (decide (w = .fair))) := by cases w <;> kernel_rfl
theorem word_bid (w : Wd) : dEq w.d (.str "bid") = some (.bool (decide (w = .bid))) := by cases w <;> kernel_rfl
def own (n : Nat) (b : List (List Int)) (k : Nat) : Int := C.at_ (b.getD k []) ((C.pick b (n - 1)).getD k 0)
def pay (n : Nat) (b : List (List Int)) (k : Nat) : Wd → Int
  | .fair => C.best (others b k) (n - 1) - (C.best b (n - 1) - own n b k)
  | .bid => own n b k
  | .non => 0
theorem pick_len : ∀ (b : List (List Int)) (w : Nat), (C.pick b w).length = b.length
  | [], _ => rfl
  | t :: ts, w => by
    obtain ⟨p, _, _, e, _⟩ := C.pick_some t ts w
    rw [e, List.length_cons, List.length_cons, pick_len ts]
theorem pick_le : ∀ (b : List (List Int)) (w : Nat), ∀ p ∈ C.pick b w, p ≤ w
  | [], _, p, h => by cases h
  | t :: ts, w, p, h => by
    obtain ⟨q, hq, _, e, _⟩ := C.pick_some t ts w
    rw [e] at h
    have := C.part_le hq
    rcases List.mem_cons.mp h with rfl | h
    · exact this
    · have := pick_le ts (w - q) p h
      omega
theorem book_at {b : List (List Int)} {k : Nat} (h : k < b.length) : dIx (bD b) (nD k) = some (tD (b.getD k [])) := by
  rw [dIx_nat, List.getElem?_map, List.getD_eq_getElem?_getD, List.getElem?_eq_getElem h]
  rfl
theorem share_at {s : List Nat} {k : Nat} (h : k < s.length) : dIx (shD s) (nD k) = some (bunD (s.getD k 0)) := by
  rw [dIx_nat, List.getElem?_map, List.getD_eq_getElem?_getD, List.getElem?_eq_getElem h]
  rfl
theorem getD_mem {α : Type} {l : List α} {k : Nat} {z : α} (h : k < l.length) : l.getD k z ∈ l := by
  rw [List.getD_eq_getElem?_getD, List.getElem?_eq_getElem h]
  exact List.getElem_mem h
section
variable {n : Nat} (hn : n ≤ 64) (hn0 : 0 < n) {b : List (List Int)} (h : Book n b) {k : Nat} (hk : k < b.length) (w : Wd)
theorem pick_at (hn0 : 0 < n) (hk : k < b.length) : (C.pick b (n - 1)).getD k 0 < n := by
  have := pick_le b (n - 1) _ (getD_mem (l := C.pick b (n - 1)) (k := k) (z := 0) (by rw [pick_len]; exact hk))
  omega
include hn hn0 h hk in
theorem paid_by_eq : f_paid_by [bD b, shD (C.pick b (n - 1)), .int (C.best b (n - 1)), nD k, w.d] = .ok (.int (pay n b k w)) := by
  have hp := pick_at (b := b) hn0 hk
  have hs : k < (C.pick b (n - 1)).length := by rw [pick_len]; exact hk
  have ht : (b.getD k []).length = n := h.len _ (getD_mem hk)
  unfold f_paid_by g_paid_by
  refine runF_of rfl ?_
  have e1 : cBin dIx (cBin dIx (cVarB 0) (cVar 3)) (cCallF f_number_of (cCons (cBin dIx (cVarB 1) (cVar 3)) cNil)) [some (.v (bD b)), some (.v (shD (C.pick b (n - 1)))), some (.v (.int (C.best b (n - 1)))), some (.v (nD k)), some (.v w.d), none] = .ok (.int (own n b k)) :=
    cBin_of (cBin_of rfl rfl (book_at hk)) (cCallF1_of (cBin_of rfl rfl (share_at hs)) (number_eq _ (by omega))) (tbl_ix _ _ (by rw [ht]; exact hp))
  by_cases hw : w = .fair
  · subst hw
    refine (congrArg SR.out (sSeq_nx (sSet_of e1) (show sSeq (sIf (cBinT dEq (cVarB 4) (cK (.str "fair"))) (sRet (cBin dSub (cCallF f_sum_without (cCons (cVar 0) (cCons (cVar 3) cNil))) (cBin dSub (cVarB 2) (cVarB 5)))) sNext) _ _ = .rt (.int (pay n b k .fair)) from ?_))).trans rfl
    have e2 : sIf (cBinT dEq (cVarB 4) (cK (.str "fair"))) (sRet (cBin dSub (cCallF f_sum_without (cCons (cVar 0) (cCons (cVar 3) cNil))) (cBin dSub (cVarB 2) (cVarB 5)))) sNext [some (.v (bD b)), some (.v (shD (C.pick b (n - 1)))), some (.v (.int (C.best b (n - 1)))), some (.v (nD k)), some (.v (Wd.d .fair)), some (.v (.int (own n b k)))] = .rt (.int (pay n b k .fair)) := by
      refine sIf_true (cBinT_of rfl rfl (word_fair .fair)) ?_
      have e3 : cBin dSub (cCallF f_sum_without (cCons (cVar 0) (cCons (cVar 3) cNil))) (cBin dSub (cVarB 2) (cVarB 5)) [some (.v (bD b)), some (.v (shD (C.pick b (n - 1)))), some (.v (.int (C.best b (n - 1)))), some (.v (nD k)), some (.v (Wd.d .fair)), some (.v (.int (own n b k)))] = .ok (.int (pay n b k .fair)) :=
        cBin_of (cCallF_of (ds := [bD b, nD k]) rfl (sum_without_eq hn hn0 h k)) (cBin_of rfl rfl rfl) rfl
      show SR.of _ _ SR.rt = _
      rw [show disown [some (Sl.v (bD b)), some (.v (shD (C.pick b (n - 1)))), some (.v (.int (C.best b (n - 1)))), some (.v (nD k)), some (.v (Wd.d .fair)), some (.v (.int (own n b k)))] = [some (Sl.v (bD b)), some (.v (shD (C.pick b (n - 1)))), some (.v (.int (C.best b (n - 1)))), some (.v (nD k)), some (.v (Wd.d .fair)), some (.v (.int (own n b k)))] from rfl, e3]
      rfl
    unfold sSeq
    show (match sIf _ _ _ [some (Sl.v (bD b)), some (.v (shD (C.pick b (n - 1)))), some (.v (.int (C.best b (n - 1)))), some (.v (nD k)), some (.v (Wd.d .fair)), some (.v (.int (own n b k)))] with | .nx ρ' => _ | r => r) = _
    rw [e2]
  · refine (congrArg SR.out (sSeq_nx (sSet_of e1) (sSeq_nx (sIf_false (cBinT_of rfl rfl ((word_fair w).trans (by rw [decide_eq_false hw]))) rfl) rfl))).trans (sRet_of ?_)
    show cIf (cBinT dEq (cVarB 4) (cK (.str "bid"))) (cVar 5) (cK (.int 0)) [some (.v (bD b)), some (.v (shD (C.pick b (n - 1)))), some (.v (.int (C.best b (n - 1)))), some (.v (nD k)), some (.v w.d), some (.v (.int (own n b k)))] = _
    have e2 := cBinT_of (ρ := [some (.v (bD b)), some (.v (shD (C.pick b (n - 1)))), some (.v (.int (C.best b (n - 1)))), some (.v (nD k)), some (.v w.d), some (.v (.int (own n b k)))]) (f := cVarB 4) (g := cK (.str "bid")) rfl rfl (word_bid w)
    simp only [cIf, e2, R.bind]
    cases w with
    | fair => exact absurd rfl hw
    | bid => rfl
    | non => rfl
end
end K05

namespace K05
open PySem PySem.Spec PyProof.Rows L2 G
theorem lay_ints {α : Type} (f : α → Int) (s : List α) : PyData.canLayAll0 (s.map fun x => PyData.int (f x)) = true ∧ PyData.depthAll (s.map fun x => PyData.int (f x)) ≤ 1 := by
  induction s with
  | nil => simp [PyData.canLayAll0, PyData.depthAll]
  | cons a r ih => simp [PyData.canLayAll0, PyData.depthAll, PyData.canLay0, PyData.depth, ih.1, ih.2]
abbrev rowD (a : Int) (s : List Nat) : D := .tuple [.int a, .list (s.map nD)]
theorem lay_row (a : Int) (s : List Nat) : SeqAt.shaped (rowD a s) = true ∧ (rowD a s).depth ≤ 64 := by
  obtain ⟨h1, h2⟩ : PyData.canLayAll0 (s.map nD) = true ∧ PyData.depthAll (s.map nD) ≤ 1 := lay_ints (fun n : Nat => (n : Int)) s
  unfold SeqAt.shaped
  simp [PyData.canLayAll0, PyData.depthAll, PyData.canLay0, PyData.depth, h1]
  omega
theorem alike_ints : ∀ (s t : List Nat), PySem.W.alikeAll (s.map nD) (t.map nD) = true
  | [], _ => by simp [PySem.W.alikeAll]
  | a :: s, [] => by simp [PySem.W.alikeAll]
  | a :: s, b :: t => by simp [PySem.W.alikeAll, PySem.W.alike, alike_ints s t]
theorem eqv_ints : ∀ (s t : List Nat), PyData.eqvAll (s.map nD) (t.map nD) = decide (s = t)
  | [], [] => by simp [PyData.eqvAll]
  | [], b :: t => by simp [PyData.eqvAll]
  | a :: s, [] => by simp [PyData.eqvAll]
  | a :: s, b :: t => by
    have : ((a : Int) == (b : Int)) = decide (a = b) := by
      by_cases h : a = b
      · simp [h]
      · simp [h]; omega
    simp [PyData.eqvAll, PyData.eqv, eqv_ints s t, this]
theorem lt_ints : ∀ (s t : List Nat), s.length = t.length → PySem.W.rowLt (s.map nD) (t.map nD) = C.lexLt s t
  | [], [], _ => by
    have := PySem.W.dataLt_ints [] []
    simpa [C.lexLt] using this
  | a :: s, b :: t, h => by
    have ih := lt_ints s t (by simpa using h)
    have e := PySem.W.dataLt_cons (x := nD a) (y := nD b) (by simp [PySem.W.alike]) (s.map nD) (t.map nD)
    refine Eq.trans (b := if PyData.eqv (nD a) (nD b) = true then PySem.W.rowLt (s.map nD) (t.map nD) else PySem.W.dataLt (nD a) (nD b)) e ?_
    rw [PySem.W.dataLt_int]
    by_cases q : a = b
    · subst q
      rw [if_pos (by simp [PyData.eqv])]
      simp only [C.lexLt, Nat.lt_irrefl, decide_false, Bool.false_or, decide_true, Bool.true_and]
      exact ih
    · rw [if_neg (by simp [PyData.eqv]; omega)]
      simp [C.lexLt, q]
/-- one row ahead of another -/
def ahead (a : Int) (s : List Nat) (b : Int) (t : List Nat) : Bool := if a = b then (if s = t then false else C.lexLt s t) else decide (a < b)
theorem dLt_row (a b : Int) (s t : List Nat) (h : s.length = t.length) : dLt (rowD a s) (rowD b t) = some (.bool (ahead a s b t)) := by
  have e : PySem.W.dataLt (rowD a s) (rowD b t) = ahead a s b t := by
    rw [PySem.W.dataLt_pair (by simp [PySem.W.alike]) (by simp [PySem.W.alike, alike_ints]), PySem.W.dataLt_int, PySem.W.dataLt_list]
    unfold ahead
    by_cases h1 : a = b
    · subst h1
      rw [if_pos (by simp [PyData.eqv]), if_pos rfl]
      by_cases h2 : s = t
      · subst h2
        rw [if_pos (by simp [PyData.eqv, eqv_ints]), if_pos rfl]
      · rw [if_neg (by simp [PyData.eqv, eqv_ints, h2]), if_neg h2]
        exact lt_ints s t h
    · rw [if_neg (by simp [PyData.eqv, h1]), if_neg h1]
  have e2 : PySem.W.alike (rowD a s) (rowD b t) = true := by simp [PySem.W.alike, PySem.W.alikeAll, alike_ints]
  show (if PySem.W.alike (rowD a s) (rowD b t) = true ∧ (rowD a s).depth ≤ 64 ∧ SeqAt.shaped (rowD a s) = true ∧ SeqAt.shaped (rowD b t) = true ∧ PyData.eqv (rowD a s) .none = false then some (PyData.bool (PySem.W.dataLt (rowD a s) (rowD b t))) else none) = _
  rw [if_pos ⟨e2, (lay_row a s).2, (lay_row a s).1, (lay_row b t).1, rfl⟩, e]
/-! ### the law's own best share -/
def shares (m : Nat) : Nat → List (List Nat)
  | 0 => [List.replicate m 0]
  | g + 1 => shares m g ++ (shares m g).flatMap fun s => (List.range m).map fun k => s.set k (s.getD k 0 + 2 ^ g)
theorem lexLt_asymm : ∀ s t : List Nat, C.lexLt s t = true → C.lexLt t s = false
  | [], t, h => by simp [C.lexLt] at h
  | a :: s, [], h => by simp [C.lexLt] at h
  | a :: s, b :: t, h => by
    simp only [C.lexLt, Bool.or_eq_true, decide_eq_true_eq, Bool.and_eq_true] at h
    rcases h with h | ⟨h, h2⟩
    · simp [C.lexLt]; omega
    · subst h
      simp [C.lexLt, lexLt_asymm s t h2]
section
variable {b : List (List Int)} {w : Nat} {s : List Nat}
theorem pick_wins (h : s ∈ C.seqs b.length w) (hn : s ≠ C.pick b w) : ahead (-C.sumOf b (C.pick b w)) (C.pick b w) (-C.sumOf b s) s = true := by
  have h1 := C.sum_le b w s h
  have h2 := (C.pick_in b w).2
  unfold ahead
  by_cases e : C.sumOf b s = C.best b w
  · rw [if_pos (by omega), if_neg (fun z => hn z.symm)]
    exact C.pick_first b w s h e hn
  · rw [if_neg (by omega), decide_eq_true]
    omega
theorem pick_stays (h : s ∈ C.seqs b.length w) : ahead (-C.sumOf b s) s (-C.sumOf b (C.pick b w)) (C.pick b w) = false := by
  have h1 := C.sum_le b w s h
  have h2 := (C.pick_in b w).2
  unfold ahead
  by_cases e : C.sumOf b s = C.best b w
  · rw [if_pos (by omega)]
    by_cases hn : s = C.pick b w
    · rw [if_pos hn]
    · rw [if_neg hn]
      exact lexLt_asymm _ _ (C.pick_first b w s h e hn)
  · rw [if_neg (by omega), decide_eq_false]
    omega
end
end K05

namespace K05
open PySem PySem.Spec PyProof.Rows L2 G
theorem seqs_len : ∀ (m w : Nat) (s : List Nat), s ∈ C.seqs m w → s.length = m ∧ ∀ p ∈ s, p ≤ w
  | 0, _, s, h => by
    simp [C.seqs] at h
    subst h
    exact ⟨rfl, fun p h => by cases h⟩
  | m + 1, w, s, h => by
    simp only [C.seqs, List.mem_flatMap, List.mem_map] at h
    obtain ⟨p, hp, r, hr, rfl⟩ := h
    obtain ⟨h1, h2⟩ := seqs_len m (w - p) r hr
    have := C.part_le hp
    refine ⟨by simp [h1], fun q hq => ?_⟩
    rcases List.mem_cons.mp hq with rfl | hq
    · exact this
    · have := h2 q hq
      omega
theorem sumOf_range : ∀ (b : List (List Int)) (s : List Nat), s.length = b.length → ((List.range b.length).map fun k => C.at_ (b.getD k []) (s.getD k 0)).sum = C.sumOf b s
  | [], [], _ => rfl
  | t :: b, p :: s, h => by
    have ih := sumOf_range b s (by simpa using h)
    rw [List.length_cons, List.range_succ_eq_map, List.map_cons, List.sum_cons, List.map_map]
    show C.at_ t p + _ = C.at_ t p + C.sumOf b s
    rw [← ih]
    rfl
theorem cTup2_of {f g : En → R D} {ρ : En} {a b : D} (h1 : f ρ = .ok a) (h2 : g ρ = .ok b) : cTup (cCons f (cCons g cNil)) ρ = .ok (.tuple [a, b]) := by
  simp only [cTup, cCons, cNil, h1, h2, R.bind]
  rw [if_pos (by simp; unfold sizeLine; omega)]
theorem cUn_of {dop : D → Option D} {f : En → R D} {ρ : En} {a e : D} (h1 : f ρ = .ok a) (h : dop a = some e) : cUn dop f ρ = .ok e := by
  simp only [cUn, h1, R.bind, h, ofO]
section
variable {n : Nat} {b : List (List Int)} {s : List Nat}
theorem law_sum_eq (hn : n ≤ 64) (hb : Book n b) (h1 : s.length = b.length) (h2 : ∀ p ∈ s, p < n) : f_l_sum [bD b, shD s] = .ok (.int (C.sumOf b s)) := by
  have e := lcL_map (tgt := gN 2) (f := cCallF f_l_at (cCons (cBin dIx (cVarB 0) (cVar 2)) (cCons (cBin dIx (cVarB 1) (cVar 2)) cNil))) (ρ := [some (.v (bD b)), some (.v (shD s)), none]) (enc := nD) (fun k => [some (.v (bD b)), some (.v (shD s)), some (.v (nD k))]) (fun k => .int (C.at_ (b.getD k []) (s.getD k 0))) (xs := List.range b.length) fun k hk => ⟨rfl, by
    rw [List.mem_range] at hk
    have ht : (b.getD k []).length = n := hb.len _ (getD_mem hk)
    have hp : s.getD k 0 < n := h2 _ (getD_mem (by omega))
    refine cCallF_of (ds := [tD (b.getD k []), bunD (s.getD k 0)]) ?_ (at_eq _ _ (by omega) (by omega))
    have e1 : cBin dIx (cVarB 0) (cVar 2) [some (.v (bD b)), some (.v (shD s)), some (.v (nD k))] = .ok (tD (b.getD k [])) := cBin_of rfl rfl (book_at hk)
    have e2 : cBin dIx (cVarB 1) (cVar 2) [some (.v (bD b)), some (.v (shD s)), some (.v (nD k))] = .ok (bunD (s.getD k 0)) := cBin_of rfl rfl (share_at (by omega))
    simp only [cCons, e1, e2, R.bind, cNil]⟩
  have hf := hb.few
  unfold f_l_sum g_l_sum
  refine runF_of rfl (sRet_of (ρ := [some (.v (bD b)), some (.v (shD s)), none]) ?_)
  refine cCall1_of (cLc_of (cIter1_of (d := nD b.length) (cCall1_of (d := bD b) rfl (by rw [dLen_list, List.length_map])) (dRange1_nat (by omega))) e ?_) ?_
  · rw [List.length_map, List.length_range]; unfold sizeLine; omega
  · rw [← sumOf_range b s h1]
    show (intsOf _).map _ = _
    rw [intsOf_int]
    rfl
theorem law_numbers_eq (hz : s.length < 1000) (h2 : ∀ p ∈ s, p < 64) : f_l_numbers [shD s] = .ok (.list (s.map nD)) := by
  have e := lcL_map (tgt := gN 1) (f := cCall dSum (cCons (cLc [2] (cItems (cVar 1)) (gN 2) cTrue (cBin dIx (cList (cCons (cK (.int 1)) (cCons (cK (.int 2)) (cCons (cK (.int 4)) (cCons (cK (.int 8)) (cCons (cK (.int 16)) (cCons (cK (.int 32)) cNil))))))) (cVar 2))) cNil)) (ρ := [some (.v (shD s)), none, none]) (enc := bunD) (fun p => [some (.v (shD s)), some (.v (bunD p)), none]) nD (xs := s) fun p hp => ⟨rfl, at_ix (shD s) p (h2 p hp)⟩
  unfold f_l_numbers g_l_numbers
  refine runF_of rfl (sRet_of (ρ := [some (.v (shD s)), none, none]) ?_)
  refine cLc_of (cItems_of rfl) e ?_
  rw [List.length_map]; unfold sizeLine; omega
end
def firstD (b : List (List Int)) : Option (List Nat) → D
  | none => .none
  | some c => .tuple [rowD (-C.sumOf b c) c, shD c]
def stepC (b : List (List Int)) (s : List Nat) : Option (List Nat) → Option (List Nat)
  | none => some s
  | some c' => if ahead (-C.sumOf b s) s (-C.sumOf b c') c' = true then some s else some c'
abbrev lb_c : En → R Bool := cOr (cBinT dIs (cVarB 2) (cK .none)) (cBinT dLt (cVarB 4) (cBin dIx (cVarB 2) (cK (.int 0))))
abbrev lb_b : En → SR := (sSeq (sSet 4 (cTup (cCons (cUn dNeg (cCallF f_l_sum (cCons (cVar 0) (cCons (cVar 3) cNil)))) (cCons (cCallF f_l_numbers (cCons (cVar 3) cNil)) cNil))))
    (sIf lb_c (sSet 2 (cTup (cCons (cVar 4) (cCons (cVar 3) cNil)))) sNext))
section
variable {n : Nat} (hn : n ≤ 64) (hn0 : 0 < n) {b : List (List Int)} (hb : Book n b) (g : D)
include hn hn0 hb in
theorem lb_step (s : List Nat) (hs : s ∈ C.seqs b.length (n - 1)) (c : Option (List Nat)) (hc : ∀ c', c = some c' → c' ∈ C.seqs b.length (n - 1)) (x : Option Sl) :
    lb_b [some (.v (bD b)), some (.v g), some (.v (firstD b c)), some (.v (shD s)), x] = .nx [some (.v (bD b)), some (.v g), some (.v (firstD b (stepC b s c))), some (.v (shD s)), some (.v (rowD (-C.sumOf b s) s))] := by
  obtain ⟨l1, l2⟩ := seqs_len _ _ s hs
  have hf := hb.few
  have e1 := law_sum_eq hn hb l1 (fun p hp => by have := l2 p hp; omega)
  have e2 := law_numbers_eq (s := s) (by omega) (fun p hp => by have := l2 p hp; omega)
  have e3 : cTup (cCons (cUn dNeg (cCallF f_l_sum (cCons (cVar 0) (cCons (cVar 3) cNil)))) (cCons (cCallF f_l_numbers (cCons (cVar 3) cNil)) cNil)) [some (.v (bD b)), some (.v g), some (.v (firstD b c)), some (.v (shD s)), x] = .ok (rowD (-C.sumOf b s) s) := by
    have a1 : cCallF f_l_sum (cCons (cVar 0) (cCons (cVar 3) cNil)) [some (.v (bD b)), some (.v g), some (.v (firstD b c)), some (.v (shD s)), x] = .ok (.int (C.sumOf b s)) := cCallF_of (ds := [bD b, shD s]) rfl e1
    have a2 : cCallF f_l_numbers (cCons (cVar 3) cNil) [some (.v (bD b)), some (.v g), some (.v (firstD b c)), some (.v (shD s)), x] = .ok (.list (s.map nD)) := cCallF1_of rfl e2
    exact cTup2_of (cUn_of a1 rfl) a2
  refine sSeq_nx (sSet_of e3) ?_
  cases c with
  | none =>
    refine sIf_true ?_ ((sSet_of (cTup2_of (a := rowD (-C.sumOf b s) s) (b := shD s) rfl rfl)).trans rfl)
    have q1 : cBinT dIs (cVarB 2) (cK .none) [some (.v (bD b)), some (.v g), some (.v (firstD b none)), some (.v (shD s)), some (.v (rowD (-C.sumOf b s) s))] = .ok true := cBinT_of rfl rfl rfl
    show cOr _ _ [some (.v (bD b)), some (.v g), some (.v (firstD b none)), some (.v (shD s)), some (.v (rowD (-C.sumOf b s) s))] = _
    simp only [cOr, q1, R.bind, if_true]
  | some c' =>
    obtain ⟨m1, m2⟩ := seqs_len _ _ c' (hc c' rfl)
    have q : lb_c [some (.v (bD b)), some (.v g), some (.v (firstD b (some c'))), some (.v (shD s)), some (.v (rowD (-C.sumOf b s) s))] = .ok (ahead (-C.sumOf b s) s (-C.sumOf b c') c') := by
      have q1 : cBinT dIs (cVarB 2) (cK .none) [some (.v (bD b)), some (.v g), some (.v (firstD b (some c'))), some (.v (shD s)), some (.v (rowD (-C.sumOf b s) s))] = .ok false := cBinT_of (a := .tuple [rowD (-C.sumOf b c') c', shD c']) rfl rfl rfl
      have q2 : cBinT dLt (cVarB 4) (cBin dIx (cVarB 2) (cK (.int 0))) [some (.v (bD b)), some (.v g), some (.v (firstD b (some c'))), some (.v (shD s)), some (.v (rowD (-C.sumOf b s) s))] = .ok (ahead (-C.sumOf b s) s (-C.sumOf b c') c') :=
        cBinT_of rfl (cBin_of rfl rfl (by show dIx (.tuple [rowD (-C.sumOf b c') c', shD c']) _ = _; rw [dIxT_zero]; rfl)) (dLt_row _ _ s c' (by omega))
      simp only [cOr, q1, R.bind]
      exact q2
    cases z : ahead (-C.sumOf b s) s (-C.sumOf b c') c' with
    | true =>
      rw [show stepC b s (some c') = some s by simp [stepC, z]]
      exact sIf_true (q.trans (by rw [z])) ((sSet_of (cTup2_of (a := rowD (-C.sumOf b s) s) (b := shD s) rfl rfl)).trans rfl)
    | false =>
      rw [show stepC b s (some c') = some c' by simp [stepC, z]]
      exact sIf_false (q.trans (by rw [z])) rfl
include hn hn0 hb in
theorem lb_loop : ∀ (l : List (List Nat)) (c : Option (List Nat)) (x y : Option Sl), (∀ s ∈ l, s ∈ C.seqs b.length (n - 1)) → (∀ c', c = some c' → c' ∈ C.seqs b.length (n - 1)) → (c = some (C.pick b (n - 1)) ∨ C.pick b (n - 1) ∈ l) →
    ∃ x' y', loopL (gN 3) lb_b (l.map shD) [some (.v (bD b)), some (.v g), some (.v (firstD b c)), x, y] = .nx [some (.v (bD b)), some (.v g), some (.v (firstD b (some (C.pick b (n - 1))))), x', y']
  | [], c, x, y, _, _, h => by
    rcases h with rfl | h
    · exact ⟨x, y, rfl⟩
    · cases h
  | s :: l, c, x, y, hl, hc, h => by
    have hs := hl s List.mem_cons_self
    have e := lb_step hn hn0 hb g s hs c hc y
    have next : ∀ c2, (∀ c', c2 = some c' → c' ∈ C.seqs b.length (n - 1)) → (c2 = some (C.pick b (n - 1)) ∨ C.pick b (n - 1) ∈ l) → stepC b s c = c2 →
        ∃ x' y', loopL (gN 3) lb_b ((s :: l).map shD) [some (.v (bD b)), some (.v g), some (.v (firstD b c)), x, y] = .nx [some (.v (bD b)), some (.v g), some (.v (firstD b (some (C.pick b (n - 1))))), x', y'] := by
      intro c2 h1 h2 h3
      obtain ⟨x', y', ih⟩ := lb_loop l c2 (some (.v (shD s))) (some (.v (rowD (-C.sumOf b s) s))) (fun a ha => hl a (List.mem_cons_of_mem _ ha)) h1 h2
      rw [h3] at e
      exact ⟨x', y', loopL_nx (ρ1 := [some (.v (bD b)), some (.v g), some (.v (firstD b c)), some (.v (shD s)), y]) rfl e ih⟩
    by_cases hp : s = C.pick b (n - 1)
    · cases c with
      | none => exact next (some s) (fun c' z => by cases z; exact hs) (.inl (by rw [hp])) rfl
      | some c' =>
        by_cases hq : c' = C.pick b (n - 1)
        · refine next (some c') (fun c' z => hc c' z) (.inl (by rw [hq])) ?_
          have := pick_stays (b := b) (w := n - 1) hs
          rw [← hq] at this
          simp [stepC, this]
        · refine next (some s) (fun c' z => by cases z; exact hs) (.inl (by rw [hp])) ?_
          have := pick_wins (b := b) (w := n - 1) (hc c' rfl) hq
          rw [← hp] at this
          simp [stepC, this]
    · have hm : c = some (C.pick b (n - 1)) ∨ C.pick b (n - 1) ∈ l := by
        rcases h with h | h
        · exact .inl h
        · rcases List.mem_cons.mp h with h | h
          · exact absurd h.symm hp
          · exact .inr h
      cases c with
      | none =>
        refine next (some s) (fun c' z => by cases z; exact hs) (.inr ?_) rfl
        rcases hm with z | z
        · cases z
        · exact z
      | some c' =>
        by_cases hq : c' = C.pick b (n - 1)
        · refine next (some c') (fun c' z => hc c' z) (.inl (by rw [hq])) ?_
          have := pick_stays (b := b) (w := n - 1) hs
          rw [← hq] at this
          simp [stepC, this]
        · have hm2 : C.pick b (n - 1) ∈ l := by
            rcases hm with z | z
            · cases z; exact absurd rfl hq
            · exact z
          cases z : ahead (-C.sumOf b s) s (-C.sumOf b c') c' with
          | true => exact next (some s) (fun c' z => by cases z; exact hs) (.inr hm2) (by simp [stepC, z])
          | false => exact next (some c') (fun c' z => hc c' z) (.inr hm2) (by simp [stepC, z])
end
end K05

namespace K05
open PySem PySem.Spec PyProof.Rows L2 G
/-- how many bidders and goods the laws draw -/
def Few (m g : Nat) : Prop := (1 ≤ m ∧ m ≤ 4) ∧ (1 ≤ g ∧ g ≤ 4) ∧ m + g ≤ 7
theorem Few.le {m g : Nat} (h : Few m g) : 2 ^ g ≤ 64 := by
  obtain ⟨_, h2, _⟩ := h
  obtain rfl | rfl | rfl | rfl : g = 1 ∨ g = 2 ∨ g = 3 ∨ g = 4 := by omega
  all_goals decide
theorem Few.cases {P : Nat → Nat → Prop} (h11 : P 1 1) (h12 : P 1 2) (h13 : P 1 3) (h14 : P 1 4) (h21 : P 2 1) (h22 : P 2 2) (h23 : P 2 3) (h24 : P 2 4) (h31 : P 3 1) (h32 : P 3 2) (h33 : P 3 3) (h34 : P 3 4) (h41 : P 4 1) (h42 : P 4 2) (h43 : P 4 3) {m g : Nat} (h : Few m g) : P m g := by
  obtain ⟨h1, h2, h3⟩ := h
  obtain rfl | rfl | rfl | rfl : m = 1 ∨ m = 2 ∨ m = 3 ∨ m = 4 := by omega
  all_goals obtain rfl | rfl | rfl | rfl : g = 1 ∨ g = 2 ∨ g = 3 ∨ g = 4 := by omega
  all_goals first | assumption | exact absurd h3 (by decide)
theorem shares_eq {m g : Nat} (h : Few m g) : f_l_shares [nD m, nD g] = .ok (.list ((shares m g).map shD)) := by
  refine Few.cases (P := fun m g => f_l_shares [nD m, nD g] = .ok (.list ((shares m g).map shD))) ?_ ?_ ?_ ?_ ?_ ?_ ?_ ?_ ?_ ?_ ?_ ?_ ?_ ?_ ?_ h <;> kernel_rfl
theorem shares_in {m g : Nat} (h : Few m g) : ∀ s ∈ shares m g, s ∈ C.seqs m (2 ^ g - 1) := by
  refine Few.cases (P := fun m g => ∀ s ∈ shares m g, s ∈ C.seqs m (2 ^ g - 1)) ?_ ?_ ?_ ?_ ?_ ?_ ?_ ?_ ?_ ?_ ?_ ?_ ?_ ?_ ?_ h <;> decide +kernel
theorem shares_all {m g : Nat} (h : Few m g) : ∀ s ∈ C.seqs m (2 ^ g - 1), s ∈ shares m g := by
  refine Few.cases (P := fun m g => ∀ s ∈ C.seqs m (2 ^ g - 1), s ∈ shares m g) ?_ ?_ ?_ ?_ ?_ ?_ ?_ ?_ ?_ ?_ ?_ ?_ ?_ ?_ ?_ h <;> decide +kernel
theorem lay_book (b : List (List Int)) : PyData.canLayAll0 (b.map tD) = true ∧ PyData.depthAll (b.map tD) ≤ 2 := by
  induction b with
  | nil => simp [PyData.canLayAll0, PyData.depthAll]
  | cons a r ih =>
    obtain ⟨h1, h2⟩ : PyData.canLayAll0 (a.map PyData.int) = true ∧ PyData.depthAll (a.map PyData.int) ≤ 1 := lay_ints (fun i => i) a
    simp [PyData.canLayAll0, PyData.depthAll, PyData.canLay0, PyData.depth, ih.1, h1]
    have := ih.2
    omega
theorem book_empty {b : List (List Int)} (h : b ≠ []) : dEq (bD b) (.list []) = some (.bool false) := by
  obtain ⟨h1, h2⟩ := lay_book b
  unfold dEq
  rw [if_pos ⟨by unfold SeqAt.shaped; simp [PyData.canLay0, PyData.depth, h1]; omega, by kernel_rfl⟩]
  cases b with
  | nil => exact absurd rfl h
  | cons a r => simp [PyData.eqv, PyData.eqvAll]
theorem law_best_eq {g : Nat} {b : List (List Int)} (hb : Book (2 ^ g) b) (hm : Few b.length g) : f_l_best [bD b, nD g] = .ok (.tuple [shD (C.pick b (2 ^ g - 1)), .int (C.best b (2 ^ g - 1))]) := by
  have hn : 2 ^ g ≤ 64 := hm.le
  have hn0 : 0 < 2 ^ g := Nat.pow_pos (by decide)
  have h0 : b ≠ [] := by rintro rfl; obtain ⟨h, _⟩ := hm; simp at h
  obtain ⟨p1, p2⟩ := C.pick_in b (2 ^ g - 1)
  obtain ⟨x', y', e⟩ := lb_loop hn hn0 hb (nD g) (shares b.length g) none none none (shares_in hm) (fun c' z => by cases z) (.inr (shares_all hm _ p1))
  unfold f_l_best g_l_best
  refine runF_of rfl ?_
  have e9 := sSeq_nx (g2 := sSeq (sSet 2 (cK .none)) (sSeq (sFor (gN 3) (cItems (cCallF f_l_shares (cCons (cCall dLen (cCons (cVarB 0) cNil)) (cCons (cVar 1) cNil)))) lb_b) (sRet (cTup (cCons (cBin dIx (cVarB 2) (cK (.int 1))) (cCons (cUn dNeg (cBin dIx (cBin dIx (cVarB 2) (cK (.int 0))) (cK (.int 0)))) cNil))))))
    (ρ := enter 5 2 [bD b, nD g]) (sIf_false (c := cBinT dEq (cVarB 0) (cList cNil)) (g1 := sRet (cTup (cCons (cList cNil) (cCons (cK (.int 0)) cNil)))) (g2 := sNext) (cBinT_of rfl rfl (book_empty h0)) rfl) (sSeq_nx (sSet_of rfl) (sSeq_nx (sFor_of (cItems_of (cCallF_of (ds := [nD b.length, nD g]) ?_ (shares_eq hm))) e) rfl))
  · refine (congrArg SR.out e9).trans (sRet_of ?_)
    refine cTup2_of (cBin_of (a := firstD b (some (C.pick b (2 ^ g - 1)))) (b := .int 1) rfl rfl (by show dIx (.tuple _) _ = _; rw [dIxT_one]; rfl)) (cUn_of (a := .int (-C.sumOf b (C.pick b (2 ^ g - 1)))) (cBin_of (b := .int 0) (cBin_of (a := firstD b (some (C.pick b (2 ^ g - 1)))) (b := .int 0) rfl rfl (by show dIx (.tuple _) _ = _; rw [dIxT_zero]; rfl)) rfl (by show dIx (.tuple _) _ = _; rw [dIxT_zero]; rfl)) ?_)
    show some (PyData.int (- -C.sumOf b (C.pick b (2 ^ g - 1)))) = _
    rw [p2, Int.neg_neg]
  · have q1 : cCall dLen (cCons (cVarB 0) cNil) [some (.v (bD b)), some (.v (nD g)), some (.v .none), none, none] = .ok (nD b.length) := cCall1_of rfl (by rw [dLen_list, List.length_map])
    show cCons (cCall dLen (cCons (cVarB 0) cNil)) (cCons (cVar 1) cNil) [some (.v (bD b)), some (.v (nD g)), some (.v .none), none, none] = _
    simp only [cCons, q1, R.bind, cVar, cNil]
    rfl
end K05

namespace K05
open PySem PySem.Spec PyProof.Rows L2 G
theorem cCons_of {f : En → R D} {l : En → R (List D)} {ρ : En} {d : D} {ds : List D} (h : f ρ = .ok d) (h2 : l ρ = .ok ds) : cCons f l ρ = .ok (d :: ds) := by
  simp only [cCons, h, h2, R.bind]
theorem sAsg_of {t : TgF} {f : En → R D} {ρ ρ1 : En} {d : D} (h : f ρ = .ok d) (h2 : t d ρ = some ρ1) : sAsg t f ρ = .nx ρ1 := by
  unfold sAsg
  rw [h]
  simp only [SR.of, h2]
def pays (n : Nat) (b : List (List Int)) (w : Wd) : List Int := (List.range b.length).map fun k => pay n b k w
section
variable {n : Nat} (hn : n ≤ 64) (hn0 : 0 < n) {b : List (List Int)} (hb : Book n b) (h0 : b ≠ []) (w : Wd)
include hn hn0 hb h0 in
theorem all_paid_eq : f_all_paid [bD b, w.d] = .ok (tD (pays n b w)) := by
  have hf := hb.few
  have e := lcL_map (tgt := gN 4) (f := cCallF f_paid_by (cCons (cVar 0) (cCons (cVar 2) (cCons (cVar 3) (cCons (cVar 4) (cCons (cVar 1) cNil)))))) (ρ := [some (.v (bD b)), some (.v w.d), some (.v (shD (C.pick b (n - 1)))), some (.v (.int (C.best b (n - 1)))), none]) (enc := nD) (fun k => [some (.v (bD b)), some (.v w.d), some (.v (shD (C.pick b (n - 1)))), some (.v (.int (C.best b (n - 1)))), some (.v (nD k))]) (fun k => .int (pay n b k w)) (xs := List.range b.length) fun k hk => ⟨rfl, by
    rw [List.mem_range] at hk
    exact cCallF_of (ds := [bD b, shD (C.pick b (n - 1)), .int (C.best b (n - 1)), nD k, w.d]) rfl (paid_by_eq hn hn0 hb hk w)⟩
  unfold f_all_paid g_all_paid
  refine runF_of rfl ?_
  refine (congrArg SR.out (sSeq_nx (sAsg_of (ρ1 := [some (.v (bD b)), some (.v w.d), some (.v (shD (C.pick b (n - 1)))), some (.v (.int (C.best b (n - 1)))), none]) (cCallF1_of (f := cVar 0) (d := bD b) rfl (hb.best hn hn0 h0)) rfl) rfl)).trans (sRet_of ?_)
  rw [show tD (pays n b w) = .list ((List.range b.length).map fun k => .int (pay n b k w)) by simp [pays]]
  refine cLc_of (cIter1_of (d := nD b.length) (cCall1_of (d := bD b) rfl (by rw [dLen_list, List.length_map])) (dRange1_nat (by omega))) e ?_
  rw [List.length_map, List.length_range]; unfold sizeLine; omega
/-- what a bidder with that truth gains -/
def gain (n : Nat) (b : List (List Int)) (truth : List Int) (k : Nat) (w : Wd) : Int := C.at_ truth ((C.pick b (n - 1)).getD k 0) - pay n b k w
end
/-! ### the law's payments -/
theorem without_cutI {n : Nat} {b : List (List Int)} {i j : Nat} {ρ : En} (h : Book n b) (k : Nat) (h1 : cVar i ρ = .ok (bD b)) (h2 : cVar j ρ = .ok (nD k)) : cBin dAdd (cSlice (cVar i) cPartN (cPart (cVar j))) (cSlice (cVar i) (cPart (cBin dAdd (cVar j) (cK (.int 1)))) cPartN) ρ = .ok (bD (others b k)) := by
  refine cBin_of (cSlice_to (xs := b.map tD) (k := k) h1 h2) (cSlice_from (xs := b.map tD) (k := k + 1) h1 (cBin_of h2 rfl rfl)) ?_
  rw [dAdd_list (by have := h.few; simp; unfold sizeLine; omega)]
  simp [others]
theorem law_best_none (g : Nat) : f_l_best [.list [], nD g] = .ok (.tuple [.list [], .int 0]) := by
  unfold f_l_best g_l_best
  refine runF_of rfl ?_
  have q : cBinT dEq (cVarB 0) (cList cNil) (enter 5 2 [.list [], nD g]) = .ok true := cBinT_of (a := .list []) (b := .list []) rfl rfl (by kernel_rfl)
  have : sIf (cBinT dEq (cVarB 0) (cList cNil)) (sRet (cTup (cCons (cList cNil) (cCons (cK (.int 0)) cNil)))) sNext (enter 5 2 [.list [], nD g]) = .rt (.tuple [.list [], .int 0]) := sIf_true q (by rfl)
  unfold sSeq
  rw [this]
  rfl
section
variable {g : Nat} {b : List (List Int)} (hb : Book (2 ^ g) b) (hm : Few b.length g) (w : Wd) {k : Nat} (hk : k < b.length)
include hb hm hk in
theorem law_without : ∃ x, f_l_best [bD (others b k), nD g] = .ok (.tuple [x, .int (C.best (others b k) (2 ^ g - 1))]) := by
  by_cases h0 : others b k = []
  · rw [h0]
    exact ⟨.list [], law_best_none g⟩
  · have h1 : (others b k).length ≠ 0 := fun z => h0 (List.length_eq_zero_iff.mp z)
    have h2 : (others b k).length = b.length - 1 := by simp [others]; omega
    obtain ⟨m1, m2, m3⟩ := hm
    exact ⟨_, law_best_eq (hb.others k) ⟨by omega, m2, by omega⟩⟩
abbrev lp_b : En → SR := (sSeq (sSet 7 (cCallF f_l_at (cCons (cBin dIx (cVarB 0) (cVar 4)) (cCons (cBin dIx (cVarB 5) (cVar 4)) cNil))))
    (sSeq (sSet 8 (cK (.int 0)))
    (sSeq (sIf (cBinT dEq (cVarB 2) (cK (.str "fair")))
    (sSet 8 (cBin dAdd (cBin dSub (cBin dIx (cCallF f_l_best (cCons (cBin dAdd (cSlice (cVar 0) cPartN (cPart (cVar 4))) (cSlice (cVar 0) (cPart (cBin dAdd (cVar 4) (cK (.int 1)))) cPartN)) (cCons (cVar 1) cNil))) (cK (.int 1))) (cVarB 6)) (cVar 7)))
    sNext)
    (sAppend 3 (cBin dIx (cDict (cKd (.inr "fair") (cVar 8) (cKd (.inr "bid") (cVar 7) (cKd (.inr "none") (cK (.int 0)) (fun _ => .ok []))))) (cVar 2))))))
def wsel (a c : Int) : Wd → Int
  | .fair => a
  | .bid => c
  | .non => 0
theorem dict_word (a c : Int) (w : Wd) : dIx (.dict [(.str "fair", .int a), (.str "bid", .int c), (.str "none", .int 0)]) w.d = some (.int (wsel a c w)) := by
  cases w <;> kernel_rfl
include hb hm hk in
theorem lp_step (f : Bool) (acc : List D) (hacc : acc.length < 1000) (x y z : Option Sl) : ∃ y' z', lp_b [some (.v (bD b)), some (.v (nD g)), some (.v w.d), some (.own f (.list acc)), some (.v (nD k)), some (.v (shD (C.pick b (2 ^ g - 1)))), some (.v (.int (C.best b (2 ^ g - 1)))), y, z] =
    .nx [some (.v (bD b)), some (.v (nD g)), some (.v w.d), some (.own f (.list (acc ++ [.int (pay (2 ^ g) b k w)]))), some (.v (nD k)), some (.v (shD (C.pick b (2 ^ g - 1)))), some (.v (.int (C.best b (2 ^ g - 1)))), y', z'] := by
  have hn : 2 ^ g ≤ 64 := hm.le
  have hn0 : 0 < 2 ^ g := Nat.pow_pos (by decide)
  have hp := pick_at (b := b) hn0 hk
  have hs : k < (C.pick b (2 ^ g - 1)).length := by rw [pick_len]; exact hk
  have ht : (b.getD k []).length = 2 ^ g := hb.len _ (getD_mem hk)
  have hf := hb.few
  have e1 : cCallF f_l_at (cCons (cBin dIx (cVarB 0) (cVar 4)) (cCons (cBin dIx (cVarB 5) (cVar 4)) cNil)) [some (.v (bD b)), some (.v (nD g)), some (.v w.d), some (.own f (.list acc)), some (.v (nD k)), some (.v (shD (C.pick b (2 ^ g - 1)))), some (.v (.int (C.best b (2 ^ g - 1)))), y, z] = .ok (.int (own (2 ^ g) b k)) := by
    refine cCallF_of (ds := [tD (b.getD k []), bunD ((C.pick b (2 ^ g - 1)).getD k 0)]) ?_ (at_eq _ _ (by omega) (by omega))
    have q1 : cBin dIx (cVarB 0) (cVar 4) [some (.v (bD b)), some (.v (nD g)), some (.v w.d), some (.own f (.list acc)), some (.v (nD k)), some (.v (shD (C.pick b (2 ^ g - 1)))), some (.v (.int (C.best b (2 ^ g - 1)))), y, z] = .ok (tD (b.getD k [])) := cBin_of rfl rfl (book_at hk)
    have q2 : cBin dIx (cVarB 5) (cVar 4) [some (.v (bD b)), some (.v (nD g)), some (.v w.d), some (.own f (.list acc)), some (.v (nD k)), some (.v (shD (C.pick b (2 ^ g - 1)))), some (.v (.int (C.best b (2 ^ g - 1)))), y, z] = .ok (bunD ((C.pick b (2 ^ g - 1)).getD k 0)) := cBin_of rfl rfl (share_at hs)
    simp only [cCons, q1, q2, R.bind, cNil]
  have fin : ∀ q : Int, wsel q (own (2 ^ g) b k) w = pay (2 ^ g) b k w → sAppend 3 (cBin dIx (cDict (cKd (.inr "fair") (cVar 8) (cKd (.inr "bid") (cVar 7) (cKd (.inr "none") (cK (.int 0)) (fun _ => .ok []))))) (cVar 2)) [some (.v (bD b)), some (.v (nD g)), some (.v w.d), some (.own f (.list acc)), some (.v (nD k)), some (.v (shD (C.pick b (2 ^ g - 1)))), some (.v (.int (C.best b (2 ^ g - 1)))), some (.v (.int (own (2 ^ g) b k))), some (.v (.int q))] =
      .nx [some (.v (bD b)), some (.v (nD g)), some (.v w.d), some (.own f (.list (acc ++ [.int (pay (2 ^ g) b k w)]))), some (.v (nD k)), some (.v (shD (C.pick b (2 ^ g - 1)))), some (.v (.int (C.best b (2 ^ g - 1)))), some (.v (.int (own (2 ^ g) b k))), some (.v (.int q))] := by
    intro q hq
    refine (sAppend_of (t := f) (ds := acc) (d := .int (pay (2 ^ g) b k w)) rfl (cBin_of (a := .dict [(.str "fair", .int q), (.str "bid", .int (own (2 ^ g) b k)), (.str "none", .int 0)]) (by kernel_rfl) rfl ?_) (by unfold sizeLine; omega)).trans rfl
    rw [← hq]
    exact dict_word q (own (2 ^ g) b k) w
  by_cases hw : w = .fair
  · obtain ⟨x1, e2⟩ := law_without hb hm hk
    refine ⟨_, _, sSeq_nx (sSet_of e1) (sSeq_nx (sSet_of (d := .int 0) rfl) (sSeq_nx (sIf_true (cBinT_of (a := w.d) rfl rfl ((word_fair w).trans (by rw [decide_eq_true hw]))) (sSet_of (d := .int (C.best (others b k) (2 ^ g - 1) - C.best b (2 ^ g - 1) + own (2 ^ g) b k)) ?_)) (fin (C.best (others b k) (2 ^ g - 1) - C.best b (2 ^ g - 1) + own (2 ^ g) b k) ?_)))⟩
    · refine cBin_of (cBin_of (cBin_of (cCallF_of (ds := [bD (others b k), nD g]) ?_ e2) rfl (by rw [dIxT_one]; rfl)) rfl rfl) rfl rfl
      have q := without_cutI (i := 0) (j := 4) (ρ := ([some (.v (bD b)), some (.v (nD g)), some (.v w.d), some (.own f (.list acc)), some (.v (nD k)), some (.v (shD (C.pick b (2 ^ g - 1)))), some (.v (.int (C.best b (2 ^ g - 1)))), some (.v (.int (own (2 ^ g) b k))), some (.v (.int 0))])) hb k rfl rfl
      show cCons _ (cCons (cVar 1) cNil) [some (.v (bD b)), some (.v (nD g)), some (.v w.d), some (.own f (.list acc)), some (.v (nD k)), some (.v (shD (C.pick b (2 ^ g - 1)))), some (.v (.int (C.best b (2 ^ g - 1)))), some (.v (.int (own (2 ^ g) b k))), some (.v (.int 0))] = _
      simp only [cCons, q, R.bind, cVar, cNil]
      rfl
    · subst hw
      simp only [pay, wsel]
      omega
  · refine ⟨_, _, sSeq_nx (sSet_of e1) (sSeq_nx (sSet_of (d := .int 0) rfl) (sSeq_nx (sIf_false (cBinT_of (a := w.d) rfl rfl ((word_fair w).trans (by rw [decide_eq_false hw]))) rfl) (fin 0 ?_)))⟩
    cases w with
    | fair => exact absurd rfl hw
    | bid => rfl
    | non => rfl
include hb hm in
theorem lp_loop : ∀ (l : List Nat) (acc : List D) (f : Bool) (x y z : Option Sl), (∀ k ∈ l, k < b.length) → acc.length + l.length < 1000 → ∃ x' y' z', loopL (gN 4) lp_b (l.map nD) [some (.v (bD b)), some (.v (nD g)), some (.v w.d), some (.own f (.list acc)), x, some (.v (shD (C.pick b (2 ^ g - 1)))), some (.v (.int (C.best b (2 ^ g - 1)))), y, z] =
    .nx [some (.v (bD b)), some (.v (nD g)), some (.v w.d), some (.own f (.list (acc ++ l.map fun k => .int (pay (2 ^ g) b k w)))), x', some (.v (shD (C.pick b (2 ^ g - 1)))), some (.v (.int (C.best b (2 ^ g - 1)))), y', z']
  | [], acc, f, x, y, z, _, _ => ⟨x, y, z, by show SR.nx _ = _; simp⟩
  | k :: l, acc, f, x, y, z, hl, hz => by
    obtain ⟨y1, z1, e⟩ := lp_step hb hm w (hl k List.mem_cons_self) f acc (by omega) x y z
    obtain ⟨x', y', z', ih⟩ := lp_loop l (acc ++ [.int (pay (2 ^ g) b k w)]) f (some (.v (nD k))) y1 z1 (fun a h => hl a (List.mem_cons_of_mem _ h)) (by simp at hz ⊢; omega)
    refine ⟨x', y', z', loopL_nx (ρ1 := [some (.v (bD b)), some (.v (nD g)), some (.v w.d), some (.own f (.list acc)), some (.v (nD k)), some (.v (shD (C.pick b (2 ^ g - 1)))), some (.v (.int (C.best b (2 ^ g - 1)))), y, z]) rfl e (ih.trans ?_)⟩
    simp
include hb hm in
theorem law_paid_eq : f_l_paid [bD b, nD g, w.d] = .ok (tD (pays (2 ^ g) b w)) := by
  have hf := hb.few
  obtain ⟨x', y', z', e⟩ := lp_loop hb hm w (List.range b.length) [] false none none none (fun k h => List.mem_range.mp h) (by simp; omega)
  unfold f_l_paid g_l_paid
  refine runF_of rfl ?_
  have e9 := sSeq_nx (g2 := sSeq (sSetN 3 false (cList cNil)) (sSeq (sFor (gN 4) (cIter dRange1 (cCons (cCall dLen (cCons (cVarB 0) cNil)) cNil)) lp_b) (sRet (cVar 3)))) (ρ := enter 9 3 [bD b, nD g, w.d]) (sAsg_of (t := gT (gC (gN 5) (gC (gN 6) gE))) (cCallF_of (l := cCons (cVar 0) (cCons (cVar 1) cNil)) (ds := [bD b, nD g]) rfl (law_best_eq hb hm)) rfl) (sSeq_nx (sSetN_of (t := false) (d := .list []) rfl) (sSeq_nx (sFor_of (cIter1_of (d := nD b.length) (cCall1_of (d := bD b) rfl (by rw [dLen_list, List.length_map])) (dRange1_nat (by omega))) e) rfl))
  refine (congrArg SR.out e9).trans (sRet_of ?_)
  show R.ok (PyData.list _) = _
  simp [pays]
end
end K05

namespace K05
open PySem PySem.Spec PyProof.Rows L2 G
def Big (i : Int) : Prop := i.natAbs < 2 ^ 200
theorem Big.log {i : Int} (h : Big i) : i.natAbs.log2 ≤ 200 := by
  by_cases h0 : i.natAbs = 0
  · rw [h0]; decide
  · exact Nat.le_of_lt ((Nat.log2_lt h0).mpr h)
theorem dMul_ok {a b : Int} (ha : Big a) (hb : Big b) : dMul (.int a) (.int b) = some (.int (a * b)) := by
  have h1 := ha.log
  have h2 := hb.log
  have : dMul (.int a) (.int b) = if a.natAbs.log2 + b.natAbs.log2 < 1000000 then some (.int (a * b)) else none := by simp only [dMul]
  rw [this, if_pos (by omega)]
theorem div_ok (a : Int) {k : Nat} (h : 0 < k) (h2 : k < 2 ^ 60) : dDiv (.int a) (nD k) = some (.int (a / k)) := dDiv_pos a (by omega) (by
  have : (k : Int).natAbs = k := rfl
  rw [this]
  have := (Nat.log2_lt (n := k) (k := 60) (by omega)).mpr h2
  omega)
end K05

namespace K05
open PySem PySem.Spec PyProof.Rows L2 G
theorem loopL_inv {P : En → Prop} {tgt : TgF} {body : En → SR} : ∀ {ds : List D} {ρ : En}, (∀ d ∈ ds, ∀ ρ, P ρ → ∃ ρ1 ρ2, tgt d ρ = some ρ1 ∧ body ρ1 = .nx ρ2 ∧ P ρ2) → P ρ → ∃ ρ2, loopL tgt body ds ρ = .nx ρ2 ∧ P ρ2
  | [], ρ, _, h => ⟨ρ, rfl, h⟩
  | d :: ds, ρ, hd, h => by
    obtain ⟨ρ1, ρ2, e1, e2, h2⟩ := hd d List.mem_cons_self ρ h
    obtain ⟨ρ3, e3, h3⟩ := loopL_inv (P := P) (fun a ha => hd a (List.mem_cons_of_mem _ ha)) h2
    exact ⟨ρ3, loopL_nx e1 e2 e3, h3⟩
theorem cOr_ff {p q : En → R Bool} {ρ : En} (h1 : p ρ = .ok false) (h2 : q ρ = .ok false) : cOr p q ρ = .ok false := by
  simp only [cOr, h1, R.bind, h2]
  rfl
theorem cNot_of {p : En → R Bool} {ρ : En} {b : Bool} (h : p ρ = .ok b) : cNot p ρ = .ok (!b) := by
  simp only [cNot, h, R.bind]
theorem cChainT_of {f g h : En → R D} {ρ : En} {a b c : Int} (h1 : f ρ = .ok (.int a)) (h2 : g ρ = .ok (.int b)) (h3 : h ρ = .ok (.int c)) (l1 : a ≤ b) (l2 : b ≤ c) : cChainT dLe dLe f g h ρ = .ok true := by
  simp only [cChainT, h1, h2, h3, R.bind, dLe, decide_eq_true l1, decide_eq_true l2]
  rfl
theorem cChain_of {f g h : En → R D} {ρ : En} {a b c : Int} (h1 : f ρ = .ok (.int a)) (h2 : g ρ = .ok (.int b)) (h3 : h ρ = .ok (.int c)) (l1 : a ≤ b) (l2 : b ≤ c) : cChain dLe dLe f g h ρ = .ok (.bool true) := by
  simp only [cChain, h1, h2, h3, R.bind, dLe, decide_eq_true l1, decide_eq_true l2]
  rfl
theorem cAndV_tt {f g : En → R D} {ρ : En} {r : R D} (h1 : f ρ = .ok (.bool true)) (h2 : g ρ = r) : cAndV f g ρ = r := by
  simp only [cAndV, cTest, h1, R.bind, toB, ofO]
  exact h2
end K05

namespace K05
open PySem PySem.Spec PyProof.Rows L2 G
/-- a true table -/
structure TblOk (n : Nat) (t : List Int) : Prop where
  len : t.length = n
  size : n = 2 ∨ n = 4 ∨ n = 8 ∨ n = 16
  zero : C.at_ t 0 = 0
  low : 0 ≤ C.at_ t (n - 1)
  high : C.at_ t (n - 1) ≤ 1000000
  all : ∀ p, p < n → 0 ≤ C.at_ t p ∧ C.at_ t p ≤ 1000000
  mono : ∀ p, p < n → ∀ g ∈ bun p, 2 ^ g ≤ p ∧ C.at_ t (p - 2 ^ g) ≤ C.at_ t p
theorem pow_ix : ∀ g : Nat, g < 6 → dIx (.tuple [(.int 1), (.int 2), (.int 4), (.int 8), (.int 16), (.int 32), (.int 64)]) (nD g) = some (nD (2 ^ g))
  | 0, _ => by kernel_rfl
  | 1, _ => by kernel_rfl
  | 2, _ => by kernel_rfl
  | 3, _ => by kernel_rfl
  | 4, _ => by kernel_rfl
  | 5, _ => by kernel_rfl
  | g + 6, h => absurd h (by omega)
theorem is_table_eq {n : Nat} {t : List Int} (h : TblOk n t) : f_is_table [tD t] = .ok (.bool true) := by
  have hn : n ≤ 16 := by have := h.size; omega
  have hn0 : 0 < n := by have := h.size; omega
  unfold f_is_table g_is_table
  refine runF_of rfl ?_
  have q1 : cBinT dNotIn (cCall dLen (cCons (cVarB 0) cNil)) (cK (.tuple [(.int 2), (.int 4), (.int 8), (.int 16), (.int 32), (.int 64)])) (enter 3 1 [tD t]) = .ok false := by
    refine cBinT_of (a := nD n) (cCall1_of (d := tD t) rfl (by rw [dLen_list, List.length_map, h.len])) rfl ?_
    rcases h.size with rfl | rfl | rfl | rfl <;> kernel_rfl
  have q2 : cBinT dNe (cBin dIx (cVarB 0) (cK (.int 0))) (cK (.int 0)) (enter 3 1 [tD t]) = .ok false := by
    refine cBinT_of (a := .int 0) (cBin_of (a := tD t) (b := nD 0) rfl rfl (by rw [tbl_ix t 0 (by rw [h.len]; exact hn0), h.zero])) rfl (by kernel_rfl)
  have q3 : cNot (cChainT dLe dLe (cK (.int 0)) (cBin dIx (cVarB 0) (cUn dNeg (cK (.int 1)))) (cK (.int 1000000))) (enter 3 1 [tD t]) = .ok false := by
    refine cNot_of (b := true) (cChainT_of rfl (cBin_of (a := tD t) (b := .int (-1)) rfl rfl ?_) rfl h.low h.high)
    rw [dIx_last, List.getLast?_map, List.getLast?_eq_getElem?, h.len, getD_tbl (by rw [h.len]; omega)]
    rfl
  have hin : ∀ d ∈ (List.range n).map nD, ∀ ρ : En, (∃ x y, ρ = [some (.v (tD t)), x, y]) → ∃ ρ1 ρ2, gN 1 d ρ = some ρ1 ∧ (sFor (gN 2) (cItems (cCallF f_bundle_of (cCons (cVar 1) cNil)))
    (sIf (cBinT dGt (cBin dIx (cVarB 0) (cBin dSub (cVarB 1) (cBin dIx (cK (.tuple [(.int 1), (.int 2), (.int 4), (.int 8), (.int 16), (.int 32), (.int 64)])) (cVar 2)))) (cBin dIx (cVarB 0) (cVar 1)))
    (sRet (cK (.bool false)))
    sNext)) ρ1 = .nx ρ2 ∧ (∃ x y, ρ2 = [some (.v (tD t)), x, y]) := by
    intro d hd ρ hρ
    obtain ⟨p, hp, rfl⟩ := List.mem_map.mp hd
    rw [List.mem_range] at hp
    obtain ⟨x, y, rfl⟩ := hρ
    obtain ⟨ρ3, e3, x3, h3⟩ := loopL_inv (P := fun ρ => ∃ y, ρ = [some (.v (tD t)), some (.v (nD p)), y]) (tgt := gN 2) (body := sIf (cBinT dGt (cBin dIx (cVarB 0) (cBin dSub (cVarB 1) (cBin dIx (cK (.tuple [(.int 1), (.int 2), (.int 4), (.int 8), (.int 16), (.int 32), (.int 64)])) (cVar 2)))) (cBin dIx (cVarB 0) (cVar 1))) (sRet (cK (.bool false))) sNext) (ds := (bun p).map nD) (ρ := [some (.v (tD t)), some (.v (nD p)), y]) (fun d hd ρ hρ => by
      obtain ⟨g, hg, rfl⟩ := List.mem_map.mp hd
      obtain ⟨y, rfl⟩ := hρ
      obtain ⟨m1, m2⟩ := h.mono p hp g hg
      have g6 : g < 6 := List.mem_range.mp (List.mem_filter.mp hg).1
      refine ⟨_, [some (.v (tD t)), some (.v (nD p)), some (.v (nD g))], rfl, sIf_false (cBinT_of (a := .int (C.at_ t (p - 2 ^ g))) (b := .int (C.at_ t p)) (cBin_of (a := tD t) (b := nD (p - 2 ^ g)) rfl (cBin_of (a := nD p) (b := nD (2 ^ g)) rfl (cBin_of rfl rfl (pow_ix g g6)) ?_) (tbl_ix t _ (by rw [h.len]; exact Nat.lt_of_le_of_lt (Nat.sub_le _ _) hp))) (cBin_of (a := tD t) (b := nD p) rfl rfl (tbl_ix t _ (by rw [h.len]; omega))) ?_) rfl, _, rfl⟩
      · show some (PyData.int ((p : Int) - (2 ^ g : Nat))) = some (PyData.int ((p - 2 ^ g : Nat) : Int))
        rw [show ((p - 2 ^ g : Nat) : Int) = (p : Int) - (2 ^ g : Nat) by omega]
      · show some (PyData.bool (decide (C.at_ t p < C.at_ t (p - 2 ^ g)))) = _
        rw [decide_eq_false (by omega)]) ⟨y, rfl⟩
    exact ⟨_, ρ3, rfl, sFor_of (cItemsT_of (cCallF1_of (d := nD p) rfl (bundle_eq p (by omega)))) e3, _, _, h3⟩
  obtain ⟨ρ2, e2, x2, y2, h2⟩ := loopL_inv hin (ρ := [some (.v (tD t)), none, none]) ⟨_, _, rfl⟩
  have e9 := sSeq_nx (ρ := enter 3 1 [tD t]) (sIf_false (g1 := sRet (cK (.bool false))) (g2 := sNext) (cOr_ff q1 (cOr_ff q2 q3)) rfl) (sSeq_nx (g2 := sRet (cK (.bool true))) (sFor_of (l := cIter dRange1 (cCons (cCall dLen (cCons (cVarB 0) cNil)) cNil)) (cIter1_of (d := nD n) (cCall1_of (d := tD t) rfl (by rw [dLen_list, List.length_map, h.len])) (dRange1_nat (by omega))) e2) rfl)
  exact (congrArg SR.out e9).trans (sRet_of rfl)
end K05

namespace K05
open PySem PySem.Spec PyProof.Rows L2 G
/-- a book of true tables -/
structure BkOk (n m : Nat) (b : List (List Int)) : Prop where
  len : b.length = m
  tbl : ∀ t ∈ b, TblOk n t
theorem BkOk.book {n m : Nat} {b : List (List Int)} (h : BkOk n m b) (hm : m ≤ 6) : Book n b := ⟨fun t ht => (h.tbl t ht).len, by have := h.len; omega⟩
theorem best_bound {n : Nat} : ∀ (b : List (List Int)) (w : Nat), (∀ t ∈ b, TblOk n t) → w < n → 0 ≤ C.best b w ∧ C.best b w ≤ 1000000 * b.length
  | [], w, _, _ => by simp [C.best]
  | t :: ts, w, h, hw => by
    obtain ⟨p, hp, e⟩ := C.best_at t ts w
    have hp := C.part_le hp
    have h1 := (h t List.mem_cons_self).all p (by omega)
    have h2 := best_bound ts (w - p) (fun a ha => h a (List.mem_cons_of_mem _ ha)) (by omega)
    rw [List.length_cons]
    omega
theorem small_big {i : Int} (h1 : -10 ^ 12 ≤ i) (h2 : i ≤ 10 ^ 12) : Big i := by
  have e : (10 : Int) ^ 12 = 1000000000000 := by decide
  unfold Big
  have : (1000000000000 : Nat) < 2 ^ 200 := by decide
  omega
theorem own_bound {n m : Nat} {b : List (List Int)} (h : BkOk n m b) (hn0 : 0 < n) {k : Nat} (hk : k < b.length) : 0 ≤ own n b k ∧ own n b k ≤ 1000000 :=
  (h.tbl _ (getD_mem hk)).all _ (pick_at hn0 hk)
theorem others_ok {n m : Nat} {b : List (List Int)} (h : BkOk n m b) (k : Nat) : ∀ t ∈ others b k, TblOk n t := fun t ht => by
  rcases List.mem_append.mp ht with ht | ht
  · exact h.tbl t (List.mem_of_mem_take ht)
  · exact h.tbl t (List.mem_of_mem_drop ht)
theorem others_len (b : List (List Int)) (k : Nat) : (others b k).length ≤ b.length := by
  simp [others]
  omega
theorem pay_bound {n m : Nat} {b : List (List Int)} (h : BkOk n m b) (hm : m ≤ 6) (hn0 : 0 < n) {k : Nat} (hk : k < b.length) (w : Wd) : -10000000 ≤ pay n b k w ∧ pay n b k w ≤ 10000000 := by
  have h1 := own_bound h hn0 hk
  have h2 := best_bound b (n - 1) h.tbl (by omega)
  have h3 := best_bound (others b k) (n - 1) (others_ok h k) (by omega)
  have h4 := others_len b k
  have h5 := h.len
  cases w with
  | fair => simp only [pay]; omega
  | bid => simp only [pay]; omega
  | non => simp [pay]
theorem sum_bound {l : List Int} {c : Int} (h : ∀ x ∈ l, -c ≤ x ∧ x ≤ c) : -(c * l.length) ≤ l.sum ∧ l.sum ≤ c * l.length := by
  induction l with
  | nil => simp
  | cons a r ih =>
    have h1 := h a List.mem_cons_self
    have h2 := ih fun x hx => h x (List.mem_cons_of_mem _ hx)
    rw [List.sum_cons, List.length_cons]
    have : c * ((r.length + 1 : Nat) : Int) = c * r.length + c := by rw [Int.natCast_add, Int.mul_add]; simp
    rw [this]
    omega
theorem pays_big {n m : Nat} {b : List (List Int)} (h : BkOk n m b) (hm : m ≤ 6) (hn0 : 0 < n) (w : Wd) : Big (pays n b w).sum := by
  have h5 := h.len
  have := sum_bound (l := pays n b w) (c := 10000000) fun x hx => by
    obtain ⟨k, hk, rfl⟩ := List.mem_map.mp hx
    exact pay_bound h hm hn0 (List.mem_range.mp hk) w
  have hl : (pays n b w).length = b.length := by simp [pays]
  rw [hl] at this
  exact small_big (by omega) (by omega)
theorem gain_big {n m : Nat} {b : List (List Int)} (h : BkOk n m b) (hm : m ≤ 6) (hn0 : 0 < n) {truth : List Int} (ht : TblOk n truth) {k : Nat} (hk : k < b.length) (w : Wd) : Big (gain n b truth k w) := by
  have h1 := ht.all _ (pick_at (b := b) hn0 hk)
  have h2 := pay_bound h hm hn0 hk w
  unfold gain
  exact small_big (by omega) (by omega)
/-! ### rows of a Good -/
end K05

namespace K05
open PySem PySem.Spec PyProof.Rows L2 G
theorem sExpr_of {f : En → R D} {ρ : En} {d : D} (h : f ρ = .ok d) : sExpr f ρ = .nx ρ := by
  unfold sExpr
  rw [h]
  rfl
section
end
end K05

namespace K05
open PySem PySem.Spec PyProof.Rows L2 G
theorem cList_of {l : En → R (List D)} {ρ : En} {ds : List D} (h : l ρ = .ok ds) (hz : ds.length ≤ sizeLine) : cList l ρ = .ok (.list ds) := by
  unfold cList
  rw [h]
  show (if ds.length ≤ sizeLine then R.ok (PyData.list ds) else R.no) = _
  rw [if_pos hz]
section
end
end K05

namespace K05
open PySem PySem.Spec PyProof.Rows L2 G
theorem sSeq_rt {g1 g2 : En → SR} {ρ : En} {d : D} (h1 : g1 ρ = .rt d) : sSeq g1 g2 ρ = .rt d := by
  unfold sSeq
  rw [h1]
theorem sRetK {d : D} {ρ : En} : sRet (cK d) ρ = .rt d := rfl
section
theorem out_rt {d : D} : SR.out (.rt d) = .ok d := rfl
end
end K05

namespace K05
open PySem PySem.Spec PyProof.Rows L2 G
theorem loopL_cnt {P : Nat → En → Prop} {tgt : TgF} {body : En → SR} {q : Nat} : ∀ {ds : List D} {c : Nat} {ρ : En}, (∀ d ∈ ds, ∀ c' ρ, c' ≤ c + q * ds.length → P c' ρ → ∃ ρ1 ρ2, tgt d ρ = some ρ1 ∧ body ρ1 = .nx ρ2 ∧ P (c' + q) ρ2) → P c ρ → ∃ ρ2, loopL tgt body ds ρ = .nx ρ2 ∧ P (c + q * ds.length) ρ2
  | [], c, ρ, _, h => ⟨ρ, rfl, by simpa using h⟩
  | d :: ds, c, ρ, hd, h => by
    obtain ⟨ρ1, ρ2, e1, e2, h2⟩ := hd d List.mem_cons_self c ρ (by omega) h
    have hq : q * (d :: ds).length = q + q * ds.length := by rw [List.length_cons, Nat.mul_succ]; omega
    obtain ⟨ρ3, e3, h3⟩ := loopL_cnt (P := P) (q := q) (c := c + q) (fun a ha c' ρ hc => hd a (List.mem_cons_of_mem _ ha) c' ρ (by omega)) h2
    exact ⟨ρ3, loopL_nx e1 e2 e3, by rw [hq, ← Nat.add_assoc]; exact h3⟩
theorem mod_nat (a m : Nat) (hm : 0 < m) : dMod (nD a) (.int (m : Int)) = some (nD (a % m)) := by
  rw [dMod_pos _ (by omega)]
  simp
theorem div_nat (a m : Nat) (hm : 0 < m) (h : m < 2 ^ 60) : dDiv (nD a) (.int (m : Int)) = some (nD (a / m)) := by
  rw [div_ok (a : Int) hm h]
  simp
theorem big_nat {a : Nat} (h : a < 2 ^ 190) : Big (a : Int) := by
  unfold Big
  have : (2 : Nat) ^ 190 < 2 ^ 200 := by decide
  show a < _
  omega
theorem mul_nat (a b : Nat) (ha : a < 2 ^ 190) (hb : b < 2 ^ 190) : dMul (nD a) (nD b) = some (nD (a * b)) := by
  rw [dMul_ok (big_nat ha) (big_nat hb)]
  simp
theorem add_nat (a b : Nat) : dAdd (nD a) (nD b) = some (nD (a + b)) := by
  show some (PyData.int ((a : Int) + b)) = _
  simp
theorem lt_app {ds : List Nat} {b q : Nat} (h : ∀ d ∈ ds, d < q) (hb : b < q) : ∀ d ∈ ds ++ [b], d < q := fun d hd => by
  rcases List.mem_append.mp hd with hd | hd
  · exact h d hd
  · simp at hd
    subst hd
    exact hb
/-- the draws so far -/
def Dr (ns : List Int) (c : Nat) (ρ : En) : Prop := ∃ (ds : List Nat) (x y z u : Option Sl), (ds.length ≤ c ∧ ∀ d ∈ ds, d < 65536) ∧ ρ = [some (.sc ns), some (.own false (.list (ds.map nD))), x, y, z, u]
def DrR (ns : List Int) (K : D) (c : Nat) (ρ : En) : Prop := ∃ (ds : List Nat) (r : Nat) (z u : Option Sl), (ds.length ≤ c ∧ ∀ d ∈ ds, d < 65536) ∧ ρ = [some (.sc ns), some (.own false (.list (ds.map nD))), some (.v K), some (.v (nD r)), z, u]
abbrev dr_i : En → SR := (sIf (cBinT dGt (cVarB 3) (cK (.int 0)))
    (sSeq (sAppend 1 (cBin dMod (cCall dInt (cCons (cVarB 3) cNil)) (cK (.int 65536))))
    (sSet 3 (cBin dDiv (cVarB 3) (cK (.int 65536)))))
    sNext)
theorem dr_turns (ns : List Int) (K : D) {c : Nat} (hc : c ≤ 10000) {ρ : En} (h : DrR ns K c ρ) : ∃ ρ2, sFor (gN 4) (cIter dRange1 (cCons (cK (.int 60)) cNil)) dr_i ρ = .nx ρ2 ∧ DrR ns K (c + 60) ρ2 := by
  obtain ⟨ρ2, e, h2⟩ := loopL_cnt (P := DrR ns K) (q := 1) (tgt := gN 4) (body := dr_i) (ds := (List.range 60).map nD) (c := c) (ρ := ρ) (fun d hd c' ρ hc' hρ => by
    obtain ⟨ds, r, z, u, hl, rfl⟩ := hρ
    rw [List.length_map, List.length_range] at hc'
    by_cases hr : 0 < r
    · refine ⟨_, _, rfl, sIf_true (cBinT_of (a := nD r) (b := .int 0) rfl rfl (by show some (PyData.bool (decide ((0 : Int) < r))) = _; rw [decide_eq_true (by omega)])) (sSeq_nx (sAppend_of (t := false) (ds := ds.map nD) (d := nD (r % 65536)) rfl (cBin_of (a := nD r) (cCall1_of (d := nD r) rfl rfl) rfl (mod_nat r 65536 (by omega))) (by rw [List.length_map]; unfold sizeLine; omega)) (sSet_of (d := nD (r / 65536)) (cBin_of (a := nD r) rfl rfl (div_nat r 65536 (by omega) (by omega))))), ?_⟩
      exact ⟨ds ++ [r % 65536], r / 65536, _, _, ⟨by simp; omega, lt_app hl.2 (Nat.mod_lt _ (by omega))⟩, by rw [List.map_append]; rfl⟩
    · refine ⟨_, _, rfl, sIf_false (cBinT_of (a := nD r) (b := .int 0) rfl rfl (by show some (PyData.bool (decide ((0 : Int) < r))) = _; rw [decide_eq_false (by omega)])) rfl, ?_⟩
      exact ⟨ds, r, _, _, ⟨by omega, hl.2⟩, rfl⟩) h
  rw [List.length_map, List.length_range] at h2
  exact ⟨ρ2, sFor_of (cIter1_of (d := nD 60) rfl (dRange1_nat (by omega))) e, by simpa using h2⟩
abbrev dr_s : En → SR := (sSeq (sSet 5 (cBin dMod (cCall dInt (cCons (cBin dAdd (cBin dMul (cVarB 3) (cK (.int 48271))) (cBin dMul (cBin dAdd (cVar 2) (cK (.int 1))) (cK (.int 69621)))) cNil)) (cK (.int 2147483647))))
    (sSeq (sSet 5 (cBin dMod (cCall dInt (cCons (cBin dAdd (cBin dAdd (cBin dMul (cVarB 5) (cK (.int 16807))) (cBin dMul (cK (.int 11)) (cVarB 2))) (cK (.int 5))) cNil)) (cK (.int 2147483629))))
    (sSeq (sAppend 1 (cBin dMod (cCall dInt (cCons (cVarB 5) cNil)) (cK (.int 65536))))
    (sAppend 1 (cBin dMod (cCall dInt (cCons (cBin dDiv (cVarB 5) (cK (.int 65536))) cNil)) (cK (.int 32768)))))))
theorem dr_stir (ns : List Int) {c k : Nat} (hc : c ≤ 10000) (hk : k < 100) {ds : List Nat} {r : Nat} (hr : r < 10 ^ 18) {z u : Option Sl} (hl : ds.length ≤ c ∧ ∀ d ∈ ds, d < 65536) : ∃ ρ2, dr_s [some (.sc ns), some (.own false (.list (ds.map nD))), some (.v (nD k)), some (.v (nD r)), z, u] = .nx ρ2 ∧ Dr ns (c + 60) ρ2 := by
  have p18 : (10 : Nat) ^ 18 < 2 ^ 60 := by decide
  have p60 : (2 : Nat) ^ 60 < 2 ^ 190 := by decide
  have m31 : (2147483647 : Nat) < 2 ^ 60 := by decide
  let a := (r * 48271 + (k + 1) * 69621) % 2147483647
  let b := (a * 16807 + 11 * k + 5) % 2147483629
  have ha : a < 2147483647 := Nat.mod_lt _ (by omega)
  refine ⟨_, sSeq_nx (sSet_of (d := nD a) (cBin_of (a := nD (r * 48271 + (k + 1) * 69621)) (cCall1_of (d := nD (r * 48271 + (k + 1) * 69621)) (cBin_of (cBin_of (a := nD r) (b := nD 48271) rfl rfl (mul_nat _ _ (by omega) (by omega))) (cBin_of (a := nD (k + 1)) (b := nD 69621) (cBin_of (a := nD k) (b := nD 1) rfl rfl (add_nat _ _)) rfl (mul_nat _ _ (by omega) (by omega))) (add_nat _ _)) rfl) rfl (mod_nat _ 2147483647 (by omega))))
    (sSeq_nx (sSet_of (d := nD b) (cBin_of (a := nD (a * 16807 + 11 * k + 5)) (cCall1_of (d := nD (a * 16807 + 11 * k + 5)) (cBin_of (a := nD (a * 16807 + 11 * k)) (b := nD 5) (cBin_of (cBin_of (a := nD a) (b := nD 16807) rfl rfl (mul_nat _ _ (by omega) (by omega))) (cBin_of (a := nD 11) (b := nD k) rfl rfl (mul_nat _ _ (by omega) (by omega))) (add_nat _ _)) rfl (add_nat _ _)) rfl) rfl (mod_nat _ 2147483629 (by omega))))
    (sSeq_nx (sAppend_of (t := false) (ds := ds.map nD) (d := nD (b % 65536)) rfl (cBin_of (a := nD b) (cCall1_of (d := nD b) rfl rfl) rfl (mod_nat _ 65536 (by omega))) (by rw [List.length_map]; unfold sizeLine; omega))
    (sAppend_of (t := false) (ds := ds.map nD ++ [nD (b % 65536)]) (d := nD (b / 65536 % 32768)) rfl (cBin_of (a := nD (b / 65536)) (cCall1_of (d := nD (b / 65536)) (cBin_of (a := nD b) rfl rfl (div_nat _ 65536 (by omega) (by omega))) rfl) rfl (mod_nat _ 32768 (by omega))) (by rw [List.length_append, List.length_map]; unfold sizeLine; simp; omega)))), ?_⟩
  exact ⟨ds ++ [b % 65536] ++ [b / 65536 % 32768], _, _, _, _, ⟨by simp; omega, lt_app (lt_app hl.2 (Nat.mod_lt _ (by omega))) (Nat.lt_trans (Nat.mod_lt _ (by omega)) (by omega))⟩, by rw [List.map_append, List.map_append]; rfl⟩
end K05

namespace K05
open PySem PySem.Spec PyProof.Rows L2 G
theorem pow18 : dPow (.int 10) (.int 18) = some (nD (10 ^ 18)) := by kernel_rfl
abbrev dr_o : En → SR := (sSeq (sSet 3 (cCall dAbs (cCons (cIxS 0 (cVar 2)) cNil)))
    (sIf (cBinT dGe (cVarB 3) (cBin dPow (cK (.int 10)) (cK (.int 18))))
    (sFor (gN 4) (cIter dRange1 (cCons (cK (.int 60)) cNil)) dr_i)
    dr_s))
theorem dr_step (ns : List Int) {c k : Nat} (hc : c ≤ 10000) (hk : k < ns.length) (hn : ns.length ≤ 63) {ρ : En} (h : Dr ns c ρ) : ∃ ρ1 ρ2, gN 2 (nD k) ρ = some ρ1 ∧ dr_o ρ1 = .nx ρ2 ∧ Dr ns (c + 60) ρ2 := by
  obtain ⟨ds, x, y, z, u, hl, rfl⟩ := h
  have q : cCall dAbs (cCons (cIxS 0 (cVar 2)) cNil) [some (.sc ns), some (.own false (.list (ds.map nD))), some (.v (nD k)), y, z, u] = .ok (nD (ns.getD k 0).natAbs) := by
    refine cCall1_of (d := .int (ns.getD k 0)) ?_ rfl
    show ofO ((atI ns (k : Int)).map PyData.int) = _
    rw [G.atI_nat, List.getD_eq_getElem?_getD, List.getElem?_eq_getElem hk]
    rfl
  by_cases hb : (10 : Nat) ^ 18 ≤ (ns.getD k 0).natAbs
  · obtain ⟨ρ2, e, ds2, r2, z2, u2, h2, rfl⟩ := dr_turns ns (nD k) hc (ρ := [some (.sc ns), some (.own false (.list (ds.map nD))), some (.v (nD k)), some (.v (nD (ns.getD k 0).natAbs)), z, u]) ⟨ds, _, _, _, hl, rfl⟩
    refine ⟨_, _, rfl, sSeq_nx (sSet_of q) (sIf_true (cBinT_of (a := nD (ns.getD k 0).natAbs) rfl (cBin_of rfl rfl pow18) ?_) e), ds2, _, _, _, _, h2, rfl⟩
    show some (PyData.bool (decide (((10 ^ 18 : Nat) : Int) ≤ ((ns.getD k 0).natAbs : Int)))) = _
    rw [decide_eq_true (Int.ofNat_le.mpr hb)]
  · obtain ⟨ρ2, e, h2⟩ := dr_stir ns (c := c) (k := k) hc (by omega) (ds := ds) (r := (ns.getD k 0).natAbs) (by omega) (z := z) (u := u) hl
    refine ⟨_, ρ2, rfl, sSeq_nx (sSet_of q) (sIf_false (cBinT_of (a := nD (ns.getD k 0).natAbs) rfl (cBin_of rfl rfl pow18) ?_) e), h2⟩
    show some (PyData.bool (decide (((10 ^ 18 : Nat) : Int) ≤ ((ns.getD k 0).natAbs : Int)))) = _
    rw [decide_eq_false (fun z => hb (Int.ofNat_le.mp z))]
theorem draws_eq (ns : List Int) (hn : ns.length ≤ 63) : ∃ ds : List Nat, (ds.length ≤ 10000 ∧ ∀ d ∈ ds, d < 65536) ∧ f_l_draws ns = .ok (.list (ds.map nD)) := by
  obtain ⟨ρ2, e, h⟩ := loopL_cnt (P := Dr ns) (q := 60) (tgt := gN 2) (body := dr_o) (ds := (List.range ns.length).map nD) (c := 0) (ρ := [some (.sc ns), some (.own false (.list (([] : List Nat).map nD))), none, none, none, none]) (fun d hd c' ρ hc hρ => by
    obtain ⟨k, hk, rfl⟩ := List.mem_map.mp hd
    rw [List.mem_range] at hk
    rw [List.length_map, List.length_range] at hc
    exact dr_step ns (by omega) hk hn hρ) ⟨[], _, _, _, _, by simp, rfl⟩
  rw [List.length_map, List.length_range] at h
  obtain ⟨ds, x, y, z, u, hl, rfl⟩ := h
  refine ⟨ds, ⟨by omega, hl.2⟩, ?_⟩
  unfold f_l_draws g_l_draws runS
  have q : cIter dRange1 (cCons (cCall dMin2 (cCons (cK (.int 63)) (cCons (cLenS 0) cNil))) cNil) [some (.sc ns), some (.own false (.list [])), none, none, none, none] = .ok ((List.range ns.length).map nD) := by
    refine cIter1_of (d := nD ns.length) ?_ (dRange1_nat (by omega))
    show ofO (some (PyData.int (min (63 : Int) (ns.length : Nat)))) = _
    rw [Int.min_eq_right (by omega)]
    rfl
  have e9 := sSeq_nx (g2 := sSeq (sFor (gN 2) (cIter dRange1 (cCons (cCall dMin2 (cCons (cK (.int 63)) (cCons (cLenS 0) cNil))) cNil)) dr_o) (sRet (cVar 1))) (ρ := some (.sc ns) :: List.replicate 5 none) (sSetN_of (i := 1) (t := false) (f := cList cNil) (d := .list []) rfl) (sSeq_nx (sFor_of q e) rfl)
  exact (congrArg SR.out e9).trans (sRet_of rfl)
end K05

namespace K05
open PySem PySem.Spec PyProof.Rows L2 G
structure Draws (ds : List Nat) : Prop where
  few : ds.length ≤ 10000
  low : ∀ d ∈ ds, d < 65536
def cellOf (ds : List Nat) (k : Nat) : Nat := ds.getD (k % ds.length) 0
def mixOf (ds : List Nat) (k m : Nat) : Nat := if k < ds.length then cellOf ds k % m else (cellOf ds k * 7919 + k * 104729) / 3 % m
theorem mix_lt (ds : List Nat) (k : Nat) {m : Nat} (hm : 0 < m) : mixOf ds k m < m := by
  unfold mixOf
  split <;> exact Nat.mod_lt _ hm
theorem cell_lt {ds : List Nat} (h : Draws ds) (k : Nat) : cellOf ds k < 65536 := by
  unfold cellOf
  by_cases h0 : ds.length = 0
  · rw [List.length_eq_zero_iff.mp h0]; simp
  · exact h.low _ (getD_mem (Nat.mod_lt _ (by omega)))
theorem mix_eq {ds : List Nat} (h : Draws ds) {k m : Nat} (hk : k < 100000) (hm : 0 < m) : f_l_mix [.list (ds.map nD), nD k, nD m] = .ok (nD (mixOf ds k m)) := by
  have hc := cell_lt h k
  have p : (10000000000 : Nat) < 2 ^ 190 := by decide
  have ql : ∀ x, cCall dLen (cCons (cVarB 0) cNil) [some (.v (.list (ds.map nD))), some (.v (nD k)), some (.v (nD m)), x] = .ok (nD ds.length) := fun x => cCall1_of (d := .list (ds.map nD)) rfl (by rw [dLen_list, List.length_map])
  have e1 : sIf (cBinT dGt (cCall dLen (cCons (cVarB 0) cNil)) (cK (.int 0))) (sSet 3 (cBin dIx (cVarB 0) (cBin dMod (cCall dInt (cCons (cVarB 1) cNil)) (cCall dLen (cCons (cVarB 0) cNil))))) sNext [some (.v (.list (ds.map nD))), some (.v (nD k)), some (.v (nD m)), some (.v (.int 0))] = .nx [some (.v (.list (ds.map nD))), some (.v (nD k)), some (.v (nD m)), some (.v (nD (cellOf ds k)))] := by
    by_cases h0 : 0 < ds.length
    · refine sIf_true (cBinT_of (ql _) rfl (by show some (PyData.bool (decide ((0 : Int) < ds.length))) = _; rw [decide_eq_true (by omega)])) ((sSet_of (d := nD (cellOf ds k)) (cBin_of (a := .list (ds.map nD)) (b := nD (k % ds.length)) rfl (cBin_of (a := nD k) (cCall1_of (d := nD k) rfl rfl) (ql _) (mod_nat k ds.length h0)) ?_)).trans rfl)
      rw [dIx_nat, List.getElem?_map]
      unfold cellOf
      rw [List.getD_eq_getElem?_getD, List.getElem?_eq_getElem (Nat.mod_lt _ h0)]
      rfl
    · have hz : ds = [] := List.length_eq_zero_iff.mp (by omega)
      subst hz
      exact sIf_false (cBinT_of (ql _) rfl (by rfl)) (by simp [cellOf, sNext])
  unfold f_l_mix g_l_mix
  refine runF_of rfl ?_
  by_cases hl : k < ds.length
  · have e2 : sIf (cBinT dLt (cVarB 1) (cCall dLen (cCons (cVarB 0) cNil))) (sRet (cBin dMod (cCall dInt (cCons (cVarB 3) cNil)) (cVarB 2))) sNext [some (.v (.list (ds.map nD))), some (.v (nD k)), some (.v (nD m)), some (.v (nD (cellOf ds k)))] = .rt (nD (cellOf ds k % m)) := by
      refine sIf_true (cBinT_of (a := nD k) rfl (ql _) (by show some (PyData.bool (decide ((k : Int) < ds.length))) = _; rw [decide_eq_true (by omega)])) ?_
      have q : cBin dMod (cCall dInt (cCons (cVarB 3) cNil)) (cVarB 2) (disown [some (.v (.list (ds.map nD))), some (.v (nD k)), some (.v (nD m)), some (.v (nD (cellOf ds k)))]) = .ok (nD (cellOf ds k % m)) := cBin_of (a := nD (cellOf ds k)) (b := nD m) (cCall1_of (d := nD (cellOf ds k)) rfl rfl) rfl (mod_nat _ m hm)
      unfold sRet
      rw [q]
      rfl
    refine (congrArg SR.out (sSeq_nx (sSet_of (d := .int 0) rfl) (sSeq_nx e1 (sSeq_rt e2)))).trans ?_
    rw [out_rt, mixOf, if_pos hl]
  · have e2 : sIf (cBinT dLt (cVarB 1) (cCall dLen (cCons (cVarB 0) cNil))) (sRet (cBin dMod (cCall dInt (cCons (cVarB 3) cNil)) (cVarB 2))) sNext [some (.v (.list (ds.map nD))), some (.v (nD k)), some (.v (nD m)), some (.v (nD (cellOf ds k)))] = .nx [some (.v (.list (ds.map nD))), some (.v (nD k)), some (.v (nD m)), some (.v (nD (cellOf ds k)))] :=
      sIf_false (cBinT_of (a := nD k) rfl (ql _) (by show some (PyData.bool (decide ((k : Int) < ds.length))) = _; rw [decide_eq_false (by omega)])) rfl
    refine (congrArg SR.out (sSeq_nx (sSet_of (d := .int 0) rfl) (sSeq_nx e1 (sSeq_nx e2 rfl)))).trans (sRet_of ?_)
    rw [mixOf, if_neg hl]
    refine cBin_of (a := nD ((cellOf ds k * 7919 + k * 104729) / 3)) (b := nD m) (cCall1_of (d := nD ((cellOf ds k * 7919 + k * 104729) / 3)) (cBin_of (a := nD (cellOf ds k * 7919 + k * 104729)) (cCall1_of (d := nD (cellOf ds k * 7919 + k * 104729)) (cBin_of (cBin_of (a := nD (cellOf ds k)) (b := nD 7919) rfl rfl (mul_nat _ _ (by omega) (by omega))) (cBin_of (a := nD k) (b := nD 104729) rfl rfl (mul_nat _ _ (by omega) (by omega))) (add_nat _ _)) rfl) rfl (div_nat _ 3 (by omega) (by omega))) rfl) rfl (mod_nat _ m hm)
end K05

namespace K05
open PySem PySem.Spec PyProof.Rows L2 G
theorem bun_len (p : Nat) : (bun p).length ≤ 6 := by
  have := List.length_filter_le (fun g => p / 2 ^ g % 2 == 1) (List.range 6)
  simpa [bun] using this
/-- the law's room while it draws one wish -/
abbrev dwE (ds sg told : List Nat) (kvs : List (D × D)) (sub below worth : D) (k g kind j p : Nat) : En :=
  [some (.v (.list (ds.map nD))), some (.v (nD k)), some (.v (nD g)), some (.v sub), some (.v (.list (sg.map nD))), some (.v (nD kind)), some (.v (.list (told.map nD))), some (.own true (.dict kvs)), some (.v (nD j)), some (.v (bunD p)), some (.v below), some (.v worth), none, none]
section
variable {ds sg told : List Nat} {kvs : List (D × D)} {sub below worth : D} {k g kind j p : Nat}
def valsOf (sg : List Nat) (p : Nat) : List Nat := (bun p).map fun q => sg.getD q 0
theorem nat_ix {l : List Nat} {i : Nat} (h : i < l.length) : dIx (.list (l.map nD)) (nD i) = some (nD (l.getD i 0)) := by
  rw [dIx_nat, List.getElem?_map, List.getD_eq_getElem?_getD, List.getElem?_eq_getElem h]
  rfl
theorem lc_single (hs : ∀ q ∈ bun p, q < sg.length) : cLc [12] (cItems (cVar 9)) (gN 12) cTrue (cBin dIx (cVarB 4) (cVar 12)) (dwE ds sg told kvs sub below worth k g kind j p) = .ok (.list ((valsOf sg p).map nD)) := by
  have e := lcL_map (tgt := gN 12) (f := cBin dIx (cVarB 4) (cVar 12)) (ρ := dwE ds sg told kvs sub below worth k g kind j p) (enc := nD) (fun q => (dwE ds sg told kvs sub below worth k g kind j p).set 12 (some (.v (nD q)))) (fun q => nD (sg.getD q 0)) (xs := bun p) fun q hq => ⟨rfl, cBin_of (a := .list (sg.map nD)) (b := nD q) rfl rfl (nat_ix (hs q hq))⟩
  have : (valsOf sg p).map nD = (bun p).map fun q => nD (sg.getD q 0) := by simp [valsOf]
  rw [this]
  refine cLc_of (cItemsT_of rfl) e ?_
  have := bun_len p
  rw [List.length_map]; unfold sizeLine; omega
theorem vals_low (hs : ∀ x ∈ sg, x < 9) : ∀ x ∈ valsOf sg p, x < 9 := fun x hx => by
  obtain ⟨q, _, rfl⟩ := List.mem_map.mp hx
  by_cases h : q < sg.length
  · exact hs _ (getD_mem h)
  · rw [List.getD_eq_getElem?_getD, List.getElem?_eq_none (by omega)]; simp
theorem sum_nat (l : List Nat) : dSum [.list (l.map nD)] = some (.int (l.map fun (n : Nat) => (n : Int)).sum) := by
  show (intsOf _).map _ = _
  rw [intsOf_int]
  rfl
theorem vals_sum (hs : ∀ x ∈ sg, x < 9) : 0 ≤ ((valsOf sg p).map fun (n : Nat) => (n : Int)).sum ∧ ((valsOf sg p).map fun (n : Nat) => (n : Int)).sum ≤ 100 := by
  have hl : (valsOf sg p).length ≤ 6 := by have := bun_len p; simpa [valsOf] using this
  have h0 : ∀ l : List Nat, 0 ≤ (l.map fun (n : Nat) => (n : Int)).sum := fun l => by
    induction l with
    | nil => simp
    | cons a r ih => rw [List.map_cons, List.sum_cons]; omega
  have := sum_bound (l := (valsOf sg p).map fun (n : Nat) => (n : Int)) (c := 9) fun x hx => by
    obtain ⟨q, hq, rfl⟩ := List.mem_map.mp hx
    have := vals_low hs q hq
    omega
  rw [List.length_map] at this
  exact ⟨h0 _, by omega⟩
end
end K05

namespace K05
open PySem PySem.Spec PyProof.Rows L2 G
def Small (v : Int) : Prop := -1000 ≤ v ∧ v ≤ 1000
section
variable {ds sg told : List Nat} {kvs : List (D × D)} {sub below worth : D} {k g kind j p : Nat}
theorem srt_mem {l : List Int} {x : Int} (h : x ∈ srtI l) : x ∈ l := by
  have := srtI_perm l
  exact this.mem_iff.mp h
theorem k1 (hs : ∀ q ∈ bun p, q < sg.length) (h9 : ∀ x ∈ sg, x < 9) : ∃ v, Small v ∧ cCall dSum (cCons (cLc [12] (cItems (cVar 9)) (gN 12) cTrue (cBin dIx (cVarB 4) (cVar 12))) cNil) (dwE ds sg told kvs sub below worth k g kind j p) = .ok (.int v) :=
  ⟨_, by have := vals_sum (p := p) h9; unfold Small; omega, cCall1_of (lc_single hs) (sum_nat _)⟩
theorem len_b : cCall dLen (cCons (cVarB 9) cNil) (dwE ds sg told kvs sub below worth k g kind j p) = .ok (nD (bun p).length) := by
  refine cCall1_of (d := bunD p) rfl ?_
  show some (PyData.int (((bun p).map nD).length : Nat)) = _
  rw [List.length_map]
theorem k3 (hs : ∀ q ∈ bun p, q < sg.length) (h9 : ∀ x ∈ sg, x < 9) : ∃ v, Small v ∧ cBin dSub (cCall dSum (cCons (cLc [12] (cItems (cVar 9)) (gN 12) cTrue (cBin dIx (cVarB 4) (cVar 12))) cNil)) (cBin dDiv (cBin dMul (cCall dLen (cCons (cVarB 9) cNil)) (cBin dSub (cCall dLen (cCons (cVarB 9) cNil)) (cK (.int 1)))) (cK (.int 2))) (dwE ds sg told kvs sub below worth k g kind j p) = .ok (.int v) := by
  have hl := bun_len p
  have hv := vals_sum (p := p) h9
  refine ⟨_, ?_, cBin_of (cCall1_of (lc_single hs) (sum_nat _)) (cBin_of (cBin_of len_b (cBin_of len_b rfl rfl) (dMul_ok ?_ ?_)) rfl (dDiv_pos _ (by omega) (by decide))) rfl⟩
  · have e : ∀ m : Nat, m ≤ 6 → -100 ≤ (m : Int) * ((m : Int) - 1) / 2 ∧ (m : Int) * ((m : Int) - 1) / 2 ≤ 100 := by decide
    have := e _ hl
    unfold Small
    omega
  · exact small_big (by have : (10 : Int) ^ 12 = 1000000000000 := by decide
                        omega) (by have : (10 : Int) ^ 12 = 1000000000000 := by decide
                                   omega)
  · exact small_big (by have : (10 : Int) ^ 12 = 1000000000000 := by decide
                        omega) (by have : (10 : Int) ^ 12 = 1000000000000 := by decide
                                   omega)
end
end K05

namespace K05
open PySem PySem.Spec PyProof.Rows L2 G
section
variable {ds sg told : List Nat} {kvs : List (D × D)} {sub below worth : D} {k g kind j p : Nat}
theorem mix_in (h : Draws ds) (hk : k < 90000) {m : Nat} (hm : 0 < m) {f : En → R D} {ρ : En} (c : Nat) (hc : c < 10000) (h0 : cVar 0 ρ = .ok (.list (ds.map nD))) (h1 : f ρ = .ok (nD (k + c))) (l : En → R D) (hl : l ρ = .ok (nD m)) : cCallF f_l_mix (cCons (cVar 0) (cCons f (cCons l cNil))) ρ = .ok (nD (mixOf ds (k + c) m)) :=
  cCallF_of (cCons_of h0 (cCons_of h1 (cCons_of hl rfl))) (mix_eq h (by omega) hm)
theorem k5 (h : Draws ds) (hk : k < 90000) : ∃ v, Small v ∧ cBin dMul (cBin dMul (cCallF f_l_mix (cCons (cVar 0) (cCons (cBin dAdd (cVar 1) (cK (.int 8))) (cCons (cK (.int 3)) cNil)))) (cCall dLen (cCons (cVarB 9) cNil))) (cCall dLen (cCons (cVarB 9) cNil)) (dwE ds sg told kvs sub below worth k g kind j p) = .ok (.int v) := by
  have hl := bun_len p
  have hm := mix_lt ds (k + 8) (m := 3) (by omega)
  have p190 : (1000 : Nat) < 2 ^ 190 := by decide
  have b1 : mixOf ds (k + 8) 3 * (bun p).length ≤ 2 * 6 := Nat.mul_le_mul (by omega) hl
  have b2 : mixOf ds (k + 8) 3 * (bun p).length * (bun p).length ≤ 12 * 6 := Nat.mul_le_mul b1 hl
  refine ⟨((mixOf ds (k + 8) 3 * (bun p).length * (bun p).length : Nat) : Int), ?_, cBin_of (cBin_of (mix_in h hk (m := 3) (by omega) 8 (by omega) rfl (cBin_of rfl rfl rfl) _ rfl) len_b (mul_nat _ _ (by omega) (by omega))) len_b (mul_nat _ _ (by omega) (by omega))⟩
  unfold Small
  omega
theorem k2 (h : Draws ds) (hk : k < 90000) (hs : ∀ q ∈ bun p, q < sg.length) (h9 : ∀ x ∈ sg, x < 9) : ∃ v, Small v ∧ cCall dSum (cCons (cSlice (cRev (cCall dSorted (cCons (cLc [12] (cItems (cVar 9)) (gN 12) cTrue (cBin dIx (cVarB 4) (cVar 12))) cNil))) cPartN (cPart (cBin dAdd (cK (.int 1)) (cCallF f_l_mix (cCons (cVar 0) (cCons (cBin dAdd (cVar 1) (cK (.int 8))) (cCons (cK (.int 2)) cNil))))))) cNil) (dwE ds sg told kvs sub below worth k g kind j p) = .ok (.int v) := by
  have q1 : cCall dSorted (cCons (cLc [12] (cItems (cVar 9)) (gN 12) cTrue (cBin dIx (cVarB 4) (cVar 12))) cNil) (dwE ds sg told kvs sub below worth k g kind j p) = .ok (.list ((srtI ((valsOf sg p).map fun (n : Nat) => (n : Int))).map .int)) := by
    refine cCall1_of (lc_single hs) ?_
    show (intsOf _).map _ = _
    rw [intsOf_int]
    rfl
  have q2 : cRev (cCall dSorted (cCons (cLc [12] (cItems (cVar 9)) (gN 12) cTrue (cBin dIx (cVarB 4) (cVar 12))) cNil)) (dwE ds sg told kvs sub below worth k g kind j p) = .ok (.list ((srtI ((valsOf sg p).map fun (n : Nat) => (n : Int))).reverse.map .int)) := by
    simp only [cRev, q1, R.bind, dRev, ofO, List.map_reverse]
  have q3 : cBin dAdd (cK (.int 1)) (cCallF f_l_mix (cCons (cVar 0) (cCons (cBin dAdd (cVar 1) (cK (.int 8))) (cCons (cK (.int 2)) cNil)))) (dwE ds sg told kvs sub below worth k g kind j p) = .ok (nD (1 + mixOf ds (k + 8) 2)) :=
    cBin_of (a := nD 1) rfl (mix_in h hk (m := 2) (by omega) 8 (by omega) rfl (cBin_of rfl rfl rfl) _ rfl) (add_nat _ _)
  let t := (srtI ((valsOf sg p).map fun (n : Nat) => (n : Int))).reverse.take (1 + mixOf ds (k + 8) 2)
  have hb := sum_bound (l := t) (c := 9) fun x hx => by
    have h1 := srt_mem (List.mem_reverse.mp (List.mem_of_mem_take hx))
    obtain ⟨q, hq, rfl⟩ := List.mem_map.mp h1
    have := vals_low h9 q hq
    omega
  have hl : t.length ≤ 2 := by
    have := List.length_take_le (1 + mixOf ds (k + 8) 2) (srtI ((valsOf sg p).map fun (n : Nat) => (n : Int))).reverse
    have := mix_lt ds (k + 8) (m := 2) (by omega)
    show (List.take _ _).length ≤ 2
    omega
  refine ⟨t.sum, by unfold Small; omega, cCall1_of (cSlice_to q2 q3) ?_⟩
  show (intsOf _).map _ = _
  rw [← List.map_take, intsOf_map]
  rfl
end
end K05

namespace K05
open PySem PySem.Spec PyProof.Rows L2 G
section
variable {ds sg told : List Nat} {kvs : List (D × D)} {sub below worth : D} {k g kind j p : Nat}
theorem flat_nats (l : List Nat) : (l.map nD).all flatB1 = true := by
  induction l with
  | nil => rfl
  | cons a r ih => rw [List.map_cons, List.all_cons, ih]; rfl
theorem notin_nat (x : Nat) (l : List Nat) : dNotIn (nD x) (.tuple (l.map nD)) = some (.bool (!((l.map nD).any fun z => PyData.eqv z (nD x)))) := by
  have : inB (nD x) (.tuple (l.map nD)) = if flatB1 (nD x) = true ∧ (l.map nD).all flatB1 = true then some ((l.map nD).any fun z => PyData.eqv z (nD x)) else none := by simp only [inB]
  unfold dNotIn
  rw [this, if_pos ⟨rfl, flat_nats l⟩]
  rfl
theorem k4 (h9 : ∀ x ∈ sg, x < 9) (h0 : 0 < sg.length) (ht : told.length < 1000) : ∃ v, Small v ∧ cBin dMul (cBin dAdd (cK (.int 1)) (cBin dIx (cVarB 4) (cK (.int 0)))) (cCall dInt (cCons (cBin dEq (cCall dLen (cCons (cLc [12] (cItems (cVar 6)) (gN 12) (cBinT dNotIn (cVar 12) (cVarB 9)) (cVar 12)) cNil)) (cK (.int 0))) cNil)) (dwE ds sg told kvs sub below worth k g kind j p) = .ok (.int v) := by
  have e := lcL_gen (tgt := gN 12) (p := cBinT dNotIn (cVar 12) (cVarB 9)) (f := cVar 12) (ρ := dwE ds sg told kvs sub below worth k g kind j p) (enc := nD) (fun x => (dwE ds sg told kvs sub below worth k g kind j p).set 12 (some (.v (nD x)))) (fun x => !(((bun p).map nD).any fun z => PyData.eqv z (nD x))) nD (xs := told) fun x hx => ⟨rfl, cBinT_of rfl rfl (notin_nat x (bun p)), fun _ => rfl⟩
  let ys := (told.filter fun x => !(((bun p).map nD).any fun z => PyData.eqv z (nD x)))
  have hz : (ys.map nD).length ≤ sizeLine := by
    have := List.length_filter_le (fun x => !(((bun p).map nD).any fun z => PyData.eqv z (nD x))) told
    show (List.map nD (List.filter _ _)).length ≤ _
    rw [List.length_map]; unfold sizeLine; omega
  have q1 : cCall dLen (cCons (cLc [12] (cItems (cVar 6)) (gN 12) (cBinT dNotIn (cVar 12) (cVarB 9)) (cVar 12)) cNil) (dwE ds sg told kvs sub below worth k g kind j p) = .ok (.int ((ys.map nD).length : Nat)) := cCall1_of (cLc_of (cItems_of rfl) e hz) (dLen_list _)
  have q2 := cBin_of (dop := dEq) q1 (g := cK (.int 0)) rfl (dEq_int _ _)
  have q3 : cCall dInt (cCons (cBin dEq (cCall dLen (cCons (cLc [12] (cItems (cVar 6)) (gN 12) (cBinT dNotIn (cVar 12) (cVarB 9)) (cVar 12)) cNil)) (cK (.int 0))) cNil) (dwE ds sg told kvs sub below worth k g kind j p) = .ok (.int (if decide ((((ys.map nD).length : Nat) : Int) = 0) then 1 else 0)) := cCall1_of q2 rfl
  have q4 : cBin dIx (cVarB 4) (cK (.int 0)) (dwE ds sg told kvs sub below worth k g kind j p) = .ok (nD (sg.getD 0 0)) := cBin_of (a := .list (sg.map nD)) (b := nD 0) rfl rfl (nat_ix h0)
  have h1 := h9 _ (getD_mem (l := sg) (k := 0) (z := 0) h0)
  have p12 : (10 : Int) ^ 12 = 1000000000000 := by decide
  have hb : ∀ b : Bool, 0 ≤ (if b = true then (1 : Int) else 0) ∧ (if b = true then (1 : Int) else 0) ≤ 1 := by decide
  have hc := hb (decide ((((ys.map nD).length : Nat) : Int) = 0))
  refine ⟨(1 + (sg.getD 0 0 : Int)) * (if decide ((((ys.map nD).length : Nat) : Int) = 0) = true then 1 else 0), ?_, cBin_of (cBin_of rfl q4 rfl) q3 (dMul_ok (small_big (by omega) (by omega)) (small_big (by omega) (by omega)))⟩
  unfold Small
  generalize (if decide ((((ys.map nD).length : Nat) : Int) = 0) = true then (1 : Int) else 0) = c at *
  have : c = 0 ∨ c = 1 := by omega
  rcases this with rfl | rfl <;> omega
end
end K05

namespace K05
open PySem PySem.Spec PyProof.Rows L2 G
abbrev dw_1 : En → R D := cCall dSum (cCons (cLc [12] (cItems (cVar 9)) (gN 12) cTrue (cBin dIx (cVarB 4) (cVar 12))) cNil)
abbrev dw_2 : En → R D := cCall dSum (cCons (cSlice (cRev (cCall dSorted (cCons (cLc [12] (cItems (cVar 9)) (gN 12) cTrue (cBin dIx (cVarB 4) (cVar 12))) cNil))) cPartN (cPart (cBin dAdd (cK (.int 1)) (cCallF f_l_mix (cCons (cVar 0) (cCons (cBin dAdd (cVar 1) (cK (.int 8))) (cCons (cK (.int 2)) cNil))))))) cNil)
abbrev dw_3 : En → R D := cBin dSub (cCall dSum (cCons (cLc [12] (cItems (cVar 9)) (gN 12) cTrue (cBin dIx (cVarB 4) (cVar 12))) cNil)) (cBin dDiv (cBin dMul (cCall dLen (cCons (cVarB 9) cNil)) (cBin dSub (cCall dLen (cCons (cVarB 9) cNil)) (cK (.int 1)))) (cK (.int 2)))
abbrev dw_4 : En → R D := cBin dMul (cBin dAdd (cK (.int 1)) (cBin dIx (cVarB 4) (cK (.int 0)))) (cCall dInt (cCons (cBin dEq (cCall dLen (cCons (cLc [12] (cItems (cVar 6)) (gN 12) (cBinT dNotIn (cVar 12) (cVarB 9)) (cVar 12)) cNil)) (cK (.int 0))) cNil))
abbrev dw_5 : En → R D := cBin dMul (cBin dMul (cCallF f_l_mix (cCons (cVar 0) (cCons (cBin dAdd (cVar 1) (cK (.int 8))) (cCons (cK (.int 3)) cNil)))) (cCall dLen (cCons (cVarB 9) cNil))) (cCall dLen (cCons (cVarB 9) cNil))
abbrev kindIs (i : Int) : En → R Bool := cBinT dEq (cVarB 5) (cK (.int i))
abbrev dw_c : En → SR := (sIf (kindIs 1) (sSet 11 dw_1) (sIf (kindIs 2) (sSet 11 dw_2) (sIf (kindIs 3) (sSet 11 dw_3) (sIf (kindIs 4) (sSet 11 dw_4) (sIf (kindIs 5) (sSet 11 dw_5) sNext)))))
section
variable {ds sg told : List Nat} {kvs : List (D × D)} {sub below : D} {k g kind j p : Nat}
theorem kind_of (i : Int) (worth : D) : kindIs i (dwE ds sg told kvs sub below worth k g kind j p) = .ok (decide ((kind : Int) = i)) := cBinT_of rfl rfl (dEq_int _ _)
theorem worth_eq (h : Draws ds) (hk : k < 90000) (hs : ∀ q ∈ bun p, q < sg.length) (h9 : ∀ x ∈ sg, x < 9) (h0 : 0 < sg.length) (ht : told.length < 1000) {w0 : Nat} (hw : w0 < 14) : ∃ v, Small v ∧ dw_c (dwE ds sg told kvs sub below (nD w0) k g kind j p) = .nx (dwE ds sg told kvs sub below (.int v) k g kind j p) := by
  by_cases c1 : (kind : Int) = 1
  · obtain ⟨v, hv, e⟩ := k1 (ds := ds) (told := told) (kvs := kvs) (sub := sub) (below := below) (worth := nD w0) (k := k) (g := g) (kind := kind) (j := j) hs h9
    exact ⟨v, hv, sIf_true ((kind_of 1 _).trans (by rw [decide_eq_true c1])) ((sSet_of e).trans rfl)⟩
  by_cases c2 : (kind : Int) = 2
  · obtain ⟨v, hv, e⟩ := k2 (told := told) (kvs := kvs) (sub := sub) (below := below) (worth := nD w0) (g := g) (kind := kind) (j := j) h hk hs h9
    exact ⟨v, hv, sIf_false ((kind_of 1 _).trans (by rw [decide_eq_false c1])) (sIf_true ((kind_of 2 _).trans (by rw [decide_eq_true c2])) ((sSet_of e).trans rfl))⟩
  by_cases c3 : (kind : Int) = 3
  · obtain ⟨v, hv, e⟩ := k3 (ds := ds) (told := told) (kvs := kvs) (sub := sub) (below := below) (worth := nD w0) (k := k) (g := g) (kind := kind) (j := j) hs h9
    exact ⟨v, hv, sIf_false ((kind_of 1 _).trans (by rw [decide_eq_false c1])) (sIf_false ((kind_of 2 _).trans (by rw [decide_eq_false c2])) (sIf_true ((kind_of 3 _).trans (by rw [decide_eq_true c3])) ((sSet_of e).trans rfl)))⟩
  by_cases c4 : (kind : Int) = 4
  · obtain ⟨v, hv, e⟩ := k4 (ds := ds) (kvs := kvs) (sub := sub) (below := below) (worth := nD w0) (k := k) (g := g) (kind := kind) (j := j) (p := p) h9 h0 ht
    exact ⟨v, hv, sIf_false ((kind_of 1 _).trans (by rw [decide_eq_false c1])) (sIf_false ((kind_of 2 _).trans (by rw [decide_eq_false c2])) (sIf_false ((kind_of 3 _).trans (by rw [decide_eq_false c3])) (sIf_true ((kind_of 4 _).trans (by rw [decide_eq_true c4])) ((sSet_of e).trans rfl))))⟩
  by_cases c5 : (kind : Int) = 5
  · obtain ⟨v, hv, e⟩ := k5 (sg := sg) (told := told) (kvs := kvs) (sub := sub) (below := below) (worth := nD w0) (g := g) (kind := kind) (j := j) (p := p) h hk
    exact ⟨v, hv, sIf_false ((kind_of 1 _).trans (by rw [decide_eq_false c1])) (sIf_false ((kind_of 2 _).trans (by rw [decide_eq_false c2])) (sIf_false ((kind_of 3 _).trans (by rw [decide_eq_false c3])) (sIf_false ((kind_of 4 _).trans (by rw [decide_eq_false c4])) (sIf_true ((kind_of 5 _).trans (by rw [decide_eq_true c5])) ((sSet_of e).trans rfl)))))⟩
  refine ⟨w0, by unfold Small; omega, sIf_false ((kind_of 1 _).trans (by rw [decide_eq_false c1])) (sIf_false ((kind_of 2 _).trans (by rw [decide_eq_false c2])) (sIf_false ((kind_of 3 _).trans (by rw [decide_eq_false c3])) (sIf_false ((kind_of 4 _).trans (by rw [decide_eq_false c4])) (sIf_false ((kind_of 5 _).trans (by rw [decide_eq_false c5])) rfl))))⟩
end
end K05

namespace K05
open PySem PySem.Spec PyProof.Rows L2 G
abbrev dw_below : En → R D := (cLc [12] (cItems (cVar 9)) (gN 12) cTrue (cBin dIx (cVarB 7) (cCall dTupOf (cCons (cLc [13] (cItems (cVar 9)) (gN 13) (cBinT dNe (cVarB 13) (cVarB 12)) (cVar 13)) cNil))))
abbrev dw_mix : En → R D := (cCallF f_l_mix (cCons (cVar 0) (cCons (cBin dAdd (cBin dAdd (cVar 1) (cK (.int 8))) (cVar 8)) (cCons (cK (.int 14)) cNil))))
abbrev dw_top : En → R D := (cCall dMax (cCons (cBin dAdd (cBin dAdd (cList (cCons (cK (.int 0)) cNil)) (cVar 10)) (cList (cCons (cBin dMul (cVarB 11) (cCall dInt (cCons (cBin dNe (cVarB 9) (cTup cNil)) cNil))) cNil))) cNil))
abbrev dw_b : En → SR := (sSeq (sSet 9 (cBin dIx (cVarB 3) (cVar 8))) (sSeq (sSet 10 dw_below) (sSeq (sSet 11 dw_mix) (sSeq dw_c (sSetD 7 (cVar 9) dw_top)))))
/-- before a step -/
abbrev dwR (ds sg told : List Nat) (kvs : List (D × D)) (sub : D) (k g kind : Nat) (x y z u : Option Sl) : En :=
  [some (.v (.list (ds.map nD))), some (.v (nD k)), some (.v (nD g)), some (.v sub), some (.v (.list (sg.map nD))), some (.v (nD kind)), some (.v (.list (told.map nD))), some (.own true (.dict kvs)), x, y, z, u, none, none]
theorem sSetD_of {i : Nat} {fi f : En → R D} {ρ : En} {t : Bool} {kvs q : List (D × D)} {k v : D} (ho : ρ[i]? = some (some (.own t (.dict kvs)))) (h : f ρ = .ok v) (hk : fi ρ = .ok k) (hp : dPut t kvs k v = some q) : sSetD i fi f ρ = .nx (ρ.set i (some (.own t (.dict q)))) := by
  unfold sSetD ownD
  rw [ho]
  simp only [h, hk, R.bind, hp, ofO, SR.of]
def flagOf (p : Nat) : Int := if p = 0 then 0 else 1
theorem flag_eq {p : Nat} (hp : p < 16) : (dNe (bunD p) (.tuple [])).bind (fun d => dInt [d]) = some (.int (flagOf p)) := by
  obtain rfl | rfl | rfl | rfl | rfl | rfl | rfl | rfl | rfl | rfl | rfl | rfl | rfl | rfl | rfl | rfl : p = 0 ∨ p = 1 ∨ p = 2 ∨ p = 3 ∨ p = 4 ∨ p = 5 ∨ p = 6 ∨ p = 7 ∨ p = 8 ∨ p = 9 ∨ p = 10 ∨ p = 11 ∨ p = 12 ∨ p = 13 ∨ p = 14 ∨ p = 15 := by omega
  all_goals kernel_rfl
section
variable {ds sg told : List Nat} {kvs q : List (D × D)} {sub : D} {k g kind p : Nat}
theorem dw_step (h : Draws ds) (hk : k < 80000) (hs : ∀ q ∈ bun p, q < sg.length) (h9 : ∀ x ∈ sg, x < 9) (h0 : 0 < sg.length) (ht : told.length < 1000) (hp : p < 16) (hsub : dIx sub (nD p) = some (bunD p)) (bl : List Int) (hbl : bl.length < 10)
    (hb : ∀ x y, dw_below [some (.v (.list (ds.map nD))), some (.v (nD k)), some (.v (nD g)), some (.v sub), some (.v (.list (sg.map nD))), some (.v (nD kind)), some (.v (.list (told.map nD))), some (.own true (.dict kvs)), some (.v (nD p)), some (.v (bunD p)), x, y, none, none] = .ok (tD bl))
    (x y z u : Option Sl) : ∃ w : Int, Small w ∧ ∀ q, dPut true kvs (bunD p) (.int (C.top (0 :: (bl ++ [w * flagOf p])))) = some q → ∃ y' z' u', dw_b (dwR ds sg told kvs sub k g kind (some (.v (nD p))) y z u) = .nx (dwR ds sg told q sub k g kind (some (.v (nD p))) y' z' u') := by
  obtain ⟨w, hw, e⟩ := worth_eq (kvs := kvs) (sub := sub) (below := tD bl) (k := k) (g := g) (kind := kind) (j := p) (p := p) (told := told) h (by omega) hs h9 h0 ht (mix_lt ds (k + 8 + p) (m := 14) (by omega))
  refine ⟨w, hw, fun q hq => ⟨some (.v (bunD p)), some (.v (tD bl)), some (.v (.int w)), ?_⟩⟩
  have e1 : dw_mix [some (.v (.list (ds.map nD))), some (.v (nD k)), some (.v (nD g)), some (.v sub), some (.v (.list (sg.map nD))), some (.v (nD kind)), some (.v (.list (told.map nD))), some (.own true (.dict kvs)), some (.v (nD p)), some (.v (bunD p)), some (.v (tD bl)), u, none, none] = .ok (nD (mixOf ds (k + 8 + p) 14)) :=
    cCallF_of (ds := [.list (ds.map nD), nD (k + 8 + p), nD 14]) (cCons_of rfl (cCons_of (cBin_of (cBin_of (a := nD k) (b := nD 8) rfl rfl (add_nat _ _)) (b := nD p) rfl (add_nat _ _)) (cCons_of rfl rfl))) (mix_eq h (by omega) (by omega))
  have p12 : (10 : Int) ^ 12 = 1000000000000 := by decide
  have hf : 0 ≤ flagOf p ∧ flagOf p ≤ 1 := by unfold flagOf; split <;> omega
  have e2 : dw_top (dwE ds sg told kvs sub (tD bl) (.int w) k g kind p p) = .ok (.int (C.top (0 :: (bl ++ [w * flagOf p])))) := by
    have f1 : cCall dInt (cCons (cBin dNe (cVarB 9) (cTup cNil)) cNil) (dwE ds sg told kvs sub (tD bl) (.int w) k g kind p p) = .ok (.int (flagOf p)) := by
      obtain ⟨d, d1, d2⟩ := Option.bind_eq_some_iff.mp (flag_eq hp)
      exact cCall1_of (cBin_of (a := bunD p) (b := .tuple []) rfl (by kernel_rfl) d1) d2
    have f2 : cList (cCons (cBin dMul (cVarB 11) (cCall dInt (cCons (cBin dNe (cVarB 9) (cTup cNil)) cNil))) cNil) (dwE ds sg told kvs sub (tD bl) (.int w) k g kind p p) = .ok (.list [.int (w * flagOf p)]) :=
      cList_of (cCons_of (cBin_of (a := .int w) rfl f1 (dMul_ok (small_big (by unfold Small at hw; omega) (by unfold Small at hw; omega)) (small_big (by omega) (by omega)))) rfl) (by simp; unfold sizeLine; omega)
    have f3 : cBin dAdd (cList (cCons (cK (.int 0)) cNil)) (cVar 10) (dwE ds sg told kvs sub (tD bl) (.int w) k g kind p p) = .ok (.list ([.int 0] ++ bl.map .int)) := cBin_of (a := .list [.int 0]) (b := tD bl) (by kernel_rfl) rfl (dAdd_list (by simp; unfold sizeLine; omega))
    refine cCall1_of (cBin_of f3 f2 (dAdd_list (by simp; unfold sizeLine; omega))) ?_
    rw [← dMax_top (by simp)]
    simp [tD]
  refine sSeq_nx (sSet_of (cBin_of (a := sub) (b := nD p) rfl rfl hsub)) (sSeq_nx (sSet_of (hb z u)) (sSeq_nx (sSet_of e1) (sSeq_nx e ((sSetD_of (t := true) (kvs := kvs) rfl e2 rfl hq).trans rfl))))
end
end K05

namespace K05
open PySem PySem.Spec PyProof.Rows L2 G
theorem subs_eq {g : Nat} (hg : 1 ≤ g ∧ g ≤ 4) : f_l_subsets [nD g] = .ok (.list ((List.range (2 ^ g)).map bunD)) := by
  obtain rfl | rfl | rfl | rfl : g = 1 ∨ g = 2 ∨ g = 3 ∨ g = 4 := by omega
  all_goals kernel_rfl
theorem bun_low {p q : Nat} (h : q ∈ bun p) : 2 ^ q ≤ p := by
  have h2 := (List.mem_filter.mp h).2
  refine Nat.le_of_not_lt fun z => ?_
  simp [Nat.div_eq_of_lt z] at h2
theorem bun_lt {p q g : Nat} (h : q ∈ bun p) (hp : p < 2 ^ g) : q < g := (Nat.pow_lt_pow_iff_right (by decide)).mp (Nat.lt_of_le_of_lt (bun_low h) hp)
/-- a table while it grows -/
structure Grow (T : List Int) : Prop where
  all : ∀ p, p < T.length → 0 ≤ C.at_ T p ∧ C.at_ T p ≤ 1000
  zero : 0 < T.length → C.at_ T 0 = 0
  mono : ∀ p, p < T.length → ∀ q ∈ bun p, C.at_ T (p - 2 ^ q) ≤ C.at_ T p
theorem at_app {T : List Int} {v : Int} {p : Nat} (h : p < T.length) : C.at_ (T ++ [v]) p = C.at_ T p := by
  unfold C.at_
  rw [List.getD_eq_getElem?_getD, List.getD_eq_getElem?_getD, List.getElem?_append_left h]
theorem at_new {T : List Int} {v : Int} : C.at_ (T ++ [v]) T.length = v := by
  unfold C.at_
  rw [List.getD_eq_getElem?_getD, List.getElem?_append_right (Nat.le_refl _)]
  simp
def belowOf (T : List Int) (p : Nat) : List Int := (bun p).map fun q => C.at_ T (p - 2 ^ q)
theorem top_bound {l : List Int} {w : Int} (hl : ∀ x ∈ l, 0 ≤ x ∧ x ≤ 1000) (hw : Small w) : 0 ≤ C.top (0 :: (l ++ [w])) ∧ C.top (0 :: (l ++ [w])) ≤ 1000 := by
  refine ⟨C.top_ge List.mem_cons_self, ?_⟩
  have := C.top_mem (l := 0 :: (l ++ [w])) (by simp)
  rcases List.mem_cons.mp this with h | h
  · omega
  rcases List.mem_append.mp h with h | h
  · exact (hl _ h).2
  · simp at h
    unfold Small at hw
    omega
theorem top_in {l : List Int} {w x : Int} (h : x ∈ l) : x ≤ C.top (0 :: (l ++ [w])) := C.top_ge (List.mem_cons_of_mem _ (List.mem_append_left _ h))
theorem small_flag {w : Int} {p : Nat} (h : Small w) : Small (w * flagOf p) := by
  unfold Small at *
  unfold flagOf
  split <;> omega
theorem Grow.step {T : List Int} (h : Grow T) {w : Int} (hw : Small w) : Grow (T ++ [C.top (0 :: (belowOf T T.length ++ [w * flagOf T.length]))]) := by
  have hb : ∀ x ∈ belowOf T T.length, 0 ≤ x ∧ x ≤ 1000 := fun x hx => by
    obtain ⟨q, hq, rfl⟩ := List.mem_map.mp hx
    have h1 := bun_low hq
    have h2 : 0 < 2 ^ q := Nat.pow_pos (by decide)
    exact h.all _ (by omega)
  have hv := top_bound hb (small_flag (p := T.length) hw)
  refine ⟨fun p hp => ?_, fun _ => ?_, fun p hp q hq => ?_⟩
  · rw [List.length_append] at hp
    simp at hp
    rcases Nat.lt_or_ge p T.length with z | z
    · rw [at_app z]; exact h.all p z
    · obtain rfl : p = T.length := by omega
      rw [at_new]; exact hv
  · rcases Nat.eq_zero_or_pos T.length with z | z
    · obtain rfl := List.length_eq_zero_iff.mp z
      show C.top (0 :: ([] ++ [w * flagOf 0])) = 0
      have : w * flagOf 0 = 0 := by simp [flagOf]
      rw [this]; decide
    · rw [at_app z]; exact h.zero z
  · rw [List.length_append] at hp
    simp at hp
    have h1 := bun_low hq
    have h2 : 0 < 2 ^ q := Nat.pow_pos (by decide)
    rcases Nat.lt_or_ge p T.length with z | z
    · rw [at_app z, at_app (by omega)]; exact h.mono p z q hq
    · obtain rfl : p = T.length := by omega
      rw [at_new, at_app (by omega)]
      exact top_in (List.mem_map.mpr ⟨q, hq, rfl⟩)
theorem Grow.tbl {T : List Int} {g : Nat} (h : Grow T) (hg : 1 ≤ g ∧ g ≤ 4) (hl : T.length = 2 ^ g) : TblOk (2 ^ g) T := by
  have h0 : 0 < 2 ^ g := Nat.pow_pos (by decide)
  refine ⟨hl, ?_, h.zero (by omega), (h.all _ (by omega)).1, ?_, fun p hp => ?_, fun p hp q hq => ⟨bun_low hq, h.mono p (by omega) q hq⟩⟩
  · obtain rfl | rfl | rfl | rfl : g = 1 ∨ g = 2 ∨ g = 3 ∨ g = 4 := by omega
    all_goals decide
  · have := (h.all (2 ^ g - 1) (by omega)).2
    omega
  · have := h.all p (by omega)
    omega
def kvsOf (T : List Int) : List (D × D) := T.zipIdx.map fun q => (bunD q.2, .int q.1)
section
variable {ds sg told : List Nat} {sub : D} {k g kind : Nat}
theorem below_at (x0 x y : Option Sl) : ∀ T : List Int, T.length < 16 → dw_below [some (.v (.list (ds.map nD))), some (.v (nD k)), some (.v (nD g)), some (.v sub), some (.v (.list (sg.map nD))), some (.v (nD kind)), some (.v (.list (told.map nD))), some (.own true (.dict (kvsOf T))), x0, some (.v (bunD T.length)), x, y, none, none] = .ok (tD (belowOf T T.length))
  | [], _ => by kernel_rfl
  | [_], _ => by kernel_rfl
  | [_, _], _ => by kernel_rfl
  | [_, _, _], _ => by kernel_rfl
  | [_, _, _, _], _ => by kernel_rfl
  | [_, _, _, _, _], _ => by kernel_rfl
  | [_, _, _, _, _, _], _ => by kernel_rfl
  | [_, _, _, _, _, _, _], _ => by kernel_rfl
  | [_, _, _, _, _, _, _, _], _ => by kernel_rfl
  | [_, _, _, _, _, _, _, _, _], _ => by kernel_rfl
  | [_, _, _, _, _, _, _, _, _, _], _ => by kernel_rfl
  | [_, _, _, _, _, _, _, _, _, _, _], _ => by kernel_rfl
  | [_, _, _, _, _, _, _, _, _, _, _, _], _ => by kernel_rfl
  | [_, _, _, _, _, _, _, _, _, _, _, _, _], _ => by kernel_rfl
  | [_, _, _, _, _, _, _, _, _, _, _, _, _, _], _ => by kernel_rfl
  | [_, _, _, _, _, _, _, _, _, _, _, _, _, _, _], _ => by kernel_rfl
  | _ :: _ :: _ :: _ :: _ :: _ :: _ :: _ :: _ :: _ :: _ :: _ :: _ :: _ :: _ :: _ :: _, h => absurd h (by simp)
theorem put_at (v : Int) : ∀ T : List Int, T.length < 16 → dPut true (kvsOf T) (bunD T.length) (.int v) = some (kvsOf (T ++ [v]))
  | [], _ => by kernel_rfl
  | [_], _ => by kernel_rfl
  | [_, _], _ => by kernel_rfl
  | [_, _, _], _ => by kernel_rfl
  | [_, _, _, _], _ => by kernel_rfl
  | [_, _, _, _, _], _ => by kernel_rfl
  | [_, _, _, _, _, _], _ => by kernel_rfl
  | [_, _, _, _, _, _, _], _ => by kernel_rfl
  | [_, _, _, _, _, _, _, _], _ => by kernel_rfl
  | [_, _, _, _, _, _, _, _, _], _ => by kernel_rfl
  | [_, _, _, _, _, _, _, _, _, _], _ => by kernel_rfl
  | [_, _, _, _, _, _, _, _, _, _, _], _ => by kernel_rfl
  | [_, _, _, _, _, _, _, _, _, _, _, _], _ => by kernel_rfl
  | [_, _, _, _, _, _, _, _, _, _, _, _, _], _ => by kernel_rfl
  | [_, _, _, _, _, _, _, _, _, _, _, _, _, _], _ => by kernel_rfl
  | [_, _, _, _, _, _, _, _, _, _, _, _, _, _, _], _ => by kernel_rfl
  | _ :: _ :: _ :: _ :: _ :: _ :: _ :: _ :: _ :: _ :: _ :: _ :: _ :: _ :: _ :: _ :: _, h => absurd h (by simp)
end
abbrev dw_last : En → R D := (cLc [9] (cItems (cVar 3)) (gN 9) cTrue (cBin dIx (cVarB 7) (cVar 9)))
section
variable {ds sg told : List Nat} {k g kind : Nat}
theorem last_at (p x y z : Option Sl) (hg : 1 ≤ g ∧ g ≤ 4) : ∀ T : List Int, T.length = 2 ^ g → dw_last (disown (dwR ds sg told (kvsOf T) (.list ((List.range (2 ^ g)).map bunD)) k g kind p x y z)) = .ok (tD T) := by
  obtain rfl | rfl | rfl | rfl : g = 1 ∨ g = 2 ∨ g = 3 ∨ g = 4 := by omega
  · intro T h
    match T, h with
    | [_, _], _ => kernel_rfl
  · intro T h
    match T, h with
    | [_, _, _, _], _ => kernel_rfl
  · intro T h
    match T, h with
    | [_, _, _, _, _, _, _, _], _ => kernel_rfl
  · intro T h
    match T, h with
    | [_, _, _, _, _, _, _, _, _, _, _, _, _, _, _, _], _ => kernel_rfl
theorem dw_run (h : Draws ds) (hk : k < 80000) (hg : 1 ≤ g ∧ g ≤ 4) (hs : sg.length = g) (h9 : ∀ x ∈ sg, x < 9) (ht : told.length < 1000) : ∀ (m : Nat) (T : List Int) (p y z u : Option Sl), T.length + m ≤ 2 ^ g → Grow T → ∃ (T' : List Int) (p' y' z' u' : Option Sl), T'.length = T.length + m ∧ Grow T' ∧ loopL (gN 8) dw_b ((List.range' T.length m).map nD) (dwR ds sg told (kvsOf T) (.list ((List.range (2 ^ g)).map bunD)) k g kind p y z u) = .nx (dwR ds sg told (kvsOf T') (.list ((List.range (2 ^ g)).map bunD)) k g kind p' y' z' u')
  | 0, T, p, y, z, u, _, hG => ⟨T, p, y, z, u, rfl, hG, rfl⟩
  | m + 1, T, p, y, z, u, hm, hG => by
    have h16 : 2 ^ g ≤ 16 := by
      obtain rfl | rfl | rfl | rfl : g = 1 ∨ g = 2 ∨ g = 3 ∨ g = 4 := by omega
      all_goals decide
    have hbl : (belowOf T T.length).length < 10 := by
      have := bun_len T.length
      rw [belowOf, List.length_map]; omega
    obtain ⟨w, hw, f⟩ := dw_step (sg := sg) (told := told) (kvs := kvsOf T) (sub := .list ((List.range (2 ^ g)).map bunD)) (g := g) (kind := kind) (p := T.length) h hk (fun q hq => by rw [hs]; exact bun_lt hq (by omega)) h9 (by omega) ht (by omega) (by rw [dIx_nat, List.getElem?_map, List.getElem?_range (by omega)]; rfl) (belowOf T T.length) hbl (fun x y => below_at _ x y T (by omega)) none y z u
    obtain ⟨y', z', u', e2⟩ := f _ (put_at _ T (by omega))
    have hl : (T ++ [C.top (0 :: (belowOf T T.length ++ [w * flagOf T.length]))]).length = T.length + 1 := by rw [List.length_append]; rfl
    obtain ⟨T', p2, y2, z2, u2, h1, h2, h3⟩ := dw_run h hk hg hs h9 ht m (T ++ [C.top (0 :: (belowOf T T.length ++ [w * flagOf T.length]))]) (some (.v (nD T.length))) y' z' u' (by omega) (hG.step hw)
    refine ⟨T', p2, y2, z2, u2, by omega, h2, ?_⟩
    rw [hl] at h3
    rw [List.range'_succ, List.map_cons]
    exact loopL_nx (d := nD T.length) rfl e2 h3
end
def sgOf (ds : List Nat) (k g : Nat) : List Nat := (List.range g).map fun i => mixOf ds (k + i) 9
def toldOf (ds : List Nat) (k g : Nat) : List Nat := (List.range g).filter fun i => decide (((mixOf ds (k + 9 + i) 2 : Nat) : Int) = 0)
section
variable {ds : List Nat} {k g : Nat} (h : Draws ds) (hk : k < 80000) (hg : g < 10) (sub : D)
include h hk hg in
theorem dw_single : cLc [12] (cIter dRange1 (cCons (cVarB 2) cNil)) (gN 12) cTrue (cCallF f_l_mix (cCons (cVar 0) (cCons (cBin dAdd (cVar 1) (cVar 12)) (cCons (cK (.int 9)) cNil)))) [some (.v (.list (ds.map nD))), some (.v (nD k)), some (.v (nD g)), some (.v sub), none, none, none, none, none, none, none, none, none, none] = .ok (.list ((sgOf ds k g).map nD)) := by
  have e := lcL_map (tgt := gN 12) (f := cCallF f_l_mix (cCons (cVar 0) (cCons (cBin dAdd (cVar 1) (cVar 12)) (cCons (cK (.int 9)) cNil)))) (ρ := [some (.v (.list (ds.map nD))), some (.v (nD k)), some (.v (nD g)), some (.v sub), none, none, none, none, none, none, none, none, none, none]) (enc := nD) (fun i => [some (.v (.list (ds.map nD))), some (.v (nD k)), some (.v (nD g)), some (.v sub), none, none, none, none, none, none, none, none, some (.v (nD i)), none]) (fun i => nD (mixOf ds (k + i) 9)) (xs := List.range g) fun i hi => ⟨rfl, cCallF_of (ds := [.list (ds.map nD), nD (k + i), nD 9]) (cCons_of rfl (cCons_of (cBin_of (a := nD k) (b := nD i) rfl rfl (add_nat _ _)) (cCons_of rfl rfl))) (mix_eq h (by have := List.mem_range.mp hi; omega) (by decide))⟩
  have : (sgOf ds k g).map nD = (List.range g).map fun i => nD (mixOf ds (k + i) 9) := by simp [sgOf]
  rw [this]
  exact cLc_of (cIter1_of (d := nD g) rfl (dRange1_nat (by omega))) e (by rw [List.length_map, List.length_range]; unfold sizeLine; omega)
include h hk hg in
theorem dw_told (kind : Nat) (sg : List Nat) : cLc [12] (cIter dRange1 (cCons (cVarB 2) cNil)) (gN 12) (cBinT dEq (cCallF f_l_mix (cCons (cVar 0) (cCons (cBin dAdd (cBin dAdd (cVar 1) (cK (.int 9))) (cVar 12)) (cCons (cK (.int 2)) cNil)))) (cK (.int 0))) (cVar 12) [some (.v (.list (ds.map nD))), some (.v (nD k)), some (.v (nD g)), some (.v sub), some (.v (.list (sg.map nD))), some (.v (nD kind)), none, none, none, none, none, none, none, none] = .ok (.list ((toldOf ds k g).map nD)) := by
  have e := lcL_gen (tgt := gN 12) (p := cBinT dEq (cCallF f_l_mix (cCons (cVar 0) (cCons (cBin dAdd (cBin dAdd (cVar 1) (cK (.int 9))) (cVar 12)) (cCons (cK (.int 2)) cNil)))) (cK (.int 0))) (f := cVar 12) (ρ := [some (.v (.list (ds.map nD))), some (.v (nD k)), some (.v (nD g)), some (.v sub), some (.v (.list (sg.map nD))), some (.v (nD kind)), none, none, none, none, none, none, none, none]) (enc := nD) (fun i => [some (.v (.list (ds.map nD))), some (.v (nD k)), some (.v (nD g)), some (.v sub), some (.v (.list (sg.map nD))), some (.v (nD kind)), none, none, none, none, none, none, some (.v (nD i)), none]) (fun i => decide (((mixOf ds (k + 9 + i) 2 : Nat) : Int) = 0)) nD (xs := List.range g) fun i hi => ⟨rfl, cBinT_of (a := nD (mixOf ds (k + 9 + i) 2)) (cCallF_of (ds := [.list (ds.map nD), nD (k + 9 + i), nD 2]) (cCons_of rfl (cCons_of (cBin_of (cBin_of (a := nD k) (b := nD 9) rfl rfl (add_nat _ _)) (b := nD i) rfl (add_nat _ _)) (cCons_of rfl rfl))) (mix_eq h (by have := List.mem_range.mp hi; omega) (by decide))) rfl (dEq_int _ _), fun _ => rfl⟩
  refine cLc_of (cIter1_of (d := nD g) rfl (dRange1_nat (by omega))) e ?_
  have := List.length_filter_le (fun i => decide (((mixOf ds (k + 9 + i) 2 : Nat) : Int) = 0)) (List.range g)
  rw [List.length_range] at this
  rw [List.length_map]
  show (toldOf ds k g).length ≤ sizeLine
  have e2 : (toldOf ds k g).length ≤ g := this
  unfold sizeLine; omega
theorem told_few : (toldOf ds k g).length ≤ g := by
  have := List.length_filter_le (fun i => decide (((mixOf ds (k + 9 + i) 2 : Nat) : Int) = 0)) (List.range g)
  simpa [toldOf] using this
theorem sg_low : ∀ x ∈ sgOf ds k g, x < 9 := fun x hx => by
  obtain ⟨i, _, rfl⟩ := List.mem_map.mp hx
  exact mix_lt _ _ (by decide)
include h hk hg in
theorem drawn_of {t : List Int} {xs : List D} {m : Nat} {ρ2 : En} (hm : m < 100) (hx : xs.length = m) (es : f_l_subsets [nD g] = .ok (.list xs))
    (e1 : loopL (gN 8) dw_b ((List.range m).map nD) (dwR ds (sgOf ds k g) (toldOf ds k g) [] (.list xs) k g (mixOf ds (k + 7) 6) none none none none) = .nx ρ2) (e2 : dw_last (disown ρ2) = .ok (tD t)) : f_l_drawn [.list (ds.map nD), nD k, nD g] = .ok (tD t) := by
  unfold f_l_drawn g_l_drawn
  refine runF_of rfl ?_
  have q5 : cCallF f_l_mix (cCons (cVar 0) (cCons (cBin dAdd (cVar 1) (cK (.int 7))) (cCons (cK (.int 6)) cNil))) [some (.v (.list (ds.map nD))), some (.v (nD k)), some (.v (nD g)), some (.v (.list xs)), some (.v (.list ((sgOf ds k g).map nD))), none, none, none, none, none, none, none, none, none] = .ok (nD (mixOf ds (k + 7) 6)) :=
    cCallF_of (ds := [.list (ds.map nD), nD (k + 7), nD 6]) (cCons_of rfl (cCons_of (cBin_of (a := nD k) (b := nD 7) rfl rfl (add_nat _ _)) (cCons_of rfl rfl))) (mix_eq h (by omega) (by decide))
  have q8 : cIter dRange1 (cCons (cCall dLen (cCons (cVarB 3) cNil)) cNil) (dwR ds (sgOf ds k g) (toldOf ds k g) [] (.list xs) k g (mixOf ds (k + 7) 6) none none none none) = .ok ((List.range m).map nD) :=
    cIter1_of (d := nD m) (cCall1_of (d := .list xs) rfl (by rw [dLen_list, hx])) (dRange1_nat (by omega))
  have e9 := sSeq_nx (ρ := enter 14 3 [.list (ds.map nD), nD k, nD g]) (g2 := sSeq _ _) (sSet_of (i := 3) (cCallF1_of (F := f_l_subsets) (f := cVar 2) (d := nD g) rfl es)) (sSeq_nx (sSet_of (i := 4) (dw_single h hk hg _)) (sSeq_nx (sSet_of (i := 5) q5) (sSeq_nx (sSet_of (i := 6) (dw_told h hk hg _ _ _)) (sSeq_nx (sSetN_of (i := 7) (t := true) (f := cK (.dict [])) (d := .dict []) rfl) (sSeq_nx (g2 := sRet dw_last) (sFor_of q8 e1) rfl)))))
  exact (congrArg SR.out e9).trans (sRet_of e2)
include h hk in
theorem drawn_eq (hg : 1 ≤ g ∧ g ≤ 4) : ∃ t, TblOk (2 ^ g) t ∧ (∀ p, p < 2 ^ g → C.at_ t p ≤ 1000) ∧ f_l_drawn [.list (ds.map nD), nD k, nD g] = .ok (tD t) := by
  have hg9 : g < 10 := by omega
  have ht := told_few (ds := ds) (k := k) (g := g)
  have hs : (sgOf ds k g).length = g := by simp [sgOf]
  have h16 : 2 ^ g ≤ 16 := by
    obtain rfl | rfl | rfl | rfl : g = 1 ∨ g = 2 ∨ g = 3 ∨ g = 4 := by omega
    all_goals decide
  obtain ⟨T, p, y, z, u, hT, hG, e⟩ := dw_run (kind := mixOf ds (k + 7) 6) h hk hg hs sg_low (show (toldOf ds k g).length < 1000 by omega) (2 ^ g) [] none none none none (by simp) ⟨fun p hp => absurd hp (by simp), fun hp => absurd hp (by simp), fun p hp => absurd hp (by simp)⟩
  rw [List.length_nil, ← List.range_eq_range'] at e
  simp at hT
  exact ⟨T, hG.tbl hg hT, fun p hp => (hG.all p (by omega)).2, drawn_of h hk hg9 (m := 2 ^ g) (by omega) (by rw [List.length_map, List.length_range]) (subs_eq hg) e (last_at _ _ _ _ hg T hT)⟩
end
/-! ### a drawn book -/
theorem lcL_ex {α β : Type} {tgt : TgF} {f : En → R D} {ρ : En} {enc : α → D} {out : β → D} {Q : β → Prop} (ρ' : α → En) : ∀ {xs : List α}, (∀ x ∈ xs, tgt (enc x) ρ = some (ρ' x) ∧ ∃ y, Q y ∧ f (ρ' x) = .ok (out y)) → ∃ ys : List β, ys.length = xs.length ∧ (∀ y ∈ ys, Q y) ∧ lcL tgt cTrue f ρ (xs.map enc) = some (ys.map out)
  | [], _ => ⟨[], rfl, (fun y h => by cases h), rfl⟩
  | x :: xs, h => by
    obtain ⟨h1, y, hy, h2⟩ := h x List.mem_cons_self
    obtain ⟨ys, l, q, e⟩ := lcL_ex (Q := Q) (out := out) ρ' (xs := xs) fun a ha => h a (List.mem_cons_of_mem _ ha)
    refine ⟨y :: ys, by simp [l], fun a ha => ?_, ?_⟩
    · rcases List.mem_cons.mp ha with rfl | ha
      · exact hy
      · exact q a ha
    · rw [List.map_cons]
      unfold lcL
      rw [h1, Option.bind_some, show cTrue (ρ' x) = .ok true from rfl]
      simp only [noX, Option.bind_some]
      simp [h2, noX, e]
end K05

namespace K05
open PySem PySem.Spec PyProof.Rows L2 G
/-- a table drawn by the law -/
structure Drawn (g : Nat) (t : List Int) : Prop where
  tbl : TblOk (2 ^ g) t
  low : ∀ p, p < 2 ^ g → C.at_ t p ≤ 1000
section
variable {ds : List Nat} {g : Nat}
theorem book_eq (h : Draws ds) (hg : 1 ≤ g ∧ g ≤ 4) {first most : Nat} (hf : first < 10000) (hm : 0 < most) (hm2 : most ≤ 10) : ∃ b : List (List Int), b.length = 1 + mixOf ds (first + 400) most ∧ (∀ t ∈ b, Drawn g t) ∧ f_l_book [.list (ds.map nD), nD first, nD most, nD g] = .ok (bD b) := by
  have hx := mix_lt ds (first + 400) hm
  obtain ⟨b, h1, h2, e⟩ := lcL_ex (tgt := gN 4) (f := cCallF f_l_drawn (cCons (cVar 0) (cCons (cBin dAdd (cVar 1) (cBin dMul (cK (.int 50)) (cVarB 4))) (cCons (cVar 3) cNil)))) (ρ := [some (.v (.list (ds.map nD))), some (.v (nD first)), some (.v (nD most)), some (.v (nD g)), none]) (enc := nD) (out := tD) (Q := Drawn g) (fun t => [some (.v (.list (ds.map nD))), some (.v (nD first)), some (.v (nD most)), some (.v (nD g)), some (.v (nD t))]) (xs := List.range (1 + mixOf ds (first + 400) most)) fun t ht => ⟨rfl, by
    have ht := List.mem_range.mp ht
    obtain ⟨T, t1, t2, t3⟩ := drawn_eq (ds := ds) (k := first + 50 * t) (g := g) h (by omega) hg
    exact ⟨T, ⟨t1, t2⟩, cCallF_of (ds := [.list (ds.map nD), nD (first + 50 * t), nD g]) (cCons_of rfl (cCons_of (cBin_of (a := nD first) (b := nD (50 * t)) rfl (cBin_of (a := nD 50) (b := nD t) rfl rfl (mul_nat 50 t (by decide) (Nat.lt_trans (show t < 100 by omega) (by decide)))) (add_nat _ _)) (cCons_of rfl rfl))) t3⟩⟩
  rw [List.length_range] at h1
  refine ⟨b, h1, h2, ?_⟩
  unfold f_l_book g_l_book
  have q : cBin dAdd (cK (.int 1)) (cCallF f_l_mix (cCons (cVar 0) (cCons (cBin dAdd (cVar 1) (cK (.int 400))) (cCons (cVar 2) cNil)))) [some (.v (.list (ds.map nD))), some (.v (nD first)), some (.v (nD most)), some (.v (nD g)), none] = .ok (nD (1 + mixOf ds (first + 400) most)) :=
    cBin_of (a := nD 1) rfl (cCallF_of (ds := [.list (ds.map nD), nD (first + 400), nD most]) (cCons_of rfl (cCons_of (cBin_of (a := nD first) (b := nD 400) rfl rfl (add_nat _ _)) (cCons_of rfl rfl))) (mix_eq h (by omega) hm)) (add_nat _ _)
  exact runF_of rfl (sRet_of (ρ := [some (.v (.list (ds.map nD))), some (.v (nD first)), some (.v (nD most)), some (.v (nD g)), none]) (cLc_of (cIter1_of q (dRange1_nat (by omega))) e (by rw [List.length_map]; unfold sizeLine; omega)))
end
end K05

namespace K05
open PySem PySem.Spec PyProof.Rows L2 G
/-- data whose text can be shown, told by bounds -/
structure Fine (d : D) (dep len : Nat) : Prop where
  lay : d.canLay0 = true
  can : d.showable = true
  dep : d.depth ≤ dep
  len : d.shown.length ≤ len
  ok : PyData.strOk d.shown = true
theorem Fine.mono {d : D} {a b a' b' : Nat} (h : Fine d a b) (h1 : a ≤ a') (h2 : b ≤ b') : Fine d a' b' := ⟨h.lay, h.can, Nat.le_trans h.dep h1, Nat.le_trans h.len h2, h.ok⟩
theorem ok_lit (s : String) : PyData.strOk (Str.ofString s) = true := by
  rw [Str.ofString_eq_toList]
  unfold PyData.strOk
  rw [List.all_toArray, List.all_eq_true]
  intro n hn
  obtain ⟨c, _, rfl⟩ := List.mem_map.mp hn
  exact decide_eq_true (by
    have := c.valid
    unfold UInt32.isValidChar Nat.isValidChar at this
    show c.val.toNat < _
    omega)
theorem ok_app {x y : Str} (hx : PyData.strOk x = true) (hy : PyData.strOk y = true) : PyData.strOk (x ++ y) = true := by
  show (x.cps ++ y.cps).all _ = true
  rw [Array.all_append]
  unfold PyData.strOk at hx hy
  rw [hx, hy]
  rfl
theorem ok_from : ∀ (ts : List Str) (k : Nat) (acc : Str), PyData.strOk acc = true → (∀ t ∈ ts, PyData.strOk t = true) → PyData.strOk (textFrom k acc ts) = true
  | [], _, _, h, _ => h
  | t :: r, k, acc, h, ht => by
    unfold textFrom
    refine ok_from r _ _ (ok_app (ok_app h ?_) (ht t List.mem_cons_self)) fun a ha => ht a (List.mem_cons_of_mem _ ha)
    exact ok_lit _
theorem ok_list {ts : List Str} (h : ∀ t ∈ ts, PyData.strOk t = true) : PyData.strOk (listText ts) = true := ok_app (ok_from _ _ _ (ok_lit _) h) (ok_lit _)
theorem ok_join : ∀ {ts : List Str}, (∀ t ∈ ts, PyData.strOk t = true) → PyData.strOk (Str.join ", " ts) = true
  | [], _ => by simp [Str.join, Str.empty, PyData.strOk]
  | [x], h => h x List.mem_cons_self
  | x :: y :: r, h => ok_app (ok_app (h x List.mem_cons_self) (ok_lit _)) (ok_join fun a ha => h a (List.mem_cons_of_mem _ ha))
theorem ok_tup {ts : List Str} (h : ∀ t ∈ ts, PyData.strOk t = true) : PyData.strOk (tupleText ts) = true := ok_app (ok_app (ok_lit _) (ok_join h)) (ok_lit _)
theorem piled_few {b : Nat} : ∀ {ts : List Str}, (∀ t ∈ ts, t.length ≤ b) → piled ts ≤ ts.length * (b + 2)
  | [], _ => by rw [piled_nil]; omega
  | t :: r, h => by
    have h1 := h t List.mem_cons_self
    have h2 := piled_few (ts := r) fun a ha => h a (List.mem_cons_of_mem _ ha)
    rw [piled_cons, List.length_cons, Nat.succ_mul]
    omega
theorem list_len (ts : List Str) : (listText ts).length ≤ 2 + piled ts := by
  unfold listText
  have e1 : (Str.ofString "]").length = 1 := by rfl
  have e2 : (Str.ofString "[").length = 1 := by rfl
  cases ts with
  | nil => show (Str.ofString "[" ++ Str.ofString "]").length ≤ _; rw [strLen_append]; omega
  | cons t r =>
    rw [strLen_append]
    show (textFrom 1 (Str.ofString "[" ++ Str.ofString "" ++ t) r).length + _ ≤ _
    rw [textFrom_length_pos _ _ _ (by decide), strLen_append, strLen_append, piled_cons]
    have e3 : (Str.ofString "").length = 0 := by rfl
    omega
theorem tup_len (ts : List Str) : (tupleText ts).length ≤ 3 + piled ts := by
  unfold tupleText
  rw [strLen_append, strLen_append]
  have e1 : (Str.ofString "(").length = 1 := by rfl
  have e2 : (Str.ofString (if (ts.length == 1) = true then ",)" else ")")).length ≤ 2 := by split <;> decide
  by_cases h : ts = []
  · subst h
    have e3 : (Str.join ", " ([] : List Str)).length = 0 := by rfl
    omega
  · have := join_length_add ts h
    omega
theorem shown_mem {xs : List D} {t : Str} (h : t ∈ PyData.shownAll xs) : ∃ x ∈ xs, t = x.shown := by
  induction xs with
  | nil => simp [PyData.shownAll] at h
  | cons x r ih =>
    rw [PyData.shownAll] at h
    rcases List.mem_cons.mp h with h | h
    · exact ⟨x, List.mem_cons_self, h⟩
    · obtain ⟨y, hy, e⟩ := ih h
      exact ⟨y, List.mem_cons_of_mem _ hy, e⟩
theorem shown_all_len (xs : List D) : (PyData.shownAll xs).length = xs.length := by
  induction xs with
  | nil => simp [PyData.shownAll]
  | cons x r ih => simp [PyData.shownAll, ih]
theorem all_fine {xs : List D} {dep len : Nat} (h : ∀ x ∈ xs, Fine x dep len) : PyData.canLayAll0 xs = true ∧ PyData.showableAll xs = true ∧ PyData.depthAll xs ≤ dep := by
  induction xs with
  | nil => simp [PyData.canLayAll0, PyData.showableAll, PyData.depthAll]
  | cons x r ih =>
    obtain ⟨h1, h2, h3⟩ := ih fun a ha => h a (List.mem_cons_of_mem _ ha)
    obtain ⟨a1, a2, a3, _, _⟩ := h x List.mem_cons_self
    simp only [PyData.canLayAll0, PyData.showableAll, PyData.depthAll, a1, a2, h1, h2, Bool.and_self, true_and]
    omega
theorem fine_list {xs : List D} {dep len m : Nat} (h : ∀ x ∈ xs, Fine x dep len) (hm : xs.length ≤ m) : Fine (.list xs) (dep + 1) (2 + m * (len + 2)) := by
  obtain ⟨h1, h2, h3⟩ := all_fine h
  refine ⟨by simpa [PyData.canLay0] using h1, by simpa [PyData.showable] using h2, by rw [PyData.depth]; omega, ?_, ?_⟩
  · rw [PyData.shown]
    have e1 := list_len (PyData.shownAll xs)
    have e2 := piled_few (ts := PyData.shownAll xs) (b := len) fun t ht => by obtain ⟨x, hx, rfl⟩ := shown_mem ht; exact (h x hx).len
    rw [shown_all_len] at e2
    have e3 := Nat.mul_le_mul_right (len + 2) hm
    omega
  · rw [PyData.shown]
    exact ok_list fun t ht => by obtain ⟨x, hx, rfl⟩ := shown_mem ht; exact (h x hx).ok
theorem fine_tup {xs : List D} {dep len m : Nat} (h : ∀ x ∈ xs, Fine x dep len) (hm : xs.length ≤ m) : Fine (.tuple xs) (dep + 1) (3 + m * (len + 2)) := by
  obtain ⟨h1, h2, h3⟩ := all_fine h
  refine ⟨by simpa [PyData.canLay0] using h1, by simpa [PyData.showable] using h2, by rw [PyData.depth]; omega, ?_, ?_⟩
  · rw [PyData.shown]
    have e1 := tup_len (PyData.shownAll xs)
    have e2 := piled_few (ts := PyData.shownAll xs) (b := len) fun t ht => by obtain ⟨x, hx, rfl⟩ := shown_mem ht; exact (h x hx).len
    rw [shown_all_len] at e2
    have e3 := Nat.mul_le_mul_right (len + 2) hm
    omega
  · rw [PyData.shown]
    exact ok_tup fun t ht => by obtain ⟨x, hx, rfl⟩ := shown_mem ht; exact (h x hx).ok
theorem fine_int {i : Int} (h : i.natAbs.log2 < 1920) : Fine (.int i) 0 1921 := by
  refine ⟨by simp [PyData.canLay0], by simp [PyData.showable, h], by simp [PyData.depth], ?_, ?_⟩
  · rw [PyData.shown]
    exact PyProof.Rows.int_text_len_1921 h
  · rw [PyData.shown]
    exact ok_lit _
theorem fine_big {i : Int} (h : Big i) : Fine (.int i) 0 1921 := fine_int (by have := h.log; omega)
theorem fine_none : Fine .none 0 1921 := ⟨by simp [PyData.canLay0], by simp [PyData.showable], by simp [PyData.depth], by rw [PyData.shown]; decide, by rw [PyData.shown]; exact ok_lit _⟩
theorem Fine.repr {d : D} {dep len : Nat} (h : Fine d dep len) (h1 : dep ≤ 60) (h2 : len ≤ 16777216) : dRepr d = some (.str d.shown) := by
  unfold dRepr
  rw [if_pos ⟨PyData.hasDict_of_canLay d h.lay, h.can, Nat.le_trans h.dep h1, Nat.le_trans h.len (by unfold sizeLine; omega)⟩]
theorem ne_self {d : D} (h1 : d.canLay0 = true) (h2 : d.depth ≤ 64) : dNe d d = some (.bool false) := by
  have hs : SeqAt.shaped d = true := by unfold SeqAt.shaped; rw [h1, decide_eq_true h2]; rfl
  unfold dNe
  rw [if_pos ⟨hs, hs⟩, SeqAt.eqv_refl d h1]
  rfl
theorem eq_self {d : D} (h1 : d.canLay0 = true) (h2 : d.depth ≤ 64) : dEq d d = some (.bool true) := by
  have hs : SeqAt.shaped d = true := by unfold SeqAt.shaped; rw [h1, decide_eq_true h2]; rfl
  unfold dEq
  rw [if_pos ⟨hs, hs⟩, SeqAt.eqv_refl d h1]
theorem Fine.text {d : D} {dep len : Nat} (h : Fine d dep len) : PyData.canLay0 (.str d.shown) = true ∧ PyData.depth (.str d.shown) ≤ 64 := ⟨by rw [PyData.canLay0]; exact h.ok, by simp [PyData.depth]⟩
end K05

namespace K05
open PySem PySem.Spec PyProof.Rows L2 G
theorem loopL_or {α β : Type} {P : Option β → En → Prop} {tgt : TgF} {body : En → SR} {enc : α → D} {hit : α → Option β} : ∀ {xs : List α} {st : Option β} {ρ : En}, (∀ x ∈ xs, ∀ st ρ, P st ρ → ∃ ρ1 ρ2, tgt (enc x) ρ = some ρ1 ∧ body ρ1 = .nx ρ2 ∧ P (st.or (hit x)) ρ2) → P st ρ →
    ∃ ρ2, loopL tgt body (xs.map enc) ρ = .nx ρ2 ∧ P (st.or (xs.findSome? hit)) ρ2
  | [], st, ρ, _, h => ⟨ρ, rfl, by simpa using h⟩
  | x :: xs, st, ρ, hx, h => by
    obtain ⟨ρ1, ρ2, e1, e2, h2⟩ := hx x List.mem_cons_self st ρ h
    obtain ⟨ρ3, e3, h3⟩ := loopL_or (P := P) (hit := hit) (xs := xs) (fun a ha => hx a (List.mem_cons_of_mem _ ha)) h2
    refine ⟨ρ3, loopL_nx e1 e2 e3, ?_⟩
    have : (st.or (hit x)).or (xs.findSome? hit) = st.or ((x :: xs).findSome? hit) := by
      rw [List.findSome?_cons]
      cases st <;> cases hit x <;> simp
    rw [← this]
    exact h3
end K05

namespace K05
open PySem PySem.Spec PyProof.Rows L2 G
section
theorem sFrz_of {i : Nat} {b : En → SR} {ρ : En} {r : SR} (hb : b (frz i ρ) = r) : sFrz i b ρ = r := hb
end
end K05

namespace K05
open PySem PySem.Spec PyProof.Rows L2 G
theorem cAnd_f {p q : En → R Bool} {ρ : En} (h1 : p ρ = .ok false) : cAnd p q ρ = .ok false := by
  simp only [cAnd, h1, R.bind]
  rfl
theorem cAnd_t {p q : En → R Bool} {ρ : En} {b : Bool} (h1 : p ρ = .ok true) (h2 : q ρ = .ok b) : cAnd p q ρ = .ok b := by
  simp only [cAnd, h1, R.bind, h2]
  rfl
section
theorem ne_text {f1 f2 : En → R D} {ρ : En} {d : D} {a b : Nat} (hf : Fine d a b) (h1 : a ≤ 60) (h2 : b ≤ 16777216) (e1 : f1 ρ = .ok d) (e2 : f2 ρ = .ok d) : cBinT dNe (cUn dRepr f1) (cUn dRepr f2) ρ = .ok false :=
  cBinT_of (cUn_of e1 (hf.repr h1 h2)) (cUn_of e2 (hf.repr h1 h2)) (ne_self hf.text.1 hf.text.2)
end
end K05

namespace K05
open PySem PySem.Spec PyProof.Rows L2 G
section
end
theorem cCallS_of {i : Nat} {F : List Int → R D} {ρ : En} {ns : List Int} {r : R D} (h : ρ[i]? = some (some (.sc ns))) (h2 : F ns = r) : cCallS i F ρ = r := by
  unfold cCallS
  rw [h]
  exact h2
end K05

namespace K05
open PySem PySem.Spec PyProof.Rows L2 G
/-! ### no lie pays under 'fair' -/
theorem sumOf_set : ∀ (b : List (List Int)) (s : List Nat) (k : Nat) (t : List Int), s.length = b.length → k < b.length → C.sumOf (b.set k t) s = C.sumOf b s - C.at_ (b.getD k []) (s.getD k 0) + C.at_ t (s.getD k 0)
  | [], s, k, t, _, hk => absurd hk (by simp)
  | a :: b, [], k, t, h, _ => by simp at h
  | a :: b, p :: s, 0, t, h, _ => by simp [C.sumOf]; omega
  | a :: b, p :: s, k + 1, t, h, hk => by
    have ih := sumOf_set b s k t (by simpa using h) (by simpa using hk)
    simp only [List.set_cons_succ, C.sumOf, List.getD_cons_succ]
    rw [ih]
    omega
theorem others_set (b : List (List Int)) (k : Nat) (t : List Int) : others (b.set k t) k = others b k := by
  unfold others
  rw [List.take_set_of_le (Nat.le_refl k), List.drop_set_of_lt (by omega)]
theorem no_gain (n : Nat) (b : List (List Int)) (truth told : List Int) (k : Nat) (hk : k < b.length) : gain n (b.set k told) truth k .fair ≤ gain n (b.set k truth) truth k .fair := by
  obtain ⟨p1, p2⟩ := C.pick_in (b.set k told) (n - 1)
  obtain ⟨q1, q2⟩ := C.pick_in (b.set k truth) (n - 1)
  rw [List.length_set] at p1 q1
  have l1 := (seqs_len _ _ _ p1).1
  have l2 := (seqs_len _ _ _ q1).1
  have g1 : (b.set k told).getD k [] = told := by simp [List.getD_eq_getElem?_getD, hk]
  have g2 : (b.set k truth).getD k [] = truth := by simp [List.getD_eq_getElem?_getD, hk]
  have s1 := sumOf_set b (C.pick (b.set k told) (n - 1)) k told l1 hk
  have s2 := sumOf_set b (C.pick (b.set k told) (n - 1)) k truth l1 hk
  have m := C.sum_le (b.set k truth) (n - 1) (C.pick (b.set k told) (n - 1)) (by rw [List.length_set]; exact p1)
  unfold gain
  simp only [pay, own, others_set, g1, g2]
  omega
end K05

namespace P5
/-! ### walks with costs -/
section
variable (u : Nat → Nat → Int)
/-- the sum along a walk -/
def pth : List Nat → Int
  | [] => 0
  | [_] => 0
  | a :: b :: r => u a b + pth (b :: r)
theorem pth_join (m : Nat) (b : List Nat) : ∀ a : List Nat, pth u (a ++ m :: b) = pth u (a ++ [m]) + pth u (m :: b)
  | [] => by simp [pth]
  | [x] => by simp [pth]
  | x :: y :: r => by
    have := pth_join m b (y :: r)
    simp only [List.cons_append, pth] at this ⊢
    omega
/-- no round of unlike numbers below n costs less than nothing -/
def Fair (n : Nat) : Prop := ∀ a q, (a :: q).Nodup → (∀ x ∈ a :: q, x < n) → 0 ≤ pth u (a :: q ++ [a])
/-- a walk as short, of unlike numbers -/
theorem simple {n : Nat} (hf : Fair u n) : ∀ (p : List Nat), p ≠ [] → (∀ x ∈ p, x < n) → ∃ q : List Nat, q ≠ [] ∧ q.head? = p.head? ∧ q.getLast? = p.getLast? ∧ q.Nodup ∧ (∀ x ∈ q, x < n) ∧ pth u q ≤ pth u p
  | [], h, _ => absurd rfl h
  | [a], _, hl => ⟨[a], by simp, rfl, rfl, by simp, hl, Int.le_refl _⟩
  | a :: b :: r, _, hl => by
    obtain ⟨q, h1, h2, h3, h4, h5, h6⟩ := simple hf (b :: r) (by simp) fun x hx => hl x (List.mem_cons_of_mem _ hx)
    have hlast : (a :: b :: r).getLast? = (b :: r).getLast? := by simp [List.getLast?_cons_cons]
    cases q with
    | nil => exact absurd rfl h1
    | cons c q =>
      have hc : c = b := by simpa using h2
      subst hc
      by_cases ha : a ∈ c :: q
      · obtain ⟨q1, q2, e⟩ := List.append_of_mem ha
        have hnd : (q1 ++ a :: q2).Nodup := by rw [← e]; exact h4
        have hin : ∀ x ∈ q1 ++ a :: q2, x < n := by rw [← e]; exact h5
        refine ⟨a :: q2, by simp, rfl, ?_, ?_, fun x hx => hin x (List.mem_append_right _ hx), ?_⟩
        · rw [hlast, ← h3, e]
          simp [List.getLast?_append]
          cases q2 <;> simp [List.getLast?_cons]
        · exact (List.nodup_append.mp hnd).2.1
        · have hcy : 0 ≤ pth u (a :: q1 ++ [a]) := by
            refine hf a q1 ?_ fun x hx => ?_
            · have h7 := List.nodup_append.mp hnd
              rw [List.nodup_cons]
              exact ⟨fun z => h7.2.2 a z a List.mem_cons_self rfl, h7.1⟩
            · rcases List.mem_cons.mp hx with rfl | hx
              · exact hl x List.mem_cons_self
              · exact hin x (List.mem_append_left _ hx)
          have e1 : pth u (a :: c :: q) = pth u (a :: q1 ++ [a]) + pth u (a :: q2) := by
            rw [e]
            exact pth_join u a q2 (a :: q1)
          have e2 : pth u (a :: c :: q) = u a c + pth u (c :: q) := rfl
          have e3 : pth u (a :: c :: r) = u a c + pth u (c :: r) := rfl
          omega
      · refine ⟨a :: c :: q, by simp, rfl, ?_, List.nodup_cons.mpr ⟨ha, h4⟩, fun x hx => ?_, ?_⟩
        · rw [hlast, ← h3]; simp [List.getLast?_cons_cons]
        · rcases List.mem_cons.mp hx with rfl | hx
          · exact hl x List.mem_cons_self
          · exact h5 x hx
        · show u a c + pth u (c :: q) ≤ u a c + pth u (c :: r)
          omega
/-! ### pulling down -/
/-- one number pulled down: two by way of one -/
def pull (one two : Nat) (F : List Int) : List Int := F.set two (min (F.getD two 0) (F.getD one 0 + u two one))
def pullAll (n one : Nat) (F : List Int) : List Int := (List.range n).foldl (fun F two => pull u one two F) F
def turn (n : Nat) (F : List Int) : List Int := (List.range n).foldl (fun F one => pullAll u n one F) F
def start (n : Nat) : List Int := (List.range n).map fun k => u k 0
def bf (n : Nat) : List Int := (List.range n).foldl (fun F _ => turn u n F) (start u n)
/-- each number is what some walk to 0 costs -/
def Real (n : Nat) (F : List Int) : Prop := F.length = n ∧ ∀ k, k < n → ∃ q : List Nat, (k :: q).getLast? = some 0 ∧ q ≠ [] ∧ (∀ x ∈ k :: q, x < n) ∧ F.getD k 0 = pth u (k :: q)
theorem getD_set {F : List Int} {i j : Nat} {v : Int} (hi : i < F.length) : (F.set i v).getD j 0 = if j = i then v else F.getD j 0 := by
  simp only [List.getD_eq_getElem?_getD, List.getElem?_set]
  by_cases h : i = j
  · subst h; simp [hi]
  · have : ¬ j = i := fun z => h z.symm
    simp [h, this]
theorem pull_real {n one two : Nat} {F : List Int} (h : Real u n F) (h1 : one < n) (h2 : two < n) : Real u n (pull u one two F) := by
  refine ⟨by rw [pull, List.length_set]; exact h.1, fun k hk => ?_⟩
  unfold pull
  rw [getD_set (by rw [h.1]; exact h2)]
  by_cases hkt : k = two
  · subst hkt
    rw [if_pos rfl]
    obtain ⟨q, a1, a2, a3, a4⟩ := h.2 k hk
    obtain ⟨q', b1, b2, b3, b4⟩ := h.2 one h1
    by_cases hm : F.getD k 0 ≤ F.getD one 0 + u k one
    · rw [Int.min_eq_left hm]
      exact ⟨q, a1, a2, a3, a4⟩
    · rw [Int.min_eq_right (by omega)]
      refine ⟨one :: q', by rw [List.getLast?_cons_cons]; exact b1, by simp, fun x hx => ?_, ?_⟩
      · rcases List.mem_cons.mp hx with rfl | hx
        · exact hk
        · exact b3 x hx
      · rw [b4]
        show _ = u k one + pth u (one :: q')
        omega
  · rw [if_neg hkt]
    exact h.2 k hk
/-- nothing goes up -/
def Down (F F' : List Int) : Prop := F'.length = F.length ∧ ∀ k, F'.getD k 0 ≤ F.getD k 0
theorem Down.refl (F : List Int) : Down F F := ⟨rfl, fun _ => Int.le_refl _⟩
theorem Down.trans {F G H : List Int} (h : Down F G) (h' : Down G H) : Down F H := ⟨h'.1.trans h.1, fun k => Int.le_trans (h'.2 k) (h.2 k)⟩
theorem pull_down {one two : Nat} {F : List Int} (h2 : two < F.length) : Down F (pull u one two F) := by
  refine ⟨by rw [pull, List.length_set], fun k => ?_⟩
  unfold pull
  rw [getD_set h2]
  split
  · rename_i e; subst e; exact Int.min_le_left _ _
  · exact Int.le_refl _
theorem fold_down {α : Type} {f : List Int → α → List Int} {n : Nat} : ∀ {l : List α} {F : List Int}, (∀ x ∈ l, ∀ F : List Int, F.length = n → Down F (f F x)) → F.length = n → Down F (l.foldl f F)
  | [], F, _, _ => Down.refl F
  | x :: l, F, h, hl => (h x List.mem_cons_self F hl).trans (fold_down (l := l) (fun y hy => h y (List.mem_cons_of_mem _ hy)) (by rw [(h x List.mem_cons_self F hl).1]; exact hl))
theorem fold_real {α : Type} {f : List Int → α → List Int} {n : Nat} : ∀ {l : List α} {F : List Int}, (∀ x ∈ l, ∀ F : List Int, Real u n F → Real u n (f F x)) → Real u n F → Real u n (l.foldl f F)
  | [], F, _, h => h
  | x :: l, F, h, hr => fold_real (l := l) (fun y hy => h y (List.mem_cons_of_mem _ hy)) (h x List.mem_cons_self F hr)
theorem pullAll_real {n one : Nat} {F : List Int} (h : Real u n F) (h1 : one < n) : Real u n (pullAll u n one F) := fold_real u (fun x hx F hF => pull_real u hF h1 (List.mem_range.mp hx)) h
theorem turn_real {n : Nat} {F : List Int} (h : Real u n F) : Real u n (turn u n F) := fold_real u (fun x hx F hF => pullAll_real u hF (List.mem_range.mp hx)) h
theorem start_real {n : Nat} : Real u n (start u n) := by
  refine ⟨by simp [start], fun k hk => ⟨[0], by simp, by simp, fun x hx => ?_, ?_⟩⟩
  · rcases List.mem_cons.mp hx with rfl | hx
    · exact hk
    · simp at hx; omega
  · simp [start, pth, List.getD_eq_getElem?_getD, hk]
theorem bf_real {n : Nat} : Real u n (bf u n) := fold_real u (fun _ _ F hF => turn_real u hF) (start_real u)
theorem pullAll_down {n one : Nat} {F : List Int} (hF : F.length = n) : Down F (pullAll u n one F) := fold_down (n := n) (fun x hx F hF => pull_down u (by rw [hF]; exact List.mem_range.mp hx)) hF
theorem turn_down {n : Nat} {F : List Int} (hF : F.length = n) : Down F (turn u n F) := fold_down (n := n) (fun x hx F hF => pullAll_down u hF) hF
/-- after all are pulled by way of one -/
theorem fold_hits {α : Type} {f : List Int → α → List Int} {n : Nat} {P : List Int → Prop} {x : α} : ∀ {l : List α} {F : List Int}, (∀ x ∈ l, ∀ F : List Int, F.length = n → Down F (f F x)) → (∀ F F' : List Int, Down F F' → P F → P F') → x ∈ l → (∀ F0, Down F F0 → F0.length = n → P (f F0 x)) → F.length = n → P (l.foldl f F)
  | y :: l, F, hd, hm, hx, hp, hl => by
    have hd1 := hd y List.mem_cons_self F hl
    have hl1 : (f F y).length = n := hd1.1.trans hl
    have hd2 := fold_down (f := f) (n := n) (l := l) (F := f F y) (fun z hz => hd z (List.mem_cons_of_mem _ hz)) hl1
    rcases List.mem_cons.mp hx with rfl | hx
    · exact hm _ _ hd2 (hp F (Down.refl F) hl)
    · exact fold_hits (P := P) (x := x) (l := l) (fun z hz => hd z (List.mem_cons_of_mem _ hz)) hm hx (fun F0 h0 h1 => hp F0 (hd1.trans h0) h1) hl1
theorem turn_hits {n one two : Nat} {F : List Int} (hF : F.length = n) (h1 : one < n) (h2 : two < n) : (turn u n F).getD two 0 ≤ F.getD one 0 + u two one := by
  refine fold_hits (n := n) (P := fun G => G.getD two 0 ≤ F.getD one 0 + u two one) (x := one) (fun x hx F hF => pullAll_down u hF) (fun G G' hd h => Int.le_trans (hd.2 two) h) (List.mem_range.mpr h1) (fun F0 hd0 hl0 => ?_) hF
  refine fold_hits (n := n) (P := fun G => G.getD two 0 ≤ F.getD one 0 + u two one) (x := two) (fun x hx F hF => pull_down u (by rw [hF]; exact List.mem_range.mp hx)) (fun G G' hd h => Int.le_trans (hd.2 two) h) (List.mem_range.mpr h2) (fun F1 hd1 hl1 => ?_) hl0
  show (pull u one two F1).getD two 0 ≤ _
  unfold pull
  rw [getD_set (by omega), if_pos rfl]
  have e1 := hd1.2 one
  have e2 := hd0.2 one
  have e3 := Int.min_le_right (F1.getD two 0) (F1.getD one 0 + u two one)
  omega
/-- walks of few steps are no cheaper -/
def Upto (n t : Nat) (F : List Int) : Prop := ∀ k q, (k :: q).getLast? = some 0 → q ≠ [] → q.length ≤ t → (∀ x ∈ k :: q, x < n) → F.getD k 0 ≤ pth u (k :: q)
theorem start_upto {n : Nat} : Upto u n 1 (start u n) := fun k q h1 h2 h3 h4 => by
  match q, h1, h2, h3, h4 with
  | [], _, h2, _, _ => exact absurd rfl h2
  | [y], h1, _, _, h4 =>
    have hk : k < n := h4 k List.mem_cons_self
    have hy : y = 0 := by simpa using h1
    subst hy
    simp [start, pth, List.getD_eq_getElem?_getD, hk]
  | y :: z :: r, _, _, h3, _ => simp at h3
theorem turn_upto {n t : Nat} {F : List Int} (hF : F.length = n) (h : Upto u n t F) (ht : 1 ≤ t) : Upto u n (t + 1) (turn u n F) := fun k q h1 h2 h3 h4 => by
  match q, h1, h2, h3, h4 with
  | [], _, h2, _, _ => exact absurd rfl h2
  | [y], h1, h2, h3, h4 => exact Int.le_trans ((turn_down u hF).2 k) (h k [y] h1 h2 (by simpa using ht) h4)
  | y :: z :: r, h1, h2, h3, h4 =>
    have hk : k < n := h4 k List.mem_cons_self
    have hy : y < n := h4 y (List.mem_cons_of_mem _ List.mem_cons_self)
    have e1 := turn_hits u hF hy hk
    have e2 := h y (z :: r) (by rw [List.getLast?_cons_cons] at h1; exact h1) (by simp) (by simpa using h3) fun x hx => h4 x (List.mem_cons_of_mem _ hx)
    have e3 : pth u (k :: y :: z :: r) = u k y + pth u (y :: z :: r) := rfl
    omega
theorem bf_upto {n : Nat} : Upto u n (n + 1) (bf u n) := by
  have : ∀ m (F : List Int) (t : Nat), F.length = n → Upto u n t F → 1 ≤ t → Upto u n (t + m) ((List.range m).foldl (fun F _ => turn u n F) F) ∧ ((List.range m).foldl (fun F _ => turn u n F) F).length = n := by
    intro m
    induction m with
    | zero => intro F t hF h _; exact ⟨h, hF⟩
    | succ m ih =>
      intro F t hF h ht
      obtain ⟨i1, i2⟩ := ih F t hF h ht
      rw [List.range_succ, List.foldl_append]
      exact ⟨turn_upto u i2 i1 (Nat.le_trans ht (Nat.le_add_right _ _)), (turn_down u i2).1.trans i2⟩
  have := (this n (start u n) 1 (by simp [start]) (start_upto u) (by decide)).1
  rw [Nat.add_comm] at this
  exact this
theorem bf_len {n : Nat} : (bf u n).length = n := (bf_real u).1
/-- the numbers keep all -/
def Keeps (n : Nat) (P : List Int) : Prop := ∀ i, i < n → ∀ j, j < n → P.getD i 0 ≤ P.getD j 0 + u i j
theorem keeps_pth {n : Nat} {P : List Int} (h : Keeps u n P) : ∀ (q : List Nat) (k l : Nat), (∀ x ∈ k :: q, x < n) → (k :: q).getLast? = some l → P.getD k 0 ≤ P.getD l 0 + pth u (k :: q)
  | [], k, l, _, e => by
    have : k = l := by simpa using e
    subst this
    simp [pth]
  | y :: r, k, l, hl, e => by
    have ih := keeps_pth h r y l (fun x hx => hl x (List.mem_cons_of_mem _ hx)) (by rw [List.getLast?_cons_cons] at e; exact e)
    have h1 := h k (hl k List.mem_cons_self) y (hl y (List.mem_cons_of_mem _ List.mem_cons_self))
    have : pth u (k :: y :: r) = u k y + pth u (y :: r) := rfl
    omega
/-- numbers that keep all leave no round -/
theorem keeps_fair {n : Nat} {P : List Int} (h : Keeps u n P) : Fair u n := fun a q hn hl => by
  have := keeps_pth u h (q ++ [a]) a a (fun x hx => by
    rcases List.mem_cons.mp hx with rfl | hx
    · exact hl x List.mem_cons_self
    · rcases List.mem_append.mp hx with hx | hx
      · exact hl x (List.mem_cons_of_mem _ hx)
      · simp at hx; subst hx; exact hl x List.mem_cons_self) (by simp [List.getLast?_cons, List.getLast?_append])
  show 0 ≤ pth u (a :: (q ++ [a]))
  omega
theorem nodup_few {n : Nat} {q : List Nat} (hn : q.Nodup) (hl : ∀ x ∈ q, x < n) : q.length ≤ n := by
  have := List.Nodup.length_le_of_subset hn (l₂ := List.range n) fun x hx => List.mem_range.mpr (hl x hx)
  simpa using this
section
variable {n : Nat} (hf : Fair u n) (h0 : u 0 0 = 0) (hn : 0 < n)
include hf hn in
/-- what is found is what some walk of unlike numbers costs, or nothing at 0 -/
theorem bf_simple (k : Nat) (hk : k < n) : ∃ q : List Nat, (k :: q).getLast? = some 0 ∧ (k :: q).Nodup ∧ (∀ x ∈ k :: q, x < n) ∧ pth u (k :: q) ≤ (bf u n).getD k 0 := by
  obtain ⟨p, a1, a2, a3, a4⟩ := (bf_real u (n := n)).2 k hk
  obtain ⟨q, b1, b2, b3, b4, b5, b6⟩ := simple u hf (k :: p) (by simp) a3
  cases q with
  | nil => exact absurd rfl b1
  | cons c q =>
    have : c = k := by simpa using b2
    subst this
    exact ⟨q, b3.trans a1, b4, b5, by rw [a4]; exact b6⟩
include hf h0 hn in
theorem bf_best (k : Nat) (q : List Nat) (h1 : (k :: q).getLast? = some 0) (h2 : (k :: q).Nodup) (h3 : ∀ x ∈ k :: q, x < n) : (bf u n).getD k 0 ≤ pth u (k :: q) := by
  by_cases hq : q = []
  · subst hq
    have : k = 0 := by simpa using h1
    subst this
    have := bf_upto u (n := n) 0 [0] (by simp) (by simp) (by simp) (fun x hx => by simp at hx; omega)
    simp [pth, h0] at this ⊢
    omega
  · have hl := nodup_few h2 h3
    exact bf_upto u k q h1 hq (by simp at hl; omega) h3
include hf h0 hn in
theorem bf_keeps : Keeps u n (bf u n) := fun i hi j hj => by
  obtain ⟨q, a1, a2, a3, a4⟩ := bf_simple u hf hn j hj
  have hl := nodup_few a2 a3
  have := bf_upto u (n := n) i (j :: q) (by rw [List.getLast?_cons_cons]; exact a1) (by simp) (by simp at hl ⊢; omega) fun x hx => by
    rcases List.mem_cons.mp hx with rfl | hx
    · exact hi
    · exact a3 x hx
  have e : pth u (i :: j :: q) = u i j + pth u (j :: q) := rfl
  omega
include hf h0 hn in
theorem bf_zero : (bf u n).getD 0 0 = 0 := by
  have h1 := bf_best u hf h0 hn 0 [] (by simp) (by simp) (fun x hx => by simp at hx; omega)
  obtain ⟨q, a1, a2, a3, a4⟩ := bf_simple u hf hn 0 hn
  have : q = [] := by
    cases q with
    | nil => rfl
    | cons y r =>
      rw [List.getLast?_cons_cons] at a1
      have : 0 ∈ y :: r := List.mem_of_getLast? a1
      exact absurd this (List.nodup_cons.mp a2).1
  subst this
  have e : pth u [0] = 0 := rfl
  rw [e] at h1 a4
  omega
end
end
end P5

namespace P5
/-! ### rows of unlike numbers -/
theorem nodup_rev {r : List Nat} (h : r.Nodup) : r.reverse.Nodup := List.pairwise_reverse.mpr (h.imp fun z y => z y.symm)
def nxt (n : Nat) (rows : List (List Nat)) : List (List Nat) := rows.flatMap fun row => ((List.range n).filter fun k => !row.contains k).map fun k => row ++ [k]
def lvN (n : Nat) : Nat → List (List Nat)
  | 0 => (List.range n).map fun k => [k]
  | t + 1 => nxt n (lvN n t)
def rowsN (n : Nat) : List (List Nat) := (List.range n).flatMap (lvN n)
theorem lv_in {n : Nat} : ∀ (t : Nat) (r : List Nat), r ∈ lvN n t → r.length = t + 1 ∧ r.Nodup ∧ ∀ x ∈ r, x < n
  | 0, r, h => by
    obtain ⟨k, hk, rfl⟩ := List.mem_map.mp h
    exact ⟨rfl, by simp, fun x hx => by simp at hx; subst hx; exact List.mem_range.mp hk⟩
  | t + 1, r, h => by
    obtain ⟨r', h1, h2⟩ := List.mem_flatMap.mp h
    obtain ⟨k, hk, rfl⟩ := List.mem_map.mp h2
    obtain ⟨a1, a2, a3⟩ := lv_in t r' h1
    obtain ⟨b1, b2⟩ := List.mem_filter.mp hk
    have b3 : k ∉ r' := by simpa using b2
    refine ⟨by simp [a1], ?_, fun x hx => ?_⟩
    · rw [List.nodup_append]
      exact ⟨a2, by simp, fun x hx y hy => by simp at hy; subst hy; rintro rfl; exact b3 hx⟩
    · rcases List.mem_append.mp hx with hx | hx
      · exact a3 x hx
      · simp at hx; subst hx; exact List.mem_range.mp b1
theorem lv_all {n : Nat} : ∀ (t : Nat) (r : List Nat), r.length = t + 1 → r.Nodup → (∀ x ∈ r, x < n) → r ∈ lvN n t
  | 0, r, h, _, hl => by
    match r, h, hl with
    | [k], _, hl => exact List.mem_map.mpr ⟨k, List.mem_range.mpr (hl k List.mem_cons_self), rfl⟩
  | t + 1, r, h, hn, hl => by
    have h0 : r ≠ [] := by rintro rfl; simp at h
    have e := List.dropLast_concat_getLast h0
    rw [← e] at hn hl
    rw [← e]
    have h1 := List.nodup_append.mp hn
    refine List.mem_flatMap.mpr ⟨r.dropLast, lv_all t _ (by rw [List.length_dropLast]; omega) h1.1 fun x hx => hl x (List.mem_append_left _ hx), List.mem_map.mpr ⟨r.getLast h0, List.mem_filter.mpr ⟨List.mem_range.mpr (hl _ (List.mem_append_right _ (by simp))), ?_⟩, rfl⟩⟩
    have : r.getLast h0 ∉ r.dropLast := fun z => h1.2.2 _ z _ (by simp) rfl
    simpa using this
theorem rows_in {n : Nat} {r : List Nat} (h : r ∈ rowsN n) : r ≠ [] ∧ r.Nodup ∧ (∀ x ∈ r, x < n) := by
  obtain ⟨t, _, h2⟩ := List.mem_flatMap.mp h
  obtain ⟨a1, a2, a3⟩ := lv_in t r h2
  exact ⟨by rintro rfl; simp at a1, a2, a3⟩
theorem rows_all {n : Nat} {r : List Nat} (h0 : r ≠ []) (hn : r.Nodup) (hl : ∀ x ∈ r, x < n) : r ∈ rowsN n := by
  have h1 := nodup_few hn hl
  have h2 : 0 < r.length := List.length_pos_iff.mpr h0
  exact List.mem_flatMap.mpr ⟨r.length - 1, List.mem_range.mpr (by omega), lv_all _ r (by omega) hn hl⟩
def minN (r : List Nat) : Nat := r.tail.foldl min (r.headD 0)
theorem foldl_minN (a : Nat) (r : List Nat) : (r.foldl min a ∈ a :: r) ∧ ∀ y ∈ a :: r, r.foldl min a ≤ y := by
  induction r generalizing a with
  | nil => exact ⟨by simp, fun y hy => by simp at hy; simp [hy]⟩
  | cons b r ih =>
    obtain ⟨h1, h2⟩ := ih (min a b)
    rw [List.foldl_cons]
    refine ⟨?_, fun y hy => ?_⟩
    · rcases List.mem_cons.mp h1 with z | z
      · rw [z]
        rcases Nat.le_total a b with q | q
        · rw [Nat.min_eq_left q]; simp
        · rw [Nat.min_eq_right q]; simp
      · exact List.mem_cons_of_mem _ (List.mem_cons_of_mem _ z)
    · have h3 := h2 (min a b) List.mem_cons_self
      rcases List.mem_cons.mp hy with z | z
      · subst z; exact Nat.le_trans h3 (Nat.min_le_left _ _)
      · rcases List.mem_cons.mp z with z | z
        · subst z; exact Nat.le_trans h3 (Nat.min_le_right _ _)
        · exact h2 y (List.mem_cons_of_mem _ z)
theorem minN_of {m : Nat} {r : List Nat} (h : ∀ x ∈ r, m ≤ x) : minN (m :: r) = m := by
  obtain ⟨h1, h2⟩ := foldl_minN m r
  show r.foldl min m = m
  rcases List.mem_cons.mp h1 with z | z
  · exact z
  · have := h _ z
    have := h2 m List.mem_cons_self
    omega
def isCand (r : List Nat) : Bool := decide (1 < r.length) && decide (r.headD 0 = minN r)
def cand (n : Nat) : List (List Nat) := (rowsN n).filter isCand
section
variable (l : Nat → Nat → Int)
/-- what a row gains: each by the next one, the last by the first -/
def tot (r : List Nat) : Int := ((List.range r.length).map fun k => l (r.getD k 0) ((r ++ r).getD (k + 1) 0)).sum
abbrev cst : Nat → Nat → Int := fun i j => -l i j
theorem sum_pth : ∀ (r : List Nat), ((List.range (r.length - 1)).map fun k => l (r.getD k 0) (r.getD (k + 1) 0)).sum = -pth (cst l) r
  | [] => rfl
  | [a] => rfl
  | a :: b :: r => by
    have ih := sum_pth (b :: r)
    have e : (a :: b :: r).length - 1 = (b :: r).length - 1 + 1 := by simp
    rw [e, List.range_succ_eq_map, List.map_cons, List.sum_cons, List.map_map]
    have e2 : pth (cst l) (a :: b :: r) = -l a b + pth (cst l) (b :: r) := rfl
    rw [e2]
    have e3 : (List.range ((b :: r).length - 1)).map ((fun k => l ((a :: b :: r).getD k 0) ((a :: b :: r).getD (k + 1) 0)) ∘ Nat.succ) = (List.range ((b :: r).length - 1)).map fun k => l ((b :: r).getD k 0) ((b :: r).getD (k + 1) 0) := by
      refine List.map_congr_left fun k _ => ?_
      simp
    rw [e3, ih]
    simp
    omega
theorem tot_pth (a : Nat) (q : List Nat) : tot l (a :: q) = -pth (cst l) (a :: q ++ [a]) := by
  rw [← sum_pth]
  unfold tot
  have e : (a :: q ++ [a]).length - 1 = (a :: q).length := by simp
  rw [e]
  congr 1
  refine List.map_congr_left fun k hk => ?_
  have hk := List.mem_range.mp hk
  have e1 : (a :: q).getD k 0 = (a :: q ++ [a]).getD k 0 := by
    rw [List.getD_eq_getElem?_getD, List.getD_eq_getElem?_getD, List.getElem?_append_left hk]
  have e2 : (a :: q ++ (a :: q)).getD (k + 1) 0 = (a :: q ++ [a]).getD (k + 1) 0 := by
    rw [List.getD_eq_getElem?_getD, List.getD_eq_getElem?_getD]
    rcases Nat.lt_or_ge (k + 1) (a :: q).length with h | h
    · rw [List.getElem?_append_left h, List.getElem?_append_left h]
    · have : k + 1 = (a :: q).length := by omega
      rw [List.getElem?_append_right h, List.getElem?_append_right h, this]
      simp
  rw [e1, e2]
theorem rot (x : Nat) (c1 : List Nat) (m : Nat) (c2 : List Nat) : pth (cst l) (x :: c1 ++ m :: c2 ++ [x]) = pth (cst l) (m :: c2 ++ x :: c1 ++ [m]) := by
  have e1 := pth_join (cst l) m (c2 ++ [x]) (x :: c1)
  have e2 := pth_join (cst l) x (c1 ++ [m]) (m :: c2)
  simp only [List.cons_append, List.append_assoc] at e1 e2 ⊢
  omega
theorem least_split : ∀ (c : List Nat), c ≠ [] → ∃ c1 m c2, c = c1 ++ m :: c2 ∧ ∀ x ∈ c, m ≤ x
  | [], h => absurd rfl h
  | a :: r, _ => by
    obtain ⟨h1, h2⟩ := foldl_minN a r
    obtain ⟨c1, c2, e⟩ := List.append_of_mem h1
    exact ⟨c1, _, c2, e, h2⟩
variable {n : Nat} (h0 : ∀ i, l i i = 0)
include h0 in
/-- no round of gains among those looked at: none at all -/
theorem fair_of (h : ∀ r ∈ cand n, tot l r ≤ 0) : Fair (cst l) n := fun a q hn hl => by
  by_cases hq : q = []
  · subst hq
    show 0 ≤ -l a a + 0
    rw [h0]; decide
  obtain ⟨c1, m, c2, e, hm⟩ := least_split (a :: q) (by simp)
  have key : ∀ z c3, (m :: z).Nodup → (∀ x ∈ m :: z, x < n) → (∀ x ∈ z, m ≤ x) → z ≠ [] → c3 = m :: z ++ [m] → 0 ≤ pth (cst l) c3 := by
    intro z c3 g1 g2 g3 g4 g5
    have hc : m :: z ∈ cand n := List.mem_filter.mpr ⟨rows_all (by simp) g1 g2, by
      unfold isCand
      rw [minN_of g3, Bool.and_eq_true]
      refine ⟨decide_eq_true ?_, decide_eq_true rfl⟩
      have := List.length_pos_iff.mpr g4
      simp
      omega⟩
    have := h _ hc
    rw [tot_pth] at this
    rw [g5]
    omega
  cases c1 with
  | nil =>
    have e' : a = m ∧ q = c2 := by simpa using e
    obtain ⟨rfl, rfl⟩ := e'
    exact key q _ hn hl (fun x hx => hm x (List.mem_cons_of_mem _ hx)) hq rfl
  | cons x c1 =>
    have e' : a = x ∧ q = c1 ++ m :: c2 := by simpa using e
    obtain ⟨rfl, rfl⟩ := e'
    have hp : (a :: (c1 ++ m :: c2)).Perm (m :: (c2 ++ a :: c1)) := by
      have : (a :: c1 ++ m :: c2).Perm (m :: c2 ++ a :: c1) := List.perm_append_comm
      simpa using this
    have e2 := rot l a c1 m c2
    have e3 : pth (cst l) (a :: (c1 ++ m :: c2) ++ [a]) = pth (cst l) (m :: (c2 ++ a :: c1) ++ [m]) := by simpa using e2
    rw [e3]
    exact key (c2 ++ a :: c1) _ (hp.nodup_iff.mp hn) (fun x hx => hl x (hp.mem_iff.mpr hx)) (fun x hx => hm x (hp.mem_iff.mpr (List.mem_cons_of_mem _ hx))) (by simp) rfl
theorem cand_of {r : List Nat} (h : r ∈ cand n) : (∃ a q, r = a :: q) ∧ r.Nodup ∧ ∀ x ∈ r, x < n := by
  obtain ⟨h1, _⟩ := List.mem_filter.mp h
  obtain ⟨a1, a2, a3⟩ := rows_in h1
  cases r with
  | nil => exact absurd rfl a1
  | cons a q => exact ⟨⟨a, q, rfl⟩, a2, a3⟩
theorem not_fair {r : List Nat} (h : r ∈ cand n) (hp : 0 < tot l r) : ¬ Fair (cst l) n := fun hf => by
  obtain ⟨⟨a, q, rfl⟩, h1, h2⟩ := cand_of h
  have := hf a q h1 h2
  rw [tot_pth] at hp
  omega
/-- the round told -/
def told (n : Nat) : Option (List Nat) := (cand n).find? fun r => decide (0 < tot l r)
include h0 in
theorem told_none (h : told l n = none) : Fair (cst l) n := fair_of l h0 fun r hr => by
  have := List.find?_eq_none.mp h r hr
  simp at this
  exact this
theorem told_some {r : List Nat} (h : told l n = some r) : ¬ Fair (cst l) n := not_fair l (List.mem_of_find?_eq_some h) (by simpa using List.find?_some h)
/-- the law's least sums -/
def lowRows (n k : Nat) : List (List Nat) := (rowsN n).filter fun r => decide (r.headD 0 = 0) && (decide (r.getLastD 0 = k) && decide (1 < r.length))
def back (r : List Nat) : Int := ((List.range (r.length - 1)).map fun j => -l (r.getD (j + 1) 0) (r.getD j 0)).sum
def lows (n k : Nat) : List Int := (if k = 0 then [0] else []) ++ (lowRows n k).map (back l)
theorem pth_snoc (w : Nat → Nat → Int) (a b : Nat) (r : List Nat) : pth w (r ++ [a, b]) = pth w (r ++ [a]) + w a b := by
  have e : pth w [a, b] = w a b := by show w a b + 0 = _; omega
  rw [← e]
  exact pth_join w a [b] r
theorem back_rev : ∀ (r : List Nat), pth (cst l) r.reverse = back l r
  | [] => rfl
  | [a] => rfl
  | a :: b :: r => by
    have ih := back_rev (b :: r)
    have e1 : (a :: b :: r).reverse = r.reverse ++ [b, a] := by simp
    rw [e1, pth_snoc]
    have e2 : (b :: r).reverse = r.reverse ++ [b] := by simp
    rw [e2] at ih
    rw [ih]
    unfold back
    have e : (a :: b :: r).length - 1 = (b :: r).length - 1 + 1 := by simp
    rw [e, List.range_succ_eq_map, List.map_cons, List.sum_cons, List.map_map]
    have e3 : (List.range ((b :: r).length - 1)).map ((fun j => -l ((a :: b :: r).getD (j + 1) 0) ((a :: b :: r).getD j 0)) ∘ Nat.succ) = (List.range ((b :: r).length - 1)).map fun j => -l ((b :: r).getD (j + 1) 0) ((b :: r).getD j 0) := List.map_congr_left fun k _ => by simp
    rw [e3]
    have e4 : cst l b a = -l b a := rfl
    have e5 : (a :: b :: r).getD (0 + 1) 0 = b := rfl
    have e6 : (a :: b :: r).getD 0 0 = a := rfl
    rw [e4, e5, e6]
    omega
variable (hf : Fair (cst l) n) (hn : 0 < n)
include h0 hf hn in
theorem lows_le (k : Nat) (hk : k < n) : ∀ x ∈ lows l n k, (bf (cst l) n).getD k 0 ≤ x := fun x hx => by
  have h00 : cst l 0 0 = 0 := by show -l 0 0 = 0; rw [h0]; rfl
  rcases List.mem_append.mp hx with hx | hx
  · split at hx
    · rename_i e
      rw [e]
      have hx := List.mem_singleton.mp hx
      rw [hx, bf_zero (cst l) hf h00 hn]
      exact Int.le_refl _
    · cases hx
  · obtain ⟨r, hr, rfl⟩ := List.mem_map.mp hx
    obtain ⟨r1, r2⟩ := List.mem_filter.mp hr
    rw [Bool.and_eq_true, Bool.and_eq_true] at r2
    obtain ⟨c1, c2, c3⟩ := r2
    have c1 := of_decide_eq_true c1
    have c2 := of_decide_eq_true c2
    obtain ⟨a1, a2, a3⟩ := rows_in r1
    rw [← back_rev]
    have hlast : r.getLast? = some k := by
      rw [List.getLastD_eq_getLast?] at c2
      cases e : r.getLast? with
      | none => exact absurd (List.getLast?_eq_none_iff.mp e) a1
      | some z => rw [e] at c2; exact congrArg some c2
    have hrev : r.reverse = k :: r.reverse.tail := by
      have : r.reverse.head? = some k := by rw [List.head?_reverse]; exact hlast
      cases h : r.reverse with
      | nil => rw [h] at this; cases this
      | cons y z => rw [h] at this; cases this; rfl
    have hl2 : r.reverse.getLast? = some 0 := by
      rw [List.getLast?_reverse]
      cases r with
      | nil => exact absurd rfl a1
      | cons y z => simp at c1; simp [c1]
    rw [hrev] at hl2 ⊢
    refine bf_best (cst l) hf h00 hn k _ hl2 ?_ fun x hx => ?_
    · rw [← hrev]; exact nodup_rev a2
    · rw [← hrev] at hx; exact a3 x (List.mem_reverse.mp hx)
include h0 hf hn in
theorem lows_has (k : Nat) (hk : k < n) : ∃ x ∈ lows l n k, x ≤ (bf (cst l) n).getD k 0 := by
  obtain ⟨q, a1, a2, a3, a4⟩ := bf_simple (cst l) hf hn k hk
  by_cases hk0 : k = 0
  · subst hk0
    have : q = [] := by
      cases q with
      | nil => rfl
      | cons y r =>
        rw [List.getLast?_cons_cons] at a1
        exact absurd (List.mem_of_getLast? a1) (List.nodup_cons.mp a2).1
    subst this
    exact ⟨0, by simp [lows], a4⟩
  · refine ⟨pth (cst l) (k :: q), List.mem_append_right _ (List.mem_map.mpr ⟨(k :: q).reverse, List.mem_filter.mpr ⟨rows_all (by simp) (nodup_rev a2) fun x hx => a3 x (List.mem_reverse.mp hx), ?_⟩, ?_⟩), a4⟩
    · have hq : q ≠ [] := by
        rintro rfl
        simp at a1
        exact hk0 a1
      have h1 : (k :: q).reverse.headD 0 = 0 := by
        rw [List.headD_eq_head?_getD, List.head?_reverse, a1]; rfl
      have h2 : (k :: q).reverse.getLastD 0 = k := by
        rw [List.getLastD_eq_getLast?, List.getLast?_reverse]; rfl
      have h3 : 1 < (k :: q).reverse.length := by
        rw [List.length_reverse]
        have := List.length_pos_iff.mpr hq
        simp
        omega
      rw [h1, h2, decide_eq_true h3]
      simp
    · rw [← back_rev, List.reverse_reverse]
end
end P5

namespace K05
open PySem PySem.Spec PyProof.Rows L2 G P5
abbrev nsD (c : List Nat) : D := .list (c.map nD)
def lk (T : List (List Int)) (c : List Nat) (i j : Nat) : Int := C.at_ (T.getD i []) (c.getD j 0) - C.at_ (T.getD i []) (c.getD i 0)
theorem lk_self (T : List (List Int)) (c : List Nat) (i : Nat) : lk T c i i = 0 := by unfold lk; omega
/-- a rule as it has to be -/
structure Rule (m : Nat) (T : List (List Int)) (c : List Nat) : Prop where
  pos : 0 < T.length
  few : T.length ≤ 5
  m1 : 1 ≤ m
  m64 : m ≤ 64
  len : ∀ t ∈ T, t.length = m
  val : ∀ t ∈ T, ∀ x ∈ t, 0 ≤ x ∧ x ≤ 1000000
  same : c.length = T.length
  low : ∀ e ∈ c, e < m
theorem loopL_find {α β : Type} {P : En → Prop} {tgt : TgF} {body : En → SR} {enc : α → D} {out : β → D} {hit : α → Option β} : ∀ {xs : List α} {ρ : En}, (∀ x ∈ xs, ∀ ρ, P ρ → ∃ ρ1, tgt (enc x) ρ = some ρ1 ∧ ((∃ b, hit x = some b ∧ body ρ1 = .rt (out b)) ∨ (hit x = none ∧ ∃ ρ2, body ρ1 = .nx ρ2 ∧ P ρ2))) → P ρ →
    (∃ b, xs.findSome? hit = some b ∧ loopL tgt body (xs.map enc) ρ = .rt (out b)) ∨ (xs.findSome? hit = none ∧ ∃ ρ2, loopL tgt body (xs.map enc) ρ = .nx ρ2 ∧ P ρ2)
  | [], ρ, _, h => .inr ⟨rfl, ρ, rfl, h⟩
  | x :: xs, ρ, hd, h => by
    obtain ⟨ρ1, e1, ⟨b, e2, e3⟩ | ⟨e2, ρ2, e3, h2⟩⟩ := hd x List.mem_cons_self ρ h
    · exact .inl ⟨b, by simp [List.findSome?_cons, e2], loopL_rt e1 e3⟩
    · rcases loopL_find (out := out) (hit := hit) (P := P) (fun a ha => hd a (List.mem_cons_of_mem _ ha)) h2 with ⟨b, f1, f2⟩ | ⟨f1, ρ3, f2, f3⟩
      · exact .inl ⟨b, by simp [List.findSome?_cons, e2, f1], loopL_nx e1 e3 f2⟩
      · exact .inr ⟨by simp [List.findSome?_cons, e2, f1], ρ3, loopL_nx e1 e3 f2, f3⟩
theorem enum_mem {xs : List D} {d : D} {k : Nat} (h : d ∈ enumL k xs) : ∃ i x, x ∈ xs ∧ i < xs.length ∧ d = .tuple [nD (k + i), x] := by
  obtain ⟨i, hi⟩ := List.mem_iff_getElem?.mp h
  rw [enumL_get] at hi
  obtain ⟨x, h1, h2⟩ := Option.map_eq_some_iff.mp hi
  exact ⟨i, x, List.mem_of_getElem? h1, (List.getElem?_eq_some_iff.mp h1).1, h2.symm⟩
theorem cChainT_lt {f g h : En → R D} {ρ : En} {a b c : Int} (h1 : f ρ = .ok (.int a)) (h2 : g ρ = .ok (.int b)) (h3 : h ρ = .ok (.int c)) (l1 : a ≤ b) (l2 : b < c) : cChainT dLe dLt f g h ρ = .ok true := by
  simp only [cChainT, h1, h2, h3, R.bind, dLe, dLt, decide_eq_true l1, decide_eq_true l2]
  rfl
theorem cTest_of {f : En → R D} {ρ : En} {b : Bool} (h : f ρ = .ok (.bool b)) : cTest f ρ = .ok b := by
  simp only [cTest, h, R.bind]
  rfl
theorem len_bD {f : En → R D} {ρ : En} {T : List (List Int)} (h : f ρ = .ok (bD T)) : cCall dLen (cCons f cNil) ρ = .ok (nD T.length) := cCall1_of h (by rw [dLen_list, List.length_map])
theorem len_tD {f : En → R D} {ρ : En} {t : List Int} (h : f ρ = .ok (tD t)) : cCall dLen (cCons f cNil) ρ = .ok (nD t.length) := cCall1_of h (by rw [dLen_list, List.length_map])
theorem len_nsD {f : En → R D} {ρ : En} {t : List Nat} (h : f ρ = .ok (nsD t)) : cCall dLen (cCons f cNil) ρ = .ok (nD t.length) := cCall1_of h (by rw [dLen_list, List.length_map])
section
variable {m : Nat} {T : List (List Int)} {c : List Nat} (h : Rule m T c)
include h in
theorem cell_of {ρ : En} {fT fc fi fj : En → R D} {i j : Nat} (hi : i < T.length) (hj : j < T.length) (h1 : fT ρ = .ok (bD T)) (h2 : fc ρ = .ok (nsD c)) (h3 : fi ρ = .ok (nD i)) (h4 : fj ρ = .ok (nD j)) : cBin dIx (cBin dIx fT fi) (cBin dIx fc fj) ρ = .ok (.int (C.at_ (T.getD i []) (c.getD j 0))) := by
  have hc : c.getD j 0 < m := h.low _ (getD_mem (by rw [h.same]; exact hj))
  exact cBin_of (cBin_of h1 h3 (book_at hi)) (cBin_of h2 h4 (nat_ix (by rw [h.same]; exact hj))) (tbl_ix _ _ (by rw [h.len _ (getD_mem hi)]; exact hc))
include h in
theorem likes_eq {i j : Nat} (hi : i < T.length) (hj : j < T.length) : f_likes_more [bD T, nsD c, nD i, nD j] = .ok (.int (lk T c i j)) := by
  unfold f_likes_more g_likes_more
  exact runF_of rfl (sRet_of (ρ := [some (.v (bD T)), some (.v (nsD c)), some (.v (nD i)), some (.v (nD j))]) (cBin_of (cell_of h hi hj rfl rfl rfl rfl) (cell_of h hi hi rfl rfl rfl rfl) rfl))
include h in
theorem more_eq {i j : Nat} (hi : i < T.length) (hj : j < T.length) : f_l_more [bD T, nsD c, nD i, nD j] = .ok (.int (lk T c i j)) := by
  unfold f_l_more g_l_more
  exact runF_of rfl (sRet_of (ρ := [some (.v (bD T)), some (.v (nsD c)), some (.v (nD i)), some (.v (nD j))]) (cBin_of (cell_of h hi hj rfl rfl rfl rfl) (cell_of h hi hi rfl rfl rfl rfl) rfl))
include h in
theorem head_len {f : En → R D} {ρ : En} (h1 : f ρ = .ok (bD T)) : cCall dLen (cCons (cBin dIx f (cK (.int 0))) cNil) ρ = .ok (nD m) := by
  have e := len_tD (cBin_of (dop := dIx) (f := f) (g := cK (.int 0)) (a := bD T) (b := nD 0) h1 rfl (book_at h.pos))
  rw [h.len _ (getD_mem h.pos)] at e
  exact e
include h in
theorem check_rule_eq : f_check_rule [bD T, nsD c] = .ok .none := by
  have hp := h.pos
  have hf := h.few
  have h1 := h.m1
  have h64 := h.m64
  unfold f_check_rule g_check_rule
  refine runF_of rfl ?_
  have q1 : cNot (cChainT dLe dLe (cK (.int 1)) (cCall dLen (cCons (cVarB 0) cNil)) (cK (.int 6))) (enter 6 2 [bD T, nsD c]) = .ok false :=
    cNot_of (b := true) (cChainT_of (b := (T.length : Int)) rfl (len_bD rfl) rfl (by omega) (by omega))
  obtain ⟨ρ2, e2, x2, x3, x4, x5, rfl⟩ := loopL_inv (P := fun ρ => ∃ x2 x3 x4 x5, ρ = [some (.v (bD T)), some (.v (nsD c)), x2, x3, x4, x5]) (tgt := gT (gC (gN 2) (gC (gN 3) gE))) (body := (sSeq (sIf (cOr (cNot (cChainT dLe dLe (cK (.int 1)) (cCall dLen (cCons (cVarB 3) cNil)) (cK (.int 64)))) (cBinT dNe (cCall dLen (cCons (cVarB 3) cNil)) (cCall dLen (cCons (cBin dIx (cVarB 0) (cK (.int 0))) cNil))))
    (sRaise "BadType" (cVar 2))
    sNext)
    (sIf (cNot (cTest (cCall dAll (cCons (cLc [5] (cItems (cVar 3)) (gN 5) cTrue (cChain dLe dLe (cK (.int 0)) (cVarB 5) (cK (.int 1000000)))) cNil))))
    (sRaise "BadType" (cVar 2))
    sNext))) (ds := enumL 0 (T.map tD)) (ρ := [some (.v (bD T)), some (.v (nsD c)), none, none, none, none]) (fun d hd ρ hρ => by
    obtain ⟨x2, x3, x4, x5, rfl⟩ := hρ
    obtain ⟨i, x, hx, hi, rfl⟩ := enum_mem hd
    obtain ⟨t, ht, rfl⟩ := List.mem_map.mp hx
    have hl := h.len t ht
    have lt : cCall dLen (cCons (cVarB 3) cNil) [some (.v (bD T)), some (.v (nsD c)), some (.v (nD (0 + i))), some (.v (tD t)), x4, x5] = .ok (nD m) := by
      have := len_tD (f := cVarB 3) (ρ := [some (.v (bD T)), some (.v (nsD c)), some (.v (nD (0 + i))), some (.v (tD t)), x4, x5]) (t := t) rfl
      rw [hl] at this
      exact this
    have a1 : cNot (cChainT dLe dLe (cK (.int 1)) (cCall dLen (cCons (cVarB 3) cNil)) (cK (.int 64))) [some (.v (bD T)), some (.v (nsD c)), some (.v (nD (0 + i))), some (.v (tD t)), x4, x5] = .ok false := cNot_of (b := true) (cChainT_of (b := (m : Int)) rfl lt rfl (by omega) (by omega))
    have a2 : cBinT dNe (cCall dLen (cCons (cVarB 3) cNil)) (cCall dLen (cCons (cBin dIx (cVarB 0) (cK (.int 0))) cNil)) [some (.v (bD T)), some (.v (nsD c)), some (.v (nD (0 + i))), some (.v (tD t)), x4, x5] = .ok false := cBinT_of lt (head_len h rfl) (by rw [dNe_int]; simp)
    have e := lcL_map (tgt := gN 5) (f := cChain dLe dLe (cK (.int 0)) (cVarB 5) (cK (.int 1000000))) (ρ := [some (.v (bD T)), some (.v (nsD c)), some (.v (nD (0 + i))), some (.v (tD t)), x4, none]) (enc := fun x : Int => PyData.int x) (fun x => [some (.v (bD T)), some (.v (nsD c)), some (.v (nD (0 + i))), some (.v (tD t)), x4, some (.v (.int x))]) (fun _ => .bool true) (xs := t) fun x hx => ⟨rfl, cChain_of rfl rfl rfl (h.val t ht x hx).1 (h.val t ht x hx).2⟩
    have a3 : cCall dAll (cCons (cLc [5] (cItems (cVar 3)) (gN 5) cTrue (cChain dLe dLe (cK (.int 0)) (cVarB 5) (cK (.int 1000000)))) cNil) [some (.v (bD T)), some (.v (nsD c)), some (.v (nD (0 + i))), some (.v (tD t)), x4, x5] = .ok (.bool true) := by
      refine cCall1_of (cLc_of (cItems_of (ds := t.map PyData.int) rfl) e (by rw [List.length_map]; unfold sizeLine; omega)) ?_
      show (boolsOf (t.map fun _ => PyData.bool true)).map _ = _
      have : t.map (fun _ => PyData.bool true) = (t.map fun _ => true).map PyData.bool := by simp
      rw [this, boolsOf_map]
      simp
    exact ⟨_, _, rfl, sSeq_nx (sIf_false (cOr_ff a1 a2) rfl) (sIf_false (cNot_of (b := true) (cTest_of a3)) rfl), _, _, _, _, rfl⟩) ⟨_, _, _, _, rfl⟩
  obtain ⟨ρ3, e3, y2, y3, y4, y5, rfl⟩ := loopL_inv (P := fun ρ => ∃ x2 x3 x4 x5, ρ = [some (.v (bD T)), some (.v (nsD c)), x2, x3, x4, x5]) (tgt := gT (gC (gN 2) (gC (gN 4) gE))) (body := (sIf (cNot (cChainT dLe dLt (cK (.int 0)) (cVarB 4) (cCall dLen (cCons (cBin dIx (cVarB 0) (cK (.int 0))) cNil))))
    (sRaise "BadEnd" (cVar 2))
    sNext)) (ds := enumL 0 (c.map nD)) (ρ := [some (.v (bD T)), some (.v (nsD c)), x2, x3, x4, x5]) (fun d hd ρ hρ => by
    obtain ⟨x2, x3, x4, x5, rfl⟩ := hρ
    obtain ⟨i, x, hx, hi, rfl⟩ := enum_mem hd
    obtain ⟨e, he, rfl⟩ := List.mem_map.mp hx
    have := h.low e he
    exact ⟨_, _, rfl, sIf_false (cNot_of (b := true) (cChainT_lt (a := 0) (b := (e : Int)) (c := (m : Int)) rfl rfl (head_len h rfl) (by omega) (by omega))) rfl, _, _, _, _, rfl⟩) ⟨_, _, _, _, rfl⟩
  have q3 : cIter dEnum (cCons (cSlice (cVar 1) cPartN (cPart (cCall dLen (cCons (cVarB 0) cNil)))) cNil) [some (.v (bD T)), some (.v (nsD c)), x2, x3, x4, x5] = .ok (enumL 0 (c.map nD)) := by
    refine cIter1_of (d := nsD c) ?_ rfl
    have := cSlice_to (f := cVar 1) (g := cCall dLen (cCons (cVarB 0) cNil)) (ρ := [some (.v (bD T)), some (.v (nsD c)), x2, x3, x4, x5]) (xs := c.map nD) (k := T.length) rfl (len_bD rfl)
    rw [List.take_of_length_le (by rw [List.length_map, h.same]; exact Nat.le_refl _)] at this
    exact this
  have q4 : cBinT dNe (cCall dLen (cCons (cVarB 1) cNil)) (cCall dLen (cCons (cVarB 0) cNil)) [some (.v (bD T)), some (.v (nsD c)), y2, y3, y4, y5] = .ok false := cBinT_of (len_nsD (t := c) rfl) (len_bD rfl) (by rw [dNe_int, h.same]; simp)
  have e9 := sSeq_nx (ρ := enter 6 2 [bD T, nsD c]) (sIf_false (g1 := sRaise "BadType" (cUn dNeg (cK (.int 1)))) (g2 := sNext) q1 rfl) (sSeq_nx (sFor_of (l := cIter dEnum (cCons (cVar 0) cNil)) (cIter1_of (d := bD T) rfl rfl) e2) (sSeq_nx (sFor_of q3 e3) (sIf_false (g1 := sRaise "BadEnd" (cCall dLen (cCons (cVarB 0) cNil))) (g2 := sNext) q4 rfl)))
  exact (congrArg SR.out e9).trans rfl
end
end K05

namespace K05
open PySem PySem.Spec PyProof.Rows L2 G P5
def bad (T : List (List Int)) (c : List Nat) (P : List Int) (i j : Nat) : Bool := decide (C.at_ P j - C.at_ P i < lk T c i j)
def badIn (T : List (List Int)) (c : List Nat) (P : List Int) (i : Nat) : Option Unit := (List.range T.length).findSome? fun j => if bad T c P i j = true then some () else none
def badAt (T : List (List Int)) (c : List Nat) (P : List Int) : Option Unit := (List.range T.length).findSome? (badIn T c P)
def keepsB (T : List (List Int)) (c : List Nat) (P : List Int) : Bool := (badAt T c P).isNone
theorem keepsB_iff {T : List (List Int)} {c : List Nat} {P : List Int} : keepsB T c P = true ↔ Keeps (cst (lk T c)) T.length P := by
  unfold keepsB badAt
  rw [Option.isNone_iff_eq_none, List.findSome?_eq_none_iff]
  constructor
  · intro h i hi j hj
    have h1 := List.findSome?_eq_none_iff.mp (h i (List.mem_range.mpr hi)) j (List.mem_range.mpr hj)
    unfold bad at h1
    split at h1
    · cases h1
    · rename_i h2
      simp at h2
      show P.getD i 0 ≤ P.getD j 0 + -lk T c i j
      unfold C.at_ at h2
      omega
  · intro h i hi
    unfold badIn
    rw [List.findSome?_eq_none_iff]
    intro j hj
    have h1 : P.getD i 0 ≤ P.getD j 0 + -lk T c i j := h i (List.mem_range.mp hi) j (List.mem_range.mp hj)
    rw [if_neg]
    unfold bad C.at_
    simp
    simp at h1
    omega
section
variable {m : Nat} {T : List (List Int)} {c : List Nat} (h : Rule m T c) {P : List Int} (hP : P.length = T.length)
theorem keep_loops (h : Rule m T c) {test : En → R Bool} (ht : ∀ i j, i < T.length → j < T.length → test [some (.v (bD T)), some (.v (nsD c)), some (.v (tD P)), some (.v (nD i)), some (.v (nD j))] = .ok (bad T c P i j)) :
    sSeq (sFor (gN 3) (cIter dRange1 (cCons (cCall dLen (cCons (cVarB 0) cNil)) cNil)) (sFor (gN 4) (cIter dRange1 (cCons (cCall dLen (cCons (cVarB 0) cNil)) cNil)) (sIf test (sRet (cK (.bool false))) sNext))) (sRet (cK (.bool true))) (enter 5 3 [bD T, nsD c, tD P]) = .rt (.bool (keepsB T c P)) := by
  have hf := h.few
  have rg : ∀ r, cIter dRange1 (cCons (cCall dLen (cCons (cVarB 0) cNil)) cNil) (some (.v (bD T)) :: r) = .ok ((List.range T.length).map nD) := fun r => cIter1_of (d := nD T.length) (len_bD rfl) (dRange1_nat (by omega))
  have e := loopL_find (P := fun ρ => ∃ x y, ρ = [some (.v (bD T)), some (.v (nsD c)), some (.v (tD P)), x, y]) (tgt := gN 3) (body := (sFor (gN 4) (cIter dRange1 (cCons (cCall dLen (cCons (cVarB 0) cNil)) cNil)) (sIf test (sRet (cK (.bool false))) sNext))) (enc := nD) (hit := badIn T c P) (out := fun _ => .bool false) (xs := List.range T.length) (ρ := [some (.v (bD T)), some (.v (nsD c)), some (.v (tD P)), none, none]) (fun i hi ρ hρ => by
    obtain ⟨x, y, rfl⟩ := hρ
    have hi := List.mem_range.mp hi
    refine ⟨_, rfl, ?_⟩
    have e2 := loopL_find (P := fun ρ => ∃ y, ρ = [some (.v (bD T)), some (.v (nsD c)), some (.v (tD P)), some (.v (nD i)), y]) (tgt := gN 4) (body := sIf test (sRet (cK (.bool false))) sNext) (enc := nD) (hit := fun j => if bad T c P i j = true then some () else none) (out := fun _ => .bool false) (xs := List.range T.length) (ρ := [some (.v (bD T)), some (.v (nsD c)), some (.v (tD P)), some (.v (nD i)), y]) (fun j hj ρ hρ => by
      obtain ⟨y, rfl⟩ := hρ
      have hj := List.mem_range.mp hj
      refine ⟨_, rfl, ?_⟩
      cases z : bad T c P i j with
      | true => exact .inl ⟨(), by simp, sIf_true ((ht i j hi hj).trans (by rw [z])) sRetK⟩
      | false => exact .inr ⟨by simp, _, sIf_false ((ht i j hi hj).trans (by rw [z])) rfl, _, rfl⟩) ⟨_, rfl⟩
    rcases e2 with ⟨b, f1, f2⟩ | ⟨f1, ρ2, f2, y2, rfl⟩
    · exact .inl ⟨b, f1, sFor_of (rg _) f2⟩
    · exact .inr ⟨f1, _, sFor_of (rg _) f2, _, _, rfl⟩) ⟨_, _, rfl⟩
  unfold keepsB badAt
  rcases e with ⟨b, f1, f2⟩ | ⟨f1, ρ2, f2, x2, y2, rfl⟩
  · rw [f1]
    exact sSeq_rt (sFor_of (rg _) f2)
  · rw [f1]
    exact sSeq_nx (sFor_of (rg _) f2) sRetK
include h hP in
theorem does_keep_eq : f_does_keep [bD T, nsD c, tD P] = .ok (.bool (keepsB T c P)) := by
  unfold f_does_keep g_does_keep
  refine runF_of rfl ((congrArg SR.out (keep_loops h fun i j hi hj => ?_)).trans out_rt)
  exact cBinT_of (cCallF_of (ds := [bD T, nsD c, nD i, nD j]) rfl (likes_eq h hi hj)) (cBin_of (cBin_of (a := tD P) rfl rfl (tbl_ix P j (by omega))) (cBin_of (a := tD P) rfl rfl (tbl_ix P i (by omega))) rfl) rfl
include h hP in
theorem l_keeps_eq : f_l_keeps [bD T, nsD c, tD P] = .ok (.bool (keepsB T c P)) := by
  unfold f_l_keeps g_l_keeps
  refine runF_of rfl ((congrArg SR.out (keep_loops h fun i j hi hj => ?_)).trans out_rt)
  refine cBinT_of (cBin_of (cell_of h hi hj rfl rfl rfl rfl) (cBin_of (a := tD P) rfl rfl (tbl_ix P j (by omega))) rfl) (cBin_of (cell_of h hi hi rfl rfl rfl rfl) (cBin_of (a := tD P) rfl rfl (tbl_ix P i (by omega))) rfl) ?_
  show some (PyData.bool (decide _)) = some (PyData.bool (decide _))
  unfold lk
  congr 2
  rw [decide_eq_decide]
  omega
include h hP in
theorem keep_truth_eq : f_keep_truth [bD T, nsD c, tD P] = .ok (.bool (keepsB T c P)) := by
  unfold f_keep_truth g_keep_truth
  refine runF_of rfl ?_
  have q2 : cBinT dNe (cCall dLen (cCons (cVarB 2) cNil)) (cCall dLen (cCons (cVarB 0) cNil)) (enter 3 3 [bD T, nsD c, tD P]) = .ok false := cBinT_of (len_tD (t := P) rfl) (len_bD (T := T) rfl) (by rw [dNe_int, hP]; simp)
  refine (congrArg SR.out (sSeq_nx (ρ1 := enter 3 3 [bD T, nsD c, tD P]) (sExpr_of (cCallF_of (ds := [bD T, nsD c]) rfl (check_rule_eq h))) (sSeq_nx (sIf_false (g1 := sRaise "BadPaid" (cK (.int 0))) (g2 := sNext) q2 rfl) rfl))).trans (sRet_of (cCallF_of (ds := [bD T, nsD c, tD P]) rfl (does_keep_eq h hP)))
end
end K05

namespace P5
def prev (r : List Nat) (k : Nat) : Nat := if k = 0 then r.getLastD 0 else r.getD (k - 1) 0
theorem tot_prev (l : Nat → Nat → Int) (a : Nat) (q : List Nat) : ((List.range (a :: q).length).map fun k => l (prev (a :: q) k) ((a :: q).getD k 0)).sum = tot l (a :: q) := by
  rw [tot_pth]
  have e0 := List.dropLast_concat_getLast (l := a :: q) (by simp)
  have e1 : pth (cst l) (a :: q ++ [a]) = pth (cst l) (a :: q) + -l ((a :: q).getLastD 0) a := by
    have h1 : (a :: q).getLastD 0 = (a :: q).getLast (by simp) := by rw [List.getLastD_eq_getLast?, List.getLast?_eq_some_getLast (by simp)]; rfl
    rw [h1]
    conv => lhs; rw [← e0]
    conv => rhs; lhs; rw [← e0]
    rw [List.append_assoc]
    exact pth_snoc (cst l) _ a _
  rw [e1, List.length_cons, List.range_succ_eq_map, List.map_cons, List.sum_cons, List.map_map]
  have e3 : (List.range q.length).map ((fun k => l (prev (a :: q) k) ((a :: q).getD k 0)) ∘ Nat.succ) = (List.range ((a :: q).length - 1)).map fun k => l ((a :: q).getD k 0) ((a :: q).getD (k + 1) 0) := by
    have : (a :: q).length - 1 = q.length := by simp
    rw [this]
    exact List.map_congr_left fun k _ => by simp [prev]
  rw [e3, sum_pth]
  have e4 : prev (a :: q) 0 = (a :: q).getLastD 0 := rfl
  have e5 : (a :: q).getD 0 0 = a := rfl
  rw [e4, e5]
  omega
end P5
namespace K05
open PySem PySem.Spec PyProof.Rows L2 G P5
section
variable {m : Nat} {T : List (List Int)} {c : List Nat} (h : Rule m T c)
theorem prev_ix {r : List Nat} (h0 : r ≠ []) {k : Nat} (hk : k < r.length) : dIx (nsD r) (.int ((k : Int) - 1)) = some (nD (prev r k)) := by
  cases k with
  | zero =>
    show dIx (.list (r.map nD)) (.int (-1)) = _
    rw [dIx_last, List.getLast?_map, List.getLast?_eq_some_getLast h0]
    unfold prev
    rw [if_pos rfl, List.getLastD_eq_getLast?, List.getLast?_eq_some_getLast h0]
    rfl
  | succ k =>
    have : ((k + 1 : Nat) : Int) - 1 = (k : Int) := by omega
    rw [this]
    exact nat_ix (by omega)
theorem prev_low {r : List Nat} (h0 : r ≠ []) {n k : Nat} (hk : k < r.length) (hl : ∀ x ∈ r, x < n) : prev r k < n := by
  unfold prev
  split
  · rw [List.getLastD_eq_getLast?, List.getLast?_eq_some_getLast h0]
    exact hl _ (List.getLast_mem h0)
  · exact hl _ (getD_mem (by omega))
include h in
theorem sum_round_eq {r : List Nat} (h0 : r ≠ []) (hz : r.length < 1000) (hl : ∀ x ∈ r, x < T.length) : f_sum_round [bD T, nsD c, nsD r] = .ok (.int (tot (lk T c) r)) := by
  unfold f_sum_round g_sum_round
  have e := lcL_map (tgt := gN 3) (f := cCallF f_likes_more (cCons (cVar 0) (cCons (cVar 1) (cCons (cBin dIx (cVarB 2) (cBin dSub (cVarB 3) (cK (.int 1)))) (cCons (cBin dIx (cVarB 2) (cVar 3)) cNil))))) (ρ := [some (.v (bD T)), some (.v (nsD c)), some (.v (nsD r)), none]) (enc := nD) (fun k => [some (.v (bD T)), some (.v (nsD c)), some (.v (nsD r)), some (.v (nD k))]) (fun k => .int (lk T c (prev r k) (r.getD k 0))) (xs := List.range r.length) fun k hk => ⟨rfl, by
    have hk := List.mem_range.mp hk
    exact cCallF_of (ds := [bD T, nsD c, nD (prev r k), nD (r.getD k 0)]) (cCons_of rfl (cCons_of rfl (cCons_of (cBin_of (a := nsD r) (b := .int ((k : Int) - 1)) rfl (cBin_of (a := nD k) rfl rfl rfl) (prev_ix h0 hk)) (cCons_of (cBin_of (a := nsD r) (b := nD k) rfl rfl (nat_ix hk)) rfl)))) (likes_eq h (prev_low h0 hk hl) (hl _ (getD_mem hk)))⟩
  refine runF_of rfl (sRet_of (ρ := [some (.v (bD T)), some (.v (nsD c)), some (.v (nsD r)), none]) (cCall1_of (cLc_of (cIter1_of (d := nD r.length) (len_nsD rfl) (dRange1_nat (by omega))) e (by rw [List.length_map, List.length_range]; unfold sizeLine; omega)) ?_))
  cases r with
  | nil => exact absurd rfl h0
  | cons a q =>
    rw [← tot_prev]
    show (intsOf _).map _ = _
    rw [intsOf_int]
    rfl
include h in
theorem l_total_eq {r : List Nat} (hz : r.length < 1000) (hl : ∀ x ∈ r, x < T.length) : f_l_total [bD T, nsD c, nsD r] = .ok (.int (tot (lk T c) r)) := by
  unfold f_l_total g_l_total
  have e := lcL_map (tgt := gN 3) (f := cCallF f_l_more (cCons (cVar 0) (cCons (cVar 1) (cCons (cBin dIx (cVarB 2) (cVar 3)) (cCons (cBin dIx (cBin dAdd (cVar 2) (cVar 2)) (cBin dAdd (cVar 3) (cK (.int 1)))) cNil))))) (ρ := [some (.v (bD T)), some (.v (nsD c)), some (.v (nsD r)), none]) (enc := nD) (fun k => [some (.v (bD T)), some (.v (nsD c)), some (.v (nsD r)), some (.v (nD k))]) (fun k => .int (lk T c (r.getD k 0) ((r ++ r).getD (k + 1) 0))) (xs := List.range r.length) fun k hk => ⟨rfl, by
    have hk := List.mem_range.mp hk
    have h2 : (r ++ r).getD (k + 1) 0 < T.length := by
      have := getD_mem (l := r ++ r) (k := k + 1) (z := 0) (by rw [List.length_append]; omega)
      rcases List.mem_append.mp this with z | z <;> exact hl _ z
    refine cCallF_of (ds := [bD T, nsD c, nD (r.getD k 0), nD ((r ++ r).getD (k + 1) 0)]) (cCons_of rfl (cCons_of rfl (cCons_of (cBin_of (a := nsD r) (b := nD k) rfl rfl (nat_ix hk)) (cCons_of (cBin_of (a := nsD (r ++ r)) (b := nD (k + 1)) (cBin_of (a := nsD r) (b := nsD r) rfl rfl ?_) (cBin_of (a := nD k) (b := nD 1) rfl rfl (add_nat _ _)) (nat_ix (by rw [List.length_append]; omega))) rfl)))) (more_eq h (hl _ (getD_mem hk)) h2)
    rw [dAdd_list (by rw [List.length_map]; unfold sizeLine; omega), ← List.map_append]⟩
  refine runF_of rfl (sRet_of (ρ := [some (.v (bD T)), some (.v (nsD c)), some (.v (nsD r)), none]) (cCall1_of (cLc_of (cIter1_of (d := nD r.length) (len_nsD rfl) (dRange1_nat (by omega))) e (by rw [List.length_map, List.length_range]; unfold sizeLine; omega)) ?_))
  show (intsOf _).map _ = _
  rw [intsOf_int]
  rfl
include h in
theorem gain_of_round_eq {r : List Nat} (h0 : r ≠ []) (hz : r.length < 1000) (hl : ∀ x ∈ r, x < T.length) : f_gain_of_round [bD T, nsD c, nsD r] = .ok (.int (tot (lk T c) r)) := by
  unfold f_gain_of_round g_gain_of_round
  refine runF_of rfl ?_
  exact (congrArg SR.out (sSeq_nx (ρ1 := enter 3 3 [bD T, nsD c, nsD r]) (sExpr_of (cCallF_of (ds := [bD T, nsD c]) rfl (check_rule_eq h))) rfl)).trans (sRet_of (cCallF_of (ds := [bD T, nsD c, nsD r]) rfl (sum_round_eq h h0 hz hl)))
end
end K05

namespace P5
def lvP (n t : Nat) : List (List Nat) := (lvN n t).filter fun r => decide (r.headD 0 = minN r)
def ordN (a b : List Nat) : Bool := decide (a.length < b.length) || (decide (a.length = b.length) && !C.lexLt b a)
theorem five {P : Nat → Prop} (h1 : P 1) (h2 : P 2) (h3 : P 3) (h4 : P 4) (h5 : P 5) {n : Nat} (hn : 0 < n ∧ n ≤ 5) : P n := by
  obtain rfl | rfl | rfl | rfl | rfl : n = 1 ∨ n = 2 ∨ n = 3 ∨ n = 4 ∨ n = 5 := by omega
  all_goals assumption
theorem cand_sorted {n : Nat} (hn : 0 < n ∧ n ≤ 5) : (cand n).Pairwise fun a b => ordN a b = true := by
  refine five (P := fun n => (cand n).Pairwise fun a b => ordN a b = true) ?_ ?_ ?_ ?_ ?_ hn <;> decide +kernel
theorem cand_lv {n : Nat} (hn : 0 < n ∧ n ≤ 5) : cand n = (List.range' 1 n).flatMap (lvP n) := by
  refine five (P := fun n => cand n = (List.range' 1 n).flatMap (lvP n)) ?_ ?_ ?_ ?_ ?_ hn <;> decide +kernel
theorem lv_sorted {n : Nat} (hn : 0 < n ∧ n ≤ 5) : ∀ t, t < 6 → (lvP n t).Pairwise fun a b => C.lexLt b a = false := by
  refine five (P := fun n => ∀ t, t < 6 → (lvP n t).Pairwise fun a b => C.lexLt b a = false) ?_ ?_ ?_ ?_ ?_ hn <;> decide +kernel
theorem lv_some {n : Nat} (hn : 0 < n ∧ n ≤ 5) : ∀ t, t < n → 0 < (lvP n t).length ∧ (lvP n t).length < 1000 := by
  refine five (P := fun n => ∀ t, t < n → 0 < (lvP n t).length ∧ (lvP n t).length < 1000) ?_ ?_ ?_ ?_ ?_ hn <;> decide +kernel
theorem lv_none {n : Nat} (hn : 0 < n ∧ n ≤ 5) : lvP n n = [] := by
  refine five (P := fun n => lvP n n = []) ?_ ?_ ?_ ?_ ?_ hn <;> decide +kernel
theorem lv_zero {n : Nat} (hn : 0 < n ∧ n ≤ 5) : lvP n 0 = (List.range n).map fun k => [k] := by
  refine five (P := fun n => lvP n 0 = (List.range n).map fun k => [k]) ?_ ?_ ?_ ?_ ?_ hn <;> decide +kernel
theorem rows_few {n : Nat} (hn : 0 < n ∧ n ≤ 5) : 0 < (rowsN n).length ∧ (rowsN n).length < 1000 := by
  refine five (P := fun n => 0 < (rowsN n).length ∧ (rowsN n).length < 1000) ?_ ?_ ?_ ?_ ?_ hn <;> decide +kernel
end P5
namespace K05
open PySem PySem.Spec PyProof.Rows L2 G P5
theorem longer_eq {n : Nat} (hn : 0 < n ∧ n ≤ 5) : ∀ t, t < n → f_longer [.list ((lvP n t).map nsD), nD n] = .ok (.list ((lvP n (t + 1)).map nsD)) := by
  refine five (P := fun n => ∀ t, t < n → f_longer [.list ((lvP n t).map nsD), nD n] = .ok (.list ((lvP n (t + 1)).map nsD))) ?_ ?_ ?_ ?_ ?_ hn
  · intro t ht
    obtain rfl : t = 0 := by omega
    kernel_rfl
  · intro t ht
    obtain rfl | rfl : t = 0 ∨ t = 1 := by omega
    all_goals kernel_rfl
  · intro t ht
    obtain rfl | rfl | rfl : t = 0 ∨ t = 1 ∨ t = 2 := by omega
    all_goals kernel_rfl
  · intro t ht
    obtain rfl | rfl | rfl | rfl : t = 0 ∨ t = 1 ∨ t = 2 ∨ t = 3 := by omega
    all_goals kernel_rfl
  · intro t ht
    obtain rfl | rfl | rfl | rfl | rfl : t = 0 ∨ t = 1 ∨ t = 2 ∨ t = 3 ∨ t = 4 := by omega
    all_goals kernel_rfl
theorem l_rows_eq {n : Nat} (hn : 0 < n ∧ n ≤ 5) : f_l_rows [nD n] = .ok (.list ((rowsN n).map nsD)) := by
  refine five (P := fun n => f_l_rows [nD n] = .ok (.list ((rowsN n).map nsD))) ?_ ?_ ?_ ?_ ?_ hn <;> kernel_rfl
/-! ### rows as data -/
theorem lay_rows (rs : List (List Nat)) : PyData.canLayAll0 (rs.map nsD) = true ∧ PyData.depthAll (rs.map nsD) ≤ 2 := by
  induction rs with
  | nil => simp [PyData.canLayAll0, PyData.depthAll]
  | cons a r ih =>
    obtain ⟨h1, h2⟩ : PyData.canLayAll0 (a.map nD) = true ∧ PyData.depthAll (a.map nD) ≤ 1 := lay_ints (fun n : Nat => (n : Int)) a
    simp [PyData.canLayAll0, PyData.depthAll, PyData.canLay0, PyData.depth, ih.1, h1]
    have := ih.2
    omega
theorem alike_rows (rs : List (List Nat)) : alikeB (rs.map nsD) = true := by
  unfold alikeB
  rw [List.all_eq_true]
  intro x hx
  obtain ⟨r, _, rfl⟩ := List.mem_map.mp hx
  rw [Bool.and_eq_true, List.all_eq_true]
  refine ⟨rfl, fun y hy => ?_⟩
  obtain ⟨q, _, rfl⟩ := List.mem_map.mp hy
  simp [PySem.W.alike, alike_ints]
theorem lt_rows {a b : List Nat} (h : a.length = b.length) : PySem.W.dataLt (nsD a) (nsD b) = C.lexLt a b := by
  rw [PySem.W.dataLt_list]
  exact lt_ints a b h
theorem minD_first {d : D} : ∀ {ds : List D}, (∀ y ∈ ds, PySem.W.dataLt y d = false) → PySem.W.minD d ds = d := by
  intro ds h
  unfold PySem.W.minD
  induction ds with
  | nil => rfl
  | cons y r ih =>
    rw [List.foldl_cons, if_neg (by rw [h y List.mem_cons_self]; decide)]
    exact ih fun z hz => h z (List.mem_cons_of_mem _ hz)
theorem min_rows {g : List Nat} {gs : List (List Nat)} {k : Nat} (hl : ∀ r ∈ g :: gs, r.length = k) (hs : (g :: gs).Pairwise fun a b => C.lexLt b a = false) : dMinRows [.list ((g :: gs).map nsD)] = some (nsD g) := by
  have ⟨h1, h2⟩ := lay_rows (g :: gs)
  have h3 := alike_rows (g :: gs)
  have h4 := PyData.hasDictAll_of_canLayAll _ h1
  have e : dMinRows [.list ((g :: gs).map nsD)] = some (PySem.W.minD (nsD g) (gs.map nsD)) := by
    show (if alikeB ((g :: gs).map nsD) = true ∧ PyData.depthAll ((g :: gs).map nsD) ≤ 60 ∧ PyData.hasDictAll ((g :: gs).map nsD) = false then _ else _) = _
    rw [if_pos ⟨h3, by omega, h4⟩]
  rw [e, minD_first]
  intro y hy
  obtain ⟨r, hr, rfl⟩ := List.mem_map.mp hy
  rw [lt_rows (by rw [hl r (List.mem_cons_of_mem _ hr), hl g List.mem_cons_self])]
  exact (List.pairwise_cons.mp hs).1 r hr
def rowO : Option (List Nat) → D
  | none => .none
  | some r => nsD r
section
variable {m : Nat} {T : List (List Int)} {c : List Nat} (h : Rule m T c)
abbrev rg_c : En → R Bool := cBinT dGt (cCall dLen (cCons (cVarB 2) cNil)) (cK (.int 0))
abbrev rg_b : En → SR := (sSeq (sSet 2 (cCallF f_longer (cCons (cVar 2) (cCons (cCall dLen (cCons (cVarB 0) cNil)) cNil))))
    (sSeq (sSet 3 (cLc [5] (cItems (cVar 2)) (gN 5) (cBinT dGt (cCallF f_sum_round (cCons (cVar 0) (cCons (cVar 1) (cCons (cVar 5) cNil)))) (cK (.int 0))) (cVar 5)))
    (sIf (cBinT dGt (cCall dLen (cCons (cVarB 3) cNil)) (cK (.int 0)))
    (sRet (cCall dMinRows (cCons (cVarB 3) cNil)))
    sNext)))
abbrev gains (T : List (List Int)) (c r : List Nat) : Bool := decide (0 < tot (lk T c) r)
theorem gt_zero (k : Nat) : dGt (nD k) (.int 0) = some (.bool (decide (0 < k))) := by
  show some (PyData.bool (decide ((0 : Int) < k))) = _
  congr 2
  rw [decide_eq_decide]
  omega
include h in
theorem rg_loop : ∀ (j t : Nat), t + j = T.length → ∀ (f : Nat) (x3 : Option Sl), j < f →
    whileL rg_c rg_b f [some (.v (bD T)), some (.v (nsD c)), some (.v (.list ((lvP T.length t).map nsD))), x3, none, none] = .rt (rowO (((List.range' (t + 1) j).flatMap (lvP T.length)).find? (gains T c))) ∧ ((List.range' (t + 1) j).flatMap (lvP T.length)).find? (gains T c) ≠ none ∨
    (((List.range' (t + 1) j).flatMap (lvP T.length)).find? (gains T c) = none ∧ ∃ y2 y3, whileL rg_c rg_b f [some (.v (bD T)), some (.v (nsD c)), some (.v (.list ((lvP T.length t).map nsD))), x3, none, none] = .nx [some (.v (bD T)), some (.v (nsD c)), y2, y3, none, none])
  | 0, t, ht, f + 1, x3, hf => by
    have hn : 0 < T.length ∧ T.length ≤ 5 := ⟨h.pos, h.few⟩
    have e := lv_none hn
    obtain rfl : t = T.length := by omega
    refine .inr ⟨rfl, _, _, whileL_stop ?_⟩
    rw [e]
    exact cBinT_of (a := nD 0) (cCall1_of (d := .list []) rfl rfl) rfl rfl
  | j + 1, t, ht, f + 1, x3, hf => by
    have hn : 0 < T.length ∧ T.length ≤ 5 := ⟨h.pos, h.few⟩
    have hsome := lv_some hn t (by omega)
    have hc : rg_c [some (.v (bD T)), some (.v (nsD c)), some (.v (.list ((lvP T.length t).map nsD))), x3, none, none] = .ok true :=
      cBinT_of (a := nD (lvP T.length t).length) (cCall1_of (d := .list ((lvP T.length t).map nsD)) rfl (by rw [dLen_list, List.length_map])) rfl (by rw [gt_zero, decide_eq_true hsome.1])
    have q1 : sSet 2 (cCallF f_longer (cCons (cVar 2) (cCons (cCall dLen (cCons (cVarB 0) cNil)) cNil))) [some (.v (bD T)), some (.v (nsD c)), some (.v (.list ((lvP T.length t).map nsD))), x3, none, none] = .nx [some (.v (bD T)), some (.v (nsD c)), some (.v (.list ((lvP T.length (t + 1)).map nsD))), x3, none, none] :=
      (sSet_of (cCallF_of (ds := [.list ((lvP T.length t).map nsD), nD T.length]) (cCons_of rfl (cCons_of (len_bD rfl) rfl)) (longer_eq hn t (by omega)))).trans rfl
    have hlv : ∀ r ∈ lvP T.length (t + 1), r.length = t + 2 ∧ r.Nodup ∧ ∀ x ∈ r, x < T.length := fun r hr => lv_in (t + 1) r (List.mem_filter.mp hr).1
    have e := lcL_gen (tgt := gN 5) (p := cBinT dGt (cCallF f_sum_round (cCons (cVar 0) (cCons (cVar 1) (cCons (cVar 5) cNil)))) (cK (.int 0))) (f := cVar 5) (ρ := [some (.v (bD T)), some (.v (nsD c)), some (.v (.list ((lvP T.length (t + 1)).map nsD))), x3, none, none]) (enc := nsD) (fun r => [some (.v (bD T)), some (.v (nsD c)), some (.v (.list ((lvP T.length (t + 1)).map nsD))), x3, none, some (.v (nsD r))]) (gains T c) nsD (xs := lvP T.length (t + 1)) fun r hr => ⟨rfl, by
      obtain ⟨a1, a2, a3⟩ := hlv r hr
      exact cBinT_of (cCallF_of (ds := [bD T, nsD c, nsD r]) rfl (sum_round_eq h (by rintro rfl; simp at a1) (by omega) a3)) rfl rfl, fun _ => rfl⟩
    have hz : (((lvP T.length (t + 1)).filter (gains T c)).map nsD).length ≤ sizeLine := by
      have h1 := List.length_filter_le (gains T c) (lvP T.length (t + 1))
      have h2 : (lvP T.length (t + 1)).length < 1000 := by
        by_cases z : t + 1 < T.length
        · exact (lv_some hn _ z).2
        · rw [show t + 1 = T.length by omega, lv_none hn]; decide
      rw [List.length_map]; unfold sizeLine; omega
    have q2 : sSet 3 (cLc [5] (cItems (cVar 2)) (gN 5) (cBinT dGt (cCallF f_sum_round (cCons (cVar 0) (cCons (cVar 1) (cCons (cVar 5) cNil)))) (cK (.int 0))) (cVar 5)) [some (.v (bD T)), some (.v (nsD c)), some (.v (.list ((lvP T.length (t + 1)).map nsD))), x3, none, none] = .nx [some (.v (bD T)), some (.v (nsD c)), some (.v (.list ((lvP T.length (t + 1)).map nsD))), some (.v (.list (((lvP T.length (t + 1)).filter (gains T c)).map nsD))), none, none] :=
      (sSet_of (cLc_of (cItems_of rfl) e hz)).trans rfl
    have hfd := List.head?_filter (p := gains T c) (l := lvP T.length (t + 1))
    have hgt : cBinT dGt (cCall dLen (cCons (cVarB 3) cNil)) (cK (.int 0)) [some (.v (bD T)), some (.v (nsD c)), some (.v (.list ((lvP T.length (t + 1)).map nsD))), some (.v (.list (((lvP T.length (t + 1)).filter (gains T c)).map nsD))), none, none] = .ok (decide (0 < ((lvP T.length (t + 1)).filter (gains T c)).length)) :=
      cBinT_of (a := nD ((lvP T.length (t + 1)).filter (gains T c)).length) (cCall1_of (d := .list (((lvP T.length (t + 1)).filter (gains T c)).map nsD)) rfl (by rw [dLen_list, List.length_map])) rfl (gt_zero _)
    rw [List.range'_succ, List.flatMap_cons, List.find?_append]
    rw [← hfd]
    have hso := (lv_sorted hn (t + 1) (by have := h.few; omega)).filter (gains T c)
    have hle : ∀ r ∈ (lvP T.length (t + 1)).filter (gains T c), r.length = t + 2 := fun r hr => (hlv r (List.mem_filter.mp hr).1).1
    cases hG : (lvP T.length (t + 1)).filter (gains T c) with
    | nil =>
      rw [hG] at q2 hgt
      have hb : rg_b [some (.v (bD T)), some (.v (nsD c)), some (.v (.list ((lvP T.length t).map nsD))), x3, none, none] = .nx [some (.v (bD T)), some (.v (nsD c)), some (.v (.list ((lvP T.length (t + 1)).map nsD))), some (.v (.list [])), none, none] := sSeq_nx q1 (sSeq_nx q2 (sIf_false hgt rfl))
      rw [whileL_step hc hb]
      simp only [List.head?_nil, Option.none_or]
      exact rg_loop j (t + 1) (by omega) f _ (by omega)
    | cons g gs =>
      rw [hG] at q2 hgt hso hle
      left
      refine ⟨whileL_ret hc (sSeq_nx q1 (sSeq_nx q2 (sIf_true hgt ?_))), by simp⟩
      have q3 : cCall dMinRows (cCons (cVarB 3) cNil) (disown [some (.v (bD T)), some (.v (nsD c)), some (.v (.list ((lvP T.length (t + 1)).map nsD))), some (.v (.list ((g :: gs).map nsD))), none, none]) = .ok (nsD g) := cCall1_of (d := .list ((g :: gs).map nsD)) rfl (min_rows hle hso)
      unfold sRet
      rw [q3]
      rfl
include h in
theorem round_of_gains_eq : f_round_of_gains [bD T, nsD c] = .ok (rowO (told (lk T c) T.length)) := by
  have hn : 0 < T.length ∧ T.length ≤ 5 := ⟨h.pos, h.few⟩
  unfold f_round_of_gains g_round_of_gains
  refine runF_of rfl ?_
  have e := lcL_map (tgt := gN 4) (f := cList (cCons (cVar 4) cNil)) (ρ := enter 6 2 [bD T, nsD c]) (enc := nD) (fun k => [some (.v (bD T)), some (.v (nsD c)), none, none, some (.v (nD k)), none]) (fun k => nsD [k]) (xs := List.range T.length) fun k hk => ⟨rfl, by rfl⟩
  have q1 : sSet 2 (cLc [4] (cIter dRange1 (cCons (cCall dLen (cCons (cVarB 0) cNil)) cNil)) (gN 4) cTrue (cList (cCons (cVar 4) cNil))) (enter 6 2 [bD T, nsD c]) = .nx [some (.v (bD T)), some (.v (nsD c)), some (.v (.list ((lvP T.length 0).map nsD))), none, none, none] := by
    refine (sSet_of (d := .list ((lvP T.length 0).map nsD)) ?_).trans rfl
    have : (lvP T.length 0).map nsD = (List.range T.length).map fun k => nsD [k] := by rw [lv_zero hn, List.map_map]; rfl
    rw [this]
    exact cLc_of (cIter1_of (d := nD T.length) (len_bD rfl) (dRange1_nat (by omega))) e (by rw [List.length_map, List.length_range]; unfold sizeLine; omega)
  have hl := rg_loop h T.length 0 (by omega) 100 none (by omega)
  have q0 : sExpr (cCallF f_check_rule (cCons (cVar 0) (cCons (cVar 1) cNil))) (enter 6 2 [bD T, nsD c]) = .nx (enter 6 2 [bD T, nsD c]) := sExpr_of (cCallF_of (ds := [bD T, nsD c]) rfl (check_rule_eq h))
  unfold told
  rw [cand_lv hn]
  rcases hl with ⟨e1, e2⟩ | ⟨e1, y2, y3, e2⟩
  · exact (congrArg SR.out (sSeq_nx q0 (sSeq_nx q1 (sSeq_rt (g2 := sRet (cK .none)) e1)))).trans out_rt
  · have e1 : ((List.range' 1 T.length).flatMap (lvP T.length)).find? (fun r => decide (0 < tot (lk T c) r)) = none := e1
    rw [e1]
    exact (congrArg SR.out (sSeq_nx q0 (sSeq_nx q1 (sSeq_nx (g2 := sRet (cK .none)) e2 rfl)))).trans (sRet_of rfl)
end
end K05

namespace K05
open PySem PySem.Spec PyProof.Rows L2 G P5
abbrev pD (r : List Nat) : D := .tuple [nD r.length, nsD r]
theorem min_nat (q : List Nat) : ∀ a : Nat, (q.map fun n : Nat => (n : Int)).foldl min (a : Int) = ((q.foldl min a : Nat) : Int) := by
  induction q with
  | nil => intro a; rfl
  | cons b q ih =>
    intro a
    rw [List.map_cons, List.foldl_cons, List.foldl_cons, ← ih]
    congr 1
    omega
theorem dMin_nats {a : Nat} {q : List Nat} : dMin [nsD (a :: q)] = some (nD (minN (a :: q))) := by
  show ((intsOf ((a :: q).map nD)).bind minI).map PyData.int = _
  rw [intsOf_int (fun n : Nat => (n : Int)) (a :: q)]
  show some (PyData.int (((q.map fun n : Nat => (n : Int))).foldl min (a : Int))) = _
  rw [min_nat]
  rfl
theorem lay_pairs (rs : List (List Nat)) : PyData.canLayAll0 (rs.map pD) = true ∧ PyData.depthAll (rs.map pD) ≤ 3 := by
  induction rs with
  | nil => simp [PyData.canLayAll0, PyData.depthAll]
  | cons a r ih =>
    obtain ⟨h1, h2⟩ : PyData.canLayAll0 (a.map nD) = true ∧ PyData.depthAll (a.map nD) ≤ 1 := lay_ints (fun n : Nat => (n : Int)) a
    simp [PyData.canLayAll0, PyData.depthAll, PyData.canLay0, PyData.depth, ih.1, h1]
    have := ih.2
    omega
theorem alike_pairs (rs : List (List Nat)) : alikeB (rs.map pD) = true := by
  unfold alikeB
  rw [List.all_eq_true]
  intro x hx
  obtain ⟨r, _, rfl⟩ := List.mem_map.mp hx
  rw [Bool.and_eq_true, List.all_eq_true]
  refine ⟨rfl, fun y hy => ?_⟩
  obtain ⟨q, _, rfl⟩ := List.mem_map.mp hy
  simp [PySem.W.alike, PySem.W.alikeAll, alike_ints]
theorem sort_pairs (rs : List (List Nat)) : sortB (rs.map pD) = true := by
  unfold sortB
  rw [Bool.or_eq_true, List.all_eq_true]
  left
  intro x hx
  obtain ⟨r, _, rfl⟩ := List.mem_map.mp hx
  rfl
theorem le_pairs {a b : List Nat} (h : ordN a b = true) : PySem.W.dataLe false id (pD a) (pD b) = true := by
  rw [PySem.W.dataLe_eq]
  show (!PySem.W.dataLt (pD b) (pD a)) = true
  rw [PySem.W.dataLt_pair (by simp [PySem.W.alike]) (by simp [PySem.W.alike, alike_ints]), PySem.W.dataLt_int]
  unfold ordN at h
  by_cases e : b.length = a.length
  · rw [if_pos (by simp [PyData.eqv, e])]
    split
    · rfl
    · rw [lt_rows e]
      rcases Bool.or_eq_true_iff.mp h with z | z
      · have := of_decide_eq_true z; omega
      · exact (Bool.and_eq_true_iff.mp z).2
  · rw [if_neg (by simp [PyData.eqv]; omega)]
    rcases Bool.or_eq_true_iff.mp h with z | z
    · have := of_decide_eq_true z
      simp
      omega
    · have := of_decide_eq_true (Bool.and_eq_true_iff.mp z).1
      omega
theorem sorted_pairs {rs : List (List Nat)} (h : rs.Pairwise fun a b => ordN a b = true) : dSortRows [.list (rs.map pD)] = some (.list (rs.map pD)) := by
  have ⟨h1, h2⟩ := lay_pairs rs
  have h4 := PyData.hasDictAll_of_canLayAll _ h1
  show (if alikeB (rs.map pD) = true ∧ sortB (rs.map pD) = true ∧ PyData.depthAll (rs.map pD) ≤ 60 ∧ PyData.hasDictAll (rs.map pD) = false then some (PyData.list (rowSort (rs.map pD))) else none) = _
  rw [if_pos ⟨alike_pairs rs, sort_pairs rs, by omega, h4⟩]
  unfold rowSort
  rw [List.mergeSort_of_pairwise]
  rw [List.pairwise_map]
  exact h.imp fun z => le_pairs z
section
variable {m : Nat} {T : List (List Int)} {c : List Nat} (h : Rule m T c)
abbrev lr_p : En → R Bool := (cAnd (cBinT dGt (cCall dLen (cCons (cVarB 3) cNil)) (cK (.int 1))) (cAnd (cBinT dEq (cBin dIx (cVarB 3) (cK (.int 0))) (cCall dMin (cCons (cVarB 3) cNil))) (cBinT dGt (cCallF f_l_total (cCons (cVar 0) (cCons (cVar 1) (cCons (cVar 3) cNil)))) (cK (.int 0)))))
include h in
theorem lr_test {r : List Nat} (hr : r ∈ rowsN T.length) : lr_p [some (.v (bD T)), some (.v (nsD c)), none, some (.v (nsD r))] = .ok (isCand r && gains T c r) := by
  obtain ⟨h0, h1, h2⟩ := rows_in hr
  have hf := h.few
  have hz := nodup_few h1 h2
  obtain ⟨a, q, rfl⟩ : ∃ a q, r = a :: q := by
    cases r with
    | nil => exact absurd rfl h0
    | cons a q => exact ⟨a, q, rfl⟩
  have q1 : cBinT dGt (cCall dLen (cCons (cVarB 3) cNil)) (cK (.int 1)) [some (.v (bD T)), some (.v (nsD c)), none, some (.v (nsD (a :: q)))] = .ok (decide (1 < (a :: q).length)) := by
    refine cBinT_of (len_nsD rfl) rfl ?_
    show some (PyData.bool (decide ((1 : Int) < ((a :: q).length : Nat)))) = _
    congr 2
    rw [decide_eq_decide]
    omega
  have q2 : cBinT dEq (cBin dIx (cVarB 3) (cK (.int 0))) (cCall dMin (cCons (cVarB 3) cNil)) [some (.v (bD T)), some (.v (nsD c)), none, some (.v (nsD (a :: q)))] = .ok (decide ((a :: q).headD 0 = minN (a :: q))) := by
    refine cBinT_of (cBin_of (a := nsD (a :: q)) (b := nD 0) (e := nD a) rfl rfl (nat_ix (l := a :: q) (i := 0) (by simp))) (cCall1_of (d := nsD (a :: q)) rfl dMin_nats) ?_
    rw [dEq_int]
    congr 2
    rw [decide_eq_decide]
    show (a : Int) = _ ↔ a = _
    omega
  have q3 : cBinT dGt (cCallF f_l_total (cCons (cVar 0) (cCons (cVar 1) (cCons (cVar 3) cNil)))) (cK (.int 0)) [some (.v (bD T)), some (.v (nsD c)), none, some (.v (nsD (a :: q)))] = .ok (gains T c (a :: q)) :=
    cBinT_of (cCallF_of (ds := [bD T, nsD c, nsD (a :: q)]) rfl (l_total_eq h (by omega) h2)) rfl rfl
  unfold isCand
  cases z1 : decide (1 < (a :: q).length) with
  | false => rw [z1] at q1; exact cAnd_f q1
  | true =>
    rw [z1] at q1
    refine cAnd_t q1 ?_
    cases z2 : decide ((a :: q).headD 0 = minN (a :: q)) with
    | false => rw [z2] at q2; exact cAnd_f q2
    | true => rw [z2] at q2; exact cAnd_t q2 q3
include h in
theorem l_round_eq : f_l_round [bD T, nsD c] = .ok (rowO (told (lk T c) T.length)) := by
  have hn : 0 < T.length ∧ T.length ≤ 5 := ⟨h.pos, h.few⟩
  unfold f_l_round g_l_round
  refine runF_of rfl ?_
  have e := lcL_gen (tgt := gN 3) (p := lr_p) (f := cTup (cCons (cCall dLen (cCons (cVarB 3) cNil)) (cCons (cVar 3) cNil))) (ρ := enter 4 2 [bD T, nsD c]) (enc := nsD) (fun r => [some (.v (bD T)), some (.v (nsD c)), none, some (.v (nsD r))]) (fun r => isCand r && gains T c r) pD (xs := rowsN T.length) fun r hr => ⟨rfl, lr_test h hr, fun _ => cTup2_of (len_nsD rfl) rfl⟩
  have hg : (rowsN T.length).filter (fun r => isCand r && gains T c r) = (cand T.length).filter (gains T c) := by
    unfold cand
    rw [List.filter_filter]
    congr 1
    funext r
    rw [Bool.and_comm]
  rw [hg] at e
  have hz : ((cand T.length).filter (gains T c)).length < 1000 := by
    have h1 := List.length_filter_le (gains T c) (cand T.length)
    have h2 := List.length_filter_le isCand (rowsN T.length)
    have h3 := (rows_few hn).2
    have h4 : (cand T.length).length ≤ (rowsN T.length).length := h2
    omega
  have q1 : sSet 2 (cLc [3] (cItems (cCallF f_l_rows (cCons (cCall dLen (cCons (cVarB 0) cNil)) cNil))) (gN 3) lr_p (cTup (cCons (cCall dLen (cCons (cVarB 3) cNil)) (cCons (cVar 3) cNil)))) (enter 4 2 [bD T, nsD c]) = .nx [some (.v (bD T)), some (.v (nsD c)), some (.v (.list (((cand T.length).filter (gains T c)).map pD))), none] :=
    (sSet_of (cLc_of (cItems_of (cCallF1_of (d := nD T.length) (len_bD rfl) (l_rows_eq hn))) e (by rw [List.length_map]; unfold sizeLine; omega))).trans rfl
  refine (congrArg SR.out (sSeq_nx q1 rfl)).trans (sRet_of ?_)
  have hfd := List.head?_filter (p := gains T c) (l := cand T.length)
  have hso := (cand_sorted hn).filter (gains T c)
  unfold told
  rw [← hfd]
  have q2 : cBin dAdd (cCall dSortRows (cCons (cVarB 2) cNil)) (cList (cCons (cTup (cCons (cK (.int 0)) (cCons (cK .none) cNil))) cNil)) (disown [some (.v (bD T)), some (.v (nsD c)), some (.v (.list (((cand T.length).filter (gains T c)).map pD))), none]) = .ok (.list (((cand T.length).filter (gains T c)).map pD ++ [.tuple [.int 0, .none]])) :=
    cBin_of (a := .list (((cand T.length).filter (gains T c)).map pD)) (b := .list [.tuple [.int 0, .none]]) (cCall1_of (d := .list (((cand T.length).filter (gains T c)).map pD)) rfl (sorted_pairs hso)) (by rfl) (dAdd_list (by rw [List.length_map]; simp; unfold sizeLine; omega))
  cases hG : (cand T.length).filter (gains T c) with
  | nil =>
    rw [hG] at q2
    exact cBin_of (b := .int 1) (cBin_of (b := .int 0) q2 rfl (by rfl)) rfl (by rfl)
  | cons g gs =>
    rw [hG] at q2
    exact cBin_of (a := pD g) (b := .int 1) (cBin_of (b := .int 0) q2 rfl (by rw [dIx_zero]; rfl)) rfl (by rw [dIxT_one]; rfl)
end
end K05

namespace K05
open PySem PySem.Spec PyProof.Rows L2 G P5
theorem loopL_st {α : Type} {P : List Int → En → Prop} {tgt : TgF} {body : En → SR} {enc : α → D} {f : List Int → α → List Int} {n : Nat} : ∀ {xs : List α} {F : List Int} {ρ : En}, (∀ x ∈ xs, ∀ F ρ, F.length = n → P F ρ → ∃ ρ1 ρ2, tgt (enc x) ρ = some ρ1 ∧ body ρ1 = .nx ρ2 ∧ P (f F x) ρ2 ∧ (f F x).length = n) → F.length = n → P F ρ →
    ∃ ρ2, loopL tgt body (xs.map enc) ρ = .nx ρ2 ∧ P (xs.foldl f F) ρ2 ∧ (xs.foldl f F).length = n
  | [], F, ρ, _, hl, h => ⟨ρ, rfl, h, hl⟩
  | x :: xs, F, ρ, hx, hl, h => by
    obtain ⟨ρ1, ρ2, e1, e2, h2, l2⟩ := hx x List.mem_cons_self F ρ hl h
    obtain ⟨ρ3, e3, h3, l3⟩ := loopL_st (P := P) (f := f) (xs := xs) (fun a ha => hx a (List.mem_cons_of_mem _ ha)) l2 h2
    exact ⟨ρ3, loopL_nx e1 e2 e3, h3, l3⟩
theorem sSetL_of {i : Nat} {fi f : En → R D} {ρ : En} {t : Bool} {ds : List D} {d : D} {k : Nat} (ho : ρ[i]? = some (some (.own t (.list ds)))) (h : f ρ = .ok d) (h2 : fi ρ = .ok (nD k)) (hk : k < ds.length) : sSetL i fi f ρ = .nx (ρ.set i (some (.own t (.list (ds.set k d))))) := by
  have hx : ixN ds.length (k : Int) = some k := by
    unfold ixN
    rw [if_pos (by omega), if_pos (by omega)]
    simp
  unfold sSetL ownL
  rw [ho]
  simp only [h, h2, R.bind, toI, Option.bind_some, hx, Option.map_some, ofO, SR.of]
theorem cCall2_of {df : List D → Option D} {f g : En → R D} {ρ : En} {a b e : D} (h1 : f ρ = .ok a) (h2 : g ρ = .ok b) (h3 : df [a, b] = some e) : cCall df (cCons f (cCons g cNil)) ρ = .ok e := by
  simp only [cCall, cCons, cNil, h1, h2, R.bind, h3, ofO]
section
variable {m : Nat} {T : List (List Int)} {c : List Nat} (h : Rule m T c)
/-- the room of the greatest payments -/
abbrev payE (T : List (List Int)) (c : List Nat) (F : List Int) (x4 x5 x7 : Option Sl) : En := [some (.v (bD T)), some (.v (nsD c)), some (.v (nD T.length)), some (.own false (tD F)), x4, x5, none, x7]
abbrev gp_s : En → SR := (sSetL 3 (cVar 7) (cCall dMin2 (cCons (cBin dIx (cVarB 3) (cVar 7)) (cCons (cBin dSub (cBin dIx (cVarB 3) (cVar 5)) (cCallF f_likes_more (cCons (cVar 0) (cCons (cVar 1) (cCons (cVar 7) (cCons (cVar 5) cNil)))))) cNil))))
include h in
theorem gp_step {F : List Int} (hF : F.length = T.length) {one two : Nat} (h1 : one < T.length) (h2 : two < T.length) (x4 : Option Sl) : gp_s (payE T c F x4 (some (.v (nD one))) (some (.v (nD two)))) = .nx (payE T c (pull (cst (lk T c)) one two F) x4 (some (.v (nD one))) (some (.v (nD two)))) := by
  have q1 : cBin dIx (cVarB 3) (cVar 7) (payE T c F x4 (some (.v (nD one))) (some (.v (nD two)))) = .ok (.int (C.at_ F two)) := cBin_of (a := tD F) rfl rfl (tbl_ix F two (by omega))
  have q2 : cBin dSub (cBin dIx (cVarB 3) (cVar 5)) (cCallF f_likes_more (cCons (cVar 0) (cCons (cVar 1) (cCons (cVar 7) (cCons (cVar 5) cNil))))) (payE T c F x4 (some (.v (nD one))) (some (.v (nD two)))) = .ok (.int (C.at_ F one - lk T c two one)) :=
    cBin_of (cBin_of (a := tD F) rfl rfl (tbl_ix F one (by omega))) (cCallF_of (ds := [bD T, nsD c, nD two, nD one]) rfl (likes_eq h h2 h1)) rfl
  have q3 : cCall dMin2 (cCons (cBin dIx (cVarB 3) (cVar 7)) (cCons (cBin dSub (cBin dIx (cVarB 3) (cVar 5)) (cCallF f_likes_more (cCons (cVar 0) (cCons (cVar 1) (cCons (cVar 7) (cCons (cVar 5) cNil)))))) cNil)) (payE T c F x4 (some (.v (nD one))) (some (.v (nD two)))) = .ok (.int (min (C.at_ F two) (C.at_ F one - lk T c two one))) := cCall2_of q1 q2 rfl
  refine (sSetL_of (t := false) (ds := F.map PyData.int) (k := two) rfl q3 rfl (by rw [List.length_map]; omega)).trans ?_
  have : PyData.list ((F.map PyData.int).set two (.int (min (C.at_ F two) (C.at_ F one - lk T c two one)))) = tD (pull (cst (lk T c)) one two F) := by
    unfold pull tD
    rw [List.map_set]
    rfl
  rw [this]
  rfl
theorem pull_len {u : Nat → Nat → Int} {one two : Nat} {F : List Int} : (pull u one two F).length = F.length := by rw [pull, List.length_set]
abbrev gp_i : En → SR := (sFor (gN 7) (cIter dRange1 (cCons (cVarB 2) cNil)) gp_s)
abbrev gp_o : En → SR := (sFor (gN 5) (cIter dRange1 (cCons (cVarB 2) cNil)) gp_i)
include h in
theorem gp_rng {F : List Int} {x4 x5 x7 : Option Sl} : cIter dRange1 (cCons (cVarB 2) cNil) (payE T c F x4 x5 x7) = .ok ((List.range T.length).map nD) := by
  have := h.few
  exact cIter1_of (d := nD T.length) rfl (dRange1_nat (by omega))
include h in
theorem gp_one {F : List Int} (hF : F.length = T.length) {one : Nat} (h1 : one < T.length) (x4 x7 : Option Sl) : ∃ y7, gp_i (payE T c F x4 (some (.v (nD one))) x7) = .nx (payE T c (pullAll (cst (lk T c)) T.length one F) x4 (some (.v (nD one))) y7) ∧ (pullAll (cst (lk T c)) T.length one F).length = T.length := by
  obtain ⟨ρ2, e, ⟨y7, rfl⟩, hl⟩ := loopL_st (P := fun F ρ => ∃ y7, ρ = payE T c F x4 (some (.v (nD one))) y7) (tgt := gN 7) (body := gp_s) (enc := nD) (f := fun F two => pull (cst (lk T c)) one two F) (n := T.length) (xs := List.range T.length) (F := F) (ρ := payE T c F x4 (some (.v (nD one))) x7) (fun two h2 F ρ hF hρ => by
    obtain ⟨y7, rfl⟩ := hρ
    exact ⟨_, _, rfl, gp_step h hF h1 (List.mem_range.mp h2) x4, ⟨_, rfl⟩, by rw [pull_len, hF]⟩) hF ⟨_, rfl⟩
  exact ⟨y7, sFor_of (gp_rng h) e, hl⟩
include h in
theorem gp_turn {F : List Int} (hF : F.length = T.length) (x4 x5 x7 : Option Sl) : ∃ y5 y7, gp_o (payE T c F x4 x5 x7) = .nx (payE T c (turn (cst (lk T c)) T.length F) x4 y5 y7) ∧ (turn (cst (lk T c)) T.length F).length = T.length := by
  obtain ⟨ρ2, e, ⟨y5, y7, rfl⟩, hl⟩ := loopL_st (P := fun F ρ => ∃ y5 y7, ρ = payE T c F x4 y5 y7) (tgt := gN 5) (body := gp_i) (enc := nD) (f := fun F one => pullAll (cst (lk T c)) T.length one F) (n := T.length) (xs := List.range T.length) (F := F) (ρ := payE T c F x4 x5 x7) (fun one h1 F ρ hF hρ => by
    obtain ⟨y5, y7, rfl⟩ := hρ
    obtain ⟨z7, e, hl⟩ := gp_one h hF (List.mem_range.mp h1) x4 y7
    exact ⟨_, _, rfl, e, ⟨_, _, rfl⟩, hl⟩) hF ⟨_, _, rfl⟩
  exact ⟨y5, y7, sFor_of (gp_rng h) e, hl⟩
def payO (T : List (List Int)) (c : List Nat) : D := match told (lk T c) T.length with
  | none => tD (bf (cst (lk T c)) T.length)
  | some _ => .none
include h in
theorem keeps_told : (keepsB T c (bf (cst (lk T c)) T.length) && decide (C.at_ (bf (cst (lk T c)) T.length) 0 = 0)) = (told (lk T c) T.length).isNone := by
  have hc0 : cst (lk T c) 0 0 = 0 := by show -lk T c 0 0 = 0; rw [lk_self]; rfl
  cases e : told (lk T c) T.length with
  | none =>
    have hf := told_none (lk T c) (lk_self T c) e
    have h1 := keepsB_iff.mpr (bf_keeps (cst (lk T c)) hf hc0 h.pos)
    have h2 : C.at_ (bf (cst (lk T c)) T.length) 0 = 0 := bf_zero (cst (lk T c)) hf hc0 h.pos
    rw [h1, h2]
    rfl
  | some r =>
    have hf := told_some (lk T c) e
    cases hk : keepsB T c (bf (cst (lk T c)) T.length) with
    | false => rfl
    | true => exact absurd (keeps_fair (cst (lk T c)) (keepsB_iff.mp hk)) hf
theorem cIf_t {p : En → R Bool} {f g : En → R D} {ρ : En} {r : R D} (h : p ρ = .ok true) (h2 : f ρ = r) : cIf p f g ρ = r := by
  simp only [cIf, h, R.bind]
  exact h2
theorem cIf_f {p : En → R Bool} {f g : En → R D} {ρ : En} {r : R D} (h : p ρ = .ok false) (h2 : g ρ = r) : cIf p f g ρ = r := by
  simp only [cIf, h, R.bind]
  exact h2
include h in
theorem gp_start : sSetN 3 false (cLc [6] (cIter dRange1 (cCons (cVarB 2) cNil)) (gN 6) cTrue (cUn dNeg (cCallF f_likes_more (cCons (cVar 0) (cCons (cVar 1) (cCons (cVar 6) (cCons (cK (.int 0)) cNil))))))) [some (.v (bD T)), some (.v (nsD c)), some (.v (nD T.length)), none, none, none, none, none] = .nx (payE T c (P5.start (cst (lk T c)) T.length) none none none) := by
  have hfew := h.few
  have e2 := lcL_map (tgt := gN 6) (f := cUn dNeg (cCallF f_likes_more (cCons (cVar 0) (cCons (cVar 1) (cCons (cVar 6) (cCons (cK (.int 0)) cNil)))))) (ρ := [some (.v (bD T)), some (.v (nsD c)), some (.v (nD T.length)), none, none, none, none, none]) (enc := nD) (fun k => [some (.v (bD T)), some (.v (nsD c)), some (.v (nD T.length)), none, none, none, some (.v (nD k)), none]) (fun k => .int (cst (lk T c) k 0)) (xs := List.range T.length) fun k hk => ⟨rfl, cUn_of (cCallF_of (ds := [bD T, nsD c, nD k, nD 0]) rfl (likes_eq h (List.mem_range.mp hk) h.pos)) rfl⟩
  have q : cLc [6] (cIter dRange1 (cCons (cVarB 2) cNil)) (gN 6) cTrue (cUn dNeg (cCallF f_likes_more (cCons (cVar 0) (cCons (cVar 1) (cCons (cVar 6) (cCons (cK (.int 0)) cNil)))))) [some (.v (bD T)), some (.v (nsD c)), some (.v (nD T.length)), none, none, none, none, none] = .ok (tD (P5.start (cst (lk T c)) T.length)) := by
    have : tD (P5.start (cst (lk T c)) T.length) = .list ((List.range T.length).map fun k => .int (cst (lk T c) k 0)) := by simp [P5.start, tD]
    rw [this]
    exact cLc_of (cIter1_of (d := nD T.length) rfl (dRange1_nat (by omega))) e2 (by rw [List.length_map, List.length_range]; unfold sizeLine; omega)
  exact (sSetN_of q).trans rfl
include h in
theorem gp_all : ∃ y4 y5 y7, loopL (gN 4) gp_o ((List.range T.length).map nD) (payE T c (P5.start (cst (lk T c)) T.length) none none none) = .nx (payE T c (bf (cst (lk T c)) T.length) y4 y5 y7) := by
  obtain ⟨ρ2, e, ⟨y4, y5, y7, rfl⟩, hl⟩ := loopL_st (P := fun F ρ => ∃ y4 y5 y7, ρ = payE T c F y4 y5 y7) (tgt := gN 4) (body := gp_o) (enc := nD) (f := fun F _ => turn (cst (lk T c)) T.length F) (n := T.length) (xs := List.range T.length) (F := P5.start (cst (lk T c)) T.length) (ρ := payE T c (P5.start (cst (lk T c)) T.length) none none none) (fun k hk F ρ hF hρ => by
    obtain ⟨y4, y5, y7, rfl⟩ := hρ
    obtain ⟨z5, z7, e, hl⟩ := gp_turn h hF (some (.v (nD k))) y5 y7
    exact ⟨_, _, rfl, e, ⟨_, _, _, rfl⟩, hl⟩) (by simp [P5.start]) ⟨_, _, _, rfl⟩
  exact ⟨y4, y5, y7, e⟩
abbrev gp_test : En → R Bool := cAnd (cTest (cCallF f_does_keep (cCons (cVar 0) (cCons (cVar 1) (cCons (cVar 3) cNil))))) (cBinT dEq (cBin dIx (cVarB 3) (cK (.int 0))) (cK (.int 0)))
include h in
theorem gp_tested {F : List Int} (hl : F.length = T.length) (y4 y5 y7 : Option Sl) : gp_test [some (.v (bD T)), some (.v (nsD c)), some (.v (nD T.length)), some (.v (tD F)), y4, y5, none, y7] = .ok (keepsB T c F && decide (C.at_ F 0 = 0)) := by
  have a1 : cTest (cCallF f_does_keep (cCons (cVar 0) (cCons (cVar 1) (cCons (cVar 3) cNil)))) [some (.v (bD T)), some (.v (nsD c)), some (.v (nD T.length)), some (.v (tD F)), y4, y5, none, y7] = .ok (keepsB T c F) := cTest_of (cCallF_of (ds := [bD T, nsD c, tD F]) rfl (does_keep_eq h hl))
  have a2 : cBinT dEq (cBin dIx (cVarB 3) (cK (.int 0))) (cK (.int 0)) [some (.v (bD T)), some (.v (nsD c)), some (.v (nD T.length)), some (.v (tD F)), y4, y5, none, y7] = .ok (decide (C.at_ F 0 = 0)) := cBinT_of (cBin_of (a := tD F) (b := nD 0) rfl rfl (tbl_ix _ 0 (by rw [hl]; exact h.pos))) rfl (dEq_int _ _)
  cases z : keepsB T c F with
  | false => rw [z] at a1; exact cAnd_f a1
  | true => rw [z] at a1; exact cAnd_t a1 a2
include h in
theorem gp_last (y4 y5 y7 : Option Sl) : (sRet (cIf gp_test (cVar 3) (cK .none)) (payE T c (bf (cst (lk T c)) T.length) y4 y5 y7)).out = .ok (payO T c) := by
  have hl : (bf (cst (lk T c)) T.length).length = T.length := bf_len _
  have q := gp_tested h hl (G.letGo y4) (G.letGo y5) (G.letGo y7)
  rw [keeps_told h] at q
  unfold payO
  generalize bf (cst (lk T c)) T.length = F at q ⊢
  have ed : disown (payE T c F y4 y5 y7) = [some (.v (bD T)), some (.v (nsD c)), some (.v (nD T.length)), some (.v (tD F)), G.letGo y4, G.letGo y5, none, G.letGo y7] := rfl
  refine sRet_of ?_
  rw [ed]
  cases z : told (lk T c) T.length with
  | none =>
    rw [z] at q
    exact cIf_t q rfl
  | some r =>
    rw [z] at q
    exact cIf_f q rfl
include h in
theorem greatest_eq : f_greatest_payments [bD T, nsD c] = .ok (payO T c) := by
  obtain ⟨y4, y5, y7, e⟩ := gp_all h
  unfold f_greatest_payments g_greatest_payments
  refine runF_of rfl ?_
  have q0 : sExpr (cCallF f_check_rule (cCons (cVar 0) (cCons (cVar 1) cNil))) (enter 8 2 [bD T, nsD c]) = .nx (enter 8 2 [bD T, nsD c]) := sExpr_of (cCallF_of (ds := [bD T, nsD c]) rfl (check_rule_eq h))
  have q1 : sSet 2 (cCall dLen (cCons (cVarB 0) cNil)) (enter 8 2 [bD T, nsD c]) = .nx [some (.v (bD T)), some (.v (nsD c)), some (.v (nD T.length)), none, none, none, none, none] := (sSet_of (len_bD rfl)).trans rfl
  exact (congrArg SR.out (sSeq_nx q0 (sSeq_nx q1 (sSeq_nx (gp_start h) (sSeq_nx (g2 := sRet (cIf gp_test (cVar 3) (cK .none))) (sFor_of (gp_rng h) e) rfl))))).trans (gp_last h y4 y5 y7)
end
end K05

namespace K05
open PySem PySem.Spec PyProof.Rows L2 G P5
theorem range2_eq {a b : Nat} (ha : a < 2 ^ 60) (hb : b < 2 ^ 60) : dRange2 [nD a, nD b] = some ((List.range (b - a)).map fun k => nD (a + k)) := by
  unfold dRange2
  have p1 : (2 : Int) ^ 62 = 4611686018427387904 := by decide
  have p2 : (2 : Nat) ^ 60 = 1152921504606846976 := by decide
  rw [p2] at ha hb
  simp only [p1]
  rw [if_pos ⟨by omega, by omega, by omega, by omega⟩]
  unfold rangeD
  have : ((b : Int) - a).toNat = b - a := by omega
  rw [this]
  congr 1
theorem cIter2_of {df : List D → Option (List D)} {f g : En → R D} {ρ : En} {a b : D} {e : List D} (h1 : f ρ = .ok a) (h2 : g ρ = .ok b) (h3 : df [a, b] = some e) : cIter df (cCons f (cCons g cNil)) ρ = .ok e := by
  simp only [cIter, cCons, cNil, h1, h2, R.bind, h3, ofO]
section
variable {m : Nat} {T : List (List Int)} {c : List Nat} (h : Rule m T c)
abbrev lE (T : List (List Int)) (c : List Nat) (fs : List D) (k : Nat) (ss : List D) (x5 : Option Sl) : En := [some (.v (bD T)), some (.v (nsD c)), some (.own false (.list fs)), some (.v (nD k)), some (.own false (.list ss)), x5, none]
abbrev lg_p : En → R Bool := (cAnd (cBinT dEq (cBin dIx (cVarB 5) (cK (.int 0))) (cK (.int 0))) (cAnd (cBinT dEq (cBin dIx (cVarB 5) (cUn dNeg (cK (.int 1)))) (cVarB 3)) (cBinT dGt (cCall dLen (cCons (cVarB 5) cNil)) (cK (.int 1)))))
abbrev lg_s : En → R D := (cCall dSum (cCons (cLc [6] (cIter dRange2 (cCons (cK (.int 1)) (cCons (cCall dLen (cCons (cVarB 5) cNil)) cNil))) (gN 6) cTrue (cUn dNeg (cCallF f_l_more (cCons (cVar 0) (cCons (cVar 1) (cCons (cBin dIx (cVarB 5) (cVar 6)) (cCons (cBin dIx (cVarB 5) (cBin dSub (cVarB 6) (cK (.int 1)))) cNil))))))) cNil))
def lowB (k : Nat) (r : List Nat) : Bool := decide (r.headD 0 = 0) && (decide (r.getLastD 0 = k) && decide (1 < r.length))
theorem lg_test {r : List Nat} (h0 : r ≠ []) (k : Nat) (fs ss : List D) : lg_p (lE T c fs k ss (some (.v (nsD r)))) = .ok (lowB k r) := by
  obtain ⟨a, q, rfl⟩ : ∃ a q, r = a :: q := by
    cases r with
    | nil => exact absurd rfl h0
    | cons a q => exact ⟨a, q, rfl⟩
  have q1 : cBinT dEq (cBin dIx (cVarB 5) (cK (.int 0))) (cK (.int 0)) (lE T c fs k ss (some (.v (nsD (a :: q))))) = .ok (decide ((a :: q).headD 0 = 0)) := by
    refine cBinT_of (cBin_of (a := nsD (a :: q)) (b := nD 0) (e := nD a) rfl rfl (nat_ix (l := a :: q) (i := 0) (by simp))) rfl ?_
    rw [dEq_int]
    congr 2
    rw [decide_eq_decide]
    show (a : Int) = 0 ↔ a = 0
    omega
  have q2 : cBinT dEq (cBin dIx (cVarB 5) (cUn dNeg (cK (.int 1)))) (cVarB 3) (lE T c fs k ss (some (.v (nsD (a :: q))))) = .ok (decide ((a :: q).getLastD 0 = k)) := by
    refine cBinT_of (cBin_of (a := nsD (a :: q)) (b := .int (-1)) (e := nD ((a :: q).getLastD 0)) rfl rfl ?_) (b := nD k) rfl ?_
    · show dIx (.list ((a :: q).map nD)) (.int (-1)) = _
      rw [dIx_last, List.getLast?_map, List.getLast?_eq_some_getLast (by simp), List.getLastD_eq_getLast?, List.getLast?_eq_some_getLast (by simp)]
      rfl
    · rw [dEq_int]
      congr 2
      rw [decide_eq_decide]
      omega
  have q3 : cBinT dGt (cCall dLen (cCons (cVarB 5) cNil)) (cK (.int 1)) (lE T c fs k ss (some (.v (nsD (a :: q))))) = .ok (decide (1 < (a :: q).length)) := by
    refine cBinT_of (len_nsD rfl) rfl ?_
    show some (PyData.bool (decide ((1 : Int) < ((a :: q).length : Nat)))) = _
    congr 2
    rw [decide_eq_decide]
    omega
  unfold lowB
  cases z1 : decide ((a :: q).headD 0 = 0) with
  | false => rw [z1] at q1; exact cAnd_f q1
  | true =>
    rw [z1] at q1
    refine cAnd_t q1 ?_
    cases z2 : decide ((a :: q).getLastD 0 = k) with
    | false => rw [z2] at q2; exact cAnd_f q2
    | true => rw [z2] at q2; exact cAnd_t q2 q3
include h in
theorem lg_sum {r : List Nat} (hz : r.length < 1000) (hl : ∀ x ∈ r, x < T.length) (k : Nat) (fs ss : List D) : lg_s (lE T c fs k ss (some (.v (nsD r)))) = .ok (.int (back (lk T c) r)) := by
  have e := lcL_map (tgt := gN 6) (f := cUn dNeg (cCallF f_l_more (cCons (cVar 0) (cCons (cVar 1) (cCons (cBin dIx (cVarB 5) (cVar 6)) (cCons (cBin dIx (cVarB 5) (cBin dSub (cVarB 6) (cK (.int 1)))) cNil)))))) (ρ := lE T c fs k ss (some (.v (nsD r)))) (enc := fun j => nD (1 + j)) (fun j => [some (.v (bD T)), some (.v (nsD c)), some (.own false (.list fs)), some (.v (nD k)), some (.own false (.list ss)), some (.v (nsD r)), some (.v (nD (1 + j)))]) (fun j => .int (-lk T c (r.getD (j + 1) 0) (r.getD j 0))) (xs := List.range (r.length - 1)) fun j hj => ⟨rfl, by
    have hj := List.mem_range.mp hj
    have a1 : cBin dIx (cVarB 5) (cVar 6) [some (.v (bD T)), some (.v (nsD c)), some (.own false (.list fs)), some (.v (nD k)), some (.own false (.list ss)), some (.v (nsD r)), some (.v (nD (1 + j)))] = .ok (nD (r.getD (j + 1) 0)) := cBin_of (a := nsD r) (b := nD (1 + j)) rfl rfl (by rw [Nat.add_comm]; exact nat_ix (by omega))
    have a2 : cBin dIx (cVarB 5) (cBin dSub (cVarB 6) (cK (.int 1))) [some (.v (bD T)), some (.v (nsD c)), some (.own false (.list fs)), some (.v (nD k)), some (.own false (.list ss)), some (.v (nsD r)), some (.v (nD (1 + j)))] = .ok (nD (r.getD j 0)) := by
      refine cBin_of (a := nsD r) (b := nD j) rfl (cBin_of (a := nD (1 + j)) rfl rfl ?_) (nat_ix (by omega))
      show some (PyData.int (((1 + j : Nat) : Int) - 1)) = some (PyData.int (j : Int))
      congr 2
      omega
    exact cUn_of (cCallF_of (ds := [bD T, nsD c, nD (r.getD (j + 1) 0), nD (r.getD j 0)]) (cCons_of rfl (cCons_of rfl (cCons_of a1 (cCons_of a2 rfl)))) (more_eq h (hl _ (getD_mem (by omega))) (hl _ (getD_mem (by omega))))) rfl⟩
  refine cCall1_of (cLc_of (cIter2_of (a := nD 1) (b := nD r.length) rfl (len_nsD rfl) (range2_eq (by decide) (Nat.lt_trans hz (by decide)))) e (by rw [List.length_map, List.length_range]; unfold sizeLine; omega)) ?_
  show (intsOf _).map _ = _
  rw [intsOf_int]
  rfl
include h in
theorem lg_rows (k : Nat) (fs : List D) : ∀ (rs : List (List Nat)) (ss : List D) (x5 : Option Sl), (∀ r ∈ rs, r ∈ rowsN T.length) → ss.length + rs.length < 5000 → ∃ y5, loopL (gN 5) (sIf lg_p (sAppend 4 lg_s) sNext) (rs.map nsD) (lE T c fs k ss x5) = .nx (lE T c fs k (ss ++ (rs.filter (lowB k)).map fun r => .int (back (lk T c) r)) y5)
  | [], ss, x5, _, _ => ⟨x5, by simp [loopL]⟩
  | r :: rs, ss, x5, hr, hz => by
    obtain ⟨h0, h1, h2⟩ := rows_in (hr r List.mem_cons_self)
    have hfew := h.few
    have hlen := nodup_few h1 h2
    have ht := lg_test (T := T) (c := c) h0 k fs ss
    rw [List.length_cons] at hz
    cases z : lowB k r with
    | false =>
      rw [z] at ht
      obtain ⟨y5, e⟩ := lg_rows k fs rs ss (some (.v (nsD r))) (fun a ha => hr a (List.mem_cons_of_mem _ ha)) (by omega)
      refine ⟨y5, loopL_nx (ρ1 := lE T c fs k ss (some (.v (nsD r)))) rfl (sIf_false ht rfl) ?_⟩
      rw [List.filter_cons_of_neg (by rw [z]; decide)]
      exact e
    | true =>
      rw [z] at ht
      obtain ⟨y5, e⟩ := lg_rows k fs rs (ss ++ [.int (back (lk T c) r)]) (some (.v (nsD r))) (fun a ha => hr a (List.mem_cons_of_mem _ ha)) (by rw [List.length_append]; simp; omega)
      have ha : sAppend 4 lg_s (lE T c fs k ss (some (.v (nsD r)))) = .nx (lE T c fs k (ss ++ [.int (back (lk T c) r)]) (some (.v (nsD r)))) := (sAppend_of (t := false) (ds := ss) rfl (lg_sum h (by omega) h2 k fs ss) (by unfold sizeLine; omega)).trans rfl
      refine ⟨y5, loopL_nx (ρ1 := lE T c fs k ss (some (.v (nsD r)))) rfl (sIf_true ht ha) ?_⟩
      rw [List.filter_cons_of_pos z, List.map_cons]
      rw [List.append_assoc] at e
      exact e
variable (hf : Fair (cst (lk T c)) T.length)
include h hf in
theorem lows_min (k : Nat) (hk : k < T.length) : dMin [tD (lows (lk T c) T.length k)] = some (.int ((bf (cst (lk T c)) T.length).getD k 0)) := by
  have h1 := lows_le (lk T c) (lk_self T c) hf h.pos k hk
  obtain ⟨x, hx, hx2⟩ := lows_has (lk T c) (lk_self T c) hf h.pos k hk
  cases e : lows (lk T c) T.length k with
  | nil => rw [e] at hx; cases hx
  | cons a q =>
    rw [e] at h1 hx
    show ((intsOf ((a :: q).map PyData.int)).bind minI).map PyData.int = _
    rw [intsOf_map]
    show some (PyData.int (q.foldl min a)) = _
    obtain ⟨f1, f2⟩ := foldl_min a q
    have a1 := h1 _ f1
    have a2 := f2 x hx
    have : q.foldl min a = (bf (cst (lk T c)) T.length).getD k 0 := by omega
    rw [this]
abbrev lg_b : En → SR := (sSeq (sSetN 4 false (cBin dTimes (cList (cCons (cK (.int 0)) cNil)) (cCall dInt (cCons (cBin dEq (cVarB 3) (cK (.int 0))) cNil))))
    (sSeq (sFor (gN 5) (cItems (cCallF f_l_rows (cCons (cCall dLen (cCons (cVarB 0) cNil)) cNil)))
    (sIf lg_p (sAppend 4 lg_s) sNext))
    (sAppend 2 (cCall dMin (cCons (cVarB 4) cNil)))))
theorem lg_zero (k : Nat) {ρ : En} (h3 : cVarB 3 ρ = .ok (nD k)) : cBin dTimes (cList (cCons (cK (.int 0)) cNil)) (cCall dInt (cCons (cBin dEq (cVarB 3) (cK (.int 0))) cNil)) ρ = .ok (tD (if k = 0 then [0] else [])) := by
  by_cases z : k = 0
  · subst z
    refine cBin_of (a := .list [.int 0]) (b := .int 1) (by rfl) (cCall1_of (d := .bool true) (cBin_of h3 rfl (by rw [dEq_int]; rfl)) rfl) (by rfl)
  · refine cBin_of (a := .list [.int 0]) (b := .int 0) (by rfl) (cCall1_of (d := .bool false) (cBin_of h3 rfl (by rw [dEq_int, decide_eq_false (by omega)])) rfl) ?_
    rw [if_neg z]
    rfl
include h hf in
theorem lg_step (k : Nat) (hk : k < T.length) (fs : List D) (hfs : fs.length < 100) (x4 x5 : Option Sl) : ∃ y4 y5, lg_b [some (.v (bD T)), some (.v (nsD c)), some (.own false (.list fs)), some (.v (nD k)), x4, x5, none] = .nx [some (.v (bD T)), some (.v (nsD c)), some (.own false (.list (fs ++ [.int ((bf (cst (lk T c)) T.length).getD k 0)]))), some (.v (nD k)), y4, y5, none] := by
  have hn : 0 < T.length ∧ T.length ≤ 5 := ⟨h.pos, h.few⟩
  have hr := rows_few hn
  have q1 : sSetN 4 false (cBin dTimes (cList (cCons (cK (.int 0)) cNil)) (cCall dInt (cCons (cBin dEq (cVarB 3) (cK (.int 0))) cNil))) [some (.v (bD T)), some (.v (nsD c)), some (.own false (.list fs)), some (.v (nD k)), x4, x5, none] = .nx (lE T c fs k ((if k = 0 then [0] else []).map PyData.int) x5) := (sSetN_of (lg_zero k rfl)).trans rfl
  obtain ⟨y5, e⟩ := lg_rows h k fs (rowsN T.length) ((if k = 0 then [0] else []).map PyData.int) x5 (fun r hr => hr) (by rw [List.length_map]; split <;> simp <;> omega)
  have hss : ((if k = 0 then [0] else []).map PyData.int ++ ((rowsN T.length).filter (lowB k)).map fun r => PyData.int (back (lk T c) r)) = (lows (lk T c) T.length k).map PyData.int := by
    unfold lows lowRows
    rw [List.map_append, List.map_map]
    rfl
  rw [hss] at e
  have q3 : sAppend 2 (cCall dMin (cCons (cVarB 4) cNil)) (lE T c fs k ((lows (lk T c) T.length k).map PyData.int) y5) = .nx [some (.v (bD T)), some (.v (nsD c)), some (.own false (.list (fs ++ [.int ((bf (cst (lk T c)) T.length).getD k 0)]))), some (.v (nD k)), some (.own false (.list ((lows (lk T c) T.length k).map PyData.int))), y5, none] :=
    (sAppend_of (t := false) (ds := fs) rfl (cCall1_of (d := tD (lows (lk T c) T.length k)) rfl (lows_min h hf k hk)) (by unfold sizeLine; omega)).trans rfl
  exact ⟨_, _, sSeq_nx q1 (sSeq_nx (sFor_of (cItems_of (cCallF1_of (d := nD T.length) (len_bD rfl) (l_rows_eq hn))) e) q3)⟩
include h hf in
theorem lg_loop : ∀ (l : List Nat) (fs : List D) (x3 x4 x5 : Option Sl), (∀ k ∈ l, k < T.length) → fs.length + l.length < 100 → ∃ y3 y4 y5, loopL (gN 3) lg_b (l.map nD) [some (.v (bD T)), some (.v (nsD c)), some (.own false (.list fs)), x3, x4, x5, none] = .nx [some (.v (bD T)), some (.v (nsD c)), some (.own false (.list (fs ++ l.map fun k => .int ((bf (cst (lk T c)) T.length).getD k 0)))), y3, y4, y5, none]
  | [], fs, x3, x4, x5, _, _ => ⟨x3, x4, x5, by simp [loopL]⟩
  | k :: l, fs, x3, x4, x5, hl, hz => by
    rw [List.length_cons] at hz
    obtain ⟨y4, y5, e⟩ := lg_step h hf k (hl k List.mem_cons_self) fs (by omega) x4 x5
    obtain ⟨z3, z4, z5, e2⟩ := lg_loop l (fs ++ [.int ((bf (cst (lk T c)) T.length).getD k 0)]) (some (.v (nD k))) y4 y5 (fun a ha => hl a (List.mem_cons_of_mem _ ha)) (by rw [List.length_append]; simp; omega)
    refine ⟨z3, z4, z5, loopL_nx (ρ1 := [some (.v (bD T)), some (.v (nsD c)), some (.own false (.list fs)), some (.v (nD k)), x4, x5, none]) rfl e ?_⟩
    rw [List.append_assoc] at e2
    exact e2
theorem bf_list {u : Nat → Nat → Int} {n : Nat} : (List.range n).map (fun k => PyData.int ((bf u n).getD k 0)) = (bf u n).map PyData.int := by
  refine List.ext_getElem? fun i => ?_
  rw [List.getElem?_map, List.getElem?_map]
  have hl : (bf u n).length = n := bf_len u
  rcases Nat.lt_or_ge i n with z | z
  · rw [List.getElem?_range z]
    show some (PyData.int ((bf u n).getD i 0)) = _
    rw [List.getElem?_eq_getElem (by omega), List.getD_eq_getElem?_getD, List.getElem?_eq_getElem (by omega)]
    rfl
  · rw [List.getElem?_eq_none (by simpa using z), List.getElem?_eq_none (by omega)]
    rfl
end
section
variable {m : Nat} {T : List (List Int)} {c : List Nat} (h : Rule m T c)
include h in
theorem l_greatest_eq : f_l_greatest [bD T, nsD c] = .ok (payO T c) := by
  have hfew := h.few
  unfold f_l_greatest g_l_greatest payO
  refine runF_of rfl ?_
  have q0 : ∀ r : Option (List Nat), dIsNot (rowO r) .none = some (.bool r.isSome) := fun r => by cases r <;> rfl
  have q1 : cBinT dIsNot (cCallF f_l_round (cCons (cVar 0) (cCons (cVar 1) cNil))) (cK .none) (enter 7 2 [bD T, nsD c]) = .ok (told (lk T c) T.length).isSome := cBinT_of (cCallF_of (ds := [bD T, nsD c]) rfl (l_round_eq h)) rfl (q0 _)
  cases z : told (lk T c) T.length with
  | some r =>
    rw [z] at q1
    exact (congrArg SR.out (sSeq_rt (sIf_true q1 sRetK))).trans out_rt
  | none =>
    rw [z] at q1
    have hf := told_none (lk T c) (lk_self T c) z
    obtain ⟨y3, y4, y5, e⟩ := lg_loop h hf (List.range T.length) [] none none none (fun k hk => List.mem_range.mp hk) (by rw [List.length_range]; simp; omega)
    have q2 : sSetN 2 false (cList cNil) (enter 7 2 [bD T, nsD c]) = .nx [some (.v (bD T)), some (.v (nsD c)), some (.own false (.list [])), none, none, none, none] := (sSetN_of (d := .list []) (by rfl)).trans rfl
    have q3 : sFor (gN 3) (cIter dRange1 (cCons (cCall dLen (cCons (cVarB 0) cNil)) cNil)) lg_b [some (.v (bD T)), some (.v (nsD c)), some (.own false (.list [])), none, none, none, none] = .nx [some (.v (bD T)), some (.v (nsD c)), some (.own false (.list ((bf (cst (lk T c)) T.length).map PyData.int))), y3, y4, y5, none] := by
      rw [← bf_list]
      exact sFor_of (cIter1_of (d := nD T.length) (len_bD rfl) (dRange1_nat (by omega))) e
    refine (congrArg SR.out (sSeq_nx (sIf_false q1 rfl) (sSeq_nx q2 (sSeq_nx q3 rfl)))).trans (sRet_of ?_)
    generalize bf (cst (lk T c)) T.length = F
    rfl
end
end K05

namespace K05
open PySem PySem.Spec PyProof.Rows L2 G P5
theorem cIndex_of {f g : En → R D} {ρ : En} {ds : List D} {d e : D} (h1 : f ρ = .ok (.list ds)) (h2 : g ρ = .ok d) (h3 : dIndex ds d = some e) : cIndex f g ρ = .ok e := by
  simp only [cIndex, h1, h2, R.bind, h3, ofO]
theorem idx_has {x : Int} : ∀ {xs : List Int}, x ∈ xs → ∃ j, j < xs.length ∧ idxD (.int x) (xs.map PyData.int) = some j
  | a :: r, h => by
    rw [List.map_cons]
    unfold idxD
    by_cases e : a = x
    · subst e
      exact ⟨0, by simp, by rw [if_pos (by simp [PyData.eqv])]⟩
    · rw [if_neg (by simp [PyData.eqv, e])]
      rcases List.mem_cons.mp h with z | z
      · exact absurd z.symm e
      · obtain ⟨j, h1, h2⟩ := idx_has z
        exact ⟨j + 1, by simp [h1], by rw [h2]; rfl⟩
theorem index_top {G : List Int} (h0 : G ≠ []) : ∃ j, j < G.length ∧ dIndex (G.map PyData.int) (.int (C.top G)) = some (nD j) := by
  obtain ⟨j, h1, h2⟩ := idx_has (C.top_mem h0)
  obtain ⟨l1, l2⟩ : PyData.canLayAll0 (G.map PyData.int) = true ∧ PyData.depthAll (G.map PyData.int) ≤ 1 := lay_ints (fun i => i) G
  have hs : SeqAt.shaped (.list (G.map PyData.int)) = true := by
    unfold SeqAt.shaped
    simp [PyData.canLay0, PyData.depth, l1]
    omega
  refine ⟨j, h1, ?_⟩
  unfold dIndex
  rw [if_pos ⟨hs, by rfl⟩]
  exact (congrArg (Option.map fun j : Nat => PyData.int j) h2).trans rfl
section
variable {ds : List Nat} (h : Draws ds)
theorem mix_at {ρ : En} {f l : En → R D} {k j : Nat} (h : Draws ds) (hk : k < 100000) (hm : 0 < j) (h0 : cVar 0 ρ = .ok (.list (ds.map nD))) (h1 : f ρ = .ok (nD k)) (h2 : l ρ = .ok (nD j)) : cCallF f_l_mix (cCons (cVar 0) (cCons f (cCons l cNil))) ρ = .ok (nD (mixOf ds k j)) :=
  cCallF_of (cCons_of h0 (cCons_of h1 (cCons_of h2 rfl))) (mix_eq h hk hm)
def capR (ds : List Nat) : Nat := if mixOf ds 12 2 = 0 then 4 else 12
theorem capR_pos : 0 < capR ds ∧ capR ds ≤ 12 := by unfold capR; split <;> omega
include h in
theorem capR_eq {ρ : En} (h0 : cVar 0 ρ = .ok (.list (ds.map nD))) (h1 : cVar 1 ρ = .ok (nD 10)) : cBin dIx (cList (cCons (cK (.int 4)) (cCons (cK (.int 12)) cNil))) (cCallF f_l_mix (cCons (cVar 0) (cCons (cBin dAdd (cVar 1) (cK (.int 2))) (cCons (cK (.int 2)) cNil)))) ρ = .ok (nD (capR ds)) := by
  refine cBin_of (a := .list [.int 4, .int 12]) (b := nD (mixOf ds 12 2)) (by rfl) (mix_at h (by decide) (by decide) h0 (cBin_of h1 rfl rfl) rfl) ?_
  have := mix_lt ds 12 (m := 2) (by decide)
  unfold capR
  generalize mixOf ds 12 2 = m at *
  obtain rfl | rfl : m = 0 ∨ m = 1 := by omega
  all_goals kernel_rfl
def rowR (ds : List Nat) (e t : Nat) : List Int := (List.range e).map fun j => ((mixOf ds (13 + 6 * t + j) (capR ds) : Nat) : Int)
def tysR (ds : List Nat) (n e : Nat) : List (List Int) := (List.range n).map (rowR ds e)
theorem rowR_len (e t : Nat) : (rowR ds e t).length = e := by simp [rowR]
theorem rowR_val (e t : Nat) : ∀ x ∈ rowR ds e t, 0 ≤ x ∧ x ≤ 1000000 := fun x hx => by
  obtain ⟨j, _, rfl⟩ := List.mem_map.mp hx
  have := mix_lt ds (13 + 6 * t + j) (m := capR ds) capR_pos.1
  have := capR_pos (ds := ds)
  exact ⟨by omega, by omega⟩
abbrev rE (ds : List Nat) (n e : Nat) (x4 x5 x6 x7 x8 x9 x10 : Option Sl) : En := [some (.v (.list (ds.map nD))), some (.v (nD 10)), some (.v (nD n)), some (.v (nD e)), x4, x5, x6, x7, x8, x9, x10]
abbrev rw_i : En → R D := (cLc [10] (cIter dRange1 (cCons (cVarB 3) cNil)) (gN 10) cTrue (cCallF f_l_mix (cCons (cVar 0) (cCons (cBin dAdd (cBin dAdd (cBin dAdd (cVar 1) (cK (.int 3))) (cBin dMul (cK (.int 6)) (cVarB 8))) (cVar 10)) (cCons (cBin dIx (cList (cCons (cK (.int 4)) (cCons (cK (.int 12)) cNil))) (cCallF f_l_mix (cCons (cVar 0) (cCons (cBin dAdd (cVar 1) (cK (.int 2))) (cCons (cK (.int 2)) cNil))))) cNil)))))
include h in
theorem row_eq {n e t : Nat} (he : e ≤ 5) (ht : t < 5) : rw_i (rE ds n e none none none none (some (.v (nD t))) none none) = .ok (tD (rowR ds e t)) := by
  have q := lcL_map (tgt := gN 10) (f := cCallF f_l_mix (cCons (cVar 0) (cCons (cBin dAdd (cBin dAdd (cBin dAdd (cVar 1) (cK (.int 3))) (cBin dMul (cK (.int 6)) (cVarB 8))) (cVar 10)) (cCons (cBin dIx (cList (cCons (cK (.int 4)) (cCons (cK (.int 12)) cNil))) (cCallF f_l_mix (cCons (cVar 0) (cCons (cBin dAdd (cVar 1) (cK (.int 2))) (cCons (cK (.int 2)) cNil))))) cNil)))) (ρ := rE ds n e none none none none (some (.v (nD t))) none none) (enc := nD) (fun j => rE ds n e none none none none (some (.v (nD t))) none (some (.v (nD j)))) (fun j => nD (mixOf ds (13 + 6 * t + j) (capR ds))) (xs := List.range e) fun j hj => ⟨rfl, by
    have hj := List.mem_range.mp hj
    exact mix_at h (k := 13 + 6 * t + j) (by omega) capR_pos.1 rfl (cBin_of (a := nD (13 + 6 * t)) (b := nD j) (cBin_of (a := nD 13) (b := nD (6 * t)) (cBin_of (a := nD 10) (b := nD 3) rfl rfl (add_nat _ _)) (cBin_of (a := nD 6) (b := nD t) rfl rfl (mul_nat 6 t (by decide) (Nat.lt_trans ht (by decide)))) (add_nat _ _)) rfl (add_nat _ _)) (capR_eq h rfl rfl)⟩
  have : tD (rowR ds e t) = .list ((List.range e).map fun j => nD (mixOf ds (13 + 6 * t + j) (capR ds))) := by simp [rowR, tD]
  rw [this]
  exact cLc_of (cIter1_of (d := nD e) rfl (dRange1_nat (by omega))) q (by rw [List.length_map, List.length_range]; unfold sizeLine; omega)
include h in
theorem tys_eq {n e : Nat} (hn : n ≤ 5) (he : e ≤ 5) : cLc [8] (cIter dRange1 (cCons (cVarB 2) cNil)) (gN 8) cTrue rw_i (rE ds n e none none none none none none none) = .ok (bD (tysR ds n e)) := by
  have q := lcL_map (tgt := gN 8) (f := rw_i) (ρ := rE ds n e none none none none none none none) (enc := nD) (fun t => rE ds n e none none none none (some (.v (nD t))) none none) (fun t => tD (rowR ds e t)) (xs := List.range n) fun t ht => ⟨rfl, row_eq h he (by have := List.mem_range.mp ht; omega)⟩
  have : bD (tysR ds n e) = .list ((List.range n).map fun t => tD (rowR ds e t)) := by simp [tysR]
  rw [this]
  exact cLc_of (cIter1_of (d := nD n) rfl (dRange1_nat (by omega))) q (by rw [List.length_map, List.length_range]; unfold sizeLine; omega)
include h in
theorem cho_eq {n e : Nat} (hn : n ≤ 5) (he0 : 0 < e) (x4 : D) : cLc [8] (cIter dRange1 (cCons (cVarB 2) cNil)) (gN 8) cTrue (cCallF f_l_mix (cCons (cVar 0) (cCons (cBin dAdd (cBin dAdd (cVar 1) (cK (.int 40))) (cVar 8)) (cCons (cVar 3) cNil)))) (rE ds n e (some (.v x4)) none none none none none none) = .ok (nsD ((List.range n).map fun t => mixOf ds (50 + t) e)) := by
  have q := lcL_map (tgt := gN 8) (f := cCallF f_l_mix (cCons (cVar 0) (cCons (cBin dAdd (cBin dAdd (cVar 1) (cK (.int 40))) (cVar 8)) (cCons (cVar 3) cNil)))) (ρ := rE ds n e (some (.v x4)) none none none none none none) (enc := nD) (fun t => rE ds n e (some (.v x4)) none none none (some (.v (nD t))) none none) (fun t => nD (mixOf ds (50 + t) e)) (xs := List.range n) fun t ht => ⟨rfl, mix_at h (k := 50 + t) (by have := List.mem_range.mp ht; omega) he0 rfl (cBin_of (a := nD 50) (b := nD t) (cBin_of (a := nD 10) (b := nD 40) rfl rfl (add_nat _ _)) rfl (add_nat _ _)) rfl⟩
  have : nsD ((List.range n).map fun t => mixOf ds (50 + t) e) = .list ((List.range n).map fun t => nD (mixOf ds (50 + t) e)) := by simp
  rw [this]
  exact cLc_of (cIter1_of (d := nD n) rfl (dRange1_nat (by omega))) q (by rw [List.length_map, List.length_range]; unfold sizeLine; omega)
def priR (ds : List Nat) (e : Nat) : List Nat := (List.range e).map fun j => mixOf ds (60 + j) 6
include h in
theorem pri_eq {n e : Nat} (he : e ≤ 5) (x4 : D) (x5 : Option Sl) : cLc [10] (cIter dRange1 (cCons (cVarB 3) cNil)) (gN 10) cTrue (cCallF f_l_mix (cCons (cVar 0) (cCons (cBin dAdd (cBin dAdd (cVar 1) (cK (.int 50))) (cVar 10)) (cCons (cK (.int 6)) cNil)))) (rE ds n e (some (.v x4)) x5 none none none none none) = .ok (nsD (priR ds e)) := by
  have q := lcL_map (tgt := gN 10) (f := cCallF f_l_mix (cCons (cVar 0) (cCons (cBin dAdd (cBin dAdd (cVar 1) (cK (.int 50))) (cVar 10)) (cCons (cK (.int 6)) cNil)))) (ρ := rE ds n e (some (.v x4)) x5 none none none none none) (enc := nD) (fun j => rE ds n e (some (.v x4)) x5 none none none none (some (.v (nD j)))) (fun j => nD (mixOf ds (60 + j) 6)) (xs := List.range e) fun j hj => ⟨rfl, mix_at h (k := 60 + j) (by have := List.mem_range.mp hj; omega) (by decide) rfl (cBin_of (a := nD 60) (b := nD j) (cBin_of (a := nD 10) (b := nD 50) rfl rfl (add_nat _ _)) rfl (add_nat _ _)) rfl⟩
  have : nsD (priR ds e) = .list ((List.range e).map fun j => nD (mixOf ds (60 + j) 6)) := by simp [priR]
  rw [this]
  exact cLc_of (cIter1_of (d := nD e) rfl (dRange1_nat (by omega))) q (by rw [List.length_map, List.length_range]; unfold sizeLine; omega)
abbrev gap_s : En → SR := (sSeq (sSet 9 (cLc [10] (cIter dRange1 (cCons (cVarB 3) cNil)) (gN 10) cTrue (cBin dSub (cBin dIx (cVarB 7) (cVar 10)) (cBin dIx (cVarB 6) (cVar 10)))))
    (sAppend 5 (cIndex (cVarB 9) (cCall dMax (cCons (cVarB 9) cNil)))))
theorem gap_step {n e : Nat} (he0 : 0 < e) (he : e ≤ 5) (x4 : D) {t : List Int} (ht : t.length = e) {p : List Nat} (hp : p.length = e) {acc : List Nat} (ha : acc.length < 100) (x9 : Option Sl) : ∃ j, j < e ∧ ∃ y9, gap_s (rE ds n e (some (.v x4)) (some (.own false (nsD acc))) (some (.v (nsD p))) (some (.v (tD t))) none x9 none) = .nx (rE ds n e (some (.v x4)) (some (.own false (nsD (acc ++ [j])))) (some (.v (nsD p))) (some (.v (tD t))) none y9 none) := by
  let G : List Int := (List.range e).map fun j => C.at_ t j - (p.getD j 0 : Nat)
  have hG : G.length = e := by simp [G]
  have q := lcL_map (tgt := gN 10) (f := cBin dSub (cBin dIx (cVarB 7) (cVar 10)) (cBin dIx (cVarB 6) (cVar 10))) (ρ := rE ds n e (some (.v x4)) (some (.own false (nsD acc))) (some (.v (nsD p))) (some (.v (tD t))) none x9 none) (enc := nD) (fun j => rE ds n e (some (.v x4)) (some (.own false (nsD acc))) (some (.v (nsD p))) (some (.v (tD t))) none x9 (some (.v (nD j)))) (fun j => .int (C.at_ t j - (p.getD j 0 : Nat))) (xs := List.range e) fun j hj => ⟨rfl, by
    have hj := List.mem_range.mp hj
    exact cBin_of (cBin_of (a := tD t) (b := nD j) rfl rfl (tbl_ix t j (by omega))) (cBin_of (a := nsD p) (b := nD j) rfl rfl (nat_ix (by omega))) rfl⟩
  have hD : tD G = .list ((List.range e).map fun j => .int (C.at_ t j - (p.getD j 0 : Nat))) := by simp [G, tD]
  have h0 : G ≠ [] := by
    intro z
    have : G.length = 0 := by rw [z]; rfl
    omega
  obtain ⟨j, hj, ej⟩ := index_top h0
  have q1 : sSet 9 (cLc [10] (cIter dRange1 (cCons (cVarB 3) cNil)) (gN 10) cTrue (cBin dSub (cBin dIx (cVarB 7) (cVar 10)) (cBin dIx (cVarB 6) (cVar 10)))) (rE ds n e (some (.v x4)) (some (.own false (nsD acc))) (some (.v (nsD p))) (some (.v (tD t))) none x9 none) = .nx (rE ds n e (some (.v x4)) (some (.own false (nsD acc))) (some (.v (nsD p))) (some (.v (tD t))) none (some (.v (tD G))) none) := by
    rw [hD]
    exact (sSet_of (cLc_of (cIter1_of (d := nD e) rfl (dRange1_nat (by omega))) q (by rw [List.length_map, List.length_range]; unfold sizeLine; omega))).trans rfl
  generalize G = G' at *
  refine ⟨j, by omega, some (.v (tD G')), sSeq_nx q1 ((sAppend_of (t := false) (ds := acc.map nD) rfl (cIndex_of (ds := G'.map PyData.int) rfl (cCall1_of (d := tD G') rfl (dMax_top h0)) ej) (by rw [List.length_map]; unfold sizeLine; omega)).trans ?_)⟩
  have : PyData.list (acc.map nD ++ [nD j]) = nsD (acc ++ [j]) := by simp
  rw [this]
  rfl
theorem gap_loop {n e : Nat} (he0 : 0 < e) (he : e ≤ 5) (x4 : D) {p : List Nat} (hp : p.length = e) : ∀ (l : List (List Int)) (acc : List Nat) (x7 x9 : Option Sl), (∀ t ∈ l, t.length = e) → (∀ j ∈ acc, j < e) → acc.length + l.length < 100 → ∃ (c : List Nat) (y7 y9 : Option Sl), c.length = acc.length + l.length ∧ (∀ j ∈ c, j < e) ∧ loopL (gN 7) gap_s (l.map tD) (rE ds n e (some (.v x4)) (some (.own false (nsD acc))) (some (.v (nsD p))) x7 none x9 none) = .nx (rE ds n e (some (.v x4)) (some (.own false (nsD c))) (some (.v (nsD p))) y7 none y9 none)
  | [], acc, x7, x9, _, ha, _ => ⟨acc, x7, x9, by simp, ha, rfl⟩
  | t :: l, acc, x7, x9, hl, ha, hz => by
    rw [List.length_cons] at hz
    obtain ⟨j, hj, y9, e1⟩ := gap_step (ds := ds) (n := n) he0 he x4 (hl t List.mem_cons_self) hp (acc := acc) (by omega) x9
    obtain ⟨c, z7, z9, h1, h2, e2⟩ := gap_loop he0 he x4 hp l (acc ++ [j]) (some (.v (tD t))) y9 (fun a m => hl a (List.mem_cons_of_mem _ m)) (fun a m => by
      rcases List.mem_append.mp m with m | m
      · exact ha a m
      · simp at m; omega) (by rw [List.length_append]; simp; omega)
    refine ⟨c, z7, z9, by rw [h1, List.length_append]; simp; omega, h2, loopL_nx (ρ1 := rE ds n e (some (.v x4)) (some (.own false (nsD acc))) (some (.v (nsD p))) (some (.v (tD t))) none x9 none) rfl e1 e2⟩
include h in
theorem l_rule_eq : ∃ m T c, Rule m T c ∧ f_l_rule [.list (ds.map nD), nD 10] = .ok (.tuple [bD T, nsD c]) := by
  have n5 := mix_lt ds 10 (m := 5) (by decide)
  have e5 := mix_lt ds 11 (m := 5) (by decide)
  have q2 : sSet 2 (cBin dAdd (cK (.int 1)) (cCallF f_l_mix (cCons (cVar 0) (cCons (cVar 1) (cCons (cK (.int 5)) cNil))))) (enter 11 2 [.list (ds.map nD), nD 10]) = .nx [some (.v (.list (ds.map nD))), some (.v (nD 10)), some (.v (nD (1 + mixOf ds 10 5))), none, none, none, none, none, none, none, none] := (sSet_of (cBin_of (a := nD 1) rfl (mix_at h (k := 10) (by decide) (by decide) rfl rfl rfl) (add_nat _ _))).trans rfl
  have q3 : sSet 3 (cBin dAdd (cK (.int 1)) (cCallF f_l_mix (cCons (cVar 0) (cCons (cBin dAdd (cVar 1) (cK (.int 1))) (cCons (cK (.int 5)) cNil))))) [some (.v (.list (ds.map nD))), some (.v (nD 10)), some (.v (nD (1 + mixOf ds 10 5))), none, none, none, none, none, none, none, none] = .nx (rE ds (1 + mixOf ds 10 5) (1 + mixOf ds 11 5) none none none none none none none) := (sSet_of (cBin_of (a := nD 1) rfl (mix_at h (k := 11) (by decide) (by decide) rfl (cBin_of rfl rfl rfl) rfl) (add_nat _ _))).trans rfl
  have hn : 1 + mixOf ds 10 5 ≤ 5 := by omega
  have hn0 : 0 < 1 + mixOf ds 10 5 := by omega
  have he : 1 + mixOf ds 11 5 ≤ 5 := by omega
  have he0 : 0 < 1 + mixOf ds 11 5 := by omega
  generalize 1 + mixOf ds 10 5 = n at *
  generalize 1 + mixOf ds 11 5 = e at *
  have q4 : sSet 4 (cLc [8] (cIter dRange1 (cCons (cVarB 2) cNil)) (gN 8) cTrue rw_i) (rE ds n e none none none none none none none) = .nx (rE ds n e (some (.v (bD (tysR ds n e)))) none none none none none none) := (sSet_of (tys_eq h hn he)).trans rfl
  have q5 := (sSetN_of (i := 5) (t := false) (cho_eq h (n := n) (e := e) hn he0 (bD (tysR ds n e)))).trans (show _ = SR.nx (rE ds n e (some (.v (bD (tysR ds n e)))) (some (.own false (nsD ((List.range n).map fun t => mixOf ds (50 + t) e)))) none none none none none) from rfl)
  have rule : ∀ c : List Nat, c.length = n → (∀ j ∈ c, j < e) → Rule e (tysR ds n e) c := fun c h1 h2 => by
    have hT : (tysR ds n e).length = n := by simp [tysR]
    refine ⟨by omega, by omega, by omega, by omega, fun t ht => ?_, fun t ht => ?_, by omega, h2⟩
    · obtain ⟨i, _, rfl⟩ := List.mem_map.mp ht
      exact rowR_len e i
    · obtain ⟨i, _, rfl⟩ := List.mem_map.mp ht
      exact rowR_val e i
  have qc : cBinT dEq (cCallF f_l_mix (cCons (cVar 0) (cCons (cBin dAdd (cVar 1) (cK (.int 46))) (cCons (cK (.int 2)) cNil)))) (cK (.int 0)) (rE ds n e (some (.v (bD (tysR ds n e)))) (some (.own false (nsD ((List.range n).map fun t => mixOf ds (50 + t) e)))) none none none none none) = .ok (decide (((mixOf ds 56 2 : Nat) : Int) = 0)) :=
    cBinT_of (mix_at h (k := 56) (by decide) (by decide) rfl (cBin_of rfl rfl rfl) rfl) rfl (dEq_int _ _)
  cases z : decide (((mixOf ds 56 2 : Nat) : Int) = 0) with
  | false =>
    rw [z] at qc
    refine ⟨e, tysR ds n e, (List.range n).map fun t => mixOf ds (50 + t) e, rule _ (by simp) fun j hj => ?_, ?_⟩
    · obtain ⟨t, _, rfl⟩ := List.mem_map.mp hj
      exact mix_lt ds _ he0
    · generalize tysR ds n e = T at *
      generalize (List.range n).map (fun t => mixOf ds (50 + t) e) = c at *
      unfold f_l_rule g_l_rule
      refine runF_of rfl ?_
      exact (congrArg SR.out (sSeq_nx q2 (sSeq_nx q3 (sSeq_nx q4 (sSeq_nx q5 (sSeq_nx (sIf_false qc rfl) rfl)))))).trans (sRet_of (cTup2_of rfl rfl))
  | true =>
    rw [z] at qc
    have hT : ∀ t ∈ tysR ds n e, t.length = e := fun t ht => by
      obtain ⟨i, _, rfl⟩ := List.mem_map.mp ht
      exact rowR_len e i
    have hTl : (tysR ds n e).length = n := by simp [tysR]
    obtain ⟨c, y7, y9, h1, h2, e1⟩ := gap_loop (ds := ds) (n := n) he0 he (bD (tysR ds n e)) (p := priR ds e) (by simp [priR]) (tysR ds n e) [] none none hT (fun j hj => by cases hj) (by simp; omega)
    refine ⟨e, tysR ds n e, c, rule c (by rw [h1, hTl]; simp) h2, ?_⟩
    have q6 := (sSet_of (i := 6) (pri_eq h (n := n) he (bD (tysR ds n e)) (some (.own false (nsD ((List.range n).map fun t => mixOf ds (50 + t) e)))))).trans (show _ = SR.nx (rE ds n e (some (.v (bD (tysR ds n e)))) (some (.own false (nsD ((List.range n).map fun t => mixOf ds (50 + t) e)))) (some (.v (nsD (priR ds e)))) none none none none) from rfl)
    generalize tysR ds n e = T at *
    generalize (List.range n).map (fun t => mixOf ds (50 + t) e) = c0 at *
    generalize priR ds e = p at *
    unfold f_l_rule g_l_rule
    refine runF_of rfl ?_
    have q7 : sSetN 5 false (cList cNil) (rE ds n e (some (.v (bD T))) (some (.own false (nsD c0))) (some (.v (nsD p))) none none none none) = .nx (rE ds n e (some (.v (bD T))) (some (.own false (nsD []))) (some (.v (nsD p))) none none none none) := (sSetN_of (d := nsD []) (by rfl)).trans rfl
    exact (congrArg SR.out (sSeq_nx q2 (sSeq_nx q3 (sSeq_nx q4 (sSeq_nx q5 (sSeq_nx (sIf_true qc (sSeq_nx q6 (sSeq_nx q7 (sFor_of (l := cItems (cVar 4)) (cItems_of rfl) e1)))) rfl)))))).trans (sRet_of (cTup2_of rfl rfl))
end
end K05

namespace K05
open PySem PySem.Spec PyProof.Rows L2 G P5
theorem cStar_of {f : En → R D} {l : En → R (List D)} {ρ : En} {xs ds : List D} (h : f ρ = .ok (.list xs)) (h2 : l ρ = .ok ds) : cStar f l ρ = .ok (xs ++ ds) := by
  simp only [cStar, h, h2, R.bind, itemsOf, ofO]
theorem set_cut {b : List (List Int)} {k : Nat} (hk : k < b.length) (t : List Int) : b.take k ++ t :: b.drop (k + 1) = b.set k t := by
  rw [List.set_eq_take_append_cons_drop, if_pos hk]
theorem with_lie_eq {b : List (List Int)} {k : Nat} (hk : k < b.length) (hz : b.length < 1000) (t : List Int) : f_with_lie [bD b, nD k, tD t] = .ok (bD (b.set k t)) := by
  unfold f_with_lie g_with_lie
  have q : cStar (cSlice (cVar 0) cPartN (cPart (cVar 1))) (cCons (cVar 2) (cStar (cSlice (cVar 0) (cPart (cBin dAdd (cVar 1) (cK (.int 1)))) cPartN) cNil)) [some (.v (bD b)), some (.v (nD k)), some (.v (tD t))] = .ok ((b.map tD).take k ++ (tD t :: ((b.map tD).drop (k + 1) ++ []))) :=
    cStar_of (cSlice_to (xs := b.map tD) (k := k) rfl rfl) (cCons_of rfl (cStar_of (cSlice_from (xs := b.map tD) (k := k + 1) rfl (cBin_of rfl rfl rfl)) rfl))
  have e : (b.map tD).take k ++ (tD t :: ((b.map tD).drop (k + 1) ++ [])) = (b.set k t).map tD := by
    rw [← set_cut hk t, List.map_append, List.map_cons, List.map_take, List.map_drop, List.append_nil]
  rw [e] at q
  exact runF_of rfl (sRet_of (ρ := [some (.v (bD b)), some (.v (nD k)), some (.v (tD t))]) (cList_of q (by rw [List.length_map, List.length_set]; unfold sizeLine; omega)))
theorem set_expr {b : List (List Int)} {k : Nat} (hk : k < b.length) (hz : b.length < 1000) {t : List Int} {ρ : En} {i j l : Nat} (h1 : cVar i ρ = .ok (bD b)) (h2 : cVar j ρ = .ok (nD k)) (h3 : cVar l ρ = .ok (tD t)) : cBin dAdd (cBin dAdd (cSlice (cVar i) cPartN (cPart (cVar j))) (cList (cCons (cVar l) cNil))) (cSlice (cVar i) (cPart (cBin dAdd (cVar j) (cK (.int 1)))) cPartN) ρ = .ok (bD (b.set k t)) := by
  have a1 : cBin dAdd (cSlice (cVar i) cPartN (cPart (cVar j))) (cList (cCons (cVar l) cNil)) ρ = .ok (.list ((b.map tD).take k ++ [tD t])) :=
    cBin_of (cSlice_to (xs := b.map tD) (k := k) h1 h2) (cList_of (ds := [tD t]) (cCons_of h3 rfl) (by simp; unfold sizeLine; omega)) (dAdd_list (by simp; unfold sizeLine; omega))
  refine cBin_of a1 (cSlice_from (xs := b.map tD) (k := k + 1) h1 (cBin_of h2 rfl rfl)) ?_
  rw [dAdd_list (by simp; unfold sizeLine; omega), ← set_cut hk t]
  simp
section
variable {n m : Nat} {b : List (List Int)} (h : BkOk n m b)
include h in
theorem check_book_eq (h1 : 1 ≤ m) (h6 : m ≤ 6) : f_check_book [bD b] = .ok .none := by
  have hl := h.len
  unfold f_check_book g_check_book
  refine runF_of rfl ?_
  have q1 : cNot (cChainT dLe dLe (cK (.int 1)) (cCall dLen (cCons (cVarB 0) cNil)) (cK (.int 6))) (enter 3 1 [bD b]) = .ok false := cNot_of (b := true) (cChainT_of (b := (b.length : Int)) rfl (len_bD rfl) rfl (by omega) (by omega))
  obtain ⟨ρ2, e2, x1, x2, rfl⟩ := loopL_inv (P := fun ρ => ∃ x1 x2, ρ = [some (.v (bD b)), x1, x2]) (tgt := gT (gC (gN 1) (gC (gN 2) gE))) (body := (sIf (cOr (cNot (cTest (cCallF f_is_table (cCons (cVar 2) cNil)))) (cBinT dNe (cCall dLen (cCons (cVarB 2) cNil)) (cCall dLen (cCons (cBin dIx (cVarB 0) (cK (.int 0))) cNil))))
    (sRaise "BadTable" (cVar 1))
    sNext)) (ds := enumL 0 (b.map tD)) (ρ := [some (.v (bD b)), none, none]) (fun d hd ρ hρ => by
    obtain ⟨x1, x2, rfl⟩ := hρ
    obtain ⟨i, x, hx, hi, rfl⟩ := enum_mem hd
    obtain ⟨t, ht, rfl⟩ := List.mem_map.mp hx
    have a1 : cNot (cTest (cCallF f_is_table (cCons (cVar 2) cNil))) [some (.v (bD b)), some (.v (nD (0 + i))), some (.v (tD t))] = .ok false := cNot_of (b := true) (cTest_of (cCallF1_of (d := tD t) rfl (is_table_eq (h.tbl t ht))))
    have a2 : cBinT dNe (cCall dLen (cCons (cVarB 2) cNil)) (cCall dLen (cCons (cBin dIx (cVarB 0) (cK (.int 0))) cNil)) [some (.v (bD b)), some (.v (nD (0 + i))), some (.v (tD t))] = .ok false := by
      have h0 : 0 < b.length := by omega
      refine cBinT_of (len_tD (t := t) rfl) (len_tD (t := b.getD 0 []) (cBin_of (a := bD b) (b := nD 0) rfl rfl (book_at h0))) ?_
      rw [dNe_int, (h.tbl t ht).len, (h.tbl _ (getD_mem h0)).len]
      simp
    exact ⟨_, _, rfl, sIf_false (cOr_ff a1 a2) rfl, _, _, rfl⟩) ⟨_, _, rfl⟩
  exact (congrArg SR.out (sSeq_nx (ρ := enter 3 1 [bD b]) (sIf_false (g1 := sRaise "BadBook" (cCall dLen (cCons (cVarB 0) cNil))) (g2 := sNext) q1 rfl) (sFor_of (l := cIter dEnum (cCons (cVar 0) cNil)) (cIter1_of (d := bD b) rfl rfl) e2))).trans rfl
include h in
theorem check_bidder_eq (h1 : 1 ≤ m) (h6 : m ≤ 6) {k : Nat} (hk : k < b.length) : f_check_bidder [bD b, nD k] = .ok .none := by
  unfold f_check_bidder g_check_bidder
  refine runF_of rfl ?_
  have q : cNot (cChainT dLe dLt (cK (.int 0)) (cVarB 1) (cCall dLen (cCons (cVarB 0) cNil))) (enter 2 2 [bD b, nD k]) = .ok false := cNot_of (b := true) (cChainT_lt (a := 0) (b := (k : Int)) (c := (b.length : Int)) rfl rfl (len_bD rfl) (by omega) (by omega))
  exact (congrArg SR.out (sSeq_nx (ρ := enter 2 2 [bD b, nD k]) (sExpr_of (f := cCallF f_check_book (cCons (cVar 0) cNil)) (cCallF1_of (d := bD b) rfl (check_book_eq h h1 h6))) (sIf_false (g1 := sRaise "BadBidder" (cVar 1)) (g2 := sNext) q rfl))).trans rfl
variable (h1 : 1 ≤ m) (h6 : m ≤ 6) {k : Nat} (hk : k < b.length) {W : List (List Int)} (hW : ∀ t ∈ W, TblOk n t) (hw1 : 1 ≤ W.length) (hw5 : W.length ≤ 5)
include h h1 h6 hk hW hw1 hw5 in
theorem check_wishes_eq : f_check_wishes [bD b, nD k, bD W] = .ok .none := by
  have h0 : 0 < b.length := by omega
  unfold f_check_wishes g_check_wishes
  refine runF_of rfl ?_
  have q1 : cNot (cChainT dLe dLe (cK (.int 1)) (cCall dLen (cCons (cVarB 2) cNil)) (cK (.int 6))) (enter 5 3 [bD b, nD k, bD W]) = .ok false := cNot_of (b := true) (cChainT_of (b := (W.length : Int)) rfl (len_bD rfl) rfl (by omega) (by omega))
  obtain ⟨ρ2, e2, x1, x2, rfl⟩ := loopL_inv (P := fun ρ => ∃ x1 x2, ρ = [some (.v (bD b)), some (.v (nD k)), some (.v (bD W)), x1, x2]) (tgt := gT (gC (gN 3) (gC (gN 4) gE))) (body := (sIf (cOr (cNot (cTest (cCallF f_is_table (cCons (cVar 4) cNil)))) (cBinT dNe (cCall dLen (cCons (cVarB 4) cNil)) (cCall dLen (cCons (cBin dIx (cVarB 0) (cK (.int 0))) cNil))))
    (sRaise "BadTable" (cVar 3))
    sNext)) (ds := enumL 0 (W.map tD)) (ρ := enter 5 3 [bD b, nD k, bD W]) (fun d hd ρ hρ => by
    obtain ⟨x1, x2, rfl⟩ := hρ
    obtain ⟨i, x, hx, hi, rfl⟩ := enum_mem hd
    obtain ⟨t, ht, rfl⟩ := List.mem_map.mp hx
    have a1 : cNot (cTest (cCallF f_is_table (cCons (cVar 4) cNil))) [some (.v (bD b)), some (.v (nD k)), some (.v (bD W)), some (.v (nD (0 + i))), some (.v (tD t))] = .ok false := cNot_of (b := true) (cTest_of (cCallF1_of (d := tD t) rfl (is_table_eq (hW t ht))))
    have a2 : cBinT dNe (cCall dLen (cCons (cVarB 4) cNil)) (cCall dLen (cCons (cBin dIx (cVarB 0) (cK (.int 0))) cNil)) [some (.v (bD b)), some (.v (nD k)), some (.v (bD W)), some (.v (nD (0 + i))), some (.v (tD t))] = .ok false := by
      refine cBinT_of (len_tD (t := t) rfl) (len_tD (t := b.getD 0 []) (cBin_of (a := bD b) (b := nD 0) rfl rfl (book_at h0))) ?_
      rw [dNe_int, (hW t ht).len, (h.tbl _ (getD_mem h0)).len]
      simp
    exact ⟨_, _, rfl, sIf_false (cOr_ff a1 a2) rfl, _, _, rfl⟩) ⟨_, _, rfl⟩
  exact (congrArg SR.out (sSeq_nx (ρ := enter 5 3 [bD b, nD k, bD W]) (sExpr_of (f := cCallF f_check_bidder (cCons (cVar 0) (cCons (cVar 1) cNil))) (cCallF_of (ds := [bD b, nD k]) rfl (check_bidder_eq h h1 h6 hk))) (sSeq_nx (sIf_false (g1 := sRaise "BadTable" (cUn dNeg (cK (.int 1)))) (g2 := sNext) q1 rfl) (sFor_of (l := cIter dEnum (cCons (cVar 2) cNil)) (cIter1_of (d := bD W) rfl rfl) e2)))).trans rfl
def due (n : Nat) (b : List (List Int)) (k : Nat) (t : List Int) : Nat := (C.pick (b.set k t) (n - 1)).getD k 0
def fairP (n : Nat) (b : List (List Int)) (k : Nat) (t : List Int) : Int := pay n (b.set k t) k .fair
include h h6 in
theorem set_book {t : List Int} (ht : TblOk n t) : Book n (b.set k t) := ⟨fun x hx => by
  rcases List.mem_or_eq_of_mem_set hx with z | z
  · exact (h.tbl x z).len
  · rw [z]; exact ht.len, by rw [List.length_set, h.len]; omega⟩
include hk in
theorem set_ne (t : List Int) : b.set k t ≠ [] := by
  intro z
  have : (b.set k t).length = 0 := by rw [z]; rfl
  rw [List.length_set] at this
  omega
variable (hn : n ≤ 64) (hn0 : 0 < n)
include hk hn0 in
theorem due_lt (t : List Int) : due n b k t < n := pick_at hn0 (by rw [List.length_set]; exact hk)
include h h1 h6 hk hW hw1 hw5 hn hn0 in
theorem rule_in_eq : f_rule_in [bD b, nD k, bD W] = .ok (.tuple [bD W, nsD (W.map (due n b k))]) := by
  have hbl := h.len
  unfold f_rule_in g_rule_in
  refine runF_of rfl ?_
  have e1 := lcL_map (tgt := gN 4) (f := cCallF f_number_of (cCons (cBin dIx (cBin dIx (cCallF f_best_of (cCons (cCallF f_with_lie (cCons (cVar 0) (cCons (cVar 1) (cCons (cVar 4) cNil)))) cNil)) (cK (.int 0))) (cVar 1)) cNil)) (ρ := [some (.v (bD b)), some (.v (nD k)), some (.v (bD W)), none, none]) (enc := tD) (fun t => [some (.v (bD b)), some (.v (nD k)), some (.v (bD W)), none, some (.v (tD t))]) (fun t => nD (due n b k t)) (xs := W) fun t ht => ⟨rfl, by
    have hd := due_lt (n := n) hk hn0 t
    refine cCallF1_of (d := bunD (due n b k t)) (cBin_of (a := shD (C.pick (b.set k t) (n - 1))) (b := nD k) (cBin_of (b := .int 0) (cCallF1_of (d := bD (b.set k t)) (cCallF_of (ds := [bD b, nD k, tD t]) rfl (with_lie_eq hk (by omega) t)) ((set_book h h6 (k := k) (hW t ht)).best hn hn0 (set_ne hk t))) rfl (by rw [dIxT_zero]; rfl)) rfl (share_at (by rw [pick_len, List.length_set]; exact hk))) (number_eq _ (by omega))⟩
  have e2 := lcL_map (tgt := gN 4) (f := cCall dListOf (cCons (cVarB 4) cNil)) (ρ := [some (.v (bD b)), some (.v (nD k)), some (.v (bD W)), some (.v (nsD (W.map (due n b k)))), none]) (enc := tD) (fun t => [some (.v (bD b)), some (.v (nD k)), some (.v (bD W)), some (.v (nsD (W.map (due n b k)))), some (.v (tD t))]) tD (xs := W) fun t ht => ⟨rfl, cCall1_of (d := tD t) rfl rfl⟩
  have q0 : sExpr (cCallF f_check_wishes (cCons (cVar 0) (cCons (cVar 1) (cCons (cVar 2) cNil)))) (enter 5 3 [bD b, nD k, bD W]) = .nx (enter 5 3 [bD b, nD k, bD W]) := sExpr_of (cCallF_of (ds := [bD b, nD k, bD W]) rfl (check_wishes_eq h h1 h6 hk hW hw1 hw5))
  have q1 := (sSet_of (i := 3) (ρ := enter 5 3 [bD b, nD k, bD W]) (cLc_of (vs := [4]) (l := cItems (cVar 2)) (cItems_of (ds := W.map tD) rfl) e1 (by rw [List.length_map]; unfold sizeLine; omega))).trans (show _ = SR.nx [some (.v (bD b)), some (.v (nD k)), some (.v (bD W)), some (.v (.list (W.map fun t => nD (due n b k t)))), none] from rfl)
  have hm : (W.map fun t => nD (due n b k t)) = (W.map (due n b k)).map nD := by rw [List.map_map]; rfl
  rw [hm] at q1
  exact (congrArg SR.out (sSeq_nx q0 (sSeq_nx q1 rfl))).trans (sRet_of (cTup2_of (cLc_of (cItems_of (ds := W.map tD) rfl) e2 (by rw [List.length_map]; unfold sizeLine; omega)) rfl))
include h h1 h6 hk hW hw1 hw5 hn hn0 in
theorem fair_in_eq : f_fair_in [bD b, nD k, bD W] = .ok (tD (W.map (fairP n b k))) := by
  have hbl := h.len
  unfold f_fair_in g_fair_in
  refine runF_of rfl ?_
  have e1 := lcL_map (tgt := gN 3) (f := cBin dIx (cCallF f_all_paid (cCons (cCallF f_with_lie (cCons (cVar 0) (cCons (cVar 1) (cCons (cVar 3) cNil)))) (cCons (cK (.str "fair")) cNil))) (cVar 1)) (ρ := [some (.v (bD b)), some (.v (nD k)), some (.v (bD W)), none]) (enc := tD) (fun t => [some (.v (bD b)), some (.v (nD k)), some (.v (bD W)), some (.v (tD t))]) (fun t => .int (fairP n b k t)) (xs := W) fun t ht => ⟨rfl, by
    refine cBin_of (a := tD (pays n (b.set k t) .fair)) (b := nD k) (cCallF_of (ds := [bD (b.set k t), Wd.fair.d]) (cCons_of (cCallF_of (ds := [bD b, nD k, tD t]) rfl (with_lie_eq hk (by omega) t)) rfl) (all_paid_eq hn hn0 (set_book h h6 (k := k) (hW t ht)) (set_ne hk t) .fair)) rfl ?_
    rw [dIx_nat]
    simp [pays, hk]
    rfl⟩
  have q0 : sExpr (cCallF f_check_wishes (cCons (cVar 0) (cCons (cVar 1) (cCons (cVar 2) cNil)))) (enter 4 3 [bD b, nD k, bD W]) = .nx (enter 4 3 [bD b, nD k, bD W]) := sExpr_of (cCallF_of (ds := [bD b, nD k, bD W]) rfl (check_wishes_eq h h1 h6 hk hW hw1 hw5))
  have hm : tD (W.map (fairP n b k)) = .list (W.map fun t => .int (fairP n b k t)) := by simp [tD]
  rw [hm]
  exact (congrArg SR.out (sSeq_nx q0 rfl)).trans (sRet_of (cLc_of (cItems_of (ds := W.map tD) rfl) e1 (by rw [List.length_map]; unfold sizeLine; omega)))
include hk hW hw1 hw5 hn hn0 in
theorem wish_rule : Rule n W (W.map (due n b k)) := by
  refine ⟨by omega, hw5, by omega, hn, fun t ht => (hW t ht).len, fun t ht x hx => ?_, by rw [List.length_map], fun e he => ?_⟩
  · obtain ⟨p, hp, rfl⟩ := List.getElem_of_mem hx
    have := (hW t ht).all p (by rw [← (hW t ht).len]; exact hp)
    rw [show C.at_ t p = t[p] by simp [C.at_, List.getD_eq_getElem?_getD, hp]] at this
    exact this
  · obtain ⟨t, _, rfl⟩ := List.mem_map.mp he
    exact due_lt hk hn0 t
theorem getD_map {α β : Type} (f : α → β) {l : List α} {i : Nat} (hi : i < l.length) (d : β) (e : α) : (l.map f).getD i d = f (l.getD i e) := by
  rw [List.getD_eq_getElem?_getD, List.getElem?_map, List.getD_eq_getElem?_getD, List.getElem?_eq_getElem hi]
  rfl
include hk in
theorem wish_keeps : Keeps (cst (lk W (W.map (due n b k)))) W.length (W.map (fairP n b k)) := fun i hi j hj => by
  have := no_gain n b (W.getD i []) (W.getD j []) k hk
  rw [getD_map (fairP n b k) hi 0 [], getD_map (fairP n b k) hj 0 []]
  show _ ≤ _ + -lk W (W.map (due n b k)) i j
  unfold lk
  rw [getD_map (due n b k) hi 0 [], getD_map (due n b k) hj 0 []]
  unfold gain at this
  unfold fairP due
  omega
include hk in
theorem wish_told : told (lk W (W.map (due n b k))) W.length = none := by
  cases e : told (lk W (W.map (due n b k))) W.length with
  | none => rfl
  | some r => exact absurd (keeps_fair _ (wish_keeps (n := n) hk)) (told_some _ e)
end
end K05

namespace K05
open PySem PySem.Spec PyProof.Rows L2 G P5
theorem fine_ints {t : List Int} {k : Nat} (hk : t.length ≤ k) (h : ∀ x ∈ t, -100000000 ≤ x ∧ x ≤ 100000000) : Fine (tD t) 1 (2 + k * 1923) := by
  refine fine_list (dep := 0) (len := 1921) (m := k) (fun x hx => ?_) (by rw [List.length_map]; exact hk)
  obtain ⟨i, hi, rfl⟩ := List.mem_map.mp hx
  have := h i hi
  exact fine_big (small_big (by omega) (by omega))
theorem fine_nats {t : List Nat} {k : Nat} (hk : t.length ≤ k) (h : ∀ x ∈ t, x ≤ 1000) : Fine (nsD t) 1 (2 + k * 1923) := by
  refine fine_list (dep := 0) (len := 1921) (m := k) (fun x hx => ?_) (by rw [List.length_map]; exact hk)
  obtain ⟨i, hi, rfl⟩ := List.mem_map.mp hx
  have := h i hi
  exact fine_big (small_big (by omega) (by omega))
theorem fine_bool (b : Bool) : Fine (.bool b) 0 5 := by
  refine ⟨by simp [PyData.canLay0], by simp [PyData.showable], by simp [PyData.depth], ?_, ?_⟩
  · cases b <;> (rw [PyData.shown]; decide)
  · cases b <;> (rw [PyData.shown]; exact ok_lit _)
section
variable {m : Nat} {T : List (List Int)} {c : List Nat} (h : Rule m T c)
include h in
theorem fine_rule : Fine (.tuple [bD T, nsD c]) 3 2000000 := by
  have hf := h.few
  have hs := h.same
  have h64 := h.m64
  refine (fine_tup (xs := [bD T, nsD c]) (dep := 2) (len := 700000) (m := 2) ?_ (by simp)).mono (by omega) (by omega)
  intro y hy
  rcases List.mem_cons.mp hy with rfl | hy
  · refine (fine_list (xs := T.map tD) (dep := 1) (len := 2 + 64 * 1923) (m := 5) (fun x hx => ?_) (by rw [List.length_map]; exact hf)).mono (by omega) (by omega)
    obtain ⟨t, ht, rfl⟩ := List.mem_map.mp hx
    refine fine_ints (by rw [h.len t ht]; exact h64) fun x hx => ?_
    have := h.val t ht x hx
    omega
  · rw [List.mem_singleton] at hy
    subst hy
    refine (fine_nats (k := 5) (by omega) fun x hx => ?_).mono (by omega) (by omega)
    have := h.low x hx
    omega
include h in
theorem fine_round : Fine (rowO (told (lk T c) T.length)) 1 20000 := by
  have hf := h.few
  cases e : told (lk T c) T.length with
  | none => exact fine_none.mono (by omega) (by omega)
  | some r =>
    obtain ⟨_, h1, h2⟩ := cand_of (List.mem_of_find?_eq_some e)
    have := nodup_few h1 h2
    exact (fine_nats (k := 5) (by omega) fun x hx => by have := h2 x hx; omega).mono (by omega) (by omega)
include h in
theorem at_val {i : Nat} (hi : i < T.length) {j : Nat} (hj : j < m) : 0 ≤ C.at_ (T.getD i []) j ∧ C.at_ (T.getD i []) j ≤ 1000000 := by
  have ht := getD_mem (l := T) (k := i) (z := []) hi
  exact h.val _ ht _ (getD_mem (by rw [h.len _ ht]; exact hj))
include h in
theorem lk_val {i j : Nat} (hi : i < T.length) (hj : j < T.length) : -1000000 ≤ lk T c i j ∧ lk T c i j ≤ 1000000 := by
  have h1 := at_val h hi (h.low _ (getD_mem (l := c) (k := j) (z := 0) (by rw [h.same]; exact hj)))
  have h2 := at_val h hi (h.low _ (getD_mem (l := c) (k := i) (z := 0) (by rw [h.same]; exact hi)))
  unfold lk
  omega
include h in
theorem pth_val : ∀ (q : List Nat), (∀ x ∈ q, x < T.length) → -(1000000 * (q.length : Int)) ≤ pth (cst (lk T c)) q
  | [], _ => by simp [pth]
  | [a], _ => by simp [pth]
  | a :: b :: r, hl => by
    have ih := pth_val (b :: r) fun x hx => hl x (List.mem_cons_of_mem _ hx)
    have := lk_val h (hl a List.mem_cons_self) (hl b (List.mem_cons_of_mem _ List.mem_cons_self))
    have e : pth (cst (lk T c)) (a :: b :: r) = -lk T c a b + pth (cst (lk T c)) (b :: r) := rfl
    rw [e]
    simp only [List.length_cons] at ih ⊢
    omega
include h in
theorem bf_val (hf : Fair (cst (lk T c)) T.length) (k : Nat) (hk : k < T.length) : -100000000 ≤ (bf (cst (lk T c)) T.length).getD k 0 ∧ (bf (cst (lk T c)) T.length).getD k 0 ≤ 100000000 := by
  have hfew := h.few
  have hp := h.pos
  obtain ⟨q, a1, a2, a3, a4⟩ := bf_simple (cst (lk T c)) hf h.pos k hk
  have h1 := pth_val h (k :: q) a3
  have h2 := nodup_few a2 a3
  have h3 := bf_upto (cst (lk T c)) (n := T.length) k [0] (by simp) (by simp) (by simp) (fun x hx => by
    rcases List.mem_cons.mp hx with rfl | hx
    · exact hk
    · simp at hx; omega)
  have h4 : pth (cst (lk T c)) [k, 0] = -lk T c k 0 + 0 := rfl
  have h5 := lk_val h hk h.pos
  omega
include h in
theorem fine_pay : Fine (payO T c) 1 20000 := by
  have hfew := h.few
  unfold payO
  cases e : told (lk T c) T.length with
  | some r => exact fine_none.mono (by omega) (by omega)
  | none =>
    have hf := told_none (lk T c) (lk_self T c) e
    have hl : (bf (cst (lk T c)) T.length).length = T.length := bf_len _
    refine (fine_ints (k := 5) (by omega) fun x hx => ?_).mono (by omega) (by omega)
    obtain ⟨p, hp, rfl⟩ := List.getElem_of_mem hx
    have := bf_val h hf p (by omega)
    rw [List.getD_eq_getElem?_getD, List.getElem?_eq_getElem hp] at this
    exact this
theorem pay_is : dIs (payO T c) .none = some (.bool (told (lk T c) T.length).isSome) := by
  unfold payO
  cases told (lk T c) T.length <;> rfl
theorem pay_not : dIsNot (payO T c) .none = some (.bool (told (lk T c) T.length).isNone) := by
  unfold payO
  cases told (lk T c) T.length <;> rfl
theorem row_not (r : Option (List Nat)) : dIsNot (rowO r) .none = some (.bool r.isSome) := by cases r <;> rfl
end
abbrev threeT : List (List Int) := [[1, 2, 0], [0, 1, 2], [2, 0, 1]]
theorem three_round : f_round_of_gains [bD threeT, nsD [0, 1, 2]] = .ok (nsD [0, 1, 2]) := by kernel_rfl
theorem three_pay : f_greatest_payments [bD threeT, nsD [0, 1, 2]] = .ok .none := by kernel_rfl
theorem faults_eq : f_l_faults [] = .ok (.bool true) := by kernel_rfl
end K05

namespace K05
open PySem PySem.Spec PyProof.Rows L2 G P5
/-- the law's room, first half -/
abbrev wE (ns : List Int) (ds : List Nat) (T : List (List Int)) (c : List Nat) (x2 : Option Sl) (x5 x6 x7 x17 x18 x20 : Option Sl) : En :=
  [some (.sc ns), some (.v (.list (ds.map nD))), x2, some (.v (rowO (told (lk T c) T.length))), some (.v (payO T c)), x5, x6, x7, none, none, none, none, none, none, none, some (.v (bD T)), some (.v (nsD c)), x17, x18, none, x20]
theorem ne_text2 {f1 f2 : En → R D} {ρ : En} {d : D} {a b : Nat} (hf : Fine d a b) (h1 : a ≤ 60) (h2 : b ≤ 16777216) (e1 : f1 ρ = .ok d) (e2 : f2 ρ = .ok d) : cBinT dNe (cUn dRepr f1) (cUn dRepr f2) ρ = .ok false :=
  cBinT_of (cUn_of e1 (hf.repr h1 h2)) (cUn_of e2 (hf.repr h1 h2)) (ne_self hf.text.1 hf.text.2)
abbrev lw_6 : En → R Bool := (cOr (cBinT dNe (cUn dRepr (cCallF f_round_of_gains (cCons (cVar 15) (cCons (cVar 16) cNil)))) (cUn dRepr (cVar 3))) (cOr (cBinT dNe (cUn dRepr (cVar 4)) (cUn dRepr (cCallF f_l_greatest (cCons (cVar 15) (cCons (cVar 16) cNil))))) (cBinT dNe (cBin dIs (cVarB 4) (cK .none)) (cBin dIsNot (cVarB 3) (cK .none)))))
abbrev lw_7 : En → R Bool := (cAnd (cBinT dIsNot (cVarB 4) (cK .none)) (cOr (cBinT dIsNot (cCallF f_keep_truth (cCons (cVar 15) (cCons (cVar 16) (cCons (cVar 4) cNil)))) (cK (.bool true))) (cOr (cNot (cTest (cCallF f_l_keeps (cCons (cVar 15) (cCons (cVar 16) (cCons (cVar 4) cNil)))))) (cBinT dNe (cBin dIx (cVarB 4) (cK (.int 0))) (cK (.int 0))))))
section
variable {ns : List Int} {ds : List Nat} {m : Nat} {T : List (List Int)} {c : List Nat} (h : Rule m T c) {x2 x5 x6 x7 x17 x18 x20 : Option Sl}
include h in
theorem six_ff : lw_6 (wE ns ds T c x2 x5 x6 x7 x17 x18 x20) = .ok false := by
  refine cOr_ff (ne_text2 (fine_round h) (by omega) (by omega) (cCallF_of (ds := [bD T, nsD c]) rfl (round_of_gains_eq h)) rfl) (cOr_ff (ne_text2 (fine_pay h) (by omega) (by omega) rfl (cCallF_of (ds := [bD T, nsD c]) rfl (l_greatest_eq h))) (cBinT_of (cBin_of (a := payO T c) rfl rfl pay_is) (cBin_of (a := rowO (told (lk T c) T.length)) rfl rfl (row_not _)) ?_))
  exact ne_self (by simp [PyData.canLay0]) (by simp [PyData.depth])
theorem pay_none (hz : told (lk T c) T.length = none) : payO T c = tD (bf (cst (lk T c)) T.length) := by unfold payO; rw [hz]
include h in
theorem seven_ff : lw_7 (wE ns ds T c x2 x5 x6 x7 x17 x18 x20) = .ok false := by
  have q0 : cBinT dIsNot (cVarB 4) (cK .none) (wE ns ds T c x2 x5 x6 x7 x17 x18 x20) = .ok (told (lk T c) T.length).isNone := cBinT_of (a := payO T c) rfl rfl pay_not
  cases z : told (lk T c) T.length with
  | some r => rw [z] at q0; exact cAnd_f q0
  | none =>
    have hk := keeps_told h
    rw [z, show (none : Option (List Nat)).isNone = true from rfl, Bool.and_eq_true] at hk
    obtain ⟨hk1, hk2⟩ := hk
    have hk2 := of_decide_eq_true hk2
    have hl : (bf (cst (lk T c)) T.length).length = T.length := bf_len _
    have hp := pay_none z
    have hv : cVar 4 (wE ns ds T c x2 x5 x6 x7 x17 x18 x20) = .ok (tD (bf (cst (lk T c)) T.length)) := by
      show R.ok (payO T c) = _
      rw [hp]
    have hv2 : cVarB 4 (wE ns ds T c x2 x5 x6 x7 x17 x18 x20) = .ok (tD (bf (cst (lk T c)) T.length)) := by
      show R.ok (payO T c) = _
      rw [hp]
    rw [z] at q0
    refine cAnd_t q0 (cOr_ff (cBinT_of (a := .bool true) (cCallF_of (ds := [bD T, nsD c, tD (bf (cst (lk T c)) T.length)]) (cCons_of rfl (cCons_of rfl (cCons_of hv rfl))) ((keep_truth_eq h hl).trans (by rw [hk1]))) rfl rfl) (cOr_ff (cNot_of (b := true) (cTest_of (cCallF_of (ds := [bD T, nsD c, tD (bf (cst (lk T c)) T.length)]) (cCons_of rfl (cCons_of rfl (cCons_of hv rfl))) ((l_keeps_eq h hl).trans (by rw [hk1]))))) (cBinT_of (cBin_of (b := nD 0) hv2 rfl (tbl_ix _ 0 (by rw [hl]; exact h.pos))) rfl (by rw [dNe_int, hk2]; rfl))))
/-! ### numbers that are tried -/
abbrev lw_s1 : En → R D := (cLc [20] (cIter dRange1 (cCons (cCall dLen (cCons (cVarB 15) cNil)) cNil)) (gN 20) cTrue (cBin dSub (cCallF f_l_mix (cCons (cVar 1) (cCons (cBin dAdd (cBin dAdd (cK (.int 70)) (cBin dMul (cK (.int 6)) (cVarB 5))) (cVar 20)) (cCons (cK (.int 9)) cNil)))) (cK (.int 3))))
abbrev lw_s2 : En → SR := (sIf (cAnd (cBinT dLt (cVarB 5) (cK (.int 2))) (cBinT dIsNot (cVarB 4) (cK .none)))
    (sSet 17 (cLc [20] (cIter dRange1 (cCons (cCall dLen (cCons (cVarB 15) cNil)) cNil)) (gN 20) cTrue (cBin dAdd (cBin dIx (cVarB 4) (cVar 20)) (cBin dMul (cCall dInt (cCons (cBin dEq (cVarB 5) (cK (.int 1))) cNil)) (cCall dInt (cCons (cBin dGt (cVarB 20) (cK (.int 0))) cNil))))))
    sNext)
abbrev lw_s3 : En → R Bool := (cOr (cBinT dNe (cUn dRepr (cCallF f_keep_truth (cCons (cVar 15) (cCons (cVar 16) (cCons (cVar 17) cNil))))) (cUn dRepr (cVar 18))) (cAnd (cTest (cVar 18)) (cBinT dIsNot (cVarB 3) (cK .none))))
abbrev lw_s4 : En → R Bool := (cAnd (cTest (cVar 18)) (cBinT dNe (cLc [20] (cIter dRange1 (cCons (cCall dLen (cCons (cVarB 15) cNil)) cNil)) (gN 20) (cBinT dGt (cBin dSub (cBin dIx (cVarB 17) (cVar 20)) (cBin dIx (cVarB 17) (cK (.int 0)))) (cBin dIx (cVarB 4) (cVar 20))) (cVar 20)) (cList cNil)))
abbrev lw_try : En → SR := (sSeq (sSet 17 lw_s1) (sSeq lw_s2 (sSeq (sSet 18 (cCallF f_l_keeps (cCons (cVar 15) (cCons (cVar 16) (cCons (cVar 17) cNil))))) (sSeq (sIf lw_s3 (sRet (cK (.bool false))) sNext) (sIf lw_s4 (sRet (cK (.bool false))) sNext)))))
include h in
theorem w_rng : cIter dRange1 (cCons (cCall dLen (cCons (cVarB 15) cNil)) cNil) (wE ns ds T c x2 x5 x6 x7 x17 x18 x20) = .ok ((List.range T.length).map nD) := by
  have := h.few
  exact cIter1_of (d := nD T.length) (len_bD rfl) (dRange1_nat (by omega))
include h in
theorem try_first (hd : Draws ds) {t : Nat} (ht : t < 5) : ∃ P : List Int, P.length = T.length ∧ lw_s1 (wE ns ds T c x2 (some (.v (nD t))) x6 x7 x17 x18 x20) = .ok (tD P) := by
  have hf := h.few
  have q := lcL_map (tgt := gN 20) (f := cBin dSub (cCallF f_l_mix (cCons (cVar 1) (cCons (cBin dAdd (cBin dAdd (cK (.int 70)) (cBin dMul (cK (.int 6)) (cVarB 5))) (cVar 20)) (cCons (cK (.int 9)) cNil)))) (cK (.int 3))) (ρ := wE ns ds T c x2 (some (.v (nD t))) x6 x7 x17 x18 none) (enc := nD) (fun j => wE ns ds T c x2 (some (.v (nD t))) x6 x7 x17 x18 (some (.v (nD j)))) (fun j => .int ((mixOf ds (70 + 6 * t + j) 9 : Nat) - 3)) (xs := List.range T.length) fun j hj => ⟨rfl, by
    have hj := List.mem_range.mp hj
    exact cBin_of (cCallF_of (ds := [.list (ds.map nD), nD (70 + 6 * t + j), nD 9]) (cCons_of rfl (cCons_of (cBin_of (a := nD (70 + 6 * t)) (b := nD j) (cBin_of (a := nD 70) (b := nD (6 * t)) rfl (cBin_of (a := nD 6) (b := nD t) rfl rfl (mul_nat 6 t (by decide) (Nat.lt_trans ht (by decide)))) (add_nat _ _)) rfl (add_nat _ _)) (cCons_of rfl rfl))) (mix_eq hd (by omega) (by decide))) rfl rfl⟩
  refine ⟨(List.range T.length).map fun j => ((mixOf ds (70 + 6 * t + j) 9 : Nat) : Int) - 3, by simp, ?_⟩
  have e : tD ((List.range T.length).map fun j => ((mixOf ds (70 + 6 * t + j) 9 : Nat) : Int) - 3) = .list ((List.range T.length).map fun j => .int ((mixOf ds (70 + 6 * t + j) 9 : Nat) - 3)) := by simp [tD]
  rw [e]
  exact cLc_of (w_rng h) q (by rw [List.length_map, List.length_range]; unfold sizeLine; omega)
include h in
theorem try_second {t : Nat} (ht : t < 5) {P : List Int} (hP : P.length = T.length) : ∃ Q : List Int, Q.length = T.length ∧ lw_s2 (wE ns ds T c x2 (some (.v (nD t))) x6 x7 (some (.v (tD P))) x18 x20) = .nx (wE ns ds T c x2 (some (.v (nD t))) x6 x7 (some (.v (tD Q))) x18 x20) := by
  have hf := h.few
  have q1 : cBinT dLt (cVarB 5) (cK (.int 2)) (wE ns ds T c x2 (some (.v (nD t))) x6 x7 (some (.v (tD P))) x18 x20) = .ok (decide ((t : Int) < 2)) := cBinT_of (a := nD t) rfl rfl rfl
  have q2 : cBinT dIsNot (cVarB 4) (cK .none) (wE ns ds T c x2 (some (.v (nD t))) x6 x7 (some (.v (tD P))) x18 x20) = .ok (told (lk T c) T.length).isNone := cBinT_of (a := payO T c) rfl rfl pay_not
  cases z1 : decide ((t : Int) < 2) with
  | false =>
    rw [z1] at q1
    exact ⟨P, hP, sIf_false (cAnd_f q1) rfl⟩
  | true =>
    rw [z1] at q1
    cases z : told (lk T c) T.length with
    | some r =>
      rw [z] at q2
      exact ⟨P, hP, sIf_false (cAnd_t q1 q2) rfl⟩
    | none =>
      rw [z] at q2
      have hp := pay_none z
      have hl : (bf (cst (lk T c)) T.length).length = T.length := bf_len _
      let d : Nat → Int := fun j => (if decide ((t : Int) = 1) = true then (1 : Int) else 0) * (if decide ((0 : Int) < (j : Int)) = true then (1 : Int) else 0)
      have q := lcL_map (tgt := gN 20) (f := cBin dAdd (cBin dIx (cVarB 4) (cVar 20)) (cBin dMul (cCall dInt (cCons (cBin dEq (cVarB 5) (cK (.int 1))) cNil)) (cCall dInt (cCons (cBin dGt (cVarB 20) (cK (.int 0))) cNil)))) (ρ := wE ns ds T c x2 (some (.v (nD t))) x6 x7 (some (.v (tD P))) x18 none) (enc := nD) (fun j => wE ns ds T c x2 (some (.v (nD t))) x6 x7 (some (.v (tD P))) x18 (some (.v (nD j)))) (fun j => .int (C.at_ (bf (cst (lk T c)) T.length) j + d j)) (xs := List.range T.length) fun j hj => ⟨rfl, by
        have hj := List.mem_range.mp hj
        have hv : cVarB 4 (wE ns ds T c x2 (some (.v (nD t))) x6 x7 (some (.v (tD P))) x18 (some (.v (nD j)))) = .ok (tD (bf (cst (lk T c)) T.length)) := by
          show R.ok (payO T c) = _
          rw [hp]
        have i1 : ∀ b : Bool, dInt [.bool b] = some (.int (if b = true then 1 else 0)) := fun b => by cases b <;> rfl
        have bb : ∀ b : Bool, Big (if b = true then 1 else 0) := fun b => by cases b <;> (unfold Big; decide)
        exact cBin_of (cBin_of (b := nD j) hv rfl (tbl_ix _ j (by omega))) (cBin_of (cCall1_of (cBin_of (a := nD t) rfl rfl (dEq_int _ _)) (i1 _)) (cCall1_of (cBin_of (a := nD j) (e := .bool (decide ((0 : Int) < (j : Int)))) rfl rfl rfl) (i1 _)) (dMul_ok (bb _) (bb _))) rfl⟩
      refine ⟨(List.range T.length).map fun j => C.at_ (bf (cst (lk T c)) T.length) j + d j, by simp, sIf_true (cAnd_t q1 q2) ((sSet_of (d := tD ((List.range T.length).map fun j => C.at_ (bf (cst (lk T c)) T.length) j + d j)) ?_).trans rfl)⟩
      have e : tD ((List.range T.length).map fun j => C.at_ (bf (cst (lk T c)) T.length) j + d j) = .list ((List.range T.length).map fun j => .int (C.at_ (bf (cst (lk T c)) T.length) j + d j)) := by simp [tD]
      rw [e]
      exact cLc_of (w_rng h) q (by rw [List.length_map, List.length_range]; unfold sizeLine; omega)
theorem keeps_none {P : List Int} (hk : keepsB T c P = true) : told (lk T c) T.length = none := by
  cases z : told (lk T c) T.length with
  | none => rfl
  | some r => exact absurd (keeps_fair _ (keepsB_iff.mp hk)) (told_some _ z)
include h in
theorem try_tests {P : List Int} (hP : P.length = T.length) : lw_s3 (wE ns ds T c x2 x5 x6 x7 (some (.v (tD P))) (some (.v (.bool (keepsB T c P)))) x20) = .ok false ∧ lw_s4 (wE ns ds T c x2 x5 x6 x7 (some (.v (tD P))) (some (.v (.bool (keepsB T c P)))) x20) = .ok false := by
  have hf := h.few
  have q1 : cTest (cVar 18) (wE ns ds T c x2 x5 x6 x7 (some (.v (tD P))) (some (.v (.bool (keepsB T c P)))) x20) = .ok (keepsB T c P) := cTest_of rfl
  have q2 : cBinT dIsNot (cVarB 3) (cK .none) (wE ns ds T c x2 x5 x6 x7 (some (.v (tD P))) (some (.v (.bool (keepsB T c P)))) x20) = .ok (told (lk T c) T.length).isSome := cBinT_of (a := rowO (told (lk T c) T.length)) rfl rfl (row_not _)
  have q3 : cBinT dNe (cUn dRepr (cCallF f_keep_truth (cCons (cVar 15) (cCons (cVar 16) (cCons (cVar 17) cNil))))) (cUn dRepr (cVar 18)) (wE ns ds T c x2 x5 x6 x7 (some (.v (tD P))) (some (.v (.bool (keepsB T c P)))) x20) = .ok false :=
    ne_text2 (fine_bool _) (by omega) (by omega) (cCallF_of (ds := [bD T, nsD c, tD P]) rfl (keep_truth_eq h hP)) rfl
  cases z : keepsB T c P with
  | false =>
    rw [z] at q1 q2 q3
    exact ⟨cOr_ff q3 (cAnd_f q1), cAnd_f q1⟩
  | true =>
    have ht := keeps_none z
    have hp := pay_none ht
    have hfair := told_none (lk T c) (lk_self T c) ht
    have hl : (bf (cst (lk T c)) T.length).length = T.length := bf_len _
    rw [z] at q1 q2 q3
    rw [ht] at q2
    refine ⟨cOr_ff q3 (cAnd_t q1 q2), cAnd_t q1 ?_⟩
    have q := lcL_gen (tgt := gN 20) (p := cBinT dGt (cBin dSub (cBin dIx (cVarB 17) (cVar 20)) (cBin dIx (cVarB 17) (cK (.int 0)))) (cBin dIx (cVarB 4) (cVar 20))) (f := cVar 20) (ρ := wE ns ds T c x2 x5 x6 x7 (some (.v (tD P))) (some (.v (.bool true))) none) (enc := nD) (fun j => wE ns ds T c x2 x5 x6 x7 (some (.v (tD P))) (some (.v (.bool true))) (some (.v (nD j)))) (fun _ => false) nD (xs := List.range T.length) fun j hj => ⟨rfl, by
      have hj := List.mem_range.mp hj
      have hv : cVarB 4 (wE ns ds T c x2 x5 x6 x7 (some (.v (tD P))) (some (.v (.bool true))) (some (.v (nD j)))) = .ok (tD (bf (cst (lk T c)) T.length)) := by
        show R.ok (payO T c) = _
        rw [hp]
      refine cBinT_of (cBin_of (cBin_of (a := tD P) (b := nD j) rfl rfl (tbl_ix P j (by omega))) (cBin_of (a := tD P) (b := nD 0) rfl rfl (tbl_ix P 0 (by have := h.pos; omega))) rfl) (cBin_of (b := nD j) hv rfl (tbl_ix _ j (by omega))) ?_
      obtain ⟨q, a1, a2, a3, a4⟩ := bf_simple (cst (lk T c)) hfair h.pos j hj
      have := keeps_pth (cst (lk T c)) (keepsB_iff.mp z) q j 0 a3 a1
      show some (PyData.bool (decide ((bf (cst (lk T c)) T.length).getD j 0 < P.getD j 0 - P.getD 0 0))) = _
      rw [decide_eq_false (by omega)], fun z => by cases z⟩
    have e0 : (List.range T.length).filter (fun _ => false) = [] := List.filter_eq_nil_iff.mpr fun _ _ => by simp
    rw [e0] at q
    exact cBinT_of (a := .list []) (b := .list []) (cLc_of (w_rng h) q (by simp)) (by rfl) (by kernel_rfl)
include h in
theorem try_step (hd : Draws ds) {t : Nat} (ht : t < 5) : ∃ y17 y18, lw_try (wE ns ds T c x2 (some (.v (nD t))) x6 x7 x17 x18 x20) = .nx (wE ns ds T c x2 (some (.v (nD t))) x6 x7 y17 y18 x20) := by
  obtain ⟨P, hP, e1⟩ := try_first (ns := ns) h hd ht (x2 := x2) (x6 := x6) (x7 := x7) (x17 := x17) (x18 := x18) (x20 := x20)
  obtain ⟨Q, hQ, e2⟩ := try_second (ns := ns) (ds := ds) h ht hP (x2 := x2) (x6 := x6) (x7 := x7) (x18 := x18) (x20 := x20)
  obtain ⟨e3, e4⟩ := try_tests (ns := ns) (ds := ds) h hQ (x2 := x2) (x5 := some (.v (nD t))) (x6 := x6) (x7 := x7) (x20 := x20)
  refine ⟨some (.v (tD Q)), some (.v (.bool (keepsB T c Q))), sSeq_nx ((sSet_of e1).trans (show _ = SR.nx (wE ns ds T c x2 (some (.v (nD t))) x6 x7 (some (.v (tD P))) x18 x20) from rfl)) (sSeq_nx e2 (sSeq_nx ((sSet_of (cCallF_of (ds := [bD T, nsD c, tD Q]) rfl (l_keeps_eq h hQ))).trans (show _ = SR.nx (wE ns ds T c x2 (some (.v (nD t))) x6 x7 (some (.v (tD Q))) (some (.v (.bool (keepsB T c Q)))) x20) from rfl)) (sSeq_nx (sIf_false e3 rfl) (sIf_false e4 rfl))))⟩
include h in
theorem try_loop (hd : Draws ds) : ∃ y5 y17 y18, loopL (gN 5) lw_try ((List.range 5).map nD) (wE ns ds T c x2 x5 x6 x7 x17 x18 x20) = .nx (wE ns ds T c x2 y5 x6 x7 y17 y18 x20) := by
  obtain ⟨ρ2, e, y5, y17, y18, rfl⟩ := loopL_inv (P := fun ρ => ∃ y5 y17 y18, ρ = wE ns ds T c x2 y5 x6 x7 y17 y18 x20) (tgt := gN 5) (body := lw_try) (ds := (List.range 5).map nD) (ρ := wE ns ds T c x2 x5 x6 x7 x17 x18 x20) (fun d hdm ρ hρ => by
    obtain ⟨t, ht, rfl⟩ := List.mem_map.mp hdm
    obtain ⟨y5, y17, y18, rfl⟩ := hρ
    obtain ⟨z17, z18, e⟩ := try_step (ns := ns) h hd (List.mem_range.mp ht) (x2 := x2) (x6 := x6) (x7 := x7) (x17 := y17) (x18 := y18) (x20 := x20)
    exact ⟨_, _, rfl, e, _, _, _, rfl⟩) ⟨_, _, _, rfl⟩
  exact ⟨_, _, _, e⟩
end
end K05

namespace K05
open PySem PySem.Spec PyProof.Rows L2 G P5
/-- the law's room, second half -/
abbrev vE (ns : List Int) (ds : List Nat) (T : List (List Int)) (c : List Nat) (x2 x5 x6 x7 x8 x9 x10 x11 x12 x13 x14 x17 x18 x19 x20 : Option Sl) : En :=
  [some (.sc ns), some (.v (.list (ds.map nD))), x2, some (.v (rowO (told (lk T c) T.length))), some (.v (payO T c)), x5, x6, x7, x8, x9, x10, x11, x12, x13, x14, some (.v (bD T)), some (.v (nsD c)), x17, x18, x19, x20]
section
variable {ns : List Int} {ds : List Nat} {m : Nat} {T : List (List Int)} {c : List Nat} {x2 x5 x6 x7 x12 x13 x14 x17 x18 x19 x20 : Option Sl}
abbrev lw_row : En → R D := (cBin dIx (cCallF f_l_rows (cCons (cCall dLen (cCons (cVarB 15) cNil)) cNil)) (cCallF f_l_mix (cCons (cVar 1) (cCons (cK (.int 110)) (cCons (cCall dLen (cCons (cCallF f_l_rows (cCons (cCall dLen (cCons (cVarB 15) cNil)) cNil)) cNil)) cNil)))))
theorem rows_ix {rs : List (List Nat)} {i : Nat} (hi : i < rs.length) : dIx (.list (rs.map nsD)) (nD i) = some (nsD (rs.getD i [])) := by
  rw [dIx_nat, List.getElem?_map, List.getD_eq_getElem?_getD, List.getElem?_eq_getElem hi]
  rfl
theorem row_of (h : Rule m T c) (hd : Draws ds) : ∃ r : List Nat, r ∈ rowsN T.length ∧ lw_row (wE ns ds T c x2 x5 x6 x7 x17 x18 x20) = .ok (nsD r) := by
  have hn : 0 < T.length ∧ T.length ≤ 5 := ⟨h.pos, h.few⟩
  have hr := rows_few hn
  have hm := mix_lt ds 110 hr.1
  have q : cCallF f_l_rows (cCons (cCall dLen (cCons (cVarB 15) cNil)) cNil) (wE ns ds T c x2 x5 x6 x7 x17 x18 x20) = .ok (.list ((rowsN T.length).map nsD)) := cCallF1_of (d := nD T.length) (len_bD rfl) (l_rows_eq hn)
  refine ⟨(rowsN T.length).getD (mixOf ds 110 (rowsN T.length).length) [], getD_mem hm, cBin_of q (cCallF_of (ds := [.list (ds.map nD), nD 110, nD (rowsN T.length).length]) (cCons_of rfl (cCons_of rfl (cCons_of (cCall1_of q (by rw [dLen_list, List.length_map])) rfl))) (mix_eq hd (by decide) hr.1)) (rows_ix hm)⟩
abbrev lw_10 : En → R Bool := (cBinT dNe (cCallF f_gain_of_round (cCons (cVar 15) (cCons (cVar 16) (cCons (cVar 6) cNil)))) (cCallF f_l_total (cCons (cVar 15) (cCons (cVar 16) (cCons (cVar 6) cNil)))))
theorem ten_ff (h : Rule m T c) {r : List Nat} (hr : r ∈ rowsN T.length) : lw_10 (wE ns ds T c x2 x5 (some (.v (nsD r))) x7 x17 x18 x20) = .ok false := by
  obtain ⟨h0, h1, h2⟩ := rows_in hr
  have hf := h.few
  have hz := nodup_few h1 h2
  exact cBinT_of (cCallF_of (ds := [bD T, nsD c, nsD r]) rfl (gain_of_round_eq h h0 (by omega) h2)) (cCallF_of (ds := [bD T, nsD c, nsD r]) rfl (l_total_eq h (by omega) h2)) (by rw [dNe_int]; simp)
abbrev lw_11 : En → R D := (cList (cCons (cList (cCons (cK (.int 1)) (cCons (cK (.int 2)) (cCons (cK (.int 0)) cNil)))) (cCons (cList (cCons (cK (.int 0)) (cCons (cK (.int 1)) (cCons (cK (.int 2)) cNil)))) (cCons (cList (cCons (cK (.int 2)) (cCons (cK (.int 0)) (cCons (cK (.int 1)) cNil)))) cNil))))
abbrev lw_12 : En → R Bool := (cOr (cBinT dNe (cCallF f_round_of_gains (cCons (cVar 7) (cCons (cList (cCons (cK (.int 0)) (cCons (cK (.int 1)) (cCons (cK (.int 2)) cNil)))) cNil))) (cList (cCons (cK (.int 0)) (cCons (cK (.int 1)) (cCons (cK (.int 2)) cNil))))) (cBinT dIsNot (cCallF f_greatest_payments (cCons (cVar 7) (cCons (cList (cCons (cK (.int 0)) (cCons (cK (.int 1)) (cCons (cK (.int 2)) cNil)))) cNil))) (cK .none)))
theorem three_eq {ρ : En} : lw_11 ρ = .ok (bD threeT) := by kernel_rfl
theorem twelve_ff : lw_12 (wE ns ds T c x2 x5 x6 (some (.v (bD threeT))) x17 x18 x20) = .ok false :=
  cOr_ff (cBinT_of (a := nsD [0, 1, 2]) (b := nsD [0, 1, 2]) (cCallF_of (ds := [bD threeT, nsD [0, 1, 2]]) (by kernel_rfl) three_round) (by kernel_rfl) (by kernel_rfl)) (cBinT_of (a := .none) (cCallF_of (ds := [bD threeT, nsD [0, 1, 2]]) (by kernel_rfl) three_pay) rfl rfl)
abbrev lw_w : En → R D := (cLc [5] (cIter dRange1 (cCons (cBin dAdd (cK (.int 1)) (cCallF f_l_mix (cCons (cVar 1) (cCons (cK (.int 3)) (cCons (cK (.int 5)) cNil))))) cNil)) (gN 5) cTrue (cCallF f_l_drawn (cCons (cVar 1) (cCons (cBin dAdd (cK (.int 600)) (cBin dMul (cK (.int 40)) (cVarB 5))) (cCons (cVar 8) cNil)))))
theorem wishes_of (hd : Draws ds) {g : Nat} (hg : 1 ≤ g ∧ g ≤ 4) (x9 x10 x11 : Option Sl) : ∃ W : List (List Int), (1 ≤ W.length ∧ W.length ≤ 5) ∧ (∀ t ∈ W, TblOk (2 ^ g) t) ∧ lw_w (vE ns ds T c x2 x5 x6 x7 (some (.v (nD g))) x9 x10 x11 x12 x13 x14 x17 x18 x19 x20) = .ok (bD W) := by
  have hx := mix_lt ds 3 (m := 5) (by decide)
  obtain ⟨W, h1, h2, e⟩ := lcL_ex (tgt := gN 5) (f := cCallF f_l_drawn (cCons (cVar 1) (cCons (cBin dAdd (cK (.int 600)) (cBin dMul (cK (.int 40)) (cVarB 5))) (cCons (cVar 8) cNil)))) (ρ := vE ns ds T c x2 none x6 x7 (some (.v (nD g))) x9 x10 x11 x12 x13 x14 x17 x18 x19 x20) (enc := nD) (out := tD) (Q := TblOk (2 ^ g)) (fun t => vE ns ds T c x2 (some (.v (nD t))) x6 x7 (some (.v (nD g))) x9 x10 x11 x12 x13 x14 x17 x18 x19 x20) (xs := List.range (1 + mixOf ds 3 5)) fun t ht => ⟨rfl, by
    have ht := List.mem_range.mp ht
    obtain ⟨A, t1, _, t3⟩ := drawn_eq (ds := ds) (k := 600 + 40 * t) (g := g) hd (by omega) hg
    exact ⟨A, t1, cCallF_of (ds := [.list (ds.map nD), nD (600 + 40 * t), nD g]) (cCons_of rfl (cCons_of (cBin_of (a := nD 600) (b := nD (40 * t)) rfl (cBin_of (a := nD 40) (b := nD t) rfl rfl (mul_nat 40 t (by decide) (Nat.lt_trans (show t < 100 by omega) (by decide)))) (add_nat _ _)) (cCons_of rfl rfl))) t3⟩⟩
  rw [List.length_range] at h1
  refine ⟨W, ⟨by omega, by omega⟩, h2, cLc_of (cIter1_of (d := nD (1 + mixOf ds 3 5)) (cBin_of (a := nD 1) rfl (cCallF_of (ds := [.list (ds.map nD), nD 3, nD 5]) rfl (mix_eq hd (by decide) (by decide))) (add_nat _ _)) (dRange1_nat (by omega))) e (by rw [List.length_map]; unfold sizeLine; omega)⟩
variable {g : Nat} {b W : List (List Int)} {k : Nat}
abbrev lw_due : En → R D := (cLc [19] (cItems (cVar 11)) (gN 19) cTrue (cBin dIx (cCallF f_l_numbers (cCons (cBin dIx (cCallF f_l_best (cCons (cBin dAdd (cBin dAdd (cSlice (cVar 9) cPartN (cPart (cVar 10))) (cList (cCons (cVar 19) cNil))) (cSlice (cVar 9) (cPart (cBin dAdd (cVar 10) (cK (.int 1)))) cPartN)) (cCons (cVar 8) cNil))) (cK (.int 0))) cNil)) (cVar 10)))
abbrev lw_fair : En → R D := (cLc [19] (cItems (cVar 11)) (gN 19) cTrue (cBin dIx (cCallF f_l_paid (cCons (cBin dAdd (cBin dAdd (cSlice (cVar 9) cPartN (cPart (cVar 10))) (cList (cCons (cVar 19) cNil))) (cSlice (cVar 9) (cPart (cBin dAdd (cVar 10) (cK (.int 1)))) cPartN)) (cCons (cVar 8) (cCons (cK (.str "fair")) cNil)))) (cVar 10)))
theorem due_eq (hb : BkOk (2 ^ g) b.length b) (hm : Few b.length g) (hk : k < b.length) (hW : ∀ t ∈ W, TblOk (2 ^ g) t) (hw5 : W.length ≤ 5) : lw_due (vE ns ds T c x2 x5 x6 x7 (some (.v (nD g))) (some (.v (bD b))) (some (.v (nD k))) (some (.v (bD W))) x12 x13 x14 x17 x18 x19 x20) = .ok (nsD (W.map (due (2 ^ g) b k))) := by
  have hbl := hm.1
  have hn0 : 0 < 2 ^ g := Nat.pow_pos (by decide)
  have hle := hm.le
  have q := lcL_map (tgt := gN 19) (f := cBin dIx (cCallF f_l_numbers (cCons (cBin dIx (cCallF f_l_best (cCons (cBin dAdd (cBin dAdd (cSlice (cVar 9) cPartN (cPart (cVar 10))) (cList (cCons (cVar 19) cNil))) (cSlice (cVar 9) (cPart (cBin dAdd (cVar 10) (cK (.int 1)))) cPartN)) (cCons (cVar 8) cNil))) (cK (.int 0))) cNil)) (cVar 10)) (ρ := vE ns ds T c x2 x5 x6 x7 (some (.v (nD g))) (some (.v (bD b))) (some (.v (nD k))) (some (.v (bD W))) x12 x13 x14 x17 x18 none x20) (enc := tD) (fun t => vE ns ds T c x2 x5 x6 x7 (some (.v (nD g))) (some (.v (bD b))) (some (.v (nD k))) (some (.v (bD W))) x12 x13 x14 x17 x18 (some (.v (tD t))) x20) (fun t => nD (due (2 ^ g) b k t)) (xs := W) fun t ht => ⟨rfl, by
    have hB := set_book (k := k) hb (by omega) (hW t ht)
    have hF : Few (b.set k t).length g := by rw [List.length_set]; exact hm
    have hlen : (C.pick (b.set k t) (2 ^ g - 1)).length = b.length := by rw [pick_len, List.length_set]
    exact cBin_of (a := nsD (C.pick (b.set k t) (2 ^ g - 1))) (b := nD k) (cCallF1_of (d := shD (C.pick (b.set k t) (2 ^ g - 1))) (cBin_of (b := .int 0) (cCallF_of (ds := [bD (b.set k t), nD g]) (cCons_of (set_expr hk (by omega) rfl rfl rfl) rfl) (law_best_eq hB hF)) rfl (by rw [dIxT_zero]; rfl)) (law_numbers_eq (by omega) fun p hp => by have := pick_le _ _ p hp; omega)) rfl (nat_ix (by omega))⟩
  have e : nsD (W.map (due (2 ^ g) b k)) = .list (W.map fun t => nD (due (2 ^ g) b k t)) := by simp
  rw [e]
  exact cLc_of (cItems_of (ds := W.map tD) rfl) q (by rw [List.length_map]; unfold sizeLine; omega)
theorem fair_eq (hb : BkOk (2 ^ g) b.length b) (hm : Few b.length g) (hk : k < b.length) (hW : ∀ t ∈ W, TblOk (2 ^ g) t) (hw5 : W.length ≤ 5) : lw_fair (vE ns ds T c x2 x5 x6 x7 (some (.v (nD g))) (some (.v (bD b))) (some (.v (nD k))) (some (.v (bD W))) x12 x13 x14 x17 x18 x19 x20) = .ok (tD (W.map (fairP (2 ^ g) b k))) := by
  have hbl := hm.1
  have q := lcL_map (tgt := gN 19) (f := cBin dIx (cCallF f_l_paid (cCons (cBin dAdd (cBin dAdd (cSlice (cVar 9) cPartN (cPart (cVar 10))) (cList (cCons (cVar 19) cNil))) (cSlice (cVar 9) (cPart (cBin dAdd (cVar 10) (cK (.int 1)))) cPartN)) (cCons (cVar 8) (cCons (cK (.str "fair")) cNil)))) (cVar 10)) (ρ := vE ns ds T c x2 x5 x6 x7 (some (.v (nD g))) (some (.v (bD b))) (some (.v (nD k))) (some (.v (bD W))) x12 x13 x14 x17 x18 none x20) (enc := tD) (fun t => vE ns ds T c x2 x5 x6 x7 (some (.v (nD g))) (some (.v (bD b))) (some (.v (nD k))) (some (.v (bD W))) x12 x13 x14 x17 x18 (some (.v (tD t))) x20) (fun t => .int (fairP (2 ^ g) b k t)) (xs := W) fun t ht => ⟨rfl, by
    have hB := set_book (k := k) hb (by omega) (hW t ht)
    have hF : Few (b.set k t).length g := by rw [List.length_set]; exact hm
    refine cBin_of (a := tD (pays (2 ^ g) (b.set k t) .fair)) (b := nD k) (cCallF_of (ds := [bD (b.set k t), nD g, Wd.fair.d]) (cCons_of (set_expr hk (by omega) rfl rfl rfl) rfl) (law_paid_eq hB hF .fair)) rfl ?_
    rw [dIx_nat]
    simp [pays, hk]
    rfl⟩
  have e : tD (W.map (fairP (2 ^ g) b k)) = .list (W.map fun t => .int (fairP (2 ^ g) b k t)) := by simp [tD]
  rw [e]
  exact cLc_of (cItems_of (ds := W.map tD) rfl) q (by rw [List.length_map]; unfold sizeLine; omega)
abbrev lw_20 : En → R Bool := (cOr (cBinT dNe (cUn dRepr (cVar 12)) (cUn dRepr (cTup (cCons (cVar 11) (cCons (cVar 13) cNil))))) (cBinT dNe (cCallF f_fair_in (cCons (cVar 9) (cCons (cVar 10) (cCons (cVar 11) cNil)))) (cVarB 14)))
abbrev lw_21 : En → R Bool := (cOr (cBinT dIsNot (cCallF f_round_of_gains (cCons (cBin dIx (cVarB 12) (cK (.int 0))) (cCons (cBin dIx (cVarB 12) (cK (.int 1))) cNil))) (cK .none)) (cBinT dIsNot (cCallF f_keep_truth (cCons (cBin dIx (cVarB 12) (cK (.int 0))) (cCons (cBin dIx (cVarB 12) (cK (.int 1))) (cCons (cVar 14) cNil)))) (cK (.bool true))))
theorem lay_tD (t : List Int) : PyData.canLay0 (tD t) = true ∧ (tD t).depth ≤ 64 := by
  obtain ⟨l1, l2⟩ : PyData.canLayAll0 (t.map PyData.int) = true ∧ PyData.depthAll (t.map PyData.int) ≤ 1 := lay_ints (fun i => i) t
  simp [PyData.canLay0, PyData.depth, l1]
  omega
theorem twenty_ff (hb : BkOk (2 ^ g) b.length b) (hm : Few b.length g) (hk : k < b.length) (hW : ∀ t ∈ W, TblOk (2 ^ g) t) (hw : 1 ≤ W.length ∧ W.length ≤ 5) : lw_20 (vE ns ds T c x2 x5 x6 x7 (some (.v (nD g))) (some (.v (bD b))) (some (.v (nD k))) (some (.v (bD W))) (some (.v (.tuple [bD W, nsD (W.map (due (2 ^ g) b k))]))) (some (.v (nsD (W.map (due (2 ^ g) b k))))) (some (.v (tD (W.map (fairP (2 ^ g) b k))))) x17 x18 x19 x20) = .ok false := by
  have hbl := hm.1
  have hn0 : 0 < 2 ^ g := Nat.pow_pos (by decide)
  have hr := wish_rule (n := 2 ^ g) hk hW hw.1 hw.2 hm.le hn0
  exact cOr_ff (ne_text2 (fine_rule hr) (by omega) (by omega) rfl (cTup2_of rfl rfl)) (cBinT_of (cCallF_of (ds := [bD b, nD k, bD W]) rfl (fair_in_eq hb (by omega) (by omega) hk hW hw.1 hw.2 hm.le hn0)) rfl (ne_self (lay_tD _).1 (lay_tD _).2))
theorem twentyone_ff (hb : BkOk (2 ^ g) b.length b) (hm : Few b.length g) (hk : k < b.length) (hW : ∀ t ∈ W, TblOk (2 ^ g) t) (hw : 1 ≤ W.length ∧ W.length ≤ 5) (x13 : Option Sl) : lw_21 (vE ns ds T c x2 x5 x6 x7 (some (.v (nD g))) (some (.v (bD b))) (some (.v (nD k))) (some (.v (bD W))) (some (.v (.tuple [bD W, nsD (W.map (due (2 ^ g) b k))]))) x13 (some (.v (tD (W.map (fairP (2 ^ g) b k))))) x17 x18 x19 x20) = .ok false := by
  have hn0 : 0 < 2 ^ g := Nat.pow_pos (by decide)
  have hr := wish_rule (n := 2 ^ g) hk hW hw.1 hw.2 hm.le hn0
  have a0 : ∀ ρ : En, cVarB 12 ρ = .ok (.tuple [bD W, nsD (W.map (due (2 ^ g) b k))]) → cBin dIx (cVarB 12) (cK (.int 0)) ρ = .ok (bD W) := fun ρ e => cBin_of (b := .int 0) e rfl (by rw [dIxT_zero]; rfl)
  have a1 : ∀ ρ : En, cVarB 12 ρ = .ok (.tuple [bD W, nsD (W.map (due (2 ^ g) b k))]) → cBin dIx (cVarB 12) (cK (.int 1)) ρ = .ok (nsD (W.map (due (2 ^ g) b k))) := fun ρ e => cBin_of (b := .int 1) e rfl (by rw [dIxT_one]; rfl)
  refine cOr_ff (cBinT_of (a := .none) (cCallF_of (ds := [bD W, nsD (W.map (due (2 ^ g) b k))]) (cCons_of (a0 _ rfl) (cCons_of (a1 _ rfl) rfl)) ((round_of_gains_eq hr).trans (by rw [wish_told hk]; rfl))) rfl rfl) (cBinT_of (a := .bool true) (cCallF_of (ds := [bD W, nsD (W.map (due (2 ^ g) b k)), tD (W.map (fairP (2 ^ g) b k))]) (cCons_of (a0 _ rfl) (cCons_of (a1 _ rfl) (cCons_of rfl rfl))) ((keep_truth_eq hr (by rw [List.length_map])).trans (by rw [keepsB_iff.mpr (wish_keeps hk)]))) rfl rfl)
end
end K05

namespace K05
open PySem PySem.Spec PyProof.Rows L2 G P5
abbrev lw_22 : En → R D := (cAndV (cBin dEq (cUn dRepr (cTup (cCons (cVar 15) (cCons (cVar 16) cNil)))) (cVarB 2)) (cCallF f_l_faults fun _ => .ok []))
section
variable {ns : List Int} {ds : List Nat} {m : Nat} {T : List (List Int)} {c : List Nat}
theorem rule_mem (h : Rule m T c) {ρ : En} (h1 : cVar 15 ρ = .ok (bD T)) (h2 : cVar 16 ρ = .ok (nsD c)) : cUn dRepr (cTup (cCons (cVar 15) (cCons (cVar 16) cNil))) ρ = .ok (.str (PyData.tuple [bD T, nsD c]).shown) := cUn_of (cTup2_of h1 h2) ((fine_rule h).repr (by omega) (by omega))
theorem last_tt (h : Rule m T c) {x5 x6 x7 x8 x9 x10 x11 x12 x13 x14 x17 x18 x19 x20 : Option Sl} : lw_22 (vE ns ds T c (some (.v (.str (PyData.tuple [bD T, nsD c]).shown))) x5 x6 x7 x8 x9 x10 x11 x12 x13 x14 x17 x18 x19 x20) = .ok (.bool true) :=
  cAndV_tt (cBin_of (rule_mem h rfl rfl) rfl (eq_self (fine_rule h).text.1 (fine_rule h).text.2)) (cCallF_of (ds := []) rfl faults_eq)
theorem half_two (h : Rule m T c) (hd : Draws ds) (x5 x6 x7 x17 x18 : Option Sl) : (sSeq (sSet 8 (cBin dAdd (cK (.int 1)) (cCallF f_l_mix (cCons (cVar 1) (cCons (cK (.int 1)) (cCons (cK (.int 2)) cNil))))))
    (sSeq (sSet 9 (cCallF f_l_book (cCons (cVar 1) (cCons (cK (.int 120)) (cCons (cK (.int 3)) (cCons (cVar 8) cNil))))))
    (sSeq (sSet 10 (cCallF f_l_mix (cCons (cVar 1) (cCons (cK (.int 2)) (cCons (cCall dLen (cCons (cVarB 9) cNil)) cNil)))))
    (sSeq (sSet 11 lw_w)
    (sSeq (sSet 12 (cCallF f_rule_in (cCons (cVar 9) (cCons (cVar 10) (cCons (cVar 11) cNil)))))
    (sSeq (sSet 13 lw_due)
    (sSeq (sSet 14 lw_fair)
    (sSeq (sIf lw_20 (sRet (cK (.bool false))) sNext)
    (sSeq (sIf lw_21 (sRet (cK (.bool false))) sNext)
    (sRet lw_22))))))))) (wE ns ds T c (some (.v (.str (PyData.tuple [bD T, nsD c]).shown))) x5 x6 x7 x17 x18 none)).out = .ok (.bool true) := by
  have m1 := mix_lt ds 1 (m := 2) (by decide)
  have q8 : sSet 8 (cBin dAdd (cK (.int 1)) (cCallF f_l_mix (cCons (cVar 1) (cCons (cK (.int 1)) (cCons (cK (.int 2)) cNil))))) (wE ns ds T c (some (.v (.str (PyData.tuple [bD T, nsD c]).shown))) x5 x6 x7 x17 x18 none) = .nx (vE ns ds T c (some (.v (.str (PyData.tuple [bD T, nsD c]).shown))) x5 x6 x7 (some (.v (nD (1 + mixOf ds 1 2)))) none none none none none none x17 x18 none none) :=
    (sSet_of (cBin_of (a := nD 1) rfl (cCallF_of (ds := [.list (ds.map nD), nD 1, nD 2]) rfl (mix_eq hd (by decide) (by decide))) (add_nat _ _))).trans rfl
  have hg : 1 ≤ 1 + mixOf ds 1 2 ∧ 1 + mixOf ds 1 2 ≤ 4 := by omega
  have hg2 : 1 + mixOf ds 1 2 ≤ 2 := by omega
  generalize 1 + mixOf ds 1 2 = g at *
  obtain ⟨b, hbl, hbt, eb⟩ := book_eq (ds := ds) (g := g) (first := 120) (most := 3) hd hg (by decide) (by decide) (by decide)
  have mb := mix_lt ds (120 + 400) (m := 3) (by decide)
  have hm : Few b.length g := ⟨by omega, by omega, by omega⟩
  have hb : BkOk (2 ^ g) b.length b := ⟨rfl, fun t ht => (hbt t ht).tbl⟩
  have q9 : sSet 9 (cCallF f_l_book (cCons (cVar 1) (cCons (cK (.int 120)) (cCons (cK (.int 3)) (cCons (cVar 8) cNil))))) (vE ns ds T c (some (.v (.str (PyData.tuple [bD T, nsD c]).shown))) x5 x6 x7 (some (.v (nD g))) none none none none none none x17 x18 none none) = .nx (vE ns ds T c (some (.v (.str (PyData.tuple [bD T, nsD c]).shown))) x5 x6 x7 (some (.v (nD g))) (some (.v (bD b))) none none none none none x17 x18 none none) :=
    (sSet_of (cCallF_of (ds := [.list (ds.map nD), nD 120, nD 3, nD g]) rfl eb)).trans rfl
  have hk := mix_lt ds 2 (m := b.length) (by omega)
  have q10 : sSet 10 (cCallF f_l_mix (cCons (cVar 1) (cCons (cK (.int 2)) (cCons (cCall dLen (cCons (cVarB 9) cNil)) cNil)))) (vE ns ds T c (some (.v (.str (PyData.tuple [bD T, nsD c]).shown))) x5 x6 x7 (some (.v (nD g))) (some (.v (bD b))) none none none none none x17 x18 none none) = .nx (vE ns ds T c (some (.v (.str (PyData.tuple [bD T, nsD c]).shown))) x5 x6 x7 (some (.v (nD g))) (some (.v (bD b))) (some (.v (nD (mixOf ds 2 b.length)))) none none none none x17 x18 none none) :=
    (sSet_of (cCallF_of (ds := [.list (ds.map nD), nD 2, nD b.length]) (cCons_of rfl (cCons_of rfl (cCons_of (len_bD rfl) rfl))) (mix_eq hd (by decide) (by omega)))).trans rfl
  generalize mixOf ds 2 b.length = k at *
  obtain ⟨W, hw, hW, eW⟩ := wishes_of (ns := ns) (ds := ds) (T := T) (c := c) (x2 := some (.v (.str (PyData.tuple [bD T, nsD c]).shown))) (x5 := x5) (x6 := x6) (x7 := x7) (x12 := none) (x13 := none) (x14 := none) (x17 := x17) (x18 := x18) (x19 := none) (x20 := none) hd hg (some (.v (bD b))) (some (.v (nD k))) none
  have hn0 : 0 < 2 ^ g := Nat.pow_pos (by decide)
  have q11 := (sSet_of (i := 11) eW).trans (show _ = SR.nx (vE ns ds T c (some (.v (.str (PyData.tuple [bD T, nsD c]).shown))) x5 x6 x7 (some (.v (nD g))) (some (.v (bD b))) (some (.v (nD k))) (some (.v (bD W))) none none none x17 x18 none none) from rfl)
  have q12 : sSet 12 (cCallF f_rule_in (cCons (cVar 9) (cCons (cVar 10) (cCons (cVar 11) cNil)))) (vE ns ds T c (some (.v (.str (PyData.tuple [bD T, nsD c]).shown))) x5 x6 x7 (some (.v (nD g))) (some (.v (bD b))) (some (.v (nD k))) (some (.v (bD W))) none none none x17 x18 none none) = .nx (vE ns ds T c (some (.v (.str (PyData.tuple [bD T, nsD c]).shown))) x5 x6 x7 (some (.v (nD g))) (some (.v (bD b))) (some (.v (nD k))) (some (.v (bD W))) (some (.v (.tuple [bD W, nsD (W.map (due (2 ^ g) b k))]))) none none x17 x18 none none) :=
    (sSet_of (cCallF_of (ds := [bD b, nD k, bD W]) rfl (rule_in_eq hb (by omega) (by omega) hk hW hw.1 hw.2 hm.le hn0))).trans rfl
  have q13 := (sSet_of (i := 13) (due_eq (ns := ns) (ds := ds) (T := T) (c := c) (x2 := some (.v (.str (PyData.tuple [bD T, nsD c]).shown))) (x5 := x5) (x6 := x6) (x7 := x7) (x12 := some (.v (.tuple [bD W, nsD (W.map (due (2 ^ g) b k))]))) (x13 := none) (x14 := none) (x17 := x17) (x18 := x18) (x19 := none) (x20 := none) hb hm hk hW hw.2)).trans (show _ = SR.nx (vE ns ds T c (some (.v (.str (PyData.tuple [bD T, nsD c]).shown))) x5 x6 x7 (some (.v (nD g))) (some (.v (bD b))) (some (.v (nD k))) (some (.v (bD W))) (some (.v (.tuple [bD W, nsD (W.map (due (2 ^ g) b k))]))) (some (.v (nsD (W.map (due (2 ^ g) b k))))) none x17 x18 none none) from rfl)
  have q14 := (sSet_of (i := 14) (fair_eq (ns := ns) (ds := ds) (T := T) (c := c) (x2 := some (.v (.str (PyData.tuple [bD T, nsD c]).shown))) (x5 := x5) (x6 := x6) (x7 := x7) (x12 := some (.v (.tuple [bD W, nsD (W.map (due (2 ^ g) b k))]))) (x13 := some (.v (nsD (W.map (due (2 ^ g) b k))))) (x14 := none) (x17 := x17) (x18 := x18) (x19 := none) (x20 := none) hb hm hk hW hw.2)).trans (show _ = SR.nx (vE ns ds T c (some (.v (.str (PyData.tuple [bD T, nsD c]).shown))) x5 x6 x7 (some (.v (nD g))) (some (.v (bD b))) (some (.v (nD k))) (some (.v (bD W))) (some (.v (.tuple [bD W, nsD (W.map (due (2 ^ g) b k))]))) (some (.v (nsD (W.map (due (2 ^ g) b k))))) (some (.v (tD (W.map (fairP (2 ^ g) b k))))) x17 x18 none none) from rfl)
  have q20 := sIf_false (g1 := sRet (cK (.bool false))) (g2 := sNext) (twenty_ff (ns := ns) (ds := ds) (T := T) (c := c) (x2 := some (.v (.str (PyData.tuple [bD T, nsD c]).shown))) (x5 := x5) (x6 := x6) (x7 := x7) (x17 := x17) (x18 := x18) (x19 := none) (x20 := none) hb hm hk hW hw) rfl
  have q21 := sIf_false (g1 := sRet (cK (.bool false))) (g2 := sNext) (twentyone_ff (ns := ns) (ds := ds) (T := T) (c := c) (x2 := some (.v (.str (PyData.tuple [bD T, nsD c]).shown))) (x5 := x5) (x6 := x6) (x7 := x7) (x17 := x17) (x18 := x18) (x19 := none) (x20 := none) hb hm hk hW hw (some (.v (nsD (W.map (due (2 ^ g) b k)))))) rfl
  generalize W.map (due (2 ^ g) b k) = du at *
  generalize W.map (fairP (2 ^ g) b k) = fa at *
  exact (congrArg SR.out (sSeq_nx q8 (sSeq_nx q9 (sSeq_nx q10 (sSeq_nx q11 (sSeq_nx q12 (sSeq_nx q13 (sSeq_nx q14 (sSeq_nx q20 (sSeq_nx q21 rfl)))))))))).trans (sRet_of (last_tt h))
end
theorem good : ∀ ns : List Int, ns.length ≤ 63 → f_law ns = .ok (.bool true) := by
  intro ns hn
  obtain ⟨ds, hd1, ed⟩ := draws_eq ns hn
  have hd : Draws ds := ⟨hd1.1, hd1.2⟩
  obtain ⟨m, T, c, h, eR⟩ := l_rule_eq hd
  have q1 : sSet 1 (cCallS 0 f_l_draws) (some (.sc ns) :: List.replicate 20 none) = .nx [some (.sc ns), some (.v (.list (ds.map nD))), none, none, none, none, none, none, none, none, none, none, none, none, none, none, none, none, none, none, none] := (sSet_of (cCallS_of (i := 0) (F := f_l_draws) rfl ed)).trans rfl
  have q2 : sAsg (gT (gC (gN 15) (gC (gN 16) gE))) (cCallF f_l_rule (cCons (cVar 1) (cCons (cK (.int 10)) cNil))) [some (.sc ns), some (.v (.list (ds.map nD))), none, none, none, none, none, none, none, none, none, none, none, none, none, none, none, none, none, none, none] = .nx [some (.sc ns), some (.v (.list (ds.map nD))), none, none, none, none, none, none, none, none, none, none, none, none, none, some (.v (bD T)), some (.v (nsD c)), none, none, none, none] := sAsg_of (cCallF_of (ds := [.list (ds.map nD), nD 10]) rfl eR) rfl
  have q3 : sSet 2 (cUn dRepr (cTup (cCons (cVar 15) (cCons (cVar 16) cNil)))) [some (.sc ns), some (.v (.list (ds.map nD))), none, none, none, none, none, none, none, none, none, none, none, none, none, some (.v (bD T)), some (.v (nsD c)), none, none, none, none] = .nx [some (.sc ns), some (.v (.list (ds.map nD))), some (.v (.str (PyData.tuple [bD T, nsD c]).shown)), none, none, none, none, none, none, none, none, none, none, none, none, some (.v (bD T)), some (.v (nsD c)), none, none, none, none] := (sSet_of (rule_mem h rfl rfl)).trans rfl
  have q4 : sSet 3 (cCallF f_l_round (cCons (cVar 15) (cCons (cVar 16) cNil))) [some (.sc ns), some (.v (.list (ds.map nD))), some (.v (.str (PyData.tuple [bD T, nsD c]).shown)), none, none, none, none, none, none, none, none, none, none, none, none, some (.v (bD T)), some (.v (nsD c)), none, none, none, none] = .nx [some (.sc ns), some (.v (.list (ds.map nD))), some (.v (.str (PyData.tuple [bD T, nsD c]).shown)), some (.v (rowO (told (lk T c) T.length))), none, none, none, none, none, none, none, none, none, none, none, some (.v (bD T)), some (.v (nsD c)), none, none, none, none] := (sSet_of (cCallF_of (ds := [bD T, nsD c]) rfl (l_round_eq h))).trans rfl
  have q5 : sSet 4 (cCallF f_greatest_payments (cCons (cVar 15) (cCons (cVar 16) cNil))) [some (.sc ns), some (.v (.list (ds.map nD))), some (.v (.str (PyData.tuple [bD T, nsD c]).shown)), some (.v (rowO (told (lk T c) T.length))), none, none, none, none, none, none, none, none, none, none, none, some (.v (bD T)), some (.v (nsD c)), none, none, none, none] = .nx (wE ns ds T c (some (.v (.str (PyData.tuple [bD T, nsD c]).shown))) none none none none none none) := (sSet_of (cCallF_of (ds := [bD T, nsD c]) rfl (greatest_eq h))).trans rfl
  have q6 := sIf_false (g1 := sRet (cK (.bool false))) (g2 := sNext) (six_ff (ns := ns) (ds := ds) h (x2 := some (.v (.str (PyData.tuple [bD T, nsD c]).shown))) (x5 := none) (x6 := none) (x7 := none) (x17 := none) (x18 := none) (x20 := none)) rfl
  have q7 := sIf_false (g1 := sRet (cK (.bool false))) (g2 := sNext) (seven_ff (ns := ns) (ds := ds) h (x2 := some (.v (.str (PyData.tuple [bD T, nsD c]).shown))) (x5 := none) (x6 := none) (x7 := none) (x17 := none) (x18 := none) (x20 := none)) rfl
  obtain ⟨y5, y17, y18, e8⟩ := try_loop (ns := ns) h hd (x2 := some (.v (.str (PyData.tuple [bD T, nsD c]).shown))) (x5 := none) (x6 := none) (x7 := none) (x17 := none) (x18 := none) (x20 := none)
  have q8 : sFor (gN 5) (cIter dRange1 (cCons (cK (.int 5)) cNil)) lw_try (wE ns ds T c (some (.v (.str (PyData.tuple [bD T, nsD c]).shown))) none none none none none none) = .nx (wE ns ds T c (some (.v (.str (PyData.tuple [bD T, nsD c]).shown))) y5 none none y17 y18 none) := sFor_of (cIter1_of (d := nD 5) rfl (dRange1_nat (by decide))) e8
  obtain ⟨r, hr, er⟩ := row_of (ns := ns) (ds := ds) (x2 := some (.v (.str (PyData.tuple [bD T, nsD c]).shown))) (x5 := y5) (x6 := none) (x7 := none) (x17 := y17) (x18 := y18) (x20 := none) h hd
  have q9 := (sSet_of (i := 6) er).trans (show _ = SR.nx (wE ns ds T c (some (.v (.str (PyData.tuple [bD T, nsD c]).shown))) y5 (some (.v (nsD r))) none y17 y18 none) from rfl)
  have q10 := sIf_false (g1 := sRet (cK (.bool false))) (g2 := sNext) (ten_ff (ns := ns) (ds := ds) (x2 := some (.v (.str (PyData.tuple [bD T, nsD c]).shown))) (x5 := y5) (x7 := none) (x17 := y17) (x18 := y18) (x20 := none) h hr) rfl
  have q11 := (sSet_of (i := 7) (three_eq (ρ := wE ns ds T c (some (.v (.str (PyData.tuple [bD T, nsD c]).shown))) y5 (some (.v (nsD r))) none y17 y18 none))).trans (show _ = SR.nx (wE ns ds T c (some (.v (.str (PyData.tuple [bD T, nsD c]).shown))) y5 (some (.v (nsD r))) (some (.v (bD threeT))) y17 y18 none) from rfl)
  have q12 := sIf_false (g1 := sRet (cK (.bool false))) (g2 := sNext) (twelve_ff (ns := ns) (ds := ds) (T := T) (c := c) (x2 := some (.v (.str (PyData.tuple [bD T, nsD c]).shown))) (x5 := y5) (x6 := some (.v (nsD r))) (x17 := y17) (x18 := y18) (x20 := none)) rfl
  have fin := half_two (ns := ns) h hd y5 (some (.v (nsD r))) (some (.v (bD threeT))) y17 y18
  unfold f_law g_law runS
  exact (congrArg SR.out (sSeq_nx q1 (sSeq_nx q2 (sSeq_nx q3 (sSeq_nx q4 (sSeq_nx q5 (sSeq_nx q6 (sSeq_nx q7 (sSeq_nx q8 (sSeq_nx q9 (sSeq_nx q10 (sSeq_nx q11 (sSeq_nx q12 rfl))))))))))))).trans fin
end K05

namespace K05
open PySem PySem.Spec PyProof.Rows L2 G
set_option maxHeartbeats 4000000
def top (i : Nat) : Stmt := PySem.Challenge.pw_truebidsbest_k05_main_rules_paid_exactly.main.body.getD i (.Pass ⟨0, 0, 0, 0⟩)
abbrev s_number_of : Stmt := top 12
theorem sc_number_of : FnScope ["bundle", "good"] ["bundle"] (defScope s_number_of) := ⟨rfl, rfl, rfl, by decide +kernel, rfl, by decide +kernel, by decide +kernel⟩
abbrev s_bundle_of : Stmt := top 13
theorem sc_bundle_of : FnScope ["number", "found", "rest", "good"] ["number"] (defScope s_bundle_of) := ⟨rfl, rfl, rfl, by decide +kernel, rfl, by decide +kernel, by decide +kernel⟩
abbrev s_within : Stmt := top 14
theorem sc_within : FnScope ["one", "two", "a", "b"] ["one", "two"] (defScope s_within) := ⟨rfl, rfl, rfl, by decide +kernel, rfl, by decide +kernel, by decide +kernel⟩
abbrev s_parts_of : Stmt := top 15
theorem sc_parts_of : FnScope ["number", "part"] ["number"] (defScope s_parts_of) := ⟨rfl, rfl, rfl, by decide +kernel, rfl, by decide +kernel, by decide +kernel⟩
abbrev s_is_table : Stmt := top 16
theorem sc_is_table : FnScope ["table", "number", "good"] ["table"] (defScope s_is_table) := ⟨rfl, rfl, rfl, by decide +kernel, rfl, by decide +kernel, by decide +kernel⟩
abbrev s_check_book : Stmt := top 19
theorem sc_check_book : FnScope ["book", "k", "table"] ["book"] (defScope s_check_book) := ⟨rfl, rfl, rfl, by decide +kernel, rfl, by decide +kernel, by decide +kernel⟩
abbrev s_most_at : Stmt := top 20
theorem sc_most_at : FnScope ["table", "other", "whole", "part"] ["table", "other", "whole"] (defScope s_most_at) := ⟨rfl, rfl, rfl, by decide +kernel, rfl, by decide +kernel, by decide +kernel⟩
abbrev s_rests : Stmt := top 21
theorem sc_rests : FnScope ["book", "rows", "table", "after", "whole"] ["book"] (defScope s_rests) := ⟨rfl, rfl, rfl, by decide +kernel, rfl, by decide +kernel, by decide +kernel⟩
abbrev s_best_of : Stmt := top 22
theorem sc_best_of : FnScope ["book", "rows", "left", "share", "k", "table", "good", "part"] ["book"] (defScope s_best_of) := ⟨rfl, rfl, rfl, by decide +kernel, rfl, by decide +kernel, by decide +kernel⟩
abbrev s_sum_without : Stmt := top 23
theorem sc_sum_without : FnScope ["book", "bidder", "rest"] ["book", "bidder"] (defScope s_sum_without) := ⟨rfl, rfl, rfl, by decide +kernel, rfl, by decide +kernel, by decide +kernel⟩
abbrev s_check_bidder : Stmt := top 24
theorem sc_check_bidder : FnScope ["book", "bidder"] ["book", "bidder"] (defScope s_check_bidder) := ⟨rfl, rfl, rfl, by decide +kernel, rfl, by decide +kernel, by decide +kernel⟩
abbrev s_paid_by : Stmt := top 26
theorem sc_paid_by : FnScope ["book", "share", "whole", "bidder", "word", "own"] ["book", "share", "whole", "bidder", "word"] (defScope s_paid_by) := ⟨rfl, rfl, rfl, by decide +kernel, rfl, by decide +kernel, by decide +kernel⟩
abbrev s_all_paid : Stmt := top 27
theorem sc_all_paid : FnScope ["book", "word", "share", "whole", "bidder"] ["book", "word"] (defScope s_all_paid) := ⟨rfl, rfl, rfl, by decide +kernel, rfl, by decide +kernel, by decide +kernel⟩
abbrev s_with_lie : Stmt := top 28
theorem sc_with_lie : FnScope ["book", "bidder", "lie"] ["book", "bidder", "lie"] (defScope s_with_lie) := ⟨rfl, rfl, rfl, by decide +kernel, rfl, by decide +kernel, by decide +kernel⟩
abbrev s_check_rule : Stmt := top 32
theorem sc_check_rule : FnScope ["types", "chosen", "k", "told", "end", "worth"] ["types", "chosen"] (defScope s_check_rule) := ⟨rfl, rfl, rfl, by decide +kernel, rfl, by decide +kernel, by decide +kernel⟩
abbrev s_likes_more : Stmt := top 33
theorem sc_likes_more : FnScope ["types", "chosen", "one", "two"] ["types", "chosen", "one", "two"] (defScope s_likes_more) := ⟨rfl, rfl, rfl, by decide +kernel, rfl, by decide +kernel, by decide +kernel⟩
abbrev s_does_keep : Stmt := top 34
theorem sc_does_keep : FnScope ["types", "chosen", "paid", "one", "two"] ["types", "chosen", "paid"] (defScope s_does_keep) := ⟨rfl, rfl, rfl, by decide +kernel, rfl, by decide +kernel, by decide +kernel⟩
abbrev s_keep_truth : Stmt := top 35
theorem sc_keep_truth : FnScope ["types", "chosen", "paid"] ["types", "chosen", "paid"] (defScope s_keep_truth) := ⟨rfl, rfl, rfl, by decide +kernel, rfl, by decide +kernel, by decide +kernel⟩
abbrev s_sum_round : Stmt := top 36
theorem sc_sum_round : FnScope ["types", "chosen", "row", "k"] ["types", "chosen", "row"] (defScope s_sum_round) := ⟨rfl, rfl, rfl, by decide +kernel, rfl, by decide +kernel, by decide +kernel⟩
abbrev s_gain_of_round : Stmt := top 37
theorem sc_gain_of_round : FnScope ["types", "chosen", "row"] ["types", "chosen", "row"] (defScope s_gain_of_round) := ⟨rfl, rfl, rfl, by decide +kernel, rfl, by decide +kernel, by decide +kernel⟩
abbrev s_longer : Stmt := top 38
theorem sc_longer : FnScope ["rows", "many", "row", "k"] ["rows", "many"] (defScope s_longer) := ⟨rfl, rfl, rfl, by decide +kernel, rfl, by decide +kernel, by decide +kernel⟩
abbrev s_round_of_gains : Stmt := top 39
theorem sc_round_of_gains : FnScope ["types", "chosen", "rows", "good", "k", "row"] ["types", "chosen"] (defScope s_round_of_gains) := ⟨rfl, rfl, rfl, by decide +kernel, rfl, by decide +kernel, by decide +kernel⟩
abbrev s_greatest_payments : Stmt := top 40
theorem sc_greatest_payments : FnScope ["types", "chosen", "many", "found", "_", "one", "k", "two"] ["types", "chosen"] (defScope s_greatest_payments) := ⟨rfl, rfl, rfl, by decide +kernel, rfl, by decide +kernel, by decide +kernel⟩
abbrev s_check_wishes : Stmt := top 41
theorem sc_check_wishes : FnScope ["book", "bidder", "wishes", "k", "table"] ["book", "bidder", "wishes"] (defScope s_check_wishes) := ⟨rfl, rfl, rfl, by decide +kernel, rfl, by decide +kernel, by decide +kernel⟩
abbrev s_rule_in : Stmt := top 42
theorem sc_rule_in : FnScope ["book", "bidder", "wishes", "chosen", "table"] ["book", "bidder", "wishes"] (defScope s_rule_in) := ⟨rfl, rfl, rfl, by decide +kernel, rfl, by decide +kernel, by decide +kernel⟩
abbrev s_fair_in : Stmt := top 43
theorem sc_fair_in : FnScope ["book", "bidder", "wishes", "table"] ["book", "bidder", "wishes"] (defScope s_fair_in) := ⟨rfl, rfl, rfl, by decide +kernel, rfl, by decide +kernel, by decide +kernel⟩
abbrev s_l_draws : Stmt := top 45
theorem sc_l_draws : FnScope ["script", "draws", "k", "rest", "turn", "stirred"] ["script"] (defScope s_l_draws) := ⟨rfl, rfl, rfl, by decide +kernel, rfl, by decide +kernel, by decide +kernel⟩
abbrev s_l_mix : Stmt := top 46
theorem sc_l_mix : FnScope ["draws", "k", "many", "cell"] ["draws", "k", "many"] (defScope s_l_mix) := ⟨rfl, rfl, rfl, by decide +kernel, rfl, by decide +kernel, by decide +kernel⟩
abbrev s_l_subsets : Stmt := top 47
theorem sc_l_subsets : FnScope ["goods", "found", "good", "bundle"] ["goods"] (defScope s_l_subsets) := ⟨rfl, rfl, rfl, by decide +kernel, rfl, by decide +kernel, by decide +kernel⟩
abbrev s_l_at : Stmt := top 48
theorem sc_l_at : FnScope ["table", "bundle", "good"] ["table", "bundle"] (defScope s_l_at) := ⟨rfl, rfl, rfl, by decide +kernel, rfl, by decide +kernel, by decide +kernel⟩
abbrev s_l_drawn : Stmt := top 49
theorem sc_l_drawn : FnScope ["draws", "k", "goods", "subsets", "single", "kind", "told", "found", "j", "bundle", "below", "worth", "good", "one"] ["draws", "k", "goods"] (defScope s_l_drawn) := ⟨rfl, rfl, rfl, by decide +kernel, rfl, by decide +kernel, by decide +kernel⟩
abbrev s_l_book : Stmt := top 50
theorem sc_l_book : FnScope ["draws", "first", "most", "goods", "t"] ["draws", "first", "most", "goods"] (defScope s_l_book) := ⟨rfl, rfl, rfl, by decide +kernel, rfl, by decide +kernel, by decide +kernel⟩
abbrev s_l_shares : Stmt := top 51
theorem sc_l_shares : FnScope ["bidders", "goods", "found", "good", "more", "share", "k"] ["bidders", "goods"] (defScope s_l_shares) := ⟨rfl, rfl, rfl, by decide +kernel, rfl, by decide +kernel, by decide +kernel⟩
abbrev s_l_numbers : Stmt := top 52
theorem sc_l_numbers : FnScope ["share", "bundle", "good"] ["share"] (defScope s_l_numbers) := ⟨rfl, rfl, rfl, by decide +kernel, rfl, by decide +kernel, by decide +kernel⟩
abbrev s_l_sum : Stmt := top 53
theorem sc_l_sum : FnScope ["book", "share", "k"] ["book", "share"] (defScope s_l_sum) := ⟨rfl, rfl, rfl, by decide +kernel, rfl, by decide +kernel, by decide +kernel⟩
abbrev s_l_best : Stmt := top 54
theorem sc_l_best : FnScope ["book", "goods", "first", "share", "row"] ["book", "goods"] (defScope s_l_best) := ⟨rfl, rfl, rfl, by decide +kernel, rfl, by decide +kernel, by decide +kernel⟩
abbrev s_l_paid : Stmt := top 55
theorem sc_l_paid : FnScope ["book", "goods", "word", "found", "k", "share", "whole", "own", "fair"] ["book", "goods", "word"] (defScope s_l_paid) := ⟨rfl, rfl, rfl, by decide +kernel, rfl, by decide +kernel, by decide +kernel⟩
abbrev s_l_more : Stmt := top 57
theorem sc_l_more : FnScope ["types", "chosen", "one", "two"] ["types", "chosen", "one", "two"] (defScope s_l_more) := ⟨rfl, rfl, rfl, by decide +kernel, rfl, by decide +kernel, by decide +kernel⟩
abbrev s_l_keeps : Stmt := top 58
theorem sc_l_keeps : FnScope ["types", "chosen", "told", "one", "two"] ["types", "chosen", "told"] (defScope s_l_keeps) := ⟨rfl, rfl, rfl, by decide +kernel, rfl, by decide +kernel, by decide +kernel⟩
abbrev s_l_rows : Stmt := top 59
theorem sc_l_rows : FnScope ["many", "found", "every", "turn", "more", "row", "k"] ["many"] (defScope s_l_rows) := ⟨rfl, rfl, rfl, by decide +kernel, rfl, by decide +kernel, by decide +kernel⟩
abbrev s_l_total : Stmt := top 60
theorem sc_l_total : FnScope ["types", "chosen", "row", "k"] ["types", "chosen", "row"] (defScope s_l_total) := ⟨rfl, rfl, rfl, by decide +kernel, rfl, by decide +kernel, by decide +kernel⟩
abbrev s_l_round : Stmt := top 61
theorem sc_l_round : FnScope ["types", "chosen", "good", "row"] ["types", "chosen"] (defScope s_l_round) := ⟨rfl, rfl, rfl, by decide +kernel, rfl, by decide +kernel, by decide +kernel⟩
abbrev s_l_greatest : Stmt := top 62
theorem sc_l_greatest : FnScope ["types", "chosen", "found", "k", "sums", "row", "j"] ["types", "chosen"] (defScope s_l_greatest) := ⟨rfl, rfl, rfl, by decide +kernel, rfl, by decide +kernel, by decide +kernel⟩
abbrev s_l_rule : Stmt := top 63
theorem sc_l_rule : FnScope ["draws", "k", "many", "ends", "types", "chosen", "prices", "told", "t", "gaps", "j"] ["draws", "k"] (defScope s_l_rule) := ⟨rfl, rfl, rfl, by decide +kernel, rfl, by decide +kernel, by decide +kernel⟩
abbrev s_l_fault : Stmt := top 64
theorem sc_l_fault : FnScope ["way", "types", "chosen", "told", "e"] ["way", "types", "chosen", "told"] (defScope s_l_fault) := ⟨rfl, rfl, rfl, by decide +kernel, rfl, by decide +kernel, by decide +kernel⟩
abbrev s_l_book_fault : Stmt := top 65
theorem sc_l_book_fault : FnScope ["way", "book", "k", "wishes", "e"] ["way", "book", "k", "wishes"] (defScope s_l_book_fault) := ⟨rfl, rfl, rfl, by decide +kernel, rfl, by decide +kernel, by decide +kernel⟩
abbrev s_l_faults : Stmt := top 66
theorem sc_l_faults : FnScope ["way", "good", "bad", "chosen", "at_there"] [] (defScope s_l_faults) := ⟨rfl, rfl, rfl, by decide +kernel, rfl, by decide +kernel, by decide +kernel⟩
abbrev s_law : Stmt := top 67
theorem sc_law : FnScope ["script", "draws", "kept", "told", "paid_there", "t", "row", "three", "goods", "book", "k", "wishes", "rule", "due", "fair", "types", "chosen", "some", "good", "table", "j"] ["script"] (defScope s_law) := ⟨rfl, rfl, rfl, by decide +kernel, rfl, by decide +kernel, by decide +kernel⟩
structure Txt (P : Program) (K : Frg) (mg : MgT) : Prop where
  d_number_of : DefG K mg "number_of" s_number_of ["bundle"]
  d_bundle_of : DefG K mg "bundle_of" s_bundle_of ["number"]
  d_within : DefG K mg "within" s_within ["one", "two"]
  d_parts_of : DefG K mg "parts_of" s_parts_of ["number"]
  d_is_table : DefG K mg "is_table" s_is_table ["table"]
  d_check_book : DefG K mg "check_book" s_check_book ["book"]
  d_most_at : DefG K mg "most_at" s_most_at ["table", "other", "whole"]
  d_rests : DefG K mg "rests" s_rests ["book"]
  d_best_of : DefG K mg "best_of" s_best_of ["book"]
  d_sum_without : DefG K mg "sum_without" s_sum_without ["book", "bidder"]
  d_check_bidder : DefG K mg "check_bidder" s_check_bidder ["book", "bidder"]
  d_paid_by : DefG K mg "paid_by" s_paid_by ["book", "share", "whole", "bidder", "word"]
  d_all_paid : DefG K mg "all_paid" s_all_paid ["book", "word"]
  d_with_lie : DefG K mg "with_lie" s_with_lie ["book", "bidder", "lie"]
  d_check_rule : DefG K mg "check_rule" s_check_rule ["types", "chosen"]
  d_likes_more : DefG K mg "likes_more" s_likes_more ["types", "chosen", "one", "two"]
  d_does_keep : DefG K mg "does_keep" s_does_keep ["types", "chosen", "paid"]
  d_keep_truth : DefG K mg "keep_truth" s_keep_truth ["types", "chosen", "paid"]
  d_sum_round : DefG K mg "sum_round" s_sum_round ["types", "chosen", "row"]
  d_gain_of_round : DefG K mg "gain_of_round" s_gain_of_round ["types", "chosen", "row"]
  d_longer : DefG K mg "longer" s_longer ["rows", "many"]
  d_round_of_gains : DefG K mg "round_of_gains" s_round_of_gains ["types", "chosen"]
  d_greatest_payments : DefG K mg "greatest_payments" s_greatest_payments ["types", "chosen"]
  d_check_wishes : DefG K mg "check_wishes" s_check_wishes ["book", "bidder", "wishes"]
  d_rule_in : DefG K mg "rule_in" s_rule_in ["book", "bidder", "wishes"]
  d_fair_in : DefG K mg "fair_in" s_fair_in ["book", "bidder", "wishes"]
  d_l_draws : DefG K mg "_law_draws" s_l_draws ["script"]
  d_l_mix : DefG K mg "_law_mix" s_l_mix ["draws", "k", "many"]
  d_l_subsets : DefG K mg "_law_subsets" s_l_subsets ["goods"]
  d_l_at : DefG K mg "_law_at" s_l_at ["table", "bundle"]
  d_l_drawn : DefG K mg "_law_drawn" s_l_drawn ["draws", "k", "goods"]
  d_l_book : DefG K mg "_law_book" s_l_book ["draws", "first", "most", "goods"]
  d_l_shares : DefG K mg "_law_shares" s_l_shares ["bidders", "goods"]
  d_l_numbers : DefG K mg "_law_numbers" s_l_numbers ["share"]
  d_l_sum : DefG K mg "_law_sum" s_l_sum ["book", "share"]
  d_l_best : DefG K mg "_law_best" s_l_best ["book", "goods"]
  d_l_paid : DefG K mg "_law_paid" s_l_paid ["book", "goods", "word"]
  d_l_more : DefG K mg "_law_more" s_l_more ["types", "chosen", "one", "two"]
  d_l_keeps : DefG K mg "_law_keeps" s_l_keeps ["types", "chosen", "told"]
  d_l_rows : DefG K mg "_law_rows" s_l_rows ["many"]
  d_l_total : DefG K mg "_law_total" s_l_total ["types", "chosen", "row"]
  d_l_round : DefG K mg "_law_round" s_l_round ["types", "chosen"]
  d_l_greatest : DefG K mg "_law_greatest" s_l_greatest ["types", "chosen"]
  d_l_rule : DefG K mg "_law_rule" s_l_rule ["draws", "k"]
  d_l_fault : DefG K mg "_law_fault" s_l_fault ["way", "types", "chosen", "told"]
  d_l_book_fault : DefG K mg "_law_book_fault" s_l_book_fault ["way", "book", "k", "wishes"]
  d_l_faults : DefG K mg "_law_faults" s_l_faults []
  d_law : DefG K mg "law" s_law ["script"]
  n_sum : mg "sum" = none
  n_tuple : mg "tuple" = none
  n_range : mg "range" = none
  n_len : mg "len" = none
  n_enumerate : mg "enumerate" = none
  n_max : mg "max" = none
  n_all : mg "all" = none
  n_min : mg "min" = none
  n_list : mg "list" = none
  n_abs : mg "abs" = none
  n_int : mg "int" = none
  n_sorted : mg "sorted" = none
  n_repr : mg "repr" = none
  c_POWERS : GTup K mg "POWERS" [(.int 1), (.int 2), (.int 4), (.int 8), (.int 16), (.int 32), (.int 64)]
  c_LENGTHS : GTup K mg "LENGTHS" [(.int 2), (.int 4), (.int 8), (.int 16), (.int 32), (.int 64)]
  c_MOST_WORTH : GInt mg "MOST_WORTH" 1000000
  c_MOST_BIDDERS : GInt mg "MOST_BIDDERS" 6
  c_MOST_TYPES : GInt mg "MOST_TYPES" 6
  c_MOST_ENDS : GInt mg "MOST_ENDS" 64
  x_BadBook : ErrG P K mg "BadBook"
  x_BadTable : ErrG P K mg "BadTable"
  x_BadBidder : ErrG P K mg "BadBidder"
  x_BadType : ErrG P K mg "BadType"
  x_BadEnd : ErrG P K mg "BadEnd"
  x_BadPaid : ErrG P K mg "BadPaid"
  m_BadPaid_BadPaid : ExM P K mg "BadPaid" "BadPaid" true
  m_BadEnd_BadPaid : ExM P K mg "BadEnd" "BadPaid" false
  m_BadType_BadPaid : ExM P K mg "BadType" "BadPaid" false
  m_BadBidder_BadPaid : ExM P K mg "BadBidder" "BadPaid" false
  m_BadBook_BadPaid : ExM P K mg "BadBook" "BadPaid" false
  m_BadTable_BadPaid : ExM P K mg "BadTable" "BadPaid" false
  m_BadPaid_BadEnd : ExM P K mg "BadPaid" "BadEnd" false
  m_BadEnd_BadEnd : ExM P K mg "BadEnd" "BadEnd" true
  m_BadType_BadEnd : ExM P K mg "BadType" "BadEnd" false
  m_BadBidder_BadEnd : ExM P K mg "BadBidder" "BadEnd" false
  m_BadBook_BadEnd : ExM P K mg "BadBook" "BadEnd" false
  m_BadTable_BadEnd : ExM P K mg "BadTable" "BadEnd" false
  m_BadPaid_BadType : ExM P K mg "BadPaid" "BadType" false
  m_BadEnd_BadType : ExM P K mg "BadEnd" "BadType" false
  m_BadType_BadType : ExM P K mg "BadType" "BadType" true
  m_BadBidder_BadType : ExM P K mg "BadBidder" "BadType" false
  m_BadBook_BadType : ExM P K mg "BadBook" "BadType" false
  m_BadTable_BadType : ExM P K mg "BadTable" "BadType" false
  m_BadPaid_BadTable : ExM P K mg "BadPaid" "BadTable" false
  m_BadEnd_BadTable : ExM P K mg "BadEnd" "BadTable" false
  m_BadType_BadTable : ExM P K mg "BadType" "BadTable" false
  m_BadBidder_BadTable : ExM P K mg "BadBidder" "BadTable" false
  m_BadBook_BadTable : ExM P K mg "BadBook" "BadTable" false
  m_BadTable_BadTable : ExM P K mg "BadTable" "BadTable" true
  m_BadPaid_BadBidder : ExM P K mg "BadPaid" "BadBidder" false
  m_BadEnd_BadBidder : ExM P K mg "BadEnd" "BadBidder" false
  m_BadType_BadBidder : ExM P K mg "BadType" "BadBidder" false
  m_BadBidder_BadBidder : ExM P K mg "BadBidder" "BadBidder" true
  m_BadBook_BadBidder : ExM P K mg "BadBook" "BadBidder" false
  m_BadTable_BadBidder : ExM P K mg "BadTable" "BadBidder" false
  m_BadPaid_BadBook : ExM P K mg "BadPaid" "BadBook" false
  m_BadEnd_BadBook : ExM P K mg "BadEnd" "BadBook" false
  m_BadType_BadBook : ExM P K mg "BadType" "BadBook" false
  m_BadBidder_BadBook : ExM P K mg "BadBidder" "BadBook" false
  m_BadBook_BadBook : ExM P K mg "BadBook" "BadBook" true
  m_BadTable_BadBook : ExM P K mg "BadTable" "BadBook" false
section
variable {P : Program} {w : World} {K : Frg} {mg : MgT} {base : Heap}
theorem ok_number_of (T : Txt P K mg) : CallG P w K mg base 1 "number_of" (runF 2 1 g_number_of) := T.d_number_of.call sc_number_of rfl rfl fun f cdv A outer s H E hr hg =>
  (fss_one (fs_ret (fe_callB (dc_sum rfl) rfl T.n_sum (by rfl) (fab_cons (fb_of (fe_of_fn (t := false) (fn_lc (t := false) (own := [("good", 1)]) (ix := [1]) rfl sc_number_of.nd (fi_items (fe_var (pv 0))) (blkOk_by (by kernel_rfl)) (fun _ _ _ _ _ => (fg_name (i := 1) sc_number_of.nd rfl (by first | exact Or.inl rfl | exact Or.inr rfl))) (by decide) (fun _ _ _ _ _ => fts_nil) (fun _ _ _ _ _ => (fe_ix (hu_of hr) (fb_gtup T.c_POWERS rfl) (fe_var (pv 1)) (fun _ _ => rfl)))))) fab_nil))))
theorem ok_bundle_of (T : Txt P K mg) : CallG P w K mg base 1 "bundle_of" (runF 4 1 g_bundle_of) := T.d_bundle_of.call sc_bundle_of rfl rfl fun f cdv A outer s H E hr hg =>
  (fss_cons (fs_setN (i := 1) sc_bundle_of.nd rfl (by first | exact Or.inl rfl | exact Or.inr rfl) (fn_list (t := false) fa_nil))
    (fss_cons (fs_set (i := 2) sc_bundle_of.nd rfl (by first | exact Or.inl rfl | exact Or.inr rfl) (fe_var (pv 0)))
    (fss_cons (fs_set (i := 3) sc_bundle_of.nd rfl (by first | exact Or.inl rfl | exact Or.inr rfl) fe_int)
    (fss_cons (fs_while (n := 100) bx_owns (ft_cmp do_gt (fb_var (pv 2)) (fb_of fe_int) (by rfl))
    (fss_cons (fs_if (ft_cmp (do_eq hr.units) (fb_of (fe_op do_mod (fb_var (pv 2)) (fb_of fe_int))) (fb_of fe_int) (by rfl))
    (fss_one (fs_append (pv 1) (fe_var (pv 3))))
    fss_nil)
    (fss_cons (fs_set (i := 2) sc_bundle_of.nd rfl (by first | exact Or.inl rfl | exact Or.inr rfl) (fe_op do_div (fb_var (pv 2)) (fb_of fe_int)))
    (fss_one (fs_set (i := 3) sc_bundle_of.nd rfl (by first | exact Or.inl rfl | exact Or.inr rfl) (fe_opE do_add (fe_var (pv 3)) fe_int))))))
    (fss_one (fs_ret (fe_callTyE dc_tuple rfl T.n_tuple (by rfl) (fa_cons (fe_var (pv 1)) fa_nil))))))))
theorem ok_within (T : Txt P K mg) : CallG P w K mg base 1 "within" (runF 4 2 g_within) := T.d_within.call sc_within rfl rfl fun f cdv A outer s H E hr hg =>
  (fss_cons (fs_par (i := 2) (j := 3) rfl sc_within.nd rfl rfl (by decide) rfl rfl (fa_cons (fe_var (pv 0)) (fa_cons (fe_var (pv 1)) fa_nil)) rfl)
    (fss_cons (fs_while (n := 100) bx_owns (ft_cmp do_gt (fb_var (pv 2)) (fb_of fe_int) (by rfl))
    (fss_cons (fs_if (ft_cmp do_gt (fb_of (fe_op do_mod (fb_var (pv 2)) (fb_of fe_int))) (fb_of (fe_op do_mod (fb_var (pv 3)) (fb_of fe_int))) (by rfl))
    (fss_one (fs_ret fe_bl))
    fss_nil)
    (fss_one (fs_par (i := 2) (j := 3) rfl sc_within.nd rfl rfl (by decide) rfl rfl (fa_cons (fe_op do_div (fb_var (pv 2)) (fb_of fe_int)) (fa_cons (fe_op do_div (fb_var (pv 3)) (fb_of fe_int)) fa_nil)) rfl))))
    (fss_one (fs_ret fe_bl))))
theorem ok_parts_of (T : Txt P K mg) {F_within : List D → R D} (C_within : CallG P w K mg base 1 "within" F_within) : CallG P w K mg base 2 "parts_of" (runF 2 1 (g_parts_of F_within)) := T.d_parts_of.call sc_parts_of rfl rfl fun f cdv A outer s H E hr hg =>
  (fss_one (fs_ret (fe_of_fn (t := false) (fn_lc (t := false) (own := [("part", 1)]) (ix := [1]) rfl sc_parts_of.nd (fi_range1 rfl T.n_range (fab_cons (fb_of (fe_opE do_add (fe_var (pv 0)) fe_int)) fab_nil)) (blkOk_by (by kernel_rfl)) (fun _ _ _ _ _ => (fg_name (i := 1) sc_parts_of.nd rfl (by first | exact Or.inl rfl | exact Or.inr rfl))) (by decide) (fun _ _ _ _ _ => (fts_one (ft_val (fe_cl C_within (hr.mono (by decide)) hg takes0 rfl (fa_cons (fe_var (pv 1)) (fa_cons (fe_var (pv 0)) fa_nil)))))) (fun _ _ _ _ _ => (fe_var (pv 1)))))))
theorem ok_is_table (T : Txt P K mg) {F_bundle_of : List D → R D} (C_bundle_of : CallG P w K mg base 1 "bundle_of" F_bundle_of) : CallG P w K mg base 2 "is_table" (runF 3 1 (g_is_table F_bundle_of)) := T.d_is_table.call sc_is_table rfl rfl fun f cdv A outer s H E hr hg =>
  (fss_cons (fs_if (ft_w (fw_or (ft_inD (do_notin (units65 hr)) (fe_callB (dc_len) rfl T.n_len (by rfl) (fab_cons (fb_var (pv 0)) fab_nil)) (fb_gtup T.c_LENGTHS rfl) (by rfl)) (fw_or (ft_cmp (do_ne hr.units) (fb_of (fe_ix (hu_of hr) (fb_var (pv 0)) fe_int (fun _ _ => rfl))) (fb_of fe_int) (by rfl)) (fw_or1 (ft_not (ft_chain do_le do_le (fb_of fe_int) (fb_of (fe_ix (hu_of hr) (fb_var (pv 0)) (fe_un du_neg (fb_of fe_int)) (fun _ _ => rfl))) (fb_of (fe_gint T.c_MOST_WORTH rfl)) (by rfl)))))))
    (fss_one (fs_ret fe_bl))
    fss_nil)
    (fss_cons (fs_for bx_owns rfl (fi_range1 rfl T.n_range (fab_cons (fb_of (fe_callB (dc_len) rfl T.n_len (by rfl) (fab_cons (fb_var (pv 0)) fab_nil))) fab_nil)) (fg_name (i := 1) sc_is_table.nd rfl (by first | exact Or.inl rfl | exact Or.inr rfl))
    (fss_one (fs_for bx_owns rfl (fi_items (fe_cl C_bundle_of (hr.mono (by decide)) hg bx_takes rfl (fa_cons (fe_var (pv 1)) fa_nil))) (fg_name (i := 2) sc_is_table.nd rfl (by first | exact Or.inl rfl | exact Or.inr rfl))
    (fss_one (fs_if (ft_cmp do_gt (fb_of (fe_ix (hu_of hr) (fb_var (pv 0)) (fe_op do_sub (fb_var (pv 1)) (fb_of (fe_ix (hu_of hr) (fb_gtup T.c_POWERS rfl) (fe_var (pv 2)) (fun _ _ => rfl)))) (fun _ _ => rfl))) (fb_of (fe_ix (hu_of hr) (fb_var (pv 0)) (fe_var (pv 1)) (fun _ _ => rfl))) (by rfl))
    (fss_one (fs_ret fe_bl))
    fss_nil)))))
    (fss_one (fs_ret fe_bl))))
theorem ok_check_book (T : Txt P K mg) {F_is_table : List D → R D} (C_is_table : CallG P w K mg base 2 "is_table" F_is_table) : CallG P w K mg base 3 "check_book" (runF 3 1 (g_check_book F_is_table)) := T.d_check_book.call sc_check_book rfl rfl fun f cdv A outer s H E hr hg =>
  (fss_cons (fs_if (ft_not (ft_chain do_le do_le (fb_of fe_int) (fb_of (fe_callB (dc_len) rfl T.n_len (by rfl) (fab_cons (fb_var (pv 0)) fab_nil))) (fb_of (fe_gint T.c_MOST_BIDDERS rfl)) (by rfl)))
    (fss_one (fs_raise (c := "BadBook") rfl T.x_BadBook rfl hr bx_takes rfl (fe_callB (dc_len) rfl T.n_len (by rfl) (fab_cons (fb_var (pv 0)) fab_nil))))
    fss_nil)
    (fss_one (fs_for bx_owns rfl (fi_enum rfl T.n_enumerate (fa_cons (fe_var (pv 0)) fa_nil)) (fg_tup rfl (fgs_cons (fg_name (i := 1) sc_check_book.nd rfl (by first | exact Or.inl rfl | exact Or.inr rfl)) (fgs_cons (fg_name (i := 2) sc_check_book.nd rfl (by first | exact Or.inl rfl | exact Or.inr rfl)) fgs_nil)) (fun _ _ _ => gC_len (fun _ _ _ => gC_len (fun _ _ _ => gE_len))))
    (fss_one (fs_if (ft_w (fw_or (ft_not (ft_val (fe_cl C_is_table (hr.mono (by decide)) hg bx_takes rfl (fa_cons (fe_var (pv 2)) fa_nil)))) (fw_or1 (ft_cmp (do_ne hr.units) (fb_of (fe_callB (dc_len) rfl T.n_len (by rfl) (fab_cons (fb_var (pv 2)) fab_nil))) (fb_of (fe_callB (dc_len) rfl T.n_len (by rfl) (fab_cons (fb_of (fe_ix (hu_of hr) (fb_var (pv 0)) fe_int (fun _ _ => rfl))) fab_nil))) (by rfl)))))
    (fss_one (fs_raise (c := "BadTable") rfl T.x_BadTable rfl hr bx_takes rfl (fe_var (pv 1))))
    fss_nil)))))
theorem ok_most_at (T : Txt P K mg) {F_parts_of : List D → R D} (C_parts_of : CallG P w K mg base 2 "parts_of" F_parts_of) : CallG P w K mg base 3 "most_at" (runF 4 3 (g_most_at F_parts_of)) := T.d_most_at.call sc_most_at rfl rfl fun f cdv A outer s H E hr hg =>
  (fss_one (fs_ret (fe_callB (dc_max rfl) rfl T.n_max (by rfl) (fab_cons (fb_of (fe_of_fn (t := false) (fn_lc (t := false) (own := [("part", 3)]) (ix := [3]) rfl sc_most_at.nd (fi_items (fe_cl C_parts_of (hr.mono (by decide)) hg bx_takes rfl (fa_cons (fe_var (pv 2)) fa_nil))) (blkOk_by (by kernel_rfl)) (fun _ _ _ _ _ => (fg_name (i := 3) sc_most_at.nd rfl (by first | exact Or.inl rfl | exact Or.inr rfl))) (by decide) (fun _ _ _ _ _ => fts_nil) (fun _ _ _ _ _ => (fe_opE do_add (fe_ix (hu_of hr) (fb_var (pv 0)) (fe_var (pv 3)) (fun _ _ => rfl)) (fe_ix (hu_of hr) (fb_var (pv 1)) (fe_op do_sub (fb_var (pv 2)) (fb_var (pv 3))) (fun _ _ => rfl))))))) fab_nil))))
theorem ok_rests (T : Txt P K mg) {F_most_at : List D → R D} (C_most_at : CallG P w K mg base 3 "most_at" F_most_at) : CallG P w K mg base 4 "rests" (runF 5 1 (g_rests F_most_at)) := T.d_rests.call sc_rests rfl rfl fun f cdv A outer s H E hr hg =>
  (fss_cons (fs_setN (i := 1) sc_rests.nd rfl (by first | exact Or.inl rfl | exact Or.inr rfl) (fn_list (t := false) (fa_cons (fe_op do_mul (fb_of (fe_of_fn (t := false) (fn_list (t := false) (fa_cons fe_int fa_nil)))) (fb_of (fe_callB (dc_len) rfl T.n_len (by rfl) (fab_cons (fb_of (fe_ix (hu_of hr) (fb_var (pv 0)) fe_int (fun _ _ => rfl))) fab_nil)))) fa_nil)))
    (fss_cons (fs_for bx_owns rfl (fi_items (fe_rev (fb_var (pv 0)))) (fg_name (i := 2) sc_rests.nd rfl (by first | exact Or.inl rfl | exact Or.inr rfl))
    (fss_cons (fs_set (i := 3) sc_rests.nd rfl (by first | exact Or.inl rfl | exact Or.inr rfl) (fe_ix (hu_of hr) (fb_var (pv 1)) (fe_un du_neg (fb_of fe_int)) (fun _ _ => rfl)))
    (fss_one (fs_append (pv 1) (fe_of_fn (t := false) (fn_lc (t := false) (own := [("whole", 4)]) (ix := [4]) rfl sc_rests.nd (fi_range1 rfl T.n_range (fab_cons (fb_of (fe_callB (dc_len) rfl T.n_len (by rfl) (fab_cons (fb_var (pv 2)) fab_nil))) fab_nil)) (blkOk_by (by kernel_rfl)) (fun _ _ _ _ _ => (fg_name (i := 4) sc_rests.nd rfl (by first | exact Or.inl rfl | exact Or.inr rfl))) (by decide) (fun _ _ _ _ _ => fts_nil) (fun _ _ _ _ _ => (fe_cl C_most_at (hr.mono (by decide)) hg takes0 rfl (fa_cons (fe_var (pv 2)) (fa_cons (fe_var (pv 3)) (fa_cons (fe_var (pv 4)) fa_nil)))))))))))
    (fss_one (fs_ret (fe_rev (fb_var (pv 1)))))))
theorem ok_best_of (T : Txt P K mg) {F_rests : List D → R D} {F_parts_of : List D → R D} {F_bundle_of : List D → R D} (C_rests : CallG P w K mg base 4 "rests" F_rests) (C_parts_of : CallG P w K mg base 2 "parts_of" F_parts_of) (C_bundle_of : CallG P w K mg base 1 "bundle_of" F_bundle_of) : CallG P w K mg base 5 "best_of" (runF 8 1 (g_best_of F_rests F_parts_of F_bundle_of)) := T.d_best_of.call sc_best_of rfl rfl fun f cdv A outer s H E hr hg =>
  (fss_cons (fs_set (i := 1) sc_best_of.nd rfl (by first | exact Or.inl rfl | exact Or.inr rfl) (fe_cl C_rests (hr.mono (by decide)) hg bx_takes rfl (fa_cons (fe_var (pv 0)) fa_nil)))
    (fss_cons (fs_set (i := 2) sc_best_of.nd rfl (by first | exact Or.inl rfl | exact Or.inr rfl) (fe_op do_sub (fb_of (fe_callB (dc_len) rfl T.n_len (by rfl) (fab_cons (fb_of (fe_ix (hu_of hr) (fb_var (pv 0)) fe_int (fun _ _ => rfl))) fab_nil))) (fb_of fe_int)))
    (fss_cons (fs_setN (i := 3) sc_best_of.nd rfl (by first | exact Or.inl rfl | exact Or.inr rfl) (fn_list (t := false) fa_nil))
    (fss_cons (fs_for bx_owns rfl (fi_enum rfl T.n_enumerate (fa_cons (fe_var (pv 0)) fa_nil)) (fg_tup rfl (fgs_cons (fg_name (i := 4) sc_best_of.nd rfl (by first | exact Or.inl rfl | exact Or.inr rfl)) (fgs_cons (fg_name (i := 5) sc_best_of.nd rfl (by first | exact Or.inl rfl | exact Or.inr rfl)) fgs_nil)) (fun _ _ _ => gC_len (fun _ _ _ => gC_len (fun _ _ _ => gE_len))))
    (fss_cons (fs_setLcV (i := 6) (own := [("part", 7)]) (ix := [7]) rfl sc_best_of.nd rfl rfl (by rfl) (fi_items (fe_cl C_parts_of (hr.mono (by decide)) hg bx_takes rfl (fa_cons (fe_var (pv 2)) fa_nil))) (blkOk_by (by kernel_rfl)) (fun _ _ _ _ _ => (fg_name (i := 7) sc_best_of.nd rfl (by first | exact Or.inl rfl | exact Or.inr rfl))) (by decide) (fun _ _ _ _ _ => (fts_one (ft_cmp (do_eq hr.units) (fb_of (fe_opE do_add (fe_ix (hu_of hr) (fb_var (pv 5)) (fe_var (pv 7)) (fun _ _ => rfl)) (fe_ix (hu_of hr) (fb_of (fe_ix (hu_of hr) (fb_var (pv 1)) (fe_opE do_add (fe_var (pv 4)) fe_int) (fun _ _ => rfl))) (fe_op do_sub (fb_var (pv 2)) (fb_var (pv 7))) (fun _ _ => rfl)))) (fb_of (fe_ix (hu_of hr) (fb_of (fe_ix (hu_of hr) (fb_var (pv 1)) (fe_var (pv 4)) (fun _ _ => rfl))) (fe_var (pv 2)) (fun _ _ => rfl))) (by rfl)))) (fun _ _ _ _ _ => (fe_var (pv 7))))
    (fss_cons (fs_append (pv 3) (fe_cl C_bundle_of (hr.mono (by decide)) hg bx_takes rfl (fa_cons (fe_ix (hu_of hr) (fb_var (pv 6)) fe_int (fun _ _ => rfl)) fa_nil)))
    (fss_one (fs_set (i := 2) sc_best_of.nd rfl (by first | exact Or.inl rfl | exact Or.inr rfl) (fe_op do_sub (fb_var (pv 2)) (fb_of (fe_ix (hu_of hr) (fb_var (pv 6)) fe_int (fun _ _ => rfl)))))))))
    (fss_one (fs_ret (fe_tup (fa_cons (fe_var (pv 3)) (fa_cons (fe_ix (hu_of hr) (fb_of (fe_ix (hu_of hr) (fb_var (pv 1)) fe_int (fun _ _ => rfl))) (fe_un du_neg (fb_of fe_int)) (fun _ _ => rfl)) fa_nil)))))))))
theorem ok_sum_without (T : Txt P K mg) {F_best_of : List D → R D} (C_best_of : CallG P w K mg base 5 "best_of" F_best_of) : CallG P w K mg base 6 "sum_without" (runF 3 2 (g_sum_without F_best_of)) := T.d_sum_without.call sc_sum_without rfl rfl fun f cdv A outer s H E hr hg =>
  (fss_cons (fs_set (i := 2) sc_sum_without.nd rfl (by first | exact Or.inl rfl | exact Or.inr rfl) (fe_opE do_add (fe_slice (fe_var (pv 0)) fo_none (fo_some (fe_var (pv 1)))) (fe_slice (fe_var (pv 0)) (fo_some (fe_opE do_add (fe_var (pv 1)) fe_int)) fo_none)))
    (fss_one (fs_ret (fe_if (ft_cmp do_gt (fb_of (fe_callB (dc_len) rfl T.n_len (by rfl) (fab_cons (fb_var (pv 2)) fab_nil))) (fb_of fe_int) (by rfl)) (fe_ix (hu_of hr) (fb_of (fe_cl C_best_of (hr.mono (by decide)) hg bx_takes rfl (fa_cons (fe_var (pv 2)) fa_nil))) fe_int (fun _ _ => rfl)) fe_int))))
theorem ok_check_bidder (T : Txt P K mg) {F_check_book : List D → R D} (C_check_book : CallG P w K mg base 3 "check_book" F_check_book) : CallG P w K mg base 4 "check_bidder" (runF 2 2 (g_check_bidder F_check_book)) := T.d_check_bidder.call sc_check_bidder rfl rfl fun f cdv A outer s H E hr hg =>
  (fss_cons (fs_expr (fe_cl C_check_book (hr.mono (by decide)) hg bx_takes rfl (fa_cons (fe_var (pv 0)) fa_nil)))
    (fss_one (fs_if (ft_not (ft_chain do_le (do_lt hr.units) (fb_of fe_int) (fb_var (pv 1)) (fb_of (fe_callB (dc_len) rfl T.n_len (by rfl) (fab_cons (fb_var (pv 0)) fab_nil))) (by rfl)))
    (fss_one (fs_raise (c := "BadBidder") rfl T.x_BadBidder rfl hr bx_takes rfl (fe_var (pv 1))))
    fss_nil)))
theorem ok_paid_by (T : Txt P K mg) {F_number_of : List D → R D} {F_sum_without : List D → R D} (C_number_of : CallG P w K mg base 1 "number_of" F_number_of) (C_sum_without : CallG P w K mg base 6 "sum_without" F_sum_without) : CallG P w K mg base 7 "paid_by" (runF 6 5 (g_paid_by F_number_of F_sum_without)) := T.d_paid_by.call sc_paid_by rfl rfl fun f cdv A outer s H E hr hg =>
  (fss_cons (fs_set (i := 5) sc_paid_by.nd rfl (by first | exact Or.inl rfl | exact Or.inr rfl) (fe_ix (hu_of hr) (fb_of (fe_ix (hu_of hr) (fb_var (pv 0)) (fe_var (pv 3)) (fun _ _ => rfl))) (fe_cl C_number_of (hr.mono (by decide)) hg bx_takes rfl (fa_cons (fe_ix (hu_of hr) (fb_var (pv 1)) (fe_var (pv 3)) (fun _ _ => rfl)) fa_nil)) (fun _ _ => rfl)))
    (fss_cons (fs_if (ft_cmp (do_eq hr.units) (fb_var (pv 4)) (fb_of fe_str) (by rfl))
    (fss_one (fs_ret (fe_op do_sub (fb_of (fe_cl C_sum_without (hr.mono (by decide)) hg bx_takes rfl (fa_cons (fe_var (pv 0)) (fa_cons (fe_var (pv 3)) fa_nil)))) (fb_of (fe_op do_sub (fb_var (pv 2)) (fb_var (pv 5)))))))
    fss_nil)
    (fss_one (fs_ret (fe_if (ft_cmp (do_eq hr.units) (fb_var (pv 4)) (fb_of fe_str) (by rfl)) (fe_var (pv 5)) fe_int)))))
theorem ok_all_paid (T : Txt P K mg) {F_best_of : List D → R D} {F_paid_by : List D → R D} (C_best_of : CallG P w K mg base 5 "best_of" F_best_of) (C_paid_by : CallG P w K mg base 7 "paid_by" F_paid_by) : CallG P w K mg base 8 "all_paid" (runF 5 2 (g_all_paid F_best_of F_paid_by)) := T.d_all_paid.call sc_all_paid rfl rfl fun f cdv A outer s H E hr hg =>
  (fss_cons (fs_asg (fe_cl C_best_of (hr.mono (by decide)) hg bx_takes rfl (fa_cons (fe_var (pv 0)) fa_nil)) (fg_tup rfl (fgs_cons (fg_name (i := 2) sc_all_paid.nd rfl (by first | exact Or.inl rfl | exact Or.inr rfl)) (fgs_cons (fg_name (i := 3) sc_all_paid.nd rfl (by first | exact Or.inl rfl | exact Or.inr rfl)) fgs_nil)) (fun _ _ _ => gC_len (fun _ _ _ => gC_len (fun _ _ _ => gE_len)))))
    (fss_one (fs_ret (fe_of_fn (t := false) (fn_lc (t := false) (own := [("bidder", 4)]) (ix := [4]) rfl sc_all_paid.nd (fi_range1 rfl T.n_range (fab_cons (fb_of (fe_callB (dc_len) rfl T.n_len (by rfl) (fab_cons (fb_var (pv 0)) fab_nil))) fab_nil)) (blkOk_by (by kernel_rfl)) (fun _ _ _ _ _ => (fg_name (i := 4) sc_all_paid.nd rfl (by first | exact Or.inl rfl | exact Or.inr rfl))) (by decide) (fun _ _ _ _ _ => fts_nil) (fun _ _ _ _ _ => (fe_cl C_paid_by (hr.mono (by decide)) hg takes0 rfl (fa_cons (fe_var (pv 0)) (fa_cons (fe_var (pv 2)) (fa_cons (fe_var (pv 3)) (fa_cons (fe_var (pv 4)) (fa_cons (fe_var (pv 1)) fa_nil))))))))))))
theorem ok_with_lie (T : Txt P K mg) : CallG P w K mg base 1 "with_lie" (runF 3 3 g_with_lie) := T.d_with_lie.call sc_with_lie rfl rfl fun f cdv A outer s H E hr hg =>
  (fss_one (fs_ret (fe_of_fn (t := false) (fn_list (t := false) (fa_star (fb_of (fe_slice (fe_var (pv 0)) fo_none (fo_some (fe_var (pv 1))))) (fa_cons (fe_var (pv 2)) (fa_star (fb_of (fe_slice (fe_var (pv 0)) (fo_some (fe_opE do_add (fe_var (pv 1)) fe_int)) fo_none)) fa_nil)))))))
theorem ok_check_rule (T : Txt P K mg) : CallG P w K mg base 1 "check_rule" (runF 6 2 g_check_rule) := T.d_check_rule.call sc_check_rule rfl rfl fun f cdv A outer s H E hr hg =>
  (fss_cons (fs_if (ft_not (ft_chain do_le do_le (fb_of fe_int) (fb_of (fe_callB (dc_len) rfl T.n_len (by rfl) (fab_cons (fb_var (pv 0)) fab_nil))) (fb_of (fe_gint T.c_MOST_TYPES rfl)) (by rfl)))
    (fss_one (fs_raise (c := "BadType") rfl T.x_BadType rfl hr bx_takes rfl (fe_un du_neg (fb_of fe_int))))
    fss_nil)
    (fss_cons (fs_for bx_owns rfl (fi_enum rfl T.n_enumerate (fa_cons (fe_var (pv 0)) fa_nil)) (fg_tup rfl (fgs_cons (fg_name (i := 2) sc_check_rule.nd rfl (by first | exact Or.inl rfl | exact Or.inr rfl)) (fgs_cons (fg_name (i := 3) sc_check_rule.nd rfl (by first | exact Or.inl rfl | exact Or.inr rfl)) fgs_nil)) (fun _ _ _ => gC_len (fun _ _ _ => gC_len (fun _ _ _ => gE_len))))
    (fss_cons (fs_if (ft_w (fw_or (ft_not (ft_chain do_le do_le (fb_of fe_int) (fb_of (fe_callB (dc_len) rfl T.n_len (by rfl) (fab_cons (fb_var (pv 3)) fab_nil))) (fb_of (fe_gint T.c_MOST_ENDS rfl)) (by rfl))) (fw_or1 (ft_cmp (do_ne hr.units) (fb_of (fe_callB (dc_len) rfl T.n_len (by rfl) (fab_cons (fb_var (pv 3)) fab_nil))) (fb_of (fe_callB (dc_len) rfl T.n_len (by rfl) (fab_cons (fb_of (fe_ix (hu_of hr) (fb_var (pv 0)) fe_int (fun _ _ => rfl))) fab_nil))) (by rfl)))))
    (fss_one (fs_raise (c := "BadType") rfl T.x_BadType rfl hr bx_takes rfl (fe_var (pv 2))))
    fss_nil)
    (fss_one (fs_if (ft_not (ft_val (fe_callB (dc_all rfl) rfl T.n_all (by rfl) (fab_cons (fb_of (fe_of_fn (t := false) (fn_lc (t := false) (own := [("worth", 5)]) (ix := [5]) rfl sc_check_rule.nd (fi_items (fe_var (pv 3))) (blkOk_by (by kernel_rfl)) (fun _ _ _ _ _ => (fg_name (i := 5) sc_check_rule.nd rfl (by first | exact Or.inl rfl | exact Or.inr rfl))) (by decide) (fun _ _ _ _ _ => fts_nil) (fun _ _ _ _ _ => (fe_chain do_le do_le (fb_of fe_int) (fb_var (pv 5)) (fb_of (fe_gint T.c_MOST_WORTH rfl)) (by rfl)))))) fab_nil))))
    (fss_one (fs_raise (c := "BadType") rfl T.x_BadType rfl hr bx_takes rfl (fe_var (pv 2))))
    fss_nil))))
    (fss_cons (fs_for bx_owns rfl (fi_enum rfl T.n_enumerate (fa_cons (fe_slice (fe_var (pv 1)) fo_none (fo_some (fe_callB (dc_len) rfl T.n_len (by rfl) (fab_cons (fb_var (pv 0)) fab_nil)))) fa_nil)) (fg_tup rfl (fgs_cons (fg_name (i := 2) sc_check_rule.nd rfl (by first | exact Or.inl rfl | exact Or.inr rfl)) (fgs_cons (fg_name (i := 4) sc_check_rule.nd rfl (by first | exact Or.inl rfl | exact Or.inr rfl)) fgs_nil)) (fun _ _ _ => gC_len (fun _ _ _ => gC_len (fun _ _ _ => gE_len))))
    (fss_one (fs_if (ft_not (ft_chain do_le (do_lt hr.units) (fb_of fe_int) (fb_var (pv 4)) (fb_of (fe_callB (dc_len) rfl T.n_len (by rfl) (fab_cons (fb_of (fe_ix (hu_of hr) (fb_var (pv 0)) fe_int (fun _ _ => rfl))) fab_nil))) (by rfl)))
    (fss_one (fs_raise (c := "BadEnd") rfl T.x_BadEnd rfl hr bx_takes rfl (fe_var (pv 2))))
    fss_nil)))
    (fss_one (fs_if (ft_cmp (do_ne hr.units) (fb_of (fe_callB (dc_len) rfl T.n_len (by rfl) (fab_cons (fb_var (pv 1)) fab_nil))) (fb_of (fe_callB (dc_len) rfl T.n_len (by rfl) (fab_cons (fb_var (pv 0)) fab_nil))) (by rfl))
    (fss_one (fs_raise (c := "BadEnd") rfl T.x_BadEnd rfl hr bx_takes rfl (fe_callB (dc_len) rfl T.n_len (by rfl) (fab_cons (fb_var (pv 0)) fab_nil))))
    fss_nil)))))
theorem ok_likes_more (T : Txt P K mg) : CallG P w K mg base 1 "likes_more" (runF 4 4 g_likes_more) := T.d_likes_more.call sc_likes_more rfl rfl fun f cdv A outer s H E hr hg =>
  (fss_one (fs_ret (fe_op do_sub (fb_of (fe_ix (hu_of hr) (fb_of (fe_ix (hu_of hr) (fb_var (pv 0)) (fe_var (pv 2)) (fun _ _ => rfl))) (fe_ix (hu_of hr) (fb_var (pv 1)) (fe_var (pv 3)) (fun _ _ => rfl)) (fun _ _ => rfl))) (fb_of (fe_ix (hu_of hr) (fb_of (fe_ix (hu_of hr) (fb_var (pv 0)) (fe_var (pv 2)) (fun _ _ => rfl))) (fe_ix (hu_of hr) (fb_var (pv 1)) (fe_var (pv 2)) (fun _ _ => rfl)) (fun _ _ => rfl))))))
theorem ok_does_keep (T : Txt P K mg) {F_likes_more : List D → R D} (C_likes_more : CallG P w K mg base 1 "likes_more" F_likes_more) : CallG P w K mg base 2 "does_keep" (runF 5 3 (g_does_keep F_likes_more)) := T.d_does_keep.call sc_does_keep rfl rfl fun f cdv A outer s H E hr hg =>
  (fss_cons (fs_for bx_owns rfl (fi_range1 rfl T.n_range (fab_cons (fb_of (fe_callB (dc_len) rfl T.n_len (by rfl) (fab_cons (fb_var (pv 0)) fab_nil))) fab_nil)) (fg_name (i := 3) sc_does_keep.nd rfl (by first | exact Or.inl rfl | exact Or.inr rfl))
    (fss_one (fs_for bx_owns rfl (fi_range1 rfl T.n_range (fab_cons (fb_of (fe_callB (dc_len) rfl T.n_len (by rfl) (fab_cons (fb_var (pv 0)) fab_nil))) fab_nil)) (fg_name (i := 4) sc_does_keep.nd rfl (by first | exact Or.inl rfl | exact Or.inr rfl))
    (fss_one (fs_if (ft_cmp do_gt (fb_of (fe_cl C_likes_more (hr.mono (by decide)) hg bx_takes rfl (fa_cons (fe_var (pv 0)) (fa_cons (fe_var (pv 1)) (fa_cons (fe_var (pv 3)) (fa_cons (fe_var (pv 4)) fa_nil)))))) (fb_of (fe_op do_sub (fb_of (fe_ix (hu_of hr) (fb_var (pv 2)) (fe_var (pv 4)) (fun _ _ => rfl))) (fb_of (fe_ix (hu_of hr) (fb_var (pv 2)) (fe_var (pv 3)) (fun _ _ => rfl))))) (by rfl))
    (fss_one (fs_ret fe_bl))
    fss_nil)))))
    (fss_one (fs_ret fe_bl)))
theorem ok_keep_truth (T : Txt P K mg) {F_check_rule : List D → R D} {F_does_keep : List D → R D} (C_check_rule : CallG P w K mg base 1 "check_rule" F_check_rule) (C_does_keep : CallG P w K mg base 2 "does_keep" F_does_keep) : CallG P w K mg base 3 "keep_truth" (runF 3 3 (g_keep_truth F_check_rule F_does_keep)) := T.d_keep_truth.call sc_keep_truth rfl rfl fun f cdv A outer s H E hr hg =>
  (fss_cons (fs_expr (fe_cl C_check_rule (hr.mono (by decide)) hg bx_takes rfl (fa_cons (fe_var (pv 0)) (fa_cons (fe_var (pv 1)) fa_nil))))
    (fss_cons (fs_if (ft_cmp (do_ne hr.units) (fb_of (fe_callB (dc_len) rfl T.n_len (by rfl) (fab_cons (fb_var (pv 2)) fab_nil))) (fb_of (fe_callB (dc_len) rfl T.n_len (by rfl) (fab_cons (fb_var (pv 0)) fab_nil))) (by rfl))
    (fss_one (fs_raise (c := "BadPaid") rfl T.x_BadPaid rfl hr bx_takes rfl fe_int))
    fss_nil)
    (fss_one (fs_ret (fe_cl C_does_keep (hr.mono (by decide)) hg bx_takes rfl (fa_cons (fe_var (pv 0)) (fa_cons (fe_var (pv 1)) (fa_cons (fe_var (pv 2)) fa_nil))))))))
theorem ok_sum_round (T : Txt P K mg) {F_likes_more : List D → R D} (C_likes_more : CallG P w K mg base 1 "likes_more" F_likes_more) : CallG P w K mg base 2 "sum_round" (runF 4 3 (g_sum_round F_likes_more)) := T.d_sum_round.call sc_sum_round rfl rfl fun f cdv A outer s H E hr hg =>
  (fss_one (fs_ret (fe_callB (dc_sum rfl) rfl T.n_sum (by rfl) (fab_cons (fb_of (fe_of_fn (t := false) (fn_lc (t := false) (own := [("k", 3)]) (ix := [3]) rfl sc_sum_round.nd (fi_range1 rfl T.n_range (fab_cons (fb_of (fe_callB (dc_len) rfl T.n_len (by rfl) (fab_cons (fb_var (pv 2)) fab_nil))) fab_nil)) (blkOk_by (by kernel_rfl)) (fun _ _ _ _ _ => (fg_name (i := 3) sc_sum_round.nd rfl (by first | exact Or.inl rfl | exact Or.inr rfl))) (by decide) (fun _ _ _ _ _ => fts_nil) (fun _ _ _ _ _ => (fe_cl C_likes_more (hr.mono (by decide)) hg takes0 rfl (fa_cons (fe_var (pv 0)) (fa_cons (fe_var (pv 1)) (fa_cons (fe_ix (hu_of hr) (fb_var (pv 2)) (fe_op do_sub (fb_var (pv 3)) (fb_of fe_int)) (fun _ _ => rfl)) (fa_cons (fe_ix (hu_of hr) (fb_var (pv 2)) (fe_var (pv 3)) (fun _ _ => rfl)) fa_nil))))))))) fab_nil))))
theorem ok_gain_of_round (T : Txt P K mg) {F_check_rule : List D → R D} {F_sum_round : List D → R D} (C_check_rule : CallG P w K mg base 1 "check_rule" F_check_rule) (C_sum_round : CallG P w K mg base 2 "sum_round" F_sum_round) : CallG P w K mg base 3 "gain_of_round" (runF 3 3 (g_gain_of_round F_check_rule F_sum_round)) := T.d_gain_of_round.call sc_gain_of_round rfl rfl fun f cdv A outer s H E hr hg =>
  (fss_cons (fs_expr (fe_cl C_check_rule (hr.mono (by decide)) hg bx_takes rfl (fa_cons (fe_var (pv 0)) (fa_cons (fe_var (pv 1)) fa_nil))))
    (fss_one (fs_ret (fe_cl C_sum_round (hr.mono (by decide)) hg bx_takes rfl (fa_cons (fe_var (pv 0)) (fa_cons (fe_var (pv 1)) (fa_cons (fe_var (pv 2)) fa_nil)))))))
theorem ok_longer (T : Txt P K mg) : CallG P w K mg base 1 "longer" (runF 4 2 g_longer) := T.d_longer.call sc_longer rfl rfl fun f cdv A outer s H E hr hg =>
  (fss_one (fs_ret (fe_of_fn (t := false) (fn_lc2 (t := false) (own := [("row", 2), ("k", 3)]) (ix := [2]) (ix1 := [3]) (vs1 := [3]) rfl sc_longer.nd (fi_items (fe_var (pv 0))) (blkOk_by (by kernel_rfl)) (by decide) (fun _ _ _ _ _ => (fg_name (i := 2) sc_longer.nd rfl (by first | exact Or.inl rfl | exact Or.inr rfl))) (by decide) (fun _ _ _ _ _ => fts_nil) (fun _ _ _ _ _ => (fi_range2 rfl T.n_range (fab_cons (fb_of (fe_opE do_add (fe_ix (hu_of hr) (fb_var (pv 2)) fe_int (fun _ _ => rfl)) fe_int)) (fab_cons (fb_var (pv 1)) fab_nil)))) (fun _ _ _ _ _ => (fg_name (i := 3) sc_longer.nd rfl (by first | exact Or.inl rfl | exact Or.inr rfl))) (by decide) (fun _ _ _ _ _ => (fts_one (ft_inD (do_notin (units65 hr)) (fe_var (pv 3)) (fb_var (pv 2)) (by rfl)))) (fun _ _ _ _ _ => (fe_of_fn (t := false) (fn_list (t := false) (fa_star (fb_var (pv 2)) (fa_cons (fe_var (pv 3)) fa_nil)))))))))
theorem ok_round_of_gains (T : Txt P K mg) {F_check_rule : List D → R D} {F_longer : List D → R D} {F_sum_round : List D → R D} (C_check_rule : CallG P w K mg base 1 "check_rule" F_check_rule) (C_longer : CallG P w K mg base 1 "longer" F_longer) (C_sum_round : CallG P w K mg base 2 "sum_round" F_sum_round) : CallG P w K mg base 3 "round_of_gains" (runF 6 2 (g_round_of_gains F_check_rule F_longer F_sum_round)) := T.d_round_of_gains.call sc_round_of_gains rfl rfl fun f cdv A outer s H E hr hg =>
  (fss_cons (fs_expr (fe_cl C_check_rule (hr.mono (by decide)) hg bx_takes rfl (fa_cons (fe_var (pv 0)) (fa_cons (fe_var (pv 1)) fa_nil))))
    (fss_cons (fs_setLcV (i := 2) (own := [("k", 4)]) (ix := [4]) rfl sc_round_of_gains.nd rfl rfl (by rfl) (fi_range1 rfl T.n_range (fab_cons (fb_of (fe_callB (dc_len) rfl T.n_len (by rfl) (fab_cons (fb_var (pv 0)) fab_nil))) fab_nil)) (blkOk_by (by kernel_rfl)) (fun _ _ _ _ _ => (fg_name (i := 4) sc_round_of_gains.nd rfl (by first | exact Or.inl rfl | exact Or.inr rfl))) (by decide) (fun _ _ _ _ _ => fts_nil) (fun _ _ _ _ _ => (fe_of_fn (t := false) (fn_list (t := false) (fa_cons (fe_var (pv 4)) fa_nil)))))
    (fss_cons (fs_while (n := 100) bx_owns (ft_cmp do_gt (fb_of (fe_callB (dc_len) rfl T.n_len (by rfl) (fab_cons (fb_var (pv 2)) fab_nil))) (fb_of fe_int) (by rfl))
    (fss_cons (fs_set (i := 2) sc_round_of_gains.nd rfl (by first | exact Or.inl rfl | exact Or.inr rfl) (fe_cl C_longer (hr.mono (by decide)) hg bx_takes rfl (fa_cons (fe_var (pv 2)) (fa_cons (fe_callB (dc_len) rfl T.n_len (by rfl) (fab_cons (fb_var (pv 0)) fab_nil)) fa_nil))))
    (fss_cons (fs_setLcV (i := 3) (own := [("row", 5)]) (ix := [5]) rfl sc_round_of_gains.nd rfl rfl (by rfl) (fi_items (fe_var (pv 2))) (blkOk_by (by kernel_rfl)) (fun _ _ _ _ _ => (fg_name (i := 5) sc_round_of_gains.nd rfl (by first | exact Or.inl rfl | exact Or.inr rfl))) (by decide) (fun _ _ _ _ _ => (fts_one (ft_cmp do_gt (fb_of (fe_cl C_sum_round (hr.mono (by decide)) hg takes0 rfl (fa_cons (fe_var (pv 0)) (fa_cons (fe_var (pv 1)) (fa_cons (fe_var (pv 5)) fa_nil))))) (fb_of fe_int) (by rfl)))) (fun _ _ _ _ _ => (fe_var (pv 5))))
    (fss_one (fs_if (ft_cmp do_gt (fb_of (fe_callB (dc_len) rfl T.n_len (by rfl) (fab_cons (fb_var (pv 3)) fab_nil))) (fb_of fe_int) (by rfl))
    (fss_one (fs_ret (fe_callB (dc_minRows rfl (units65 hr)) rfl T.n_min (by rfl) (fab_cons (fb_var (pv 3)) fab_nil))))
    fss_nil)))))
    (fss_one (fs_ret fe_non)))))
theorem ok_greatest_payments (T : Txt P K mg) {F_check_rule : List D → R D} {F_likes_more : List D → R D} {F_does_keep : List D → R D} (C_check_rule : CallG P w K mg base 1 "check_rule" F_check_rule) (C_likes_more : CallG P w K mg base 1 "likes_more" F_likes_more) (C_does_keep : CallG P w K mg base 2 "does_keep" F_does_keep) : CallG P w K mg base 3 "greatest_payments" (runF 8 2 (g_greatest_payments F_check_rule F_likes_more F_does_keep)) := T.d_greatest_payments.call sc_greatest_payments rfl rfl fun f cdv A outer s H E hr hg =>
  (fss_cons (fs_expr (fe_cl C_check_rule (hr.mono (by decide)) hg bx_takes rfl (fa_cons (fe_var (pv 0)) (fa_cons (fe_var (pv 1)) fa_nil))))
    (fss_cons (fs_set (i := 2) sc_greatest_payments.nd rfl (by first | exact Or.inl rfl | exact Or.inr rfl) (fe_callB (dc_len) rfl T.n_len (by rfl) (fab_cons (fb_var (pv 0)) fab_nil)))
    (fss_cons (fs_setLcN (i := 3) (t := false) (own := [("k", 6)]) (ix := [6]) rfl sc_greatest_payments.nd rfl rfl (by rfl) (fi_range1 rfl T.n_range (fab_cons (fb_var (pv 2)) fab_nil)) (blkOk_by (by kernel_rfl)) (fun _ _ _ _ _ => (fg_name (i := 6) sc_greatest_payments.nd rfl (by first | exact Or.inl rfl | exact Or.inr rfl))) (by decide) (fun _ _ _ _ _ => fts_nil) (fun _ _ _ _ _ => (fe_un du_neg (fb_of (fe_cl C_likes_more (hr.mono (by decide)) hg takes0 rfl (fa_cons (fe_var (pv 0)) (fa_cons (fe_var (pv 1)) (fa_cons (fe_var (pv 6)) (fa_cons fe_int fa_nil)))))))))
    (fss_cons (fs_for bx_owns rfl (fi_range1 rfl T.n_range (fab_cons (fb_var (pv 2)) fab_nil)) (fg_name (i := 4) sc_greatest_payments.nd rfl (by first | exact Or.inl rfl | exact Or.inr rfl))
    (fss_one (fs_for bx_owns rfl (fi_range1 rfl T.n_range (fab_cons (fb_var (pv 2)) fab_nil)) (fg_name (i := 5) sc_greatest_payments.nd rfl (by first | exact Or.inl rfl | exact Or.inr rfl))
    (fss_one (fs_for bx_owns rfl (fi_range1 rfl T.n_range (fab_cons (fb_var (pv 2)) fab_nil)) (fg_name (i := 7) sc_greatest_payments.nd rfl (by first | exact Or.inl rfl | exact Or.inr rfl))
    (fss_one (fs_setL (pv 3) (fe_var (pv 7)) (fe_callB (dc_min2 rfl) rfl T.n_min (by rfl) (fab_cons (fb_of (fe_ix (hu_of hr) (fb_var (pv 3)) (fe_var (pv 7)) (fun _ _ => rfl))) (fab_cons (fb_of (fe_op do_sub (fb_of (fe_ix (hu_of hr) (fb_var (pv 3)) (fe_var (pv 5)) (fun _ _ => rfl))) (fb_of (fe_cl C_likes_more (hr.mono (by decide)) hg bx_takes rfl (fa_cons (fe_var (pv 0)) (fa_cons (fe_var (pv 1)) (fa_cons (fe_var (pv 7)) (fa_cons (fe_var (pv 5)) fa_nil)))))))) fab_nil))))))))))
    (fss_one (fs_ret (fe_if (ft_w (fw_and (ft_val (fe_cl C_does_keep (hr.mono (by decide)) hg bx_takes rfl (fa_cons (fe_var (pv 0)) (fa_cons (fe_var (pv 1)) (fa_cons (fe_var (pv 3)) fa_nil))))) (fw_and1 (ft_cmp (do_eq hr.units) (fb_of (fe_ix (hu_of hr) (fb_var (pv 3)) fe_int (fun _ _ => rfl))) (fb_of fe_int) (by rfl))))) (fe_var (pv 3)) fe_non)))))))
theorem ok_check_wishes (T : Txt P K mg) {F_check_bidder : List D → R D} {F_is_table : List D → R D} (C_check_bidder : CallG P w K mg base 4 "check_bidder" F_check_bidder) (C_is_table : CallG P w K mg base 2 "is_table" F_is_table) : CallG P w K mg base 5 "check_wishes" (runF 5 3 (g_check_wishes F_check_bidder F_is_table)) := T.d_check_wishes.call sc_check_wishes rfl rfl fun f cdv A outer s H E hr hg =>
  (fss_cons (fs_expr (fe_cl C_check_bidder (hr.mono (by decide)) hg bx_takes rfl (fa_cons (fe_var (pv 0)) (fa_cons (fe_var (pv 1)) fa_nil))))
    (fss_cons (fs_if (ft_not (ft_chain do_le do_le (fb_of fe_int) (fb_of (fe_callB (dc_len) rfl T.n_len (by rfl) (fab_cons (fb_var (pv 2)) fab_nil))) (fb_of (fe_gint T.c_MOST_TYPES rfl)) (by rfl)))
    (fss_one (fs_raise (c := "BadTable") rfl T.x_BadTable rfl hr bx_takes rfl (fe_un du_neg (fb_of fe_int))))
    fss_nil)
    (fss_one (fs_for bx_owns rfl (fi_enum rfl T.n_enumerate (fa_cons (fe_var (pv 2)) fa_nil)) (fg_tup rfl (fgs_cons (fg_name (i := 3) sc_check_wishes.nd rfl (by first | exact Or.inl rfl | exact Or.inr rfl)) (fgs_cons (fg_name (i := 4) sc_check_wishes.nd rfl (by first | exact Or.inl rfl | exact Or.inr rfl)) fgs_nil)) (fun _ _ _ => gC_len (fun _ _ _ => gC_len (fun _ _ _ => gE_len))))
    (fss_one (fs_if (ft_w (fw_or (ft_not (ft_val (fe_cl C_is_table (hr.mono (by decide)) hg bx_takes rfl (fa_cons (fe_var (pv 4)) fa_nil)))) (fw_or1 (ft_cmp (do_ne hr.units) (fb_of (fe_callB (dc_len) rfl T.n_len (by rfl) (fab_cons (fb_var (pv 4)) fab_nil))) (fb_of (fe_callB (dc_len) rfl T.n_len (by rfl) (fab_cons (fb_of (fe_ix (hu_of hr) (fb_var (pv 0)) fe_int (fun _ _ => rfl))) fab_nil))) (by rfl)))))
    (fss_one (fs_raise (c := "BadTable") rfl T.x_BadTable rfl hr bx_takes rfl (fe_var (pv 3))))
    fss_nil))))))
theorem ok_rule_in (T : Txt P K mg) {F_check_wishes : List D → R D} {F_number_of : List D → R D} {F_best_of : List D → R D} {F_with_lie : List D → R D} (C_check_wishes : CallG P w K mg base 5 "check_wishes" F_check_wishes) (C_number_of : CallG P w K mg base 1 "number_of" F_number_of) (C_best_of : CallG P w K mg base 5 "best_of" F_best_of) (C_with_lie : CallG P w K mg base 1 "with_lie" F_with_lie) : CallG P w K mg base 6 "rule_in" (runF 5 3 (g_rule_in F_check_wishes F_number_of F_best_of F_with_lie)) := T.d_rule_in.call sc_rule_in rfl rfl fun f cdv A outer s H E hr hg =>
  (fss_cons (fs_expr (fe_cl C_check_wishes (hr.mono (by decide)) hg bx_takes rfl (fa_cons (fe_var (pv 0)) (fa_cons (fe_var (pv 1)) (fa_cons (fe_var (pv 2)) fa_nil)))))
    (fss_cons (fs_setLcV (i := 3) (own := [("table", 4)]) (ix := [4]) rfl sc_rule_in.nd rfl rfl (by rfl) (fi_items (fe_var (pv 2))) (blkOk_by (by kernel_rfl)) (fun _ _ _ _ _ => (fg_name (i := 4) sc_rule_in.nd rfl (by first | exact Or.inl rfl | exact Or.inr rfl))) (by decide) (fun _ _ _ _ _ => fts_nil) (fun _ _ _ _ _ => (fe_cl C_number_of (hr.mono (by decide)) hg takes0 rfl (fa_cons (fe_ix (hu_of hr) (fb_of (fe_ix (hu_of hr) (fb_of (fe_cl C_best_of (hr.mono (by decide)) hg takes0 rfl (fa_cons (fe_cl C_with_lie (hr.mono (by decide)) hg takes0 rfl (fa_cons (fe_var (pv 0)) (fa_cons (fe_var (pv 1)) (fa_cons (fe_var (pv 4)) fa_nil)))) fa_nil))) fe_int (fun _ _ => rfl))) (fe_var (pv 1)) (fun _ _ => rfl)) fa_nil))))
    (fss_one (fs_ret (fe_tup (fa_cons (fe_of_fn (t := false) (fn_lc (t := false) (own := [("table", 4)]) (ix := [4]) rfl sc_rule_in.nd (fi_items (fe_var (pv 2))) (blkOk_by (by kernel_rfl)) (fun _ _ _ _ _ => (fg_name (i := 4) sc_rule_in.nd rfl (by first | exact Or.inl rfl | exact Or.inr rfl))) (by decide) (fun _ _ _ _ _ => fts_nil) (fun _ _ _ _ _ => (fe_of_fn (t := false) (fn_callTy dc_list rfl T.n_list (by rfl) (fab_cons (fb_var (pv 4)) fab_nil)))))) (fa_cons (fe_var (pv 3)) fa_nil)))))))
theorem ok_fair_in (T : Txt P K mg) {F_check_wishes : List D → R D} {F_all_paid : List D → R D} {F_with_lie : List D → R D} (C_check_wishes : CallG P w K mg base 5 "check_wishes" F_check_wishes) (C_all_paid : CallG P w K mg base 8 "all_paid" F_all_paid) (C_with_lie : CallG P w K mg base 1 "with_lie" F_with_lie) : CallG P w K mg base 9 "fair_in" (runF 4 3 (g_fair_in F_check_wishes F_all_paid F_with_lie)) := T.d_fair_in.call sc_fair_in rfl rfl fun f cdv A outer s H E hr hg =>
  (fss_cons (fs_expr (fe_cl C_check_wishes (hr.mono (by decide)) hg bx_takes rfl (fa_cons (fe_var (pv 0)) (fa_cons (fe_var (pv 1)) (fa_cons (fe_var (pv 2)) fa_nil)))))
    (fss_one (fs_ret (fe_of_fn (t := false) (fn_lc (t := false) (own := [("table", 3)]) (ix := [3]) rfl sc_fair_in.nd (fi_items (fe_var (pv 2))) (blkOk_by (by kernel_rfl)) (fun _ _ _ _ _ => (fg_name (i := 3) sc_fair_in.nd rfl (by first | exact Or.inl rfl | exact Or.inr rfl))) (by decide) (fun _ _ _ _ _ => fts_nil) (fun _ _ _ _ _ => (fe_ix (hu_of hr) (fb_of (fe_cl C_all_paid (hr.mono (by decide)) hg takes0 rfl (fa_cons (fe_cl C_with_lie (hr.mono (by decide)) hg takes0 rfl (fa_cons (fe_var (pv 0)) (fa_cons (fe_var (pv 1)) (fa_cons (fe_var (pv 3)) fa_nil)))) (fa_cons fe_str fa_nil)))) (fe_var (pv 1)) (fun _ _ => rfl))))))))
theorem ok_l_draws (T : Txt P K mg) : CallS P w K mg base 1 "_law_draws" (runS 6 g_l_draws) := T.d_l_draws.callS sc_l_draws rfl fun f cdv A outer s H E hr hg =>
  (fss_cons (fs_setN (i := 1) sc_l_draws.nd rfl (by first | exact Or.inl rfl | exact Or.inr rfl) (fn_list (t := false) fa_nil))
    (fss_cons (fs_for bx_owns rfl (fi_range1 rfl T.n_range (fab_cons (fb_of (fe_callB (dc_min2 rfl) rfl T.n_min (by rfl) (fab_cons (fb_of fe_int) (fab_cons (fb_of (fe_lenS (pv 0) rfl T.n_len)) fab_nil)))) fab_nil)) (fg_name (i := 2) sc_l_draws.nd rfl (by first | exact Or.inl rfl | exact Or.inr rfl))
    (fss_cons (fs_set (i := 3) sc_l_draws.nd rfl (by first | exact Or.inl rfl | exact Or.inr rfl) (fe_callB (dc_abs) rfl T.n_abs (by rfl) (fab_cons (fb_of (fe_ixS (pv 0) (fe_var (pv 2)) (fun _ _ => rfl))) fab_nil)))
    (fss_one (fs_if (ft_cmp do_ge (fb_var (pv 3)) (fb_of (fe_op do_pow (fb_of fe_int) (fb_of fe_int))) (by rfl))
    (fss_one (fs_for bx_owns rfl (fi_range1 rfl T.n_range (fab_cons (fb_of fe_int) fab_nil)) (fg_name (i := 4) sc_l_draws.nd rfl (by first | exact Or.inl rfl | exact Or.inr rfl))
    (fss_one (fs_if (ft_cmp do_gt (fb_var (pv 3)) (fb_of fe_int) (by rfl))
    (fss_cons (fs_append (pv 1) (fe_op do_mod (fb_of (fe_callTy dc_int rfl T.n_int (by rfl) (fab_cons (fb_var (pv 3)) fab_nil))) (fb_of fe_int)))
    (fss_one (fs_set (i := 3) sc_l_draws.nd rfl (by first | exact Or.inl rfl | exact Or.inr rfl) (fe_op do_div (fb_var (pv 3)) (fb_of fe_int)))))
    fss_nil))))
    (fss_cons (fs_set (i := 5) sc_l_draws.nd rfl (by first | exact Or.inl rfl | exact Or.inr rfl) (fe_op do_mod (fb_of (fe_callTy dc_int rfl T.n_int (by rfl) (fab_cons (fb_of (fe_opE do_add (fe_op do_mul (fb_var (pv 3)) (fb_of fe_int)) (fe_op do_mul (fb_of (fe_opE do_add (fe_var (pv 2)) fe_int)) (fb_of fe_int)))) fab_nil))) (fb_of fe_int)))
    (fss_cons (fs_set (i := 5) sc_l_draws.nd rfl (by first | exact Or.inl rfl | exact Or.inr rfl) (fe_op do_mod (fb_of (fe_callTy dc_int rfl T.n_int (by rfl) (fab_cons (fb_of (fe_opE do_add (fe_opE do_add (fe_op do_mul (fb_var (pv 5)) (fb_of fe_int)) (fe_op do_mul (fb_of fe_int) (fb_var (pv 2)))) fe_int)) fab_nil))) (fb_of fe_int)))
    (fss_cons (fs_append (pv 1) (fe_op do_mod (fb_of (fe_callTy dc_int rfl T.n_int (by rfl) (fab_cons (fb_var (pv 5)) fab_nil))) (fb_of fe_int)))
    (fss_one (fs_append (pv 1) (fe_op do_mod (fb_of (fe_callTy dc_int rfl T.n_int (by rfl) (fab_cons (fb_of (fe_op do_div (fb_var (pv 5)) (fb_of fe_int))) fab_nil))) (fb_of fe_int)))))))))))
    (fss_one (fs_ret (fe_var (pv 1))))))
theorem ok_l_mix (T : Txt P K mg) : CallG P w K mg base 1 "_law_mix" (runF 4 3 g_l_mix) := T.d_l_mix.call sc_l_mix rfl rfl fun f cdv A outer s H E hr hg =>
  (fss_cons (fs_set (i := 3) sc_l_mix.nd rfl (by first | exact Or.inl rfl | exact Or.inr rfl) fe_int)
    (fss_cons (fs_if (ft_cmp do_gt (fb_of (fe_callB (dc_len) rfl T.n_len (by rfl) (fab_cons (fb_var (pv 0)) fab_nil))) (fb_of fe_int) (by rfl))
    (fss_one (fs_set (i := 3) sc_l_mix.nd rfl (by first | exact Or.inl rfl | exact Or.inr rfl) (fe_ix (hu_of hr) (fb_var (pv 0)) (fe_op do_mod (fb_of (fe_callTy dc_int rfl T.n_int (by rfl) (fab_cons (fb_var (pv 1)) fab_nil))) (fb_of (fe_callB (dc_len) rfl T.n_len (by rfl) (fab_cons (fb_var (pv 0)) fab_nil)))) (fun _ _ => rfl))))
    fss_nil)
    (fss_cons (fs_if (ft_cmp (do_lt hr.units) (fb_var (pv 1)) (fb_of (fe_callB (dc_len) rfl T.n_len (by rfl) (fab_cons (fb_var (pv 0)) fab_nil))) (by rfl))
    (fss_one (fs_ret (fe_op do_mod (fb_of (fe_callTy dc_int rfl T.n_int (by rfl) (fab_cons (fb_var (pv 3)) fab_nil))) (fb_var (pv 2)))))
    fss_nil)
    (fss_one (fs_ret (fe_op do_mod (fb_of (fe_callTy dc_int rfl T.n_int (by rfl) (fab_cons (fb_of (fe_op do_div (fb_of (fe_callTy dc_int rfl T.n_int (by rfl) (fab_cons (fb_of (fe_opE do_add (fe_op do_mul (fb_var (pv 3)) (fb_of fe_int)) (fe_op do_mul (fb_var (pv 1)) (fb_of fe_int)))) fab_nil))) (fb_of fe_int))) fab_nil))) (fb_var (pv 2))))))))
theorem ok_l_subsets (T : Txt P K mg) : CallG P w K mg base 1 "_law_subsets" (runF 4 1 g_l_subsets) := T.d_l_subsets.call sc_l_subsets rfl rfl fun f cdv A outer s H E hr hg =>
  (fss_cons (fs_set (i := 1) sc_l_subsets.nd rfl (by first | exact Or.inl rfl | exact Or.inr rfl) (fe_of_fn (t := false) (fn_list (t := false) (fa_cons (fe_tup fa_nil) fa_nil))))
    (fss_cons (fs_for bx_owns rfl (fi_range1 rfl T.n_range (fab_cons (fb_var (pv 0)) fab_nil)) (fg_name (i := 2) sc_l_subsets.nd rfl (by first | exact Or.inl rfl | exact Or.inr rfl))
    (fss_one (fs_set (i := 1) sc_l_subsets.nd rfl (by first | exact Or.inl rfl | exact Or.inr rfl) (fe_opE do_add (fe_var (pv 1)) (fe_of_fn (t := false) (fn_lc (t := false) (own := [("bundle", 3)]) (ix := [3]) rfl sc_l_subsets.nd (fi_items (fe_var (pv 1))) (blkOk_by (by kernel_rfl)) (fun _ _ _ _ _ => (fg_name (i := 3) sc_l_subsets.nd rfl (by first | exact Or.inl rfl | exact Or.inr rfl))) (by decide) (fun _ _ _ _ _ => fts_nil) (fun _ _ _ _ _ => (fe_opE do_add (fe_var (pv 3)) (fe_tup (fa_cons (fe_var (pv 2)) fa_nil))))))))))
    (fss_one (fs_ret (fe_var (pv 1))))))
theorem ok_l_at (T : Txt P K mg) : CallG P w K mg base 1 "_law_at" (runF 3 2 g_l_at) := T.d_l_at.call sc_l_at rfl rfl fun f cdv A outer s H E hr hg =>
  (fss_one (fs_ret (fe_ix (hu_of hr) (fb_var (pv 0)) (fe_callB (dc_sum rfl) rfl T.n_sum (by rfl) (fab_cons (fb_of (fe_of_fn (t := false) (fn_lc (t := false) (own := [("good", 2)]) (ix := [2]) rfl sc_l_at.nd (fi_items (fe_var (pv 1))) (blkOk_by (by kernel_rfl)) (fun _ _ _ _ _ => (fg_name (i := 2) sc_l_at.nd rfl (by first | exact Or.inl rfl | exact Or.inr rfl))) (by decide) (fun _ _ _ _ _ => fts_nil) (fun _ _ _ _ _ => (fe_ix (hu_of hr) (fb_of (fe_of_fn (t := false) (fn_list (t := false) (fa_cons fe_int (fa_cons fe_int (fa_cons fe_int (fa_cons fe_int (fa_cons fe_int (fa_cons fe_int fa_nil))))))))) (fe_var (pv 2)) (fun _ _ => rfl)))))) fab_nil)) (fun _ _ => rfl))))
theorem ok_l_drawn (T : Txt P K mg) {F_l_subsets : List D → R D} {F_l_mix : List D → R D} (C_l_subsets : CallG P w K mg base 1 "_law_subsets" F_l_subsets) (C_l_mix : CallG P w K mg base 1 "_law_mix" F_l_mix) : CallG P w K mg base 2 "_law_drawn" (runF 14 3 (g_l_drawn F_l_subsets F_l_mix)) := T.d_l_drawn.call sc_l_drawn rfl rfl fun f cdv A outer s H E hr hg =>
  (fss_cons (fs_set (i := 3) sc_l_drawn.nd rfl (by first | exact Or.inl rfl | exact Or.inr rfl) (fe_cl C_l_subsets (hr.mono (by decide)) hg bx_takes rfl (fa_cons (fe_var (pv 2)) fa_nil)))
    (fss_cons (fs_set (i := 4) sc_l_drawn.nd rfl (by first | exact Or.inl rfl | exact Or.inr rfl) (fe_of_fn (t := false) (fn_lc (t := false) (own := [("good", 12)]) (ix := [12]) rfl sc_l_drawn.nd (fi_range1 rfl T.n_range (fab_cons (fb_var (pv 2)) fab_nil)) (blkOk_by (by kernel_rfl)) (fun _ _ _ _ _ => (fg_name (i := 12) sc_l_drawn.nd rfl (by first | exact Or.inl rfl | exact Or.inr rfl))) (by decide) (fun _ _ _ _ _ => fts_nil) (fun _ _ _ _ _ => (fe_cl C_l_mix (hr.mono (by decide)) hg takes0 rfl (fa_cons (fe_var (pv 0)) (fa_cons (fe_opE do_add (fe_var (pv 1)) (fe_var (pv 12))) (fa_cons fe_int fa_nil))))))))
    (fss_cons (fs_set (i := 5) sc_l_drawn.nd rfl (by first | exact Or.inl rfl | exact Or.inr rfl) (fe_cl C_l_mix (hr.mono (by decide)) hg bx_takes rfl (fa_cons (fe_var (pv 0)) (fa_cons (fe_opE do_add (fe_var (pv 1)) fe_int) (fa_cons fe_int fa_nil)))))
    (fss_cons (fs_setLcV (i := 6) (own := [("good", 12)]) (ix := [12]) rfl sc_l_drawn.nd rfl rfl (by rfl) (fi_range1 rfl T.n_range (fab_cons (fb_var (pv 2)) fab_nil)) (blkOk_by (by kernel_rfl)) (fun _ _ _ _ _ => (fg_name (i := 12) sc_l_drawn.nd rfl (by first | exact Or.inl rfl | exact Or.inr rfl))) (by decide) (fun _ _ _ _ _ => (fts_one (ft_cmp (do_eq hr.units) (fb_of (fe_cl C_l_mix (hr.mono (by decide)) hg takes0 rfl (fa_cons (fe_var (pv 0)) (fa_cons (fe_opE do_add (fe_opE do_add (fe_var (pv 1)) fe_int) (fe_var (pv 12))) (fa_cons fe_int fa_nil))))) (fb_of fe_int) (by rfl)))) (fun _ _ _ _ _ => (fe_var (pv 12))))
    (fss_cons (fs_setN (i := 7) sc_l_drawn.nd rfl (by first | exact Or.inl rfl | exact Or.inr rfl) fn_dnewT)
    (fss_cons (fs_for bx_owns rfl (fi_range1 rfl T.n_range (fab_cons (fb_of (fe_callB (dc_len) rfl T.n_len (by rfl) (fab_cons (fb_var (pv 3)) fab_nil))) fab_nil)) (fg_name (i := 8) sc_l_drawn.nd rfl (by first | exact Or.inl rfl | exact Or.inr rfl))
    (fss_cons (fs_set (i := 9) sc_l_drawn.nd rfl (by first | exact Or.inl rfl | exact Or.inr rfl) (fe_ix (hu_of hr) (fb_var (pv 3)) (fe_var (pv 8)) (fun _ _ => rfl)))
    (fss_cons (fs_setLcV (i := 10) (own := [("good", 12)]) (ix := [12]) rfl sc_l_drawn.nd rfl rfl (by rfl) (fi_items (fe_var (pv 9))) (blkOk_by (by kernel_rfl)) (fun _ _ _ _ _ => (fg_name (i := 12) sc_l_drawn.nd rfl (by first | exact Or.inl rfl | exact Or.inr rfl))) (by decide) (fun _ _ _ _ _ => fts_nil) (fun _ _ _ _ _ => (fe_ix (hu_of hr) (fb_var (pv 7)) (fe_callTyE dc_tuple rfl T.n_tuple (by rfl) (fa_cons (fe_of_fn (t := false) (fn_lc (t := false) (own := [("one", 13)]) (ix := [13]) rfl sc_l_drawn.nd (fi_items (fe_var (pv 9))) (blkOk_by (by kernel_rfl)) (fun _ _ _ _ _ => (fg_name (i := 13) sc_l_drawn.nd rfl (by first | exact Or.inl rfl | exact Or.inr rfl))) (by decide) (fun _ _ _ _ _ => (fts_one (ft_cmp (do_ne hr.units) (fb_var (pv 13)) (fb_var (pv 12)) (by rfl)))) (fun _ _ _ _ _ => (fe_var (pv 13))))) fa_nil)) (fun _ _ => rfl))))
    (fss_cons (fs_set (i := 11) sc_l_drawn.nd rfl (by first | exact Or.inl rfl | exact Or.inr rfl) (fe_cl C_l_mix (hr.mono (by decide)) hg bx_takes rfl (fa_cons (fe_var (pv 0)) (fa_cons (fe_opE do_add (fe_opE do_add (fe_var (pv 1)) fe_int) (fe_var (pv 8))) (fa_cons fe_int fa_nil)))))
    (fss_cons (fs_if (ft_cmp (do_eq hr.units) (fb_var (pv 5)) (fb_of fe_int) (by rfl))
    (fss_one (fs_set (i := 11) sc_l_drawn.nd rfl (by first | exact Or.inl rfl | exact Or.inr rfl) (fe_callB (dc_sum rfl) rfl T.n_sum (by rfl) (fab_cons (fb_of (fe_of_fn (t := false) (fn_lc (t := false) (own := [("good", 12)]) (ix := [12]) rfl sc_l_drawn.nd (fi_items (fe_var (pv 9))) (blkOk_by (by kernel_rfl)) (fun _ _ _ _ _ => (fg_name (i := 12) sc_l_drawn.nd rfl (by first | exact Or.inl rfl | exact Or.inr rfl))) (by decide) (fun _ _ _ _ _ => fts_nil) (fun _ _ _ _ _ => (fe_ix (hu_of hr) (fb_var (pv 4)) (fe_var (pv 12)) (fun _ _ => rfl)))))) fab_nil))))
    (fss_one (fs_if (ft_cmp (do_eq hr.units) (fb_var (pv 5)) (fb_of fe_int) (by rfl))
    (fss_one (fs_set (i := 11) sc_l_drawn.nd rfl (by first | exact Or.inl rfl | exact Or.inr rfl) (fe_callB (dc_sum rfl) rfl T.n_sum (by rfl) (fab_cons (fb_of (fe_slice (fe_rev (fb_of (fe_of_fn (t := false) (fn_callB dc_sorted rfl T.n_sorted (by rfl) (fab_cons (fb_of (fe_of_fn (t := false) (fn_lc (t := false) (own := [("good", 12)]) (ix := [12]) rfl sc_l_drawn.nd (fi_items (fe_var (pv 9))) (blkOk_by (by kernel_rfl)) (fun _ _ _ _ _ => (fg_name (i := 12) sc_l_drawn.nd rfl (by first | exact Or.inl rfl | exact Or.inr rfl))) (by decide) (fun _ _ _ _ _ => fts_nil) (fun _ _ _ _ _ => (fe_ix (hu_of hr) (fb_var (pv 4)) (fe_var (pv 12)) (fun _ _ => rfl)))))) fab_nil))))) fo_none (fo_some (fe_opE do_add fe_int (fe_cl C_l_mix (hr.mono (by decide)) hg bx_takes rfl (fa_cons (fe_var (pv 0)) (fa_cons (fe_opE do_add (fe_var (pv 1)) fe_int) (fa_cons fe_int fa_nil)))))))) fab_nil))))
    (fss_one (fs_if (ft_cmp (do_eq hr.units) (fb_var (pv 5)) (fb_of fe_int) (by rfl))
    (fss_one (fs_set (i := 11) sc_l_drawn.nd rfl (by first | exact Or.inl rfl | exact Or.inr rfl) (fe_op do_sub (fb_of (fe_callB (dc_sum rfl) rfl T.n_sum (by rfl) (fab_cons (fb_of (fe_of_fn (t := false) (fn_lc (t := false) (own := [("good", 12)]) (ix := [12]) rfl sc_l_drawn.nd (fi_items (fe_var (pv 9))) (blkOk_by (by kernel_rfl)) (fun _ _ _ _ _ => (fg_name (i := 12) sc_l_drawn.nd rfl (by first | exact Or.inl rfl | exact Or.inr rfl))) (by decide) (fun _ _ _ _ _ => fts_nil) (fun _ _ _ _ _ => (fe_ix (hu_of hr) (fb_var (pv 4)) (fe_var (pv 12)) (fun _ _ => rfl)))))) fab_nil))) (fb_of (fe_op do_div (fb_of (fe_op do_mul (fb_of (fe_callB (dc_len) rfl T.n_len (by rfl) (fab_cons (fb_var (pv 9)) fab_nil))) (fb_of (fe_op do_sub (fb_of (fe_callB (dc_len) rfl T.n_len (by rfl) (fab_cons (fb_var (pv 9)) fab_nil))) (fb_of fe_int))))) (fb_of fe_int))))))
    (fss_one (fs_if (ft_cmp (do_eq hr.units) (fb_var (pv 5)) (fb_of fe_int) (by rfl))
    (fss_one (fs_set (i := 11) sc_l_drawn.nd rfl (by first | exact Or.inl rfl | exact Or.inr rfl) (fe_op do_mul (fb_of (fe_opE do_add fe_int (fe_ix (hu_of hr) (fb_var (pv 4)) fe_int (fun _ _ => rfl)))) (fb_of (fe_callTy dc_int rfl T.n_int (by rfl) (fab_cons (fb_of (fe_cmp (do_eq hr.units) (fb_of (fe_callB (dc_len) rfl T.n_len (by rfl) (fab_cons (fb_of (fe_of_fn (t := false) (fn_lc (t := false) (own := [("good", 12)]) (ix := [12]) rfl sc_l_drawn.nd (fi_items (fe_var (pv 6))) (blkOk_by (by kernel_rfl)) (fun _ _ _ _ _ => (fg_name (i := 12) sc_l_drawn.nd rfl (by first | exact Or.inl rfl | exact Or.inr rfl))) (by decide) (fun _ _ _ _ _ => (fts_one (ft_inD (do_notin (units65 hr)) (fe_var (pv 12)) (fb_var (pv 9)) (by rfl)))) (fun _ _ _ _ _ => (fe_var (pv 12)))))) fab_nil))) (fb_of fe_int) (by rfl))) fab_nil))))))
    (fss_one (fs_if (ft_cmp (do_eq hr.units) (fb_var (pv 5)) (fb_of fe_int) (by rfl))
    (fss_one (fs_set (i := 11) sc_l_drawn.nd rfl (by first | exact Or.inl rfl | exact Or.inr rfl) (fe_op do_mul (fb_of (fe_op do_mul (fb_of (fe_cl C_l_mix (hr.mono (by decide)) hg bx_takes rfl (fa_cons (fe_var (pv 0)) (fa_cons (fe_opE do_add (fe_var (pv 1)) fe_int) (fa_cons fe_int fa_nil))))) (fb_of (fe_callB (dc_len) rfl T.n_len (by rfl) (fab_cons (fb_var (pv 9)) fab_nil))))) (fb_of (fe_callB (dc_len) rfl T.n_len (by rfl) (fab_cons (fb_var (pv 9)) fab_nil))))))
    fss_nil)))))))))
    (fss_one (fs_setD (hu_of hr) (pv 7) (fe_var (pv 9)) (fe_callB (dc_max rfl) rfl T.n_max (by rfl) (fab_cons (fb_of (fe_opE do_add (fe_opE do_add (fe_of_fn (t := false) (fn_list (t := false) (fa_cons fe_int fa_nil))) (fe_var (pv 10))) (fe_of_fn (t := false) (fn_list (t := false) (fa_cons (fe_op do_mul (fb_var (pv 11)) (fb_of (fe_callTy dc_int rfl T.n_int (by rfl) (fab_cons (fb_of (fe_cmp (do_ne hr.units) (fb_var (pv 9)) (fb_of (fe_tup fa_nil)) (by rfl))) fab_nil)))) fa_nil))))) fab_nil)))))))))
    (fss_one (fs_ret (fe_of_fn (t := false) (fn_lc (t := false) (own := [("bundle", 9)]) (ix := [9]) rfl sc_l_drawn.nd (fi_items (fe_var (pv 3))) (blkOk_by (by kernel_rfl)) (fun _ _ _ _ _ => (fg_name (i := 9) sc_l_drawn.nd rfl (by first | exact Or.inl rfl | exact Or.inr rfl))) (by decide) (fun _ _ _ _ _ => fts_nil) (fun _ _ _ _ _ => (fe_ix (hu_of hr) (fb_var (pv 7)) (fe_var (pv 9)) (fun _ _ => rfl)))))))))))))
theorem ok_l_book (T : Txt P K mg) {F_l_mix : List D → R D} {F_l_drawn : List D → R D} (C_l_mix : CallG P w K mg base 1 "_law_mix" F_l_mix) (C_l_drawn : CallG P w K mg base 2 "_law_drawn" F_l_drawn) : CallG P w K mg base 3 "_law_book" (runF 5 4 (g_l_book F_l_mix F_l_drawn)) := T.d_l_book.call sc_l_book rfl rfl fun f cdv A outer s H E hr hg =>
  (fss_one (fs_ret (fe_of_fn (t := false) (fn_lc (t := false) (own := [("t", 4)]) (ix := [4]) rfl sc_l_book.nd (fi_range1 rfl T.n_range (fab_cons (fb_of (fe_opE do_add fe_int (fe_cl C_l_mix (hr.mono (by decide)) hg bx_takes rfl (fa_cons (fe_var (pv 0)) (fa_cons (fe_opE do_add (fe_var (pv 1)) fe_int) (fa_cons (fe_var (pv 2)) fa_nil)))))) fab_nil)) (blkOk_by (by kernel_rfl)) (fun _ _ _ _ _ => (fg_name (i := 4) sc_l_book.nd rfl (by first | exact Or.inl rfl | exact Or.inr rfl))) (by decide) (fun _ _ _ _ _ => fts_nil) (fun _ _ _ _ _ => (fe_cl C_l_drawn (hr.mono (by decide)) hg takes0 rfl (fa_cons (fe_var (pv 0)) (fa_cons (fe_opE do_add (fe_var (pv 1)) (fe_op do_mul (fb_of fe_int) (fb_var (pv 4)))) (fa_cons (fe_var (pv 3)) fa_nil)))))))))
theorem ok_l_shares (T : Txt P K mg) : CallG P w K mg base 1 "_law_shares" (runF 7 2 g_l_shares) := T.d_l_shares.call sc_l_shares rfl rfl fun f cdv A outer s H E hr hg =>
  (fss_cons (fs_set (i := 2) sc_l_shares.nd rfl (by first | exact Or.inl rfl | exact Or.inr rfl) (fe_of_fn (t := false) (fn_list (t := false) (fa_cons (fe_op do_mul (fb_of (fe_of_fn (t := false) (fn_list (t := false) (fa_cons (fe_tup fa_nil) fa_nil)))) (fb_var (pv 0))) fa_nil))))
    (fss_cons (fs_for bx_owns rfl (fi_range1 rfl T.n_range (fab_cons (fb_var (pv 1)) fab_nil)) (fg_name (i := 3) sc_l_shares.nd rfl (by first | exact Or.inl rfl | exact Or.inr rfl))
    (fss_cons (fs_set (i := 4) sc_l_shares.nd rfl (by first | exact Or.inl rfl | exact Or.inr rfl) (fe_of_fn (t := false) (fn_callTy dc_list rfl T.n_list (by rfl) (fab_cons (fb_var (pv 2)) fab_nil))))
    (fss_cons (fs_for bx_owns rfl (fi_items (fe_var (pv 2))) (fg_name (i := 5) sc_l_shares.nd rfl (by first | exact Or.inl rfl | exact Or.inr rfl))
    (fss_one (fs_set (i := 4) sc_l_shares.nd rfl (by first | exact Or.inl rfl | exact Or.inr rfl) (fe_opE do_add (fe_var (pv 4)) (fe_of_fn (t := false) (fn_lc (t := false) (own := [("k", 6)]) (ix := [6]) rfl sc_l_shares.nd (fi_range1 rfl T.n_range (fab_cons (fb_var (pv 0)) fab_nil)) (blkOk_by (by kernel_rfl)) (fun _ _ _ _ _ => (fg_name (i := 6) sc_l_shares.nd rfl (by first | exact Or.inl rfl | exact Or.inr rfl))) (by decide) (fun _ _ _ _ _ => fts_nil) (fun _ _ _ _ _ => (fe_opE do_add (fe_opE do_add (fe_slice (fe_var (pv 5)) fo_none (fo_some (fe_var (pv 6)))) (fe_of_fn (t := false) (fn_list (t := false) (fa_cons (fe_opE do_add (fe_ix (hu_of hr) (fb_var (pv 5)) (fe_var (pv 6)) (fun _ _ => rfl)) (fe_tup (fa_cons (fe_var (pv 3)) fa_nil))) fa_nil)))) (fe_slice (fe_var (pv 5)) (fo_some (fe_opE do_add (fe_var (pv 6)) fe_int)) fo_none)))))))))
    (fss_one (fs_set (i := 2) sc_l_shares.nd rfl (by first | exact Or.inl rfl | exact Or.inr rfl) (fe_var (pv 4)))))))
    (fss_one (fs_ret (fe_var (pv 2))))))
theorem ok_l_numbers (T : Txt P K mg) : CallG P w K mg base 1 "_law_numbers" (runF 3 1 g_l_numbers) := T.d_l_numbers.call sc_l_numbers rfl rfl fun f cdv A outer s H E hr hg =>
  (fss_one (fs_ret (fe_of_fn (t := false) (fn_lc (t := false) (own := [("bundle", 1)]) (ix := [1]) rfl sc_l_numbers.nd (fi_items (fe_var (pv 0))) (blkOk_by (by kernel_rfl)) (fun _ _ _ _ _ => (fg_name (i := 1) sc_l_numbers.nd rfl (by first | exact Or.inl rfl | exact Or.inr rfl))) (by decide) (fun _ _ _ _ _ => fts_nil) (fun _ _ _ _ _ => (fe_callB (dc_sum rfl) rfl T.n_sum (by rfl) (fab_cons (fb_of (fe_of_fn (t := false) (fn_lc (t := false) (own := [("good", 2)]) (ix := [2]) rfl sc_l_numbers.nd (fi_items (fe_var (pv 1))) (blkOk_by (by kernel_rfl)) (fun _ _ _ _ _ => (fg_name (i := 2) sc_l_numbers.nd rfl (by first | exact Or.inl rfl | exact Or.inr rfl))) (by decide) (fun _ _ _ _ _ => fts_nil) (fun _ _ _ _ _ => (fe_ix (hu_of hr) (fb_of (fe_of_fn (t := false) (fn_list (t := false) (fa_cons fe_int (fa_cons fe_int (fa_cons fe_int (fa_cons fe_int (fa_cons fe_int (fa_cons fe_int fa_nil))))))))) (fe_var (pv 2)) (fun _ _ => rfl)))))) fab_nil)))))))
theorem ok_l_sum (T : Txt P K mg) {F_l_at : List D → R D} (C_l_at : CallG P w K mg base 1 "_law_at" F_l_at) : CallG P w K mg base 2 "_law_sum" (runF 3 2 (g_l_sum F_l_at)) := T.d_l_sum.call sc_l_sum rfl rfl fun f cdv A outer s H E hr hg =>
  (fss_one (fs_ret (fe_callB (dc_sum rfl) rfl T.n_sum (by rfl) (fab_cons (fb_of (fe_of_fn (t := false) (fn_lc (t := false) (own := [("k", 2)]) (ix := [2]) rfl sc_l_sum.nd (fi_range1 rfl T.n_range (fab_cons (fb_of (fe_callB (dc_len) rfl T.n_len (by rfl) (fab_cons (fb_var (pv 0)) fab_nil))) fab_nil)) (blkOk_by (by kernel_rfl)) (fun _ _ _ _ _ => (fg_name (i := 2) sc_l_sum.nd rfl (by first | exact Or.inl rfl | exact Or.inr rfl))) (by decide) (fun _ _ _ _ _ => fts_nil) (fun _ _ _ _ _ => (fe_cl C_l_at (hr.mono (by decide)) hg takes0 rfl (fa_cons (fe_ix (hu_of hr) (fb_var (pv 0)) (fe_var (pv 2)) (fun _ _ => rfl)) (fa_cons (fe_ix (hu_of hr) (fb_var (pv 1)) (fe_var (pv 2)) (fun _ _ => rfl)) fa_nil))))))) fab_nil))))
theorem ok_l_best (T : Txt P K mg) {F_l_shares : List D → R D} {F_l_sum : List D → R D} {F_l_numbers : List D → R D} (C_l_shares : CallG P w K mg base 1 "_law_shares" F_l_shares) (C_l_sum : CallG P w K mg base 2 "_law_sum" F_l_sum) (C_l_numbers : CallG P w K mg base 1 "_law_numbers" F_l_numbers) : CallG P w K mg base 3 "_law_best" (runF 5 2 (g_l_best F_l_shares F_l_sum F_l_numbers)) := T.d_l_best.call sc_l_best rfl rfl fun f cdv A outer s H E hr hg =>
  (fss_cons (fs_if (ft_cmp (do_eq hr.units) (fb_var (pv 0)) (fb_of (fe_of_fn (t := false) (fn_list (t := false) fa_nil))) (by rfl))
    (fss_one (fs_ret (fe_tup (fa_cons (fe_of_fn (t := false) (fn_list (t := false) fa_nil)) (fa_cons fe_int fa_nil)))))
    fss_nil)
    (fss_cons (fs_set (i := 2) sc_l_best.nd rfl (by first | exact Or.inl rfl | exact Or.inr rfl) fe_non)
    (fss_cons (fs_for bx_owns rfl (fi_items (fe_cl C_l_shares (hr.mono (by decide)) hg bx_takes rfl (fa_cons (fe_callB (dc_len) rfl T.n_len (by rfl) (fab_cons (fb_var (pv 0)) fab_nil)) (fa_cons (fe_var (pv 1)) fa_nil)))) (fg_name (i := 3) sc_l_best.nd rfl (by first | exact Or.inl rfl | exact Or.inr rfl))
    (fss_cons (fs_set (i := 4) sc_l_best.nd rfl (by first | exact Or.inl rfl | exact Or.inr rfl) (fe_tup (fa_cons (fe_un du_neg (fb_of (fe_cl C_l_sum (hr.mono (by decide)) hg bx_takes rfl (fa_cons (fe_var (pv 0)) (fa_cons (fe_var (pv 3)) fa_nil))))) (fa_cons (fe_cl C_l_numbers (hr.mono (by decide)) hg bx_takes rfl (fa_cons (fe_var (pv 3)) fa_nil)) fa_nil))))
    (fss_one (fs_if (ft_w (fw_or (ft_cmp do_is (fb_var (pv 2)) (fb_of fe_non) (by rfl)) (fw_or1 (ft_cmp (do_lt hr.units) (fb_var (pv 4)) (fb_of (fe_ix (hu_of hr) (fb_var (pv 2)) fe_int (fun _ _ => rfl))) (by rfl)))))
    (fss_one (fs_set (i := 2) sc_l_best.nd rfl (by first | exact Or.inl rfl | exact Or.inr rfl) (fe_tup (fa_cons (fe_var (pv 4)) (fa_cons (fe_var (pv 3)) fa_nil)))))
    fss_nil))))
    (fss_one (fs_ret (fe_tup (fa_cons (fe_ix (hu_of hr) (fb_var (pv 2)) fe_int (fun _ _ => rfl)) (fa_cons (fe_un du_neg (fb_of (fe_ix (hu_of hr) (fb_of (fe_ix (hu_of hr) (fb_var (pv 2)) fe_int (fun _ _ => rfl))) fe_int (fun _ _ => rfl)))) fa_nil))))))))
theorem ok_l_paid (T : Txt P K mg) {F_l_best : List D → R D} {F_l_at : List D → R D} (C_l_best : CallG P w K mg base 3 "_law_best" F_l_best) (C_l_at : CallG P w K mg base 1 "_law_at" F_l_at) : CallG P w K mg base 4 "_law_paid" (runF 9 3 (g_l_paid F_l_best F_l_at)) := T.d_l_paid.call sc_l_paid rfl rfl fun f cdv A outer s H E hr hg =>
  (fss_cons (fs_asg (fe_cl C_l_best (hr.mono (by decide)) hg bx_takes rfl (fa_cons (fe_var (pv 0)) (fa_cons (fe_var (pv 1)) fa_nil))) (fg_tup rfl (fgs_cons (fg_name (i := 5) sc_l_paid.nd rfl (by first | exact Or.inl rfl | exact Or.inr rfl)) (fgs_cons (fg_name (i := 6) sc_l_paid.nd rfl (by first | exact Or.inl rfl | exact Or.inr rfl)) fgs_nil)) (fun _ _ _ => gC_len (fun _ _ _ => gC_len (fun _ _ _ => gE_len)))))
    (fss_cons (fs_setN (i := 3) sc_l_paid.nd rfl (by first | exact Or.inl rfl | exact Or.inr rfl) (fn_list (t := false) fa_nil))
    (fss_cons (fs_for bx_owns rfl (fi_range1 rfl T.n_range (fab_cons (fb_of (fe_callB (dc_len) rfl T.n_len (by rfl) (fab_cons (fb_var (pv 0)) fab_nil))) fab_nil)) (fg_name (i := 4) sc_l_paid.nd rfl (by first | exact Or.inl rfl | exact Or.inr rfl))
    (fss_cons (fs_set (i := 7) sc_l_paid.nd rfl (by first | exact Or.inl rfl | exact Or.inr rfl) (fe_cl C_l_at (hr.mono (by decide)) hg bx_takes rfl (fa_cons (fe_ix (hu_of hr) (fb_var (pv 0)) (fe_var (pv 4)) (fun _ _ => rfl)) (fa_cons (fe_ix (hu_of hr) (fb_var (pv 5)) (fe_var (pv 4)) (fun _ _ => rfl)) fa_nil))))
    (fss_cons (fs_set (i := 8) sc_l_paid.nd rfl (by first | exact Or.inl rfl | exact Or.inr rfl) fe_int)
    (fss_cons (fs_if (ft_cmp (do_eq hr.units) (fb_var (pv 2)) (fb_of fe_str) (by rfl))
    (fss_one (fs_set (i := 8) sc_l_paid.nd rfl (by first | exact Or.inl rfl | exact Or.inr rfl) (fe_opE do_add (fe_op do_sub (fb_of (fe_ix (hu_of hr) (fb_of (fe_cl C_l_best (hr.mono (by decide)) hg bx_takes rfl (fa_cons (fe_opE do_add (fe_slice (fe_var (pv 0)) fo_none (fo_some (fe_var (pv 4)))) (fe_slice (fe_var (pv 0)) (fo_some (fe_opE do_add (fe_var (pv 4)) fe_int)) fo_none)) (fa_cons (fe_var (pv 1)) fa_nil)))) fe_int (fun _ _ => rfl))) (fb_var (pv 6))) (fe_var (pv 7)))))
    fss_nil)
    (fss_one (fs_append (pv 3) (fe_ix (hu_of hr) (fb_of (fe_of_fn (t := false) (fn_disp (fds_cons (key := (.inr "fair")) pe_str (fe_var (pv 8)) (fds_cons (key := (.inr "bid")) pe_str (fe_var (pv 7)) (fds_cons (key := (.inr "none")) pe_str fe_int fds_nil)))))) (fe_var (pv 2)) (fun _ _ => rfl))))))))
    (fss_one (fs_ret (fe_var (pv 3)))))))
theorem ok_l_more (T : Txt P K mg) : CallG P w K mg base 1 "_law_more" (runF 4 4 g_l_more) := T.d_l_more.call sc_l_more rfl rfl fun f cdv A outer s H E hr hg =>
  (fss_one (fs_ret (fe_op do_sub (fb_of (fe_ix (hu_of hr) (fb_of (fe_ix (hu_of hr) (fb_var (pv 0)) (fe_var (pv 2)) (fun _ _ => rfl))) (fe_ix (hu_of hr) (fb_var (pv 1)) (fe_var (pv 3)) (fun _ _ => rfl)) (fun _ _ => rfl))) (fb_of (fe_ix (hu_of hr) (fb_of (fe_ix (hu_of hr) (fb_var (pv 0)) (fe_var (pv 2)) (fun _ _ => rfl))) (fe_ix (hu_of hr) (fb_var (pv 1)) (fe_var (pv 2)) (fun _ _ => rfl)) (fun _ _ => rfl))))))
theorem ok_l_keeps (T : Txt P K mg) : CallG P w K mg base 1 "_law_keeps" (runF 5 3 g_l_keeps) := T.d_l_keeps.call sc_l_keeps rfl rfl fun f cdv A outer s H E hr hg =>
  (fss_cons (fs_for bx_owns rfl (fi_range1 rfl T.n_range (fab_cons (fb_of (fe_callB (dc_len) rfl T.n_len (by rfl) (fab_cons (fb_var (pv 0)) fab_nil))) fab_nil)) (fg_name (i := 3) sc_l_keeps.nd rfl (by first | exact Or.inl rfl | exact Or.inr rfl))
    (fss_one (fs_for bx_owns rfl (fi_range1 rfl T.n_range (fab_cons (fb_of (fe_callB (dc_len) rfl T.n_len (by rfl) (fab_cons (fb_var (pv 0)) fab_nil))) fab_nil)) (fg_name (i := 4) sc_l_keeps.nd rfl (by first | exact Or.inl rfl | exact Or.inr rfl))
    (fss_one (fs_if (ft_cmp do_gt (fb_of (fe_op do_sub (fb_of (fe_ix (hu_of hr) (fb_of (fe_ix (hu_of hr) (fb_var (pv 0)) (fe_var (pv 3)) (fun _ _ => rfl))) (fe_ix (hu_of hr) (fb_var (pv 1)) (fe_var (pv 4)) (fun _ _ => rfl)) (fun _ _ => rfl))) (fb_of (fe_ix (hu_of hr) (fb_var (pv 2)) (fe_var (pv 4)) (fun _ _ => rfl))))) (fb_of (fe_op do_sub (fb_of (fe_ix (hu_of hr) (fb_of (fe_ix (hu_of hr) (fb_var (pv 0)) (fe_var (pv 3)) (fun _ _ => rfl))) (fe_ix (hu_of hr) (fb_var (pv 1)) (fe_var (pv 3)) (fun _ _ => rfl)) (fun _ _ => rfl))) (fb_of (fe_ix (hu_of hr) (fb_var (pv 2)) (fe_var (pv 3)) (fun _ _ => rfl))))) (by rfl))
    (fss_one (fs_ret fe_bl))
    fss_nil)))))
    (fss_one (fs_ret fe_bl)))
theorem ok_l_rows (T : Txt P K mg) : CallG P w K mg base 1 "_law_rows" (runF 7 1 g_l_rows) := T.d_l_rows.call sc_l_rows rfl rfl fun f cdv A outer s H E hr hg =>
  (fss_cons (fs_setLcV (i := 1) (own := [("k", 6)]) (ix := [6]) rfl sc_l_rows.nd rfl rfl (by rfl) (fi_range1 rfl T.n_range (fab_cons (fb_var (pv 0)) fab_nil)) (blkOk_by (by kernel_rfl)) (fun _ _ _ _ _ => (fg_name (i := 6) sc_l_rows.nd rfl (by first | exact Or.inl rfl | exact Or.inr rfl))) (by decide) (fun _ _ _ _ _ => fts_nil) (fun _ _ _ _ _ => (fe_of_fn (t := false) (fn_list (t := false) (fa_cons (fe_var (pv 6)) fa_nil)))))
    (fss_cons (fs_set (i := 2) sc_l_rows.nd rfl (by first | exact Or.inl rfl | exact Or.inr rfl) (fe_of_fn (t := false) (fn_callTy dc_list rfl T.n_list (by rfl) (fab_cons (fb_var (pv 1)) fab_nil))))
    (fss_cons (fs_for bx_owns rfl (fi_range1 rfl T.n_range (fab_cons (fb_of (fe_op do_sub (fb_var (pv 0)) (fb_of fe_int))) fab_nil)) (fg_name (i := 3) sc_l_rows.nd rfl (by first | exact Or.inl rfl | exact Or.inr rfl))
    (fss_cons (fs_set (i := 4) sc_l_rows.nd rfl (by first | exact Or.inl rfl | exact Or.inr rfl) (fe_of_fn (t := false) (fn_list (t := false) fa_nil)))
    (fss_cons (fs_for bx_owns rfl (fi_items (fe_var (pv 1))) (fg_name (i := 5) sc_l_rows.nd rfl (by first | exact Or.inl rfl | exact Or.inr rfl))
    (fss_one (fs_set (i := 4) sc_l_rows.nd rfl (by first | exact Or.inl rfl | exact Or.inr rfl) (fe_opE do_add (fe_var (pv 4)) (fe_of_fn (t := false) (fn_lc (t := false) (own := [("k", 6)]) (ix := [6]) rfl sc_l_rows.nd (fi_range1 rfl T.n_range (fab_cons (fb_var (pv 0)) fab_nil)) (blkOk_by (by kernel_rfl)) (fun _ _ _ _ _ => (fg_name (i := 6) sc_l_rows.nd rfl (by first | exact Or.inl rfl | exact Or.inr rfl))) (by decide) (fun _ _ _ _ _ => (fts_one (ft_inD (do_notin (units65 hr)) (fe_var (pv 6)) (fb_var (pv 5)) (by rfl)))) (fun _ _ _ _ _ => (fe_opE do_add (fe_var (pv 5)) (fe_of_fn (t := false) (fn_list (t := false) (fa_cons (fe_var (pv 6)) fa_nil)))))))))))
    (fss_cons (fs_set (i := 1) sc_l_rows.nd rfl (by first | exact Or.inl rfl | exact Or.inr rfl) (fe_var (pv 4)))
    (fss_one (fs_set (i := 2) sc_l_rows.nd rfl (by first | exact Or.inl rfl | exact Or.inr rfl) (fe_opE do_add (fe_var (pv 2)) (fe_var (pv 1)))))))))
    (fss_one (fs_ret (fe_var (pv 2)))))))
theorem ok_l_total (T : Txt P K mg) {F_l_more : List D → R D} (C_l_more : CallG P w K mg base 1 "_law_more" F_l_more) : CallG P w K mg base 2 "_law_total" (runF 4 3 (g_l_total F_l_more)) := T.d_l_total.call sc_l_total rfl rfl fun f cdv A outer s H E hr hg =>
  (fss_one (fs_ret (fe_callB (dc_sum rfl) rfl T.n_sum (by rfl) (fab_cons (fb_of (fe_of_fn (t := false) (fn_lc (t := false) (own := [("k", 3)]) (ix := [3]) rfl sc_l_total.nd (fi_range1 rfl T.n_range (fab_cons (fb_of (fe_callB (dc_len) rfl T.n_len (by rfl) (fab_cons (fb_var (pv 2)) fab_nil))) fab_nil)) (blkOk_by (by kernel_rfl)) (fun _ _ _ _ _ => (fg_name (i := 3) sc_l_total.nd rfl (by first | exact Or.inl rfl | exact Or.inr rfl))) (by decide) (fun _ _ _ _ _ => fts_nil) (fun _ _ _ _ _ => (fe_cl C_l_more (hr.mono (by decide)) hg takes0 rfl (fa_cons (fe_var (pv 0)) (fa_cons (fe_var (pv 1)) (fa_cons (fe_ix (hu_of hr) (fb_var (pv 2)) (fe_var (pv 3)) (fun _ _ => rfl)) (fa_cons (fe_ix (hu_of hr) (fb_of (fe_opE do_add (fe_var (pv 2)) (fe_var (pv 2)))) (fe_opE do_add (fe_var (pv 3)) fe_int) (fun _ _ => rfl)) fa_nil))))))))) fab_nil))))
theorem ok_l_round (T : Txt P K mg) {F_l_rows : List D → R D} {F_l_total : List D → R D} (C_l_rows : CallG P w K mg base 1 "_law_rows" F_l_rows) (C_l_total : CallG P w K mg base 2 "_law_total" F_l_total) : CallG P w K mg base 3 "_law_round" (runF 4 2 (g_l_round F_l_rows F_l_total)) := T.d_l_round.call sc_l_round rfl rfl fun f cdv A outer s H E hr hg =>
  (fss_cons (fs_setLcV (i := 2) (own := [("row", 3)]) (ix := [3]) rfl sc_l_round.nd rfl rfl (by rfl) (fi_items (fe_cl C_l_rows (hr.mono (by decide)) hg bx_takes rfl (fa_cons (fe_callB (dc_len) rfl T.n_len (by rfl) (fab_cons (fb_var (pv 0)) fab_nil)) fa_nil))) (blkOk_by (by kernel_rfl)) (fun _ _ _ _ _ => (fg_name (i := 3) sc_l_round.nd rfl (by first | exact Or.inl rfl | exact Or.inr rfl))) (by decide) (fun _ _ _ _ _ => (fts_one (ft_w (fw_and (ft_cmp do_gt (fb_of (fe_callB (dc_len) rfl T.n_len (by rfl) (fab_cons (fb_var (pv 3)) fab_nil))) (fb_of fe_int) (by rfl)) (fw_and (ft_cmp (do_eq hr.units) (fb_of (fe_ix (hu_of hr) (fb_var (pv 3)) fe_int (fun _ _ => rfl))) (fb_of (fe_callB (dc_min rfl) rfl T.n_min (by rfl) (fab_cons (fb_var (pv 3)) fab_nil))) (by rfl)) (fw_and1 (ft_cmp do_gt (fb_of (fe_cl C_l_total (hr.mono (by decide)) hg takes0 rfl (fa_cons (fe_var (pv 0)) (fa_cons (fe_var (pv 1)) (fa_cons (fe_var (pv 3)) fa_nil))))) (fb_of fe_int) (by rfl)))))))) (fun _ _ _ _ _ => (fe_tup (fa_cons (fe_callB (dc_len) rfl T.n_len (by rfl) (fab_cons (fb_var (pv 3)) fab_nil)) (fa_cons (fe_var (pv 3)) fa_nil)))))
    (fss_one (fs_ret (fe_ix (hu_of hr) (fb_of (fe_ix (hu_of hr) (fb_of (fe_opE do_add (fe_of_fn (t := false) (fn_callB (dc_sortRows (units65 hr)) rfl T.n_sorted (by rfl) (fab_cons (fb_var (pv 2)) fab_nil))) (fe_of_fn (t := false) (fn_list (t := false) (fa_cons (fe_tup (fa_cons fe_int (fa_cons fe_non fa_nil))) fa_nil))))) fe_int (fun _ _ => rfl))) fe_int (fun _ _ => rfl)))))
theorem ok_l_greatest (T : Txt P K mg) {F_l_round : List D → R D} {F_l_rows : List D → R D} {F_l_more : List D → R D} (C_l_round : CallG P w K mg base 3 "_law_round" F_l_round) (C_l_rows : CallG P w K mg base 1 "_law_rows" F_l_rows) (C_l_more : CallG P w K mg base 1 "_law_more" F_l_more) : CallG P w K mg base 4 "_law_greatest" (runF 7 2 (g_l_greatest F_l_round F_l_rows F_l_more)) := T.d_l_greatest.call sc_l_greatest rfl rfl fun f cdv A outer s H E hr hg =>
  (fss_cons (fs_if (ft_cmp do_isnot (fb_of (fe_cl C_l_round (hr.mono (by decide)) hg bx_takes rfl (fa_cons (fe_var (pv 0)) (fa_cons (fe_var (pv 1)) fa_nil)))) (fb_of fe_non) (by rfl))
    (fss_one (fs_ret fe_non))
    fss_nil)
    (fss_cons (fs_setN (i := 2) sc_l_greatest.nd rfl (by first | exact Or.inl rfl | exact Or.inr rfl) (fn_list (t := false) fa_nil))
    (fss_cons (fs_for bx_owns rfl (fi_range1 rfl T.n_range (fab_cons (fb_of (fe_callB (dc_len) rfl T.n_len (by rfl) (fab_cons (fb_var (pv 0)) fab_nil))) fab_nil)) (fg_name (i := 3) sc_l_greatest.nd rfl (by first | exact Or.inl rfl | exact Or.inr rfl))
    (fss_cons (fs_setN (i := 4) sc_l_greatest.nd rfl (by first | exact Or.inl rfl | exact Or.inr rfl) (fn_op dn_times (fb_of (fe_of_fn (t := false) (fn_list (t := false) (fa_cons fe_int fa_nil)))) (fb_of (fe_callTy dc_int rfl T.n_int (by rfl) (fab_cons (fb_of (fe_cmp (do_eq hr.units) (fb_var (pv 3)) (fb_of fe_int) (by rfl))) fab_nil)))))
    (fss_cons (fs_for bx_owns rfl (fi_items (fe_cl C_l_rows (hr.mono (by decide)) hg bx_takes rfl (fa_cons (fe_callB (dc_len) rfl T.n_len (by rfl) (fab_cons (fb_var (pv 0)) fab_nil)) fa_nil))) (fg_name (i := 5) sc_l_greatest.nd rfl (by first | exact Or.inl rfl | exact Or.inr rfl))
    (fss_one (fs_if (ft_w (fw_and (ft_cmp (do_eq hr.units) (fb_of (fe_ix (hu_of hr) (fb_var (pv 5)) fe_int (fun _ _ => rfl))) (fb_of fe_int) (by rfl)) (fw_and (ft_cmp (do_eq hr.units) (fb_of (fe_ix (hu_of hr) (fb_var (pv 5)) (fe_un du_neg (fb_of fe_int)) (fun _ _ => rfl))) (fb_var (pv 3)) (by rfl)) (fw_and1 (ft_cmp do_gt (fb_of (fe_callB (dc_len) rfl T.n_len (by rfl) (fab_cons (fb_var (pv 5)) fab_nil))) (fb_of fe_int) (by rfl))))))
    (fss_one (fs_append (pv 4) (fe_callB (dc_sum rfl) rfl T.n_sum (by rfl) (fab_cons (fb_of (fe_of_fn (t := false) (fn_lc (t := false) (own := [("j", 6)]) (ix := [6]) rfl sc_l_greatest.nd (fi_range2 rfl T.n_range (fab_cons (fb_of fe_int) (fab_cons (fb_of (fe_callB (dc_len) rfl T.n_len (by rfl) (fab_cons (fb_var (pv 5)) fab_nil))) fab_nil))) (blkOk_by (by kernel_rfl)) (fun _ _ _ _ _ => (fg_name (i := 6) sc_l_greatest.nd rfl (by first | exact Or.inl rfl | exact Or.inr rfl))) (by decide) (fun _ _ _ _ _ => fts_nil) (fun _ _ _ _ _ => (fe_un du_neg (fb_of (fe_cl C_l_more (hr.mono (by decide)) hg takes0 rfl (fa_cons (fe_var (pv 0)) (fa_cons (fe_var (pv 1)) (fa_cons (fe_ix (hu_of hr) (fb_var (pv 5)) (fe_var (pv 6)) (fun _ _ => rfl)) (fa_cons (fe_ix (hu_of hr) (fb_var (pv 5)) (fe_op do_sub (fb_var (pv 6)) (fb_of fe_int)) (fun _ _ => rfl)) fa_nil))))))))))) fab_nil))))
    fss_nil)))
    (fss_one (fs_append (pv 2) (fe_callB (dc_min rfl) rfl T.n_min (by rfl) (fab_cons (fb_var (pv 4)) fab_nil)))))))
    (fss_one (fs_ret (fe_var (pv 2)))))))
theorem ok_l_rule (T : Txt P K mg) {F_l_mix : List D → R D} (C_l_mix : CallG P w K mg base 1 "_law_mix" F_l_mix) : CallG P w K mg base 2 "_law_rule" (runF 11 2 (g_l_rule F_l_mix)) := T.d_l_rule.call sc_l_rule rfl rfl fun f cdv A outer s H E hr hg =>
  (fss_cons (fs_set (i := 2) sc_l_rule.nd rfl (by first | exact Or.inl rfl | exact Or.inr rfl) (fe_opE do_add fe_int (fe_cl C_l_mix (hr.mono (by decide)) hg bx_takes rfl (fa_cons (fe_var (pv 0)) (fa_cons (fe_var (pv 1)) (fa_cons fe_int fa_nil))))))
    (fss_cons (fs_set (i := 3) sc_l_rule.nd rfl (by first | exact Or.inl rfl | exact Or.inr rfl) (fe_opE do_add fe_int (fe_cl C_l_mix (hr.mono (by decide)) hg bx_takes rfl (fa_cons (fe_var (pv 0)) (fa_cons (fe_opE do_add (fe_var (pv 1)) fe_int) (fa_cons fe_int fa_nil))))))
    (fss_cons (fs_setLcV (i := 4) (own := [("t", 8)]) (ix := [8]) rfl sc_l_rule.nd rfl rfl (by rfl) (fi_range1 rfl T.n_range (fab_cons (fb_var (pv 2)) fab_nil)) (blkOk_by (by kernel_rfl)) (fun _ _ _ _ _ => (fg_name (i := 8) sc_l_rule.nd rfl (by first | exact Or.inl rfl | exact Or.inr rfl))) (by decide) (fun _ _ _ _ _ => fts_nil) (fun _ _ _ _ _ => (fe_of_fn (t := false) (fn_lc (t := false) (own := [("j", 10)]) (ix := [10]) rfl sc_l_rule.nd (fi_range1 rfl T.n_range (fab_cons (fb_var (pv 3)) fab_nil)) (blkOk_by (by kernel_rfl)) (fun _ _ _ _ _ => (fg_name (i := 10) sc_l_rule.nd rfl (by first | exact Or.inl rfl | exact Or.inr rfl))) (by decide) (fun _ _ _ _ _ => fts_nil) (fun _ _ _ _ _ => (fe_cl C_l_mix (hr.mono (by decide)) hg takes0 rfl (fa_cons (fe_var (pv 0)) (fa_cons (fe_opE do_add (fe_opE do_add (fe_opE do_add (fe_var (pv 1)) fe_int) (fe_op do_mul (fb_of fe_int) (fb_var (pv 8)))) (fe_var (pv 10))) (fa_cons (fe_ix (hu_of hr) (fb_of (fe_of_fn (t := false) (fn_list (t := false) (fa_cons fe_int (fa_cons fe_int fa_nil))))) (fe_cl C_l_mix (hr.mono (by decide)) hg takes0 rfl (fa_cons (fe_var (pv 0)) (fa_cons (fe_opE do_add (fe_var (pv 1)) fe_int) (fa_cons fe_int fa_nil)))) (fun _ _ => rfl)) fa_nil)))))))))
    (fss_cons (fs_setLcN (i := 5) (t := false) (own := [("t", 8)]) (ix := [8]) rfl sc_l_rule.nd rfl rfl (by rfl) (fi_range1 rfl T.n_range (fab_cons (fb_var (pv 2)) fab_nil)) (blkOk_by (by kernel_rfl)) (fun _ _ _ _ _ => (fg_name (i := 8) sc_l_rule.nd rfl (by first | exact Or.inl rfl | exact Or.inr rfl))) (by decide) (fun _ _ _ _ _ => fts_nil) (fun _ _ _ _ _ => (fe_cl C_l_mix (hr.mono (by decide)) hg takes0 rfl (fa_cons (fe_var (pv 0)) (fa_cons (fe_opE do_add (fe_opE do_add (fe_var (pv 1)) fe_int) (fe_var (pv 8))) (fa_cons (fe_var (pv 3)) fa_nil))))))
    (fss_cons (fs_if (ft_cmp (do_eq hr.units) (fb_of (fe_cl C_l_mix (hr.mono (by decide)) hg bx_takes rfl (fa_cons (fe_var (pv 0)) (fa_cons (fe_opE do_add (fe_var (pv 1)) fe_int) (fa_cons fe_int fa_nil))))) (fb_of fe_int) (by rfl))
    (fss_cons (fs_set (i := 6) sc_l_rule.nd rfl (by first | exact Or.inl rfl | exact Or.inr rfl) (fe_of_fn (t := false) (fn_lc (t := false) (own := [("j", 10)]) (ix := [10]) rfl sc_l_rule.nd (fi_range1 rfl T.n_range (fab_cons (fb_var (pv 3)) fab_nil)) (blkOk_by (by kernel_rfl)) (fun _ _ _ _ _ => (fg_name (i := 10) sc_l_rule.nd rfl (by first | exact Or.inl rfl | exact Or.inr rfl))) (by decide) (fun _ _ _ _ _ => fts_nil) (fun _ _ _ _ _ => (fe_cl C_l_mix (hr.mono (by decide)) hg takes0 rfl (fa_cons (fe_var (pv 0)) (fa_cons (fe_opE do_add (fe_opE do_add (fe_var (pv 1)) fe_int) (fe_var (pv 10))) (fa_cons fe_int fa_nil))))))))
    (fss_cons (fs_setN (i := 5) sc_l_rule.nd rfl (by first | exact Or.inl rfl | exact Or.inr rfl) (fn_list (t := false) fa_nil))
    (fss_one (fs_for bx_owns rfl (fi_items (fe_var (pv 4))) (fg_name (i := 7) sc_l_rule.nd rfl (by first | exact Or.inl rfl | exact Or.inr rfl))
    (fss_cons (fs_setLcV (i := 9) (own := [("j", 10)]) (ix := [10]) rfl sc_l_rule.nd rfl rfl (by rfl) (fi_range1 rfl T.n_range (fab_cons (fb_var (pv 3)) fab_nil)) (blkOk_by (by kernel_rfl)) (fun _ _ _ _ _ => (fg_name (i := 10) sc_l_rule.nd rfl (by first | exact Or.inl rfl | exact Or.inr rfl))) (by decide) (fun _ _ _ _ _ => fts_nil) (fun _ _ _ _ _ => (fe_op do_sub (fb_of (fe_ix (hu_of hr) (fb_var (pv 7)) (fe_var (pv 10)) (fun _ _ => rfl))) (fb_of (fe_ix (hu_of hr) (fb_var (pv 6)) (fe_var (pv 10)) (fun _ _ => rfl))))))
    (fss_one (fs_append (pv 5) (fe_index (units65 hr) (fb_var (pv 9)) (fe_callB (dc_max rfl) rfl T.n_max (by rfl) (fab_cons (fb_var (pv 9)) fab_nil))))))))))
    fss_nil)
    (fss_one (fs_ret (fe_tup (fa_cons (fe_var (pv 4)) (fa_cons (fe_var (pv 5)) fa_nil))))))))))
theorem ok_l_fault (T : Txt P K mg) {F_keep_truth : List D → R D} {F_gain_of_round : List D → R D} {F_round_of_gains : List D → R D} {F_greatest_payments : List D → R D} (C_keep_truth : CallG P w K mg base 3 "keep_truth" F_keep_truth) (C_gain_of_round : CallG P w K mg base 3 "gain_of_round" F_gain_of_round) (C_round_of_gains : CallG P w K mg base 3 "round_of_gains" F_round_of_gains) (C_greatest_payments : CallG P w K mg base 3 "greatest_payments" F_greatest_payments) : CallG P w K mg base 4 "_law_fault" (runF 5 4 (g_l_fault F_keep_truth F_gain_of_round F_round_of_gains F_greatest_payments)) := T.d_l_fault.call sc_l_fault rfl rfl fun f cdv A outer s H E hr hg =>
  (fss_cons (fs_tryAt rfl rfl sc_l_fault.nd (i := 4) rfl rfl bx_takes (.inl rfl) (by decide) (by decide) (fun _ => rfl) (fun _ _ _ _ _ => rfl) (fun _ _ => rfl) (fun W1 pn1 xe1 tk1 own1 => (fss_one (fs_if (ft_cmp (do_eq hr.units) (fb_var (pv 0)) (fb_of fe_int) (by rfl))
    (fss_one (fs_expr (fe_cl C_keep_truth (hr.mono (by decide)) hg tk1 rfl (fa_cons (fe_var (pv 1)) (fa_cons (fe_var (pv 2)) (fa_cons (fe_var (pv 3)) fa_nil))))))
    (fss_one (fs_if (ft_cmp (do_eq hr.units) (fb_var (pv 0)) (fb_of fe_int) (by rfl))
    (fss_one (fs_expr (fe_cl C_gain_of_round (hr.mono (by decide)) hg tk1 rfl (fa_cons (fe_var (pv 1)) (fa_cons (fe_var (pv 2)) (fa_cons (fe_of_fn (t := false) (fn_list (t := false) (fa_cons fe_int fa_nil))) fa_nil))))))
    (fss_one (fs_expr (fe_pick (k := 3) (.cons (C_round_of_gains.mono (by decide)) rfl (by decide) rfl (.cons (C_greatest_payments.mono (by decide)) rfl (by decide) rfl .nil)) (hr.mono (by decide)) hg tk1 (fe_op do_sub (fb_var (pv 0)) (fb_of fe_int)) (fa_cons (fe_var (pv 1)) (fa_cons (fe_var (pv 2)) fa_nil)) (show (2 : Nat) ≤ sizeLine by decide) (fun _ _ => rfl))))))))) (.cons rfl (by decide) T.x_BadType.named (fa1 T.m_BadTable_BadType (fa1 T.m_BadBook_BadType (fa1 T.m_BadBidder_BadType (fa1 T.m_BadType_BadType (fa1 T.m_BadEnd_BadType (fa1 T.m_BadPaid_BadType fa0)))))) (.cons rfl (by decide) T.x_BadEnd.named (fa1 T.m_BadTable_BadEnd (fa1 T.m_BadBook_BadEnd (fa1 T.m_BadBidder_BadEnd (fa1 T.m_BadType_BadEnd (fa1 T.m_BadEnd_BadEnd (fa1 T.m_BadPaid_BadEnd fa0)))))) (.cons rfl (by decide) T.x_BadPaid.named (fa1 T.m_BadTable_BadPaid (fa1 T.m_BadBook_BadPaid (fa1 T.m_BadBidder_BadPaid (fa1 T.m_BadType_BadPaid (fa1 T.m_BadEnd_BadPaid (fa1 T.m_BadPaid_BadPaid fa0)))))) .nil))))
    (fss_one (fs_ret (fe_tup (fa_cons fe_str (fa_cons fe_int fa_nil))))))
theorem ok_l_book_fault (T : Txt P K mg) {F_rule_in : List D → R D} {F_fair_in : List D → R D} (C_rule_in : CallG P w K mg base 6 "rule_in" F_rule_in) (C_fair_in : CallG P w K mg base 9 "fair_in" F_fair_in) : CallG P w K mg base 10 "_law_book_fault" (runF 5 4 (g_l_book_fault F_rule_in F_fair_in)) := T.d_l_book_fault.call sc_l_book_fault rfl rfl fun f cdv A outer s H E hr hg =>
  (fss_cons (fs_tryAt rfl rfl sc_l_book_fault.nd (i := 4) rfl rfl bx_takes (.inl rfl) (by decide) (by decide) (fun _ => rfl) (fun _ _ _ _ _ => rfl) (fun _ _ => rfl) (fun W1 pn1 xe1 tk1 own1 => (fss_one (fs_expr (fe_pick (k := 9) (.cons (C_rule_in.mono (by decide)) rfl (by decide) rfl (.cons (C_fair_in.mono (by decide)) rfl (by decide) rfl .nil)) (hr.mono (by decide)) hg tk1 (fe_var (pv 0)) (fa_cons (fe_var (pv 1)) (fa_cons (fe_var (pv 2)) (fa_cons (fe_var (pv 3)) fa_nil))) (show (2 : Nat) ≤ sizeLine by decide) (fun _ _ => rfl))))) (.cons rfl (by decide) T.x_BadBook.named (fa1 T.m_BadTable_BadBook (fa1 T.m_BadBook_BadBook (fa1 T.m_BadBidder_BadBook (fa1 T.m_BadType_BadBook (fa1 T.m_BadEnd_BadBook (fa1 T.m_BadPaid_BadBook fa0)))))) (.cons rfl (by decide) T.x_BadBidder.named (fa1 T.m_BadTable_BadBidder (fa1 T.m_BadBook_BadBidder (fa1 T.m_BadBidder_BadBidder (fa1 T.m_BadType_BadBidder (fa1 T.m_BadEnd_BadBidder (fa1 T.m_BadPaid_BadBidder fa0)))))) (.cons rfl (by decide) T.x_BadTable.named (fa1 T.m_BadTable_BadTable (fa1 T.m_BadBook_BadTable (fa1 T.m_BadBidder_BadTable (fa1 T.m_BadType_BadTable (fa1 T.m_BadEnd_BadTable (fa1 T.m_BadPaid_BadTable fa0)))))) .nil))))
    (fss_one (fs_ret (fe_tup (fa_cons fe_str (fa_cons fe_int fa_nil))))))
theorem ok_l_faults (T : Txt P K mg) {F_l_fault : List D → R D} {F_l_book_fault : List D → R D} (C_l_fault : CallG P w K mg base 4 "_law_fault" F_l_fault) (C_l_book_fault : CallG P w K mg base 10 "_law_book_fault" F_l_book_fault) : CallG P w K mg base 11 "_law_faults" (runF 5 0 (g_l_faults F_l_fault F_l_book_fault)) := T.d_l_faults.call sc_l_faults rfl rfl fun f cdv A outer s H E hr hg =>
  (fss_cons (fs_for bx_owns rfl (fi_range1 rfl T.n_range (fab_cons (fb_of fe_int) fab_nil)) (fg_name (i := 0) sc_l_faults.nd rfl (by first | exact Or.inl rfl | exact Or.inr rfl))
    (fss_cons (fs_if (ft_w (fw_or (ft_cmp (do_ne hr.units) (fb_of (fe_cl C_l_fault (hr.mono (by decide)) hg bx_takes rfl (fa_cons (fe_var (pv 0)) (fa_cons (fe_of_fn (t := false) (fn_list (t := false) fa_nil)) (fa_cons (fe_of_fn (t := false) (fn_list (t := false) (fa_cons fe_int fa_nil))) (fa_cons (fe_of_fn (t := false) (fn_list (t := false) fa_nil)) fa_nil)))))) (fb_of (fe_tup (fa_cons fe_str (fa_cons (fe_un du_neg (fb_of fe_int)) fa_nil)))) (by rfl)) (fw_or1 (ft_cmp (do_ne hr.units) (fb_of (fe_cl C_l_fault (hr.mono (by decide)) hg bx_takes rfl (fa_cons (fe_var (pv 0)) (fa_cons (fe_op do_mul (fb_of (fe_of_fn (t := false) (fn_list (t := false) (fa_cons (fe_of_fn (t := false) (fn_list (t := false) (fa_cons fe_int fa_nil))) fa_nil)))) (fb_of fe_int)) (fa_cons (fe_of_fn (t := false) (fn_list (t := false) (fa_cons fe_int fa_nil))) (fa_cons (fe_of_fn (t := false) (fn_list (t := false) fa_nil)) fa_nil)))))) (fb_of (fe_tup (fa_cons fe_str (fa_cons (fe_un du_neg (fb_of fe_int)) fa_nil)))) (by rfl)))))
    (fss_one (fs_ret fe_bl))
    fss_nil)
    (fss_cons (fs_for bx_owns rfl (fi_items (fe_of_fn (t := false) (fn_list (t := false) (fa_cons (fe_of_fn (t := false) (fn_list (t := false) fa_nil)) (fa_cons (fe_of_fn (t := false) (fn_list (t := false) (fa_cons fe_int fa_nil))) (fa_cons (fe_of_fn (t := false) (fn_list (t := false) (fa_cons fe_int (fa_cons (fe_un du_neg (fb_of fe_int)) fa_nil)))) (fa_cons (fe_of_fn (t := false) (fn_list (t := false) (fa_cons fe_int (fa_cons fe_int fa_nil)))) (fa_cons (fe_op do_mul (fb_of (fe_of_fn (t := false) (fn_list (t := false) (fa_cons fe_int fa_nil)))) (fb_of fe_int)) fa_nil)))))))) (fg_name (i := 2) sc_l_faults.nd rfl (by first | exact Or.inl rfl | exact Or.inr rfl))
    (fss_one (fs_if (ft_cmp (do_ne hr.units) (fb_of (fe_cl C_l_fault (hr.mono (by decide)) hg bx_takes rfl (fa_cons (fe_var (pv 0)) (fa_cons (fe_of_fn (t := false) (fn_list (t := false) (fa_cons (fe_of_fn (t := false) (fn_list (t := false) (fa_cons fe_int (fa_cons fe_int fa_nil)))) (fa_cons (fe_var (pv 2)) fa_nil)))) (fa_cons (fe_of_fn (t := false) (fn_list (t := false) (fa_cons fe_int fa_nil))) (fa_cons (fe_of_fn (t := false) (fn_list (t := false) fa_nil)) fa_nil)))))) (fb_of (fe_tup (fa_cons fe_str (fa_cons fe_int fa_nil)))) (by rfl))
    (fss_one (fs_ret fe_bl))
    fss_nil)))
    (fss_one (fs_for bx_owns rfl (fi_items (fe_of_fn (t := false) (fn_list (t := false) (fa_cons (fe_tup (fa_cons (fe_of_fn (t := false) (fn_list (t := false) (fa_cons fe_int (fa_cons fe_int fa_nil)))) (fa_cons fe_int fa_nil))) (fa_cons (fe_tup (fa_cons (fe_of_fn (t := false) (fn_list (t := false) (fa_cons (fe_un du_neg (fb_of fe_int)) (fa_cons fe_int fa_nil)))) (fa_cons fe_int fa_nil))) (fa_cons (fe_tup (fa_cons (fe_of_fn (t := false) (fn_list (t := false) (fa_cons fe_int fa_nil))) (fa_cons fe_int fa_nil))) (fa_cons (fe_tup (fa_cons (fe_of_fn (t := false) (fn_list (t := false) (fa_cons fe_int (fa_cons fe_int (fa_cons fe_int fa_nil))))) (fa_cons fe_int fa_nil))) (fa_cons (fe_tup (fa_cons (fe_of_fn (t := false) (fn_list (t := false) fa_nil)) (fa_cons fe_int fa_nil))) fa_nil)))))))) (fg_tup rfl (fgs_cons (fg_name (i := 3) sc_l_faults.nd rfl (by first | exact Or.inl rfl | exact Or.inr rfl)) (fgs_cons (fg_name (i := 4) sc_l_faults.nd rfl (by first | exact Or.inl rfl | exact Or.inr rfl)) fgs_nil)) (fun _ _ _ => gC_len (fun _ _ _ => gC_len (fun _ _ _ => gE_len))))
    (fss_one (fs_if (ft_cmp (do_ne hr.units) (fb_of (fe_cl C_l_fault (hr.mono (by decide)) hg bx_takes rfl (fa_cons (fe_var (pv 0)) (fa_cons (fe_of_fn (t := false) (fn_list (t := false) (fa_cons (fe_of_fn (t := false) (fn_list (t := false) (fa_cons fe_int (fa_cons fe_int fa_nil)))) (fa_cons (fe_of_fn (t := false) (fn_list (t := false) (fa_cons fe_int (fa_cons fe_int fa_nil)))) fa_nil)))) (fa_cons (fe_var (pv 3)) (fa_cons (fe_of_fn (t := false) (fn_list (t := false) fa_nil)) fa_nil)))))) (fb_of (fe_tup (fa_cons fe_str (fa_cons (fe_var (pv 4)) fa_nil)))) (by rfl))
    (fss_one (fs_ret fe_bl))
    fss_nil)))))))
    (fss_cons (fs_set (i := 1) sc_l_faults.nd rfl (by first | exact Or.inl rfl | exact Or.inr rfl) (fe_of_fn (t := false) (fn_list (t := false) (fa_cons fe_int (fa_cons fe_int fa_nil)))))
    (fss_cons (fs_for bx_owns rfl (fi_range1 rfl T.n_range (fab_cons (fb_of fe_int) fab_nil)) (fg_name (i := 0) sc_l_faults.nd rfl (by first | exact Or.inl rfl | exact Or.inr rfl))
    (fss_cons (fs_if (ft_w (fw_or (ft_cmp (do_ne hr.units) (fb_of (fe_cl C_l_book_fault (hr.mono (by decide)) hg bx_takes rfl (fa_cons (fe_var (pv 0)) (fa_cons (fe_of_fn (t := false) (fn_list (t := false) fa_nil)) (fa_cons fe_int (fa_cons (fe_of_fn (t := false) (fn_list (t := false) fa_nil)) fa_nil)))))) (fb_of (fe_tup (fa_cons fe_str (fa_cons fe_int fa_nil)))) (by rfl)) (fw_or (ft_cmp (do_ne hr.units) (fb_of (fe_cl C_l_book_fault (hr.mono (by decide)) hg bx_takes rfl (fa_cons (fe_var (pv 0)) (fa_cons (fe_of_fn (t := false) (fn_list (t := false) (fa_cons (fe_var (pv 1)) fa_nil))) (fa_cons fe_int (fa_cons (fe_of_fn (t := false) (fn_list (t := false) fa_nil)) fa_nil)))))) (fb_of (fe_tup (fa_cons fe_str (fa_cons fe_int fa_nil)))) (by rfl)) (fw_or1 (ft_cmp (do_ne hr.units) (fb_of (fe_cl C_l_book_fault (hr.mono (by decide)) hg bx_takes rfl (fa_cons (fe_var (pv 0)) (fa_cons (fe_of_fn (t := false) (fn_list (t := false) (fa_cons (fe_var (pv 1)) fa_nil))) (fa_cons fe_int (fa_cons (fe_of_fn (t := false) (fn_list (t := false) fa_nil)) fa_nil)))))) (fb_of (fe_tup (fa_cons fe_str (fa_cons (fe_un du_neg (fb_of fe_int)) fa_nil)))) (by rfl))))))
    (fss_one (fs_ret fe_bl))
    fss_nil)
    (fss_one (fs_if (ft_w (fw_or (ft_cmp (do_ne hr.units) (fb_of (fe_cl C_l_book_fault (hr.mono (by decide)) hg bx_takes rfl (fa_cons (fe_var (pv 0)) (fa_cons (fe_of_fn (t := false) (fn_list (t := false) (fa_cons (fe_var (pv 1)) fa_nil))) (fa_cons fe_int (fa_cons (fe_op do_mul (fb_of (fe_of_fn (t := false) (fn_list (t := false) (fa_cons (fe_var (pv 1)) fa_nil)))) (fb_of fe_int)) fa_nil)))))) (fb_of (fe_tup (fa_cons fe_str (fa_cons (fe_un du_neg (fb_of fe_int)) fa_nil)))) (by rfl)) (fw_or1 (ft_cmp (do_ne hr.units) (fb_of (fe_cl C_l_book_fault (hr.mono (by decide)) hg bx_takes rfl (fa_cons (fe_var (pv 0)) (fa_cons (fe_of_fn (t := false) (fn_list (t := false) (fa_cons (fe_var (pv 1)) fa_nil))) (fa_cons fe_int (fa_cons (fe_of_fn (t := false) (fn_list (t := false) (fa_cons (fe_var (pv 1)) (fa_cons (fe_of_fn (t := false) (fn_list (t := false) (fa_cons fe_int (fa_cons fe_int (fa_cons fe_int (fa_cons fe_int fa_nil)))))) fa_nil)))) fa_nil)))))) (fb_of (fe_tup (fa_cons fe_str (fa_cons fe_int fa_nil)))) (by rfl)))))
    (fss_one (fs_ret fe_bl))
    fss_nil))))
    (fss_one (fs_ret (fe_cmp (do_eq hr.units) (fb_of (fe_cl C_l_fault (hr.mono (by decide)) hg bx_takes rfl (fa_cons fe_int (fa_cons (fe_of_fn (t := false) (fn_list (t := false) (fa_cons (fe_of_fn (t := false) (fn_list (t := false) (fa_cons fe_int (fa_cons fe_int fa_nil)))) fa_nil))) (fa_cons (fe_of_fn (t := false) (fn_list (t := false) (fa_cons fe_int fa_nil))) (fa_cons (fe_of_fn (t := false) (fn_list (t := false) fa_nil)) fa_nil)))))) (fb_of (fe_tup (fa_cons fe_str (fa_cons fe_int fa_nil)))) (by rfl)))))))
theorem ok_law (T : Txt P K mg) {F_l_draws : List Int → R D} {F_l_rule : List D → R D} {F_l_round : List D → R D} {F_greatest_payments : List D → R D} {F_round_of_gains : List D → R D} {F_l_greatest : List D → R D} {F_keep_truth : List D → R D} {F_l_keeps : List D → R D} {F_l_mix : List D → R D} {F_l_rows : List D → R D} {F_gain_of_round : List D → R D} {F_l_total : List D → R D} {F_l_book : List D → R D} {F_l_drawn : List D → R D} {F_rule_in : List D → R D} {F_l_numbers : List D → R D} {F_l_best : List D → R D} {F_l_paid : List D → R D} {F_fair_in : List D → R D} {F_l_faults : List D → R D} (C_l_draws : CallS P w K mg base 1 "_law_draws" F_l_draws) (C_l_rule : CallG P w K mg base 2 "_law_rule" F_l_rule) (C_l_round : CallG P w K mg base 3 "_law_round" F_l_round) (C_greatest_payments : CallG P w K mg base 3 "greatest_payments" F_greatest_payments) (C_round_of_gains : CallG P w K mg base 3 "round_of_gains" F_round_of_gains) (C_l_greatest : CallG P w K mg base 4 "_law_greatest" F_l_greatest) (C_keep_truth : CallG P w K mg base 3 "keep_truth" F_keep_truth) (C_l_keeps : CallG P w K mg base 1 "_law_keeps" F_l_keeps) (C_l_mix : CallG P w K mg base 1 "_law_mix" F_l_mix) (C_l_rows : CallG P w K mg base 1 "_law_rows" F_l_rows) (C_gain_of_round : CallG P w K mg base 3 "gain_of_round" F_gain_of_round) (C_l_total : CallG P w K mg base 2 "_law_total" F_l_total) (C_l_book : CallG P w K mg base 3 "_law_book" F_l_book) (C_l_drawn : CallG P w K mg base 2 "_law_drawn" F_l_drawn) (C_rule_in : CallG P w K mg base 6 "rule_in" F_rule_in) (C_l_numbers : CallG P w K mg base 1 "_law_numbers" F_l_numbers) (C_l_best : CallG P w K mg base 3 "_law_best" F_l_best) (C_l_paid : CallG P w K mg base 4 "_law_paid" F_l_paid) (C_fair_in : CallG P w K mg base 9 "fair_in" F_fair_in) (C_l_faults : CallG P w K mg base 11 "_law_faults" F_l_faults) : CallS P w K mg base 12 "law" (runS 21 (g_law F_l_draws F_l_rule F_l_round F_greatest_payments F_round_of_gains F_l_greatest F_keep_truth F_l_keeps F_l_mix F_l_rows F_gain_of_round F_l_total F_l_book F_l_drawn F_rule_in F_l_numbers F_l_best F_l_paid F_fair_in F_l_faults)) := T.d_law.callS sc_law rfl fun f cdv A outer s H E hr hg =>
  (fss_cons (fs_set (i := 1) sc_law.nd rfl (by first | exact Or.inl rfl | exact Or.inr rfl) (fe_clS C_l_draws (hr.mono (by decide)) hg bx_takes rfl (pv 0)))
    (fss_cons (fs_asg (fe_cl C_l_rule (hr.mono (by decide)) hg bx_takes rfl (fa_cons (fe_var (pv 1)) (fa_cons fe_int fa_nil))) (fg_tup rfl (fgs_cons (fg_name (i := 15) sc_law.nd rfl (by first | exact Or.inl rfl | exact Or.inr rfl)) (fgs_cons (fg_name (i := 16) sc_law.nd rfl (by first | exact Or.inl rfl | exact Or.inr rfl)) fgs_nil)) (fun _ _ _ => gC_len (fun _ _ _ => gC_len (fun _ _ _ => gE_len)))))
    (fss_cons (fs_set (i := 2) sc_law.nd rfl (by first | exact Or.inl rfl | exact Or.inr rfl) (fe_repr (units65 hr) hg rfl T.n_repr (fe_tup (fa_cons (fe_var (pv 15)) (fa_cons (fe_var (pv 16)) fa_nil)))))
    (fss_cons (fs_set (i := 3) sc_law.nd rfl (by first | exact Or.inl rfl | exact Or.inr rfl) (fe_cl C_l_round (hr.mono (by decide)) hg bx_takes rfl (fa_cons (fe_var (pv 15)) (fa_cons (fe_var (pv 16)) fa_nil))))
    (fss_cons (fs_set (i := 4) sc_law.nd rfl (by first | exact Or.inl rfl | exact Or.inr rfl) (fe_cl C_greatest_payments (hr.mono (by decide)) hg bx_takes rfl (fa_cons (fe_var (pv 15)) (fa_cons (fe_var (pv 16)) fa_nil))))
    (fss_cons (fs_if (ft_w (fw_or (ft_cmp (do_ne hr.units) (fb_of (fe_repr (units65 hr) hg rfl T.n_repr (fe_cl C_round_of_gains (hr.mono (by decide)) hg bx_takes rfl (fa_cons (fe_var (pv 15)) (fa_cons (fe_var (pv 16)) fa_nil))))) (fb_of (fe_repr (units65 hr) hg rfl T.n_repr (fe_var (pv 3)))) (by rfl)) (fw_or (ft_cmp (do_ne hr.units) (fb_of (fe_repr (units65 hr) hg rfl T.n_repr (fe_var (pv 4)))) (fb_of (fe_repr (units65 hr) hg rfl T.n_repr (fe_cl C_l_greatest (hr.mono (by decide)) hg bx_takes rfl (fa_cons (fe_var (pv 15)) (fa_cons (fe_var (pv 16)) fa_nil))))) (by rfl)) (fw_or1 (ft_cmp (do_ne hr.units) (fb_of (fe_cmp do_is (fb_var (pv 4)) (fb_of fe_non) (by rfl))) (fb_of (fe_cmp do_isnot (fb_var (pv 3)) (fb_of fe_non) (by rfl))) (by rfl))))))
    (fss_one (fs_ret fe_bl))
    fss_nil)
    (fss_cons (fs_if (ft_w (fw_and (ft_cmp do_isnot (fb_var (pv 4)) (fb_of fe_non) (by rfl)) (fw_and1 (ft_w (fw_or (ft_cmp do_isnot (fb_of (fe_cl C_keep_truth (hr.mono (by decide)) hg bx_takes rfl (fa_cons (fe_var (pv 15)) (fa_cons (fe_var (pv 16)) (fa_cons (fe_var (pv 4)) fa_nil))))) (fb_of fe_bl) (by rfl)) (fw_or (ft_not (ft_val (fe_cl C_l_keeps (hr.mono (by decide)) hg bx_takes rfl (fa_cons (fe_var (pv 15)) (fa_cons (fe_var (pv 16)) (fa_cons (fe_var (pv 4)) fa_nil)))))) (fw_or1 (ft_cmp (do_ne hr.units) (fb_of (fe_ix (hu_of hr) (fb_var (pv 4)) fe_int (fun _ _ => rfl))) (fb_of fe_int) (by rfl)))))))))
    (fss_one (fs_ret fe_bl))
    fss_nil)
    (fss_cons (fs_for bx_owns rfl (fi_range1 rfl T.n_range (fab_cons (fb_of fe_int) fab_nil)) (fg_name (i := 5) sc_law.nd rfl (by first | exact Or.inl rfl | exact Or.inr rfl))
    (fss_cons (fs_set (i := 17) sc_law.nd rfl (by first | exact Or.inl rfl | exact Or.inr rfl) (fe_of_fn (t := false) (fn_lc (t := false) (own := [("j", 20)]) (ix := [20]) rfl sc_law.nd (fi_range1 rfl T.n_range (fab_cons (fb_of (fe_callB (dc_len) rfl T.n_len (by rfl) (fab_cons (fb_var (pv 15)) fab_nil))) fab_nil)) (blkOk_by (by kernel_rfl)) (fun _ _ _ _ _ => (fg_name (i := 20) sc_law.nd rfl (by first | exact Or.inl rfl | exact Or.inr rfl))) (by decide) (fun _ _ _ _ _ => fts_nil) (fun _ _ _ _ _ => (fe_op do_sub (fb_of (fe_cl C_l_mix (hr.mono (by decide)) hg takes0 rfl (fa_cons (fe_var (pv 1)) (fa_cons (fe_opE do_add (fe_opE do_add fe_int (fe_op do_mul (fb_of fe_int) (fb_var (pv 5)))) (fe_var (pv 20))) (fa_cons fe_int fa_nil))))) (fb_of fe_int))))))
    (fss_cons (fs_if (ft_w (fw_and (ft_cmp (do_lt hr.units) (fb_var (pv 5)) (fb_of fe_int) (by rfl)) (fw_and1 (ft_cmp do_isnot (fb_var (pv 4)) (fb_of fe_non) (by rfl)))))
    (fss_one (fs_set (i := 17) sc_law.nd rfl (by first | exact Or.inl rfl | exact Or.inr rfl) (fe_of_fn (t := false) (fn_lc (t := false) (own := [("j", 20)]) (ix := [20]) rfl sc_law.nd (fi_range1 rfl T.n_range (fab_cons (fb_of (fe_callB (dc_len) rfl T.n_len (by rfl) (fab_cons (fb_var (pv 15)) fab_nil))) fab_nil)) (blkOk_by (by kernel_rfl)) (fun _ _ _ _ _ => (fg_name (i := 20) sc_law.nd rfl (by first | exact Or.inl rfl | exact Or.inr rfl))) (by decide) (fun _ _ _ _ _ => fts_nil) (fun _ _ _ _ _ => (fe_opE do_add (fe_ix (hu_of hr) (fb_var (pv 4)) (fe_var (pv 20)) (fun _ _ => rfl)) (fe_op do_mul (fb_of (fe_callTy dc_int rfl T.n_int (by rfl) (fab_cons (fb_of (fe_cmp (do_eq hr.units) (fb_var (pv 5)) (fb_of fe_int) (by rfl))) fab_nil))) (fb_of (fe_callTy dc_int rfl T.n_int (by rfl) (fab_cons (fb_of (fe_cmp do_gt (fb_var (pv 20)) (fb_of fe_int) (by rfl))) fab_nil))))))))))
    fss_nil)
    (fss_cons (fs_set (i := 18) sc_law.nd rfl (by first | exact Or.inl rfl | exact Or.inr rfl) (fe_cl C_l_keeps (hr.mono (by decide)) hg bx_takes rfl (fa_cons (fe_var (pv 15)) (fa_cons (fe_var (pv 16)) (fa_cons (fe_var (pv 17)) fa_nil)))))
    (fss_cons (fs_if (ft_w (fw_or (ft_cmp (do_ne hr.units) (fb_of (fe_repr (units65 hr) hg rfl T.n_repr (fe_cl C_keep_truth (hr.mono (by decide)) hg bx_takes rfl (fa_cons (fe_var (pv 15)) (fa_cons (fe_var (pv 16)) (fa_cons (fe_var (pv 17)) fa_nil)))))) (fb_of (fe_repr (units65 hr) hg rfl T.n_repr (fe_var (pv 18)))) (by rfl)) (fw_or1 (ft_w (fw_and (ft_val (fe_var (pv 18))) (fw_and1 (ft_cmp do_isnot (fb_var (pv 3)) (fb_of fe_non) (by rfl))))))))
    (fss_one (fs_ret fe_bl))
    fss_nil)
    (fss_one (fs_if (ft_w (fw_and (ft_val (fe_var (pv 18))) (fw_and1 (ft_cmp (do_ne hr.units) (fb_of (fe_of_fn (t := false) (fn_lc (t := false) (own := [("j", 20)]) (ix := [20]) rfl sc_law.nd (fi_range1 rfl T.n_range (fab_cons (fb_of (fe_callB (dc_len) rfl T.n_len (by rfl) (fab_cons (fb_var (pv 15)) fab_nil))) fab_nil)) (blkOk_by (by kernel_rfl)) (fun _ _ _ _ _ => (fg_name (i := 20) sc_law.nd rfl (by first | exact Or.inl rfl | exact Or.inr rfl))) (by decide) (fun _ _ _ _ _ => (fts_one (ft_cmp do_gt (fb_of (fe_op do_sub (fb_of (fe_ix (hu_of hr) (fb_var (pv 17)) (fe_var (pv 20)) (fun _ _ => rfl))) (fb_of (fe_ix (hu_of hr) (fb_var (pv 17)) fe_int (fun _ _ => rfl))))) (fb_of (fe_ix (hu_of hr) (fb_var (pv 4)) (fe_var (pv 20)) (fun _ _ => rfl))) (by rfl)))) (fun _ _ _ _ _ => (fe_var (pv 20)))))) (fb_of (fe_of_fn (t := false) (fn_list (t := false) fa_nil))) (by rfl)))))
    (fss_one (fs_ret fe_bl))
    fss_nil)))))))
    (fss_cons (fs_set (i := 6) sc_law.nd rfl (by first | exact Or.inl rfl | exact Or.inr rfl) (fe_ix (hu_of hr) (fb_of (fe_cl C_l_rows (hr.mono (by decide)) hg bx_takes rfl (fa_cons (fe_callB (dc_len) rfl T.n_len (by rfl) (fab_cons (fb_var (pv 15)) fab_nil)) fa_nil))) (fe_cl C_l_mix (hr.mono (by decide)) hg bx_takes rfl (fa_cons (fe_var (pv 1)) (fa_cons fe_int (fa_cons (fe_callB (dc_len) rfl T.n_len (by rfl) (fab_cons (fb_of (fe_cl C_l_rows (hr.mono (by decide)) hg bx_takes rfl (fa_cons (fe_callB (dc_len) rfl T.n_len (by rfl) (fab_cons (fb_var (pv 15)) fab_nil)) fa_nil))) fab_nil)) fa_nil)))) (fun _ _ => rfl)))
    (fss_cons (fs_if (ft_cmp (do_ne hr.units) (fb_of (fe_cl C_gain_of_round (hr.mono (by decide)) hg bx_takes rfl (fa_cons (fe_var (pv 15)) (fa_cons (fe_var (pv 16)) (fa_cons (fe_var (pv 6)) fa_nil))))) (fb_of (fe_cl C_l_total (hr.mono (by decide)) hg bx_takes rfl (fa_cons (fe_var (pv 15)) (fa_cons (fe_var (pv 16)) (fa_cons (fe_var (pv 6)) fa_nil))))) (by rfl))
    (fss_one (fs_ret fe_bl))
    fss_nil)
    (fss_cons (fs_set (i := 7) sc_law.nd rfl (by first | exact Or.inl rfl | exact Or.inr rfl) (fe_of_fn (t := false) (fn_list (t := false) (fa_cons (fe_of_fn (t := false) (fn_list (t := false) (fa_cons fe_int (fa_cons fe_int (fa_cons fe_int fa_nil))))) (fa_cons (fe_of_fn (t := false) (fn_list (t := false) (fa_cons fe_int (fa_cons fe_int (fa_cons fe_int fa_nil))))) (fa_cons (fe_of_fn (t := false) (fn_list (t := false) (fa_cons fe_int (fa_cons fe_int (fa_cons fe_int fa_nil))))) fa_nil))))))
    (fss_cons (fs_if (ft_w (fw_or (ft_cmp (do_ne hr.units) (fb_of (fe_cl C_round_of_gains (hr.mono (by decide)) hg bx_takes rfl (fa_cons (fe_var (pv 7)) (fa_cons (fe_of_fn (t := false) (fn_list (t := false) (fa_cons fe_int (fa_cons fe_int (fa_cons fe_int fa_nil))))) fa_nil)))) (fb_of (fe_of_fn (t := false) (fn_list (t := false) (fa_cons fe_int (fa_cons fe_int (fa_cons fe_int fa_nil)))))) (by rfl)) (fw_or1 (ft_cmp do_isnot (fb_of (fe_cl C_greatest_payments (hr.mono (by decide)) hg bx_takes rfl (fa_cons (fe_var (pv 7)) (fa_cons (fe_of_fn (t := false) (fn_list (t := false) (fa_cons fe_int (fa_cons fe_int (fa_cons fe_int fa_nil))))) fa_nil)))) (fb_of fe_non) (by rfl)))))
    (fss_one (fs_ret fe_bl))
    fss_nil)
    (fss_cons (fs_set (i := 8) sc_law.nd rfl (by first | exact Or.inl rfl | exact Or.inr rfl) (fe_opE do_add fe_int (fe_cl C_l_mix (hr.mono (by decide)) hg bx_takes rfl (fa_cons (fe_var (pv 1)) (fa_cons fe_int (fa_cons fe_int fa_nil))))))
    (fss_cons (fs_set (i := 9) sc_law.nd rfl (by first | exact Or.inl rfl | exact Or.inr rfl) (fe_cl C_l_book (hr.mono (by decide)) hg bx_takes rfl (fa_cons (fe_var (pv 1)) (fa_cons fe_int (fa_cons fe_int (fa_cons (fe_var (pv 8)) fa_nil))))))
    (fss_cons (fs_set (i := 10) sc_law.nd rfl (by first | exact Or.inl rfl | exact Or.inr rfl) (fe_cl C_l_mix (hr.mono (by decide)) hg bx_takes rfl (fa_cons (fe_var (pv 1)) (fa_cons fe_int (fa_cons (fe_callB (dc_len) rfl T.n_len (by rfl) (fab_cons (fb_var (pv 9)) fab_nil)) fa_nil)))))
    (fss_cons (fs_setLcV (i := 11) (own := [("t", 5)]) (ix := [5]) rfl sc_law.nd rfl rfl (by rfl) (fi_range1 rfl T.n_range (fab_cons (fb_of (fe_opE do_add fe_int (fe_cl C_l_mix (hr.mono (by decide)) hg bx_takes rfl (fa_cons (fe_var (pv 1)) (fa_cons fe_int (fa_cons fe_int fa_nil)))))) fab_nil)) (blkOk_by (by kernel_rfl)) (fun _ _ _ _ _ => (fg_name (i := 5) sc_law.nd rfl (by first | exact Or.inl rfl | exact Or.inr rfl))) (by decide) (fun _ _ _ _ _ => fts_nil) (fun _ _ _ _ _ => (fe_cl C_l_drawn (hr.mono (by decide)) hg takes0 rfl (fa_cons (fe_var (pv 1)) (fa_cons (fe_opE do_add fe_int (fe_op do_mul (fb_of fe_int) (fb_var (pv 5)))) (fa_cons (fe_var (pv 8)) fa_nil))))))
    (fss_cons (fs_set (i := 12) sc_law.nd rfl (by first | exact Or.inl rfl | exact Or.inr rfl) (fe_cl C_rule_in (hr.mono (by decide)) hg bx_takes rfl (fa_cons (fe_var (pv 9)) (fa_cons (fe_var (pv 10)) (fa_cons (fe_var (pv 11)) fa_nil)))))
    (fss_cons (fs_setLcV (i := 13) (own := [("table", 19)]) (ix := [19]) rfl sc_law.nd rfl rfl (by rfl) (fi_items (fe_var (pv 11))) (blkOk_by (by kernel_rfl)) (fun _ _ _ _ _ => (fg_name (i := 19) sc_law.nd rfl (by first | exact Or.inl rfl | exact Or.inr rfl))) (by decide) (fun _ _ _ _ _ => fts_nil) (fun _ _ _ _ _ => (fe_ix (hu_of hr) (fb_of (fe_cl C_l_numbers (hr.mono (by decide)) hg takes0 rfl (fa_cons (fe_ix (hu_of hr) (fb_of (fe_cl C_l_best (hr.mono (by decide)) hg takes0 rfl (fa_cons (fe_opE do_add (fe_opE do_add (fe_slice (fe_var (pv 9)) fo_none (fo_some (fe_var (pv 10)))) (fe_of_fn (t := false) (fn_list (t := false) (fa_cons (fe_var (pv 19)) fa_nil)))) (fe_slice (fe_var (pv 9)) (fo_some (fe_opE do_add (fe_var (pv 10)) fe_int)) fo_none)) (fa_cons (fe_var (pv 8)) fa_nil)))) fe_int (fun _ _ => rfl)) fa_nil))) (fe_var (pv 10)) (fun _ _ => rfl))))
    (fss_cons (fs_setLcV (i := 14) (own := [("table", 19)]) (ix := [19]) rfl sc_law.nd rfl rfl (by rfl) (fi_items (fe_var (pv 11))) (blkOk_by (by kernel_rfl)) (fun _ _ _ _ _ => (fg_name (i := 19) sc_law.nd rfl (by first | exact Or.inl rfl | exact Or.inr rfl))) (by decide) (fun _ _ _ _ _ => fts_nil) (fun _ _ _ _ _ => (fe_ix (hu_of hr) (fb_of (fe_cl C_l_paid (hr.mono (by decide)) hg takes0 rfl (fa_cons (fe_opE do_add (fe_opE do_add (fe_slice (fe_var (pv 9)) fo_none (fo_some (fe_var (pv 10)))) (fe_of_fn (t := false) (fn_list (t := false) (fa_cons (fe_var (pv 19)) fa_nil)))) (fe_slice (fe_var (pv 9)) (fo_some (fe_opE do_add (fe_var (pv 10)) fe_int)) fo_none)) (fa_cons (fe_var (pv 8)) (fa_cons fe_str fa_nil))))) (fe_var (pv 10)) (fun _ _ => rfl))))
    (fss_cons (fs_if (ft_w (fw_or (ft_cmp (do_ne hr.units) (fb_of (fe_repr (units65 hr) hg rfl T.n_repr (fe_var (pv 12)))) (fb_of (fe_repr (units65 hr) hg rfl T.n_repr (fe_tup (fa_cons (fe_var (pv 11)) (fa_cons (fe_var (pv 13)) fa_nil))))) (by rfl)) (fw_or1 (ft_cmp (do_ne hr.units) (fb_of (fe_cl C_fair_in (hr.mono (by decide)) hg bx_takes rfl (fa_cons (fe_var (pv 9)) (fa_cons (fe_var (pv 10)) (fa_cons (fe_var (pv 11)) fa_nil))))) (fb_var (pv 14)) (by rfl)))))
    (fss_one (fs_ret fe_bl))
    fss_nil)
    (fss_cons (fs_if (ft_w (fw_or (ft_cmp do_isnot (fb_of (fe_cl C_round_of_gains (hr.mono (by decide)) hg bx_takes rfl (fa_cons (fe_ix (hu_of hr) (fb_var (pv 12)) fe_int (fun _ _ => rfl)) (fa_cons (fe_ix (hu_of hr) (fb_var (pv 12)) fe_int (fun _ _ => rfl)) fa_nil)))) (fb_of fe_non) (by rfl)) (fw_or1 (ft_cmp do_isnot (fb_of (fe_cl C_keep_truth (hr.mono (by decide)) hg bx_takes rfl (fa_cons (fe_ix (hu_of hr) (fb_var (pv 12)) fe_int (fun _ _ => rfl)) (fa_cons (fe_ix (hu_of hr) (fb_var (pv 12)) fe_int (fun _ _ => rfl)) (fa_cons (fe_var (pv 14)) fa_nil))))) (fb_of fe_bl) (by rfl)))))
    (fss_one (fs_ret fe_bl))
    fss_nil)
    (fss_one (fs_ret (fe_and (fe_cmp (do_eq hr.units) (fb_of (fe_repr (units65 hr) hg rfl T.n_repr (fe_tup (fa_cons (fe_var (pv 15)) (fa_cons (fe_var (pv 16)) fa_nil))))) (fb_var (pv 2)) (by rfl)) (fe_one (fe_cl0 C_l_faults (hr.mono (by decide)) hg bx_takes rfl))))))))))))))))))))))))))
end
section
variable {P : Program} {w : World} {K : Frg} {mg : MgT} {base : Heap}
theorem c_number_of (T : Txt P K mg) : CallG P w K mg base 1 "number_of" f_number_of := ok_number_of T
theorem c_bundle_of (T : Txt P K mg) : CallG P w K mg base 1 "bundle_of" f_bundle_of := ok_bundle_of T
theorem c_within (T : Txt P K mg) : CallG P w K mg base 1 "within" f_within := ok_within T
theorem c_with_lie (T : Txt P K mg) : CallG P w K mg base 1 "with_lie" f_with_lie := ok_with_lie T
theorem c_check_rule (T : Txt P K mg) : CallG P w K mg base 1 "check_rule" f_check_rule := ok_check_rule T
theorem c_likes_more (T : Txt P K mg) : CallG P w K mg base 1 "likes_more" f_likes_more := ok_likes_more T
theorem c_longer (T : Txt P K mg) : CallG P w K mg base 1 "longer" f_longer := ok_longer T
theorem c_l_draws (T : Txt P K mg) : CallS P w K mg base 1 "_law_draws" f_l_draws := ok_l_draws T
theorem c_l_mix (T : Txt P K mg) : CallG P w K mg base 1 "_law_mix" f_l_mix := ok_l_mix T
theorem c_l_subsets (T : Txt P K mg) : CallG P w K mg base 1 "_law_subsets" f_l_subsets := ok_l_subsets T
theorem c_l_at (T : Txt P K mg) : CallG P w K mg base 1 "_law_at" f_l_at := ok_l_at T
theorem c_l_shares (T : Txt P K mg) : CallG P w K mg base 1 "_law_shares" f_l_shares := ok_l_shares T
theorem c_l_numbers (T : Txt P K mg) : CallG P w K mg base 1 "_law_numbers" f_l_numbers := ok_l_numbers T
theorem c_l_more (T : Txt P K mg) : CallG P w K mg base 1 "_law_more" f_l_more := ok_l_more T
theorem c_l_keeps (T : Txt P K mg) : CallG P w K mg base 1 "_law_keeps" f_l_keeps := ok_l_keeps T
theorem c_l_rows (T : Txt P K mg) : CallG P w K mg base 1 "_law_rows" f_l_rows := ok_l_rows T
theorem c_parts_of (T : Txt P K mg) : CallG P w K mg base 2 "parts_of" f_parts_of := ok_parts_of T (c_within T)
theorem c_is_table (T : Txt P K mg) : CallG P w K mg base 2 "is_table" f_is_table := ok_is_table T (c_bundle_of T)
theorem c_does_keep (T : Txt P K mg) : CallG P w K mg base 2 "does_keep" f_does_keep := ok_does_keep T (c_likes_more T)
theorem c_sum_round (T : Txt P K mg) : CallG P w K mg base 2 "sum_round" f_sum_round := ok_sum_round T (c_likes_more T)
theorem c_l_drawn (T : Txt P K mg) : CallG P w K mg base 2 "_law_drawn" f_l_drawn := ok_l_drawn T (c_l_subsets T) (c_l_mix T)
theorem c_l_sum (T : Txt P K mg) : CallG P w K mg base 2 "_law_sum" f_l_sum := ok_l_sum T (c_l_at T)
theorem c_l_total (T : Txt P K mg) : CallG P w K mg base 2 "_law_total" f_l_total := ok_l_total T (c_l_more T)
theorem c_l_rule (T : Txt P K mg) : CallG P w K mg base 2 "_law_rule" f_l_rule := ok_l_rule T (c_l_mix T)
theorem c_check_book (T : Txt P K mg) : CallG P w K mg base 3 "check_book" f_check_book := ok_check_book T (c_is_table T)
theorem c_most_at (T : Txt P K mg) : CallG P w K mg base 3 "most_at" f_most_at := ok_most_at T (c_parts_of T)
theorem c_keep_truth (T : Txt P K mg) : CallG P w K mg base 3 "keep_truth" f_keep_truth := ok_keep_truth T (c_check_rule T) (c_does_keep T)
theorem c_gain_of_round (T : Txt P K mg) : CallG P w K mg base 3 "gain_of_round" f_gain_of_round := ok_gain_of_round T (c_check_rule T) (c_sum_round T)
theorem c_round_of_gains (T : Txt P K mg) : CallG P w K mg base 3 "round_of_gains" f_round_of_gains := ok_round_of_gains T (c_check_rule T) (c_longer T) (c_sum_round T)
theorem c_greatest_payments (T : Txt P K mg) : CallG P w K mg base 3 "greatest_payments" f_greatest_payments := ok_greatest_payments T (c_check_rule T) (c_likes_more T) (c_does_keep T)
theorem c_l_book (T : Txt P K mg) : CallG P w K mg base 3 "_law_book" f_l_book := ok_l_book T (c_l_mix T) (c_l_drawn T)
theorem c_l_best (T : Txt P K mg) : CallG P w K mg base 3 "_law_best" f_l_best := ok_l_best T (c_l_shares T) (c_l_sum T) (c_l_numbers T)
theorem c_l_round (T : Txt P K mg) : CallG P w K mg base 3 "_law_round" f_l_round := ok_l_round T (c_l_rows T) (c_l_total T)
theorem c_rests (T : Txt P K mg) : CallG P w K mg base 4 "rests" f_rests := ok_rests T (c_most_at T)
theorem c_check_bidder (T : Txt P K mg) : CallG P w K mg base 4 "check_bidder" f_check_bidder := ok_check_bidder T (c_check_book T)
theorem c_l_paid (T : Txt P K mg) : CallG P w K mg base 4 "_law_paid" f_l_paid := ok_l_paid T (c_l_best T) (c_l_at T)
theorem c_l_greatest (T : Txt P K mg) : CallG P w K mg base 4 "_law_greatest" f_l_greatest := ok_l_greatest T (c_l_round T) (c_l_rows T) (c_l_more T)
theorem c_l_fault (T : Txt P K mg) : CallG P w K mg base 4 "_law_fault" f_l_fault := ok_l_fault T (c_keep_truth T) (c_gain_of_round T) (c_round_of_gains T) (c_greatest_payments T)
theorem c_best_of (T : Txt P K mg) : CallG P w K mg base 5 "best_of" f_best_of := ok_best_of T (c_rests T) (c_parts_of T) (c_bundle_of T)
theorem c_check_wishes (T : Txt P K mg) : CallG P w K mg base 5 "check_wishes" f_check_wishes := ok_check_wishes T (c_check_bidder T) (c_is_table T)
theorem c_sum_without (T : Txt P K mg) : CallG P w K mg base 6 "sum_without" f_sum_without := ok_sum_without T (c_best_of T)
theorem c_rule_in (T : Txt P K mg) : CallG P w K mg base 6 "rule_in" f_rule_in := ok_rule_in T (c_check_wishes T) (c_number_of T) (c_best_of T) (c_with_lie T)
theorem c_paid_by (T : Txt P K mg) : CallG P w K mg base 7 "paid_by" f_paid_by := ok_paid_by T (c_number_of T) (c_sum_without T)
theorem c_all_paid (T : Txt P K mg) : CallG P w K mg base 8 "all_paid" f_all_paid := ok_all_paid T (c_best_of T) (c_paid_by T)
theorem c_fair_in (T : Txt P K mg) : CallG P w K mg base 9 "fair_in" f_fair_in := ok_fair_in T (c_check_wishes T) (c_all_paid T) (c_with_lie T)
theorem c_l_book_fault (T : Txt P K mg) : CallG P w K mg base 10 "_law_book_fault" f_l_book_fault := ok_l_book_fault T (c_rule_in T) (c_fair_in T)
theorem c_l_faults (T : Txt P K mg) : CallG P w K mg base 11 "_law_faults" f_l_faults := ok_l_faults T (c_l_fault T) (c_l_book_fault T)
theorem c_law (T : Txt P K mg) : CallS P w K mg base 12 "law" f_law := ok_law T (c_l_draws T) (c_l_rule T) (c_l_round T) (c_greatest_payments T) (c_round_of_gains T) (c_l_greatest T) (c_keep_truth T) (c_l_keeps T) (c_l_mix T) (c_l_rows T) (c_gain_of_round T) (c_l_total T) (c_l_book T) (c_l_drawn T) (c_rule_in T) (c_l_numbers T) (c_l_best T) (c_l_paid T) (c_fair_in T) (c_l_faults T)
end
theorem mk_txt {P : Program} {K : Frg} {mg : MgT} {h : Heap} (X : K.In h) (G0 : h.Ns mainGlobals mg) {F_number_of : Addr} {oc_number_of : Value} {od_number_of an_number_of : Option Addr} {sl_number_of : Array (Option Value)} {kV_number_of dc_number_of pm_number_of cd_number_of ct_number_of : Value} {F_bundle_of : Addr} {oc_bundle_of : Value} {od_bundle_of an_bundle_of : Option Addr} {sl_bundle_of : Array (Option Value)} {kV_bundle_of dc_bundle_of pm_bundle_of cd_bundle_of ct_bundle_of : Value} {F_within : Addr} {oc_within : Value} {od_within an_within : Option Addr} {sl_within : Array (Option Value)} {kV_within dc_within pm_within cd_within ct_within : Value} {F_parts_of : Addr} {oc_parts_of : Value} {od_parts_of an_parts_of : Option Addr} {sl_parts_of : Array (Option Value)} {kV_parts_of dc_parts_of pm_parts_of cd_parts_of ct_parts_of : Value} {F_is_table : Addr} {oc_is_table : Value} {od_is_table an_is_table : Option Addr} {sl_is_table : Array (Option Value)} {kV_is_table dc_is_table pm_is_table cd_is_table ct_is_table : Value} {F_check_book : Addr} {oc_check_book : Value} {od_check_book an_check_book : Option Addr} {sl_check_book : Array (Option Value)} {kV_check_book dc_check_book pm_check_book cd_check_book ct_check_book : Value} {F_most_at : Addr} {oc_most_at : Value} {od_most_at an_most_at : Option Addr} {sl_most_at : Array (Option Value)} {kV_most_at dc_most_at pm_most_at cd_most_at ct_most_at : Value} {F_rests : Addr} {oc_rests : Value} {od_rests an_rests : Option Addr} {sl_rests : Array (Option Value)} {kV_rests dc_rests pm_rests cd_rests ct_rests : Value} {F_best_of : Addr} {oc_best_of : Value} {od_best_of an_best_of : Option Addr} {sl_best_of : Array (Option Value)} {kV_best_of dc_best_of pm_best_of cd_best_of ct_best_of : Value} {F_sum_without : Addr} {oc_sum_without : Value} {od_sum_without an_sum_without : Option Addr} {sl_sum_without : Array (Option Value)} {kV_sum_without dc_sum_without pm_sum_without cd_sum_without ct_sum_without : Value} {F_check_bidder : Addr} {oc_check_bidder : Value} {od_check_bidder an_check_bidder : Option Addr} {sl_check_bidder : Array (Option Value)} {kV_check_bidder dc_check_bidder pm_check_bidder cd_check_bidder ct_check_bidder : Value} {F_paid_by : Addr} {oc_paid_by : Value} {od_paid_by an_paid_by : Option Addr} {sl_paid_by : Array (Option Value)} {kV_paid_by dc_paid_by pm_paid_by cd_paid_by ct_paid_by : Value} {F_all_paid : Addr} {oc_all_paid : Value} {od_all_paid an_all_paid : Option Addr} {sl_all_paid : Array (Option Value)} {kV_all_paid dc_all_paid pm_all_paid cd_all_paid ct_all_paid : Value} {F_with_lie : Addr} {oc_with_lie : Value} {od_with_lie an_with_lie : Option Addr} {sl_with_lie : Array (Option Value)} {kV_with_lie dc_with_lie pm_with_lie cd_with_lie ct_with_lie : Value} {F_check_rule : Addr} {oc_check_rule : Value} {od_check_rule an_check_rule : Option Addr} {sl_check_rule : Array (Option Value)} {kV_check_rule dc_check_rule pm_check_rule cd_check_rule ct_check_rule : Value} {F_likes_more : Addr} {oc_likes_more : Value} {od_likes_more an_likes_more : Option Addr} {sl_likes_more : Array (Option Value)} {kV_likes_more dc_likes_more pm_likes_more cd_likes_more ct_likes_more : Value} {F_does_keep : Addr} {oc_does_keep : Value} {od_does_keep an_does_keep : Option Addr} {sl_does_keep : Array (Option Value)} {kV_does_keep dc_does_keep pm_does_keep cd_does_keep ct_does_keep : Value} {F_keep_truth : Addr} {oc_keep_truth : Value} {od_keep_truth an_keep_truth : Option Addr} {sl_keep_truth : Array (Option Value)} {kV_keep_truth dc_keep_truth pm_keep_truth cd_keep_truth ct_keep_truth : Value} {F_sum_round : Addr} {oc_sum_round : Value} {od_sum_round an_sum_round : Option Addr} {sl_sum_round : Array (Option Value)} {kV_sum_round dc_sum_round pm_sum_round cd_sum_round ct_sum_round : Value} {F_gain_of_round : Addr} {oc_gain_of_round : Value} {od_gain_of_round an_gain_of_round : Option Addr} {sl_gain_of_round : Array (Option Value)} {kV_gain_of_round dc_gain_of_round pm_gain_of_round cd_gain_of_round ct_gain_of_round : Value} {F_longer : Addr} {oc_longer : Value} {od_longer an_longer : Option Addr} {sl_longer : Array (Option Value)} {kV_longer dc_longer pm_longer cd_longer ct_longer : Value} {F_round_of_gains : Addr} {oc_round_of_gains : Value} {od_round_of_gains an_round_of_gains : Option Addr} {sl_round_of_gains : Array (Option Value)} {kV_round_of_gains dc_round_of_gains pm_round_of_gains cd_round_of_gains ct_round_of_gains : Value} {F_greatest_payments : Addr} {oc_greatest_payments : Value} {od_greatest_payments an_greatest_payments : Option Addr} {sl_greatest_payments : Array (Option Value)} {kV_greatest_payments dc_greatest_payments pm_greatest_payments cd_greatest_payments ct_greatest_payments : Value} {F_check_wishes : Addr} {oc_check_wishes : Value} {od_check_wishes an_check_wishes : Option Addr} {sl_check_wishes : Array (Option Value)} {kV_check_wishes dc_check_wishes pm_check_wishes cd_check_wishes ct_check_wishes : Value} {F_rule_in : Addr} {oc_rule_in : Value} {od_rule_in an_rule_in : Option Addr} {sl_rule_in : Array (Option Value)} {kV_rule_in dc_rule_in pm_rule_in cd_rule_in ct_rule_in : Value} {F_fair_in : Addr} {oc_fair_in : Value} {od_fair_in an_fair_in : Option Addr} {sl_fair_in : Array (Option Value)} {kV_fair_in dc_fair_in pm_fair_in cd_fair_in ct_fair_in : Value} {F_l_draws : Addr} {oc_l_draws : Value} {od_l_draws an_l_draws : Option Addr} {sl_l_draws : Array (Option Value)} {kV_l_draws dc_l_draws pm_l_draws cd_l_draws ct_l_draws : Value} {F_l_mix : Addr} {oc_l_mix : Value} {od_l_mix an_l_mix : Option Addr} {sl_l_mix : Array (Option Value)} {kV_l_mix dc_l_mix pm_l_mix cd_l_mix ct_l_mix : Value} {F_l_subsets : Addr} {oc_l_subsets : Value} {od_l_subsets an_l_subsets : Option Addr} {sl_l_subsets : Array (Option Value)} {kV_l_subsets dc_l_subsets pm_l_subsets cd_l_subsets ct_l_subsets : Value} {F_l_at : Addr} {oc_l_at : Value} {od_l_at an_l_at : Option Addr} {sl_l_at : Array (Option Value)} {kV_l_at dc_l_at pm_l_at cd_l_at ct_l_at : Value} {F_l_drawn : Addr} {oc_l_drawn : Value} {od_l_drawn an_l_drawn : Option Addr} {sl_l_drawn : Array (Option Value)} {kV_l_drawn dc_l_drawn pm_l_drawn cd_l_drawn ct_l_drawn : Value} {F_l_book : Addr} {oc_l_book : Value} {od_l_book an_l_book : Option Addr} {sl_l_book : Array (Option Value)} {kV_l_book dc_l_book pm_l_book cd_l_book ct_l_book : Value} {F_l_shares : Addr} {oc_l_shares : Value} {od_l_shares an_l_shares : Option Addr} {sl_l_shares : Array (Option Value)} {kV_l_shares dc_l_shares pm_l_shares cd_l_shares ct_l_shares : Value} {F_l_numbers : Addr} {oc_l_numbers : Value} {od_l_numbers an_l_numbers : Option Addr} {sl_l_numbers : Array (Option Value)} {kV_l_numbers dc_l_numbers pm_l_numbers cd_l_numbers ct_l_numbers : Value} {F_l_sum : Addr} {oc_l_sum : Value} {od_l_sum an_l_sum : Option Addr} {sl_l_sum : Array (Option Value)} {kV_l_sum dc_l_sum pm_l_sum cd_l_sum ct_l_sum : Value} {F_l_best : Addr} {oc_l_best : Value} {od_l_best an_l_best : Option Addr} {sl_l_best : Array (Option Value)} {kV_l_best dc_l_best pm_l_best cd_l_best ct_l_best : Value} {F_l_paid : Addr} {oc_l_paid : Value} {od_l_paid an_l_paid : Option Addr} {sl_l_paid : Array (Option Value)} {kV_l_paid dc_l_paid pm_l_paid cd_l_paid ct_l_paid : Value} {F_l_more : Addr} {oc_l_more : Value} {od_l_more an_l_more : Option Addr} {sl_l_more : Array (Option Value)} {kV_l_more dc_l_more pm_l_more cd_l_more ct_l_more : Value} {F_l_keeps : Addr} {oc_l_keeps : Value} {od_l_keeps an_l_keeps : Option Addr} {sl_l_keeps : Array (Option Value)} {kV_l_keeps dc_l_keeps pm_l_keeps cd_l_keeps ct_l_keeps : Value} {F_l_rows : Addr} {oc_l_rows : Value} {od_l_rows an_l_rows : Option Addr} {sl_l_rows : Array (Option Value)} {kV_l_rows dc_l_rows pm_l_rows cd_l_rows ct_l_rows : Value} {F_l_total : Addr} {oc_l_total : Value} {od_l_total an_l_total : Option Addr} {sl_l_total : Array (Option Value)} {kV_l_total dc_l_total pm_l_total cd_l_total ct_l_total : Value} {F_l_round : Addr} {oc_l_round : Value} {od_l_round an_l_round : Option Addr} {sl_l_round : Array (Option Value)} {kV_l_round dc_l_round pm_l_round cd_l_round ct_l_round : Value} {F_l_greatest : Addr} {oc_l_greatest : Value} {od_l_greatest an_l_greatest : Option Addr} {sl_l_greatest : Array (Option Value)} {kV_l_greatest dc_l_greatest pm_l_greatest cd_l_greatest ct_l_greatest : Value} {F_l_rule : Addr} {oc_l_rule : Value} {od_l_rule an_l_rule : Option Addr} {sl_l_rule : Array (Option Value)} {kV_l_rule dc_l_rule pm_l_rule cd_l_rule ct_l_rule : Value} {F_l_fault : Addr} {oc_l_fault : Value} {od_l_fault an_l_fault : Option Addr} {sl_l_fault : Array (Option Value)} {kV_l_fault dc_l_fault pm_l_fault cd_l_fault ct_l_fault : Value} {F_l_book_fault : Addr} {oc_l_book_fault : Value} {od_l_book_fault an_l_book_fault : Option Addr} {sl_l_book_fault : Array (Option Value)} {kV_l_book_fault dc_l_book_fault pm_l_book_fault cd_l_book_fault ct_l_book_fault : Value} {F_l_faults : Addr} {oc_l_faults : Value} {od_l_faults an_l_faults : Option Addr} {sl_l_faults : Array (Option Value)} {kV_l_faults dc_l_faults pm_l_faults cd_l_faults ct_l_faults : Value} {F_law : Addr} {oc_law : Value} {od_law an_law : Option Addr} {sl_law : Array (Option Value)} {kV_law dc_law pm_law cd_law ct_law : Value} {A_POWERS : Addr} {n_POWERS : Nat} {od_POWERS : Option Addr} {sl_POWERS : Array (Option Value)} {t_POWERS_0 t_POWERS_1 t_POWERS_2 t_POWERS_3 t_POWERS_4 t_POWERS_5 t_POWERS_6 : Tok} {A_LENGTHS : Addr} {n_LENGTHS : Nat} {od_LENGTHS : Option Addr} {sl_LENGTHS : Array (Option Value)} {t_LENGTHS_0 t_LENGTHS_1 t_LENGTHS_2 t_LENGTHS_3 t_LENGTHS_4 t_LENGTHS_5 : Tok} {t_MOST_WORTH : Tok} {t_MOST_BIDDERS : Tok} {t_MOST_TYPES : Tok} {t_MOST_ENDS : Tok} {C_BadPaid_BadPaid D_BadPaid_BadPaid : Addr} {C_BadEnd_BadPaid D_BadEnd_BadPaid : Addr} {C_BadType_BadPaid D_BadType_BadPaid : Addr} {C_BadBidder_BadPaid D_BadBidder_BadPaid : Addr} {C_BadBook_BadPaid D_BadBook_BadPaid : Addr} {C_BadTable_BadPaid D_BadTable_BadPaid : Addr} {C_BadPaid_BadEnd D_BadPaid_BadEnd : Addr} {C_BadEnd_BadEnd D_BadEnd_BadEnd : Addr} {C_BadType_BadEnd D_BadType_BadEnd : Addr} {C_BadBidder_BadEnd D_BadBidder_BadEnd : Addr} {C_BadBook_BadEnd D_BadBook_BadEnd : Addr} {C_BadTable_BadEnd D_BadTable_BadEnd : Addr} {C_BadPaid_BadType D_BadPaid_BadType : Addr} {C_BadEnd_BadType D_BadEnd_BadType : Addr} {C_BadType_BadType D_BadType_BadType : Addr} {C_BadBidder_BadType D_BadBidder_BadType : Addr} {C_BadBook_BadType D_BadBook_BadType : Addr} {C_BadTable_BadType D_BadTable_BadType : Addr} {C_BadPaid_BadTable D_BadPaid_BadTable : Addr} {C_BadEnd_BadTable D_BadEnd_BadTable : Addr} {C_BadType_BadTable D_BadType_BadTable : Addr} {C_BadBidder_BadTable D_BadBidder_BadTable : Addr} {C_BadBook_BadTable D_BadBook_BadTable : Addr} {C_BadTable_BadTable D_BadTable_BadTable : Addr} {C_BadPaid_BadBidder D_BadPaid_BadBidder : Addr} {C_BadEnd_BadBidder D_BadEnd_BadBidder : Addr} {C_BadType_BadBidder D_BadType_BadBidder : Addr} {C_BadBidder_BadBidder D_BadBidder_BadBidder : Addr} {C_BadBook_BadBidder D_BadBook_BadBidder : Addr} {C_BadTable_BadBidder D_BadTable_BadBidder : Addr} {C_BadPaid_BadBook D_BadPaid_BadBook : Addr} {C_BadEnd_BadBook D_BadEnd_BadBook : Addr} {C_BadType_BadBook D_BadType_BadBook : Addr} {C_BadBidder_BadBook D_BadBidder_BadBook : Addr} {C_BadBook_BadBook D_BadBook_BadBook : Addr} {C_BadTable_BadBook D_BadTable_BadBook : Addr}
    (a_number_of : PySem.W.nsIn K mainGlobals "number_of" = some (some (.ref F_number_of)))
    (l_number_of : K.lookup F_number_of = some ⟨oc_number_of, od_number_of, .func (PySem.W.fnOf "number_of" "number_of" (defArgs s_number_of) (defBody s_number_of) (defScope s_number_of) .none kV_number_of dc_number_of pm_number_of an_number_of cd_number_of ct_number_of), sl_number_of⟩)
    (k_number_of : PySem.W.codeIn K cd_number_of "number_of" = true)
    (p_number_of : PySem.W.keepIn K (.ref F_number_of) = true)
    (a_bundle_of : PySem.W.nsIn K mainGlobals "bundle_of" = some (some (.ref F_bundle_of)))
    (l_bundle_of : K.lookup F_bundle_of = some ⟨oc_bundle_of, od_bundle_of, .func (PySem.W.fnOf "bundle_of" "bundle_of" (defArgs s_bundle_of) (defBody s_bundle_of) (defScope s_bundle_of) .none kV_bundle_of dc_bundle_of pm_bundle_of an_bundle_of cd_bundle_of ct_bundle_of), sl_bundle_of⟩)
    (k_bundle_of : PySem.W.codeIn K cd_bundle_of "bundle_of" = true)
    (p_bundle_of : PySem.W.keepIn K (.ref F_bundle_of) = true)
    (a_within : PySem.W.nsIn K mainGlobals "within" = some (some (.ref F_within)))
    (l_within : K.lookup F_within = some ⟨oc_within, od_within, .func (PySem.W.fnOf "within" "within" (defArgs s_within) (defBody s_within) (defScope s_within) .none kV_within dc_within pm_within an_within cd_within ct_within), sl_within⟩)
    (k_within : PySem.W.codeIn K cd_within "within" = true)
    (p_within : PySem.W.keepIn K (.ref F_within) = true)
    (a_parts_of : PySem.W.nsIn K mainGlobals "parts_of" = some (some (.ref F_parts_of)))
    (l_parts_of : K.lookup F_parts_of = some ⟨oc_parts_of, od_parts_of, .func (PySem.W.fnOf "parts_of" "parts_of" (defArgs s_parts_of) (defBody s_parts_of) (defScope s_parts_of) .none kV_parts_of dc_parts_of pm_parts_of an_parts_of cd_parts_of ct_parts_of), sl_parts_of⟩)
    (k_parts_of : PySem.W.codeIn K cd_parts_of "parts_of" = true)
    (p_parts_of : PySem.W.keepIn K (.ref F_parts_of) = true)
    (a_is_table : PySem.W.nsIn K mainGlobals "is_table" = some (some (.ref F_is_table)))
    (l_is_table : K.lookup F_is_table = some ⟨oc_is_table, od_is_table, .func (PySem.W.fnOf "is_table" "is_table" (defArgs s_is_table) (defBody s_is_table) (defScope s_is_table) .none kV_is_table dc_is_table pm_is_table an_is_table cd_is_table ct_is_table), sl_is_table⟩)
    (k_is_table : PySem.W.codeIn K cd_is_table "is_table" = true)
    (p_is_table : PySem.W.keepIn K (.ref F_is_table) = true)
    (a_check_book : PySem.W.nsIn K mainGlobals "check_book" = some (some (.ref F_check_book)))
    (l_check_book : K.lookup F_check_book = some ⟨oc_check_book, od_check_book, .func (PySem.W.fnOf "check_book" "check_book" (defArgs s_check_book) (defBody s_check_book) (defScope s_check_book) .none kV_check_book dc_check_book pm_check_book an_check_book cd_check_book ct_check_book), sl_check_book⟩)
    (k_check_book : PySem.W.codeIn K cd_check_book "check_book" = true)
    (p_check_book : PySem.W.keepIn K (.ref F_check_book) = true)
    (a_most_at : PySem.W.nsIn K mainGlobals "most_at" = some (some (.ref F_most_at)))
    (l_most_at : K.lookup F_most_at = some ⟨oc_most_at, od_most_at, .func (PySem.W.fnOf "most_at" "most_at" (defArgs s_most_at) (defBody s_most_at) (defScope s_most_at) .none kV_most_at dc_most_at pm_most_at an_most_at cd_most_at ct_most_at), sl_most_at⟩)
    (k_most_at : PySem.W.codeIn K cd_most_at "most_at" = true)
    (p_most_at : PySem.W.keepIn K (.ref F_most_at) = true)
    (a_rests : PySem.W.nsIn K mainGlobals "rests" = some (some (.ref F_rests)))
    (l_rests : K.lookup F_rests = some ⟨oc_rests, od_rests, .func (PySem.W.fnOf "rests" "rests" (defArgs s_rests) (defBody s_rests) (defScope s_rests) .none kV_rests dc_rests pm_rests an_rests cd_rests ct_rests), sl_rests⟩)
    (k_rests : PySem.W.codeIn K cd_rests "rests" = true)
    (p_rests : PySem.W.keepIn K (.ref F_rests) = true)
    (a_best_of : PySem.W.nsIn K mainGlobals "best_of" = some (some (.ref F_best_of)))
    (l_best_of : K.lookup F_best_of = some ⟨oc_best_of, od_best_of, .func (PySem.W.fnOf "best_of" "best_of" (defArgs s_best_of) (defBody s_best_of) (defScope s_best_of) .none kV_best_of dc_best_of pm_best_of an_best_of cd_best_of ct_best_of), sl_best_of⟩)
    (k_best_of : PySem.W.codeIn K cd_best_of "best_of" = true)
    (p_best_of : PySem.W.keepIn K (.ref F_best_of) = true)
    (a_sum_without : PySem.W.nsIn K mainGlobals "sum_without" = some (some (.ref F_sum_without)))
    (l_sum_without : K.lookup F_sum_without = some ⟨oc_sum_without, od_sum_without, .func (PySem.W.fnOf "sum_without" "sum_without" (defArgs s_sum_without) (defBody s_sum_without) (defScope s_sum_without) .none kV_sum_without dc_sum_without pm_sum_without an_sum_without cd_sum_without ct_sum_without), sl_sum_without⟩)
    (k_sum_without : PySem.W.codeIn K cd_sum_without "sum_without" = true)
    (p_sum_without : PySem.W.keepIn K (.ref F_sum_without) = true)
    (a_check_bidder : PySem.W.nsIn K mainGlobals "check_bidder" = some (some (.ref F_check_bidder)))
    (l_check_bidder : K.lookup F_check_bidder = some ⟨oc_check_bidder, od_check_bidder, .func (PySem.W.fnOf "check_bidder" "check_bidder" (defArgs s_check_bidder) (defBody s_check_bidder) (defScope s_check_bidder) .none kV_check_bidder dc_check_bidder pm_check_bidder an_check_bidder cd_check_bidder ct_check_bidder), sl_check_bidder⟩)
    (k_check_bidder : PySem.W.codeIn K cd_check_bidder "check_bidder" = true)
    (p_check_bidder : PySem.W.keepIn K (.ref F_check_bidder) = true)
    (a_paid_by : PySem.W.nsIn K mainGlobals "paid_by" = some (some (.ref F_paid_by)))
    (l_paid_by : K.lookup F_paid_by = some ⟨oc_paid_by, od_paid_by, .func (PySem.W.fnOf "paid_by" "paid_by" (defArgs s_paid_by) (defBody s_paid_by) (defScope s_paid_by) .none kV_paid_by dc_paid_by pm_paid_by an_paid_by cd_paid_by ct_paid_by), sl_paid_by⟩)
    (k_paid_by : PySem.W.codeIn K cd_paid_by "paid_by" = true)
    (p_paid_by : PySem.W.keepIn K (.ref F_paid_by) = true)
    (a_all_paid : PySem.W.nsIn K mainGlobals "all_paid" = some (some (.ref F_all_paid)))
    (l_all_paid : K.lookup F_all_paid = some ⟨oc_all_paid, od_all_paid, .func (PySem.W.fnOf "all_paid" "all_paid" (defArgs s_all_paid) (defBody s_all_paid) (defScope s_all_paid) .none kV_all_paid dc_all_paid pm_all_paid an_all_paid cd_all_paid ct_all_paid), sl_all_paid⟩)
    (k_all_paid : PySem.W.codeIn K cd_all_paid "all_paid" = true)
    (p_all_paid : PySem.W.keepIn K (.ref F_all_paid) = true)
    (a_with_lie : PySem.W.nsIn K mainGlobals "with_lie" = some (some (.ref F_with_lie)))
    (l_with_lie : K.lookup F_with_lie = some ⟨oc_with_lie, od_with_lie, .func (PySem.W.fnOf "with_lie" "with_lie" (defArgs s_with_lie) (defBody s_with_lie) (defScope s_with_lie) .none kV_with_lie dc_with_lie pm_with_lie an_with_lie cd_with_lie ct_with_lie), sl_with_lie⟩)
    (k_with_lie : PySem.W.codeIn K cd_with_lie "with_lie" = true)
    (p_with_lie : PySem.W.keepIn K (.ref F_with_lie) = true)
    (a_check_rule : PySem.W.nsIn K mainGlobals "check_rule" = some (some (.ref F_check_rule)))
    (l_check_rule : K.lookup F_check_rule = some ⟨oc_check_rule, od_check_rule, .func (PySem.W.fnOf "check_rule" "check_rule" (defArgs s_check_rule) (defBody s_check_rule) (defScope s_check_rule) .none kV_check_rule dc_check_rule pm_check_rule an_check_rule cd_check_rule ct_check_rule), sl_check_rule⟩)
    (k_check_rule : PySem.W.codeIn K cd_check_rule "check_rule" = true)
    (p_check_rule : PySem.W.keepIn K (.ref F_check_rule) = true)
    (a_likes_more : PySem.W.nsIn K mainGlobals "likes_more" = some (some (.ref F_likes_more)))
    (l_likes_more : K.lookup F_likes_more = some ⟨oc_likes_more, od_likes_more, .func (PySem.W.fnOf "likes_more" "likes_more" (defArgs s_likes_more) (defBody s_likes_more) (defScope s_likes_more) .none kV_likes_more dc_likes_more pm_likes_more an_likes_more cd_likes_more ct_likes_more), sl_likes_more⟩)
    (k_likes_more : PySem.W.codeIn K cd_likes_more "likes_more" = true)
    (p_likes_more : PySem.W.keepIn K (.ref F_likes_more) = true)
    (a_does_keep : PySem.W.nsIn K mainGlobals "does_keep" = some (some (.ref F_does_keep)))
    (l_does_keep : K.lookup F_does_keep = some ⟨oc_does_keep, od_does_keep, .func (PySem.W.fnOf "does_keep" "does_keep" (defArgs s_does_keep) (defBody s_does_keep) (defScope s_does_keep) .none kV_does_keep dc_does_keep pm_does_keep an_does_keep cd_does_keep ct_does_keep), sl_does_keep⟩)
    (k_does_keep : PySem.W.codeIn K cd_does_keep "does_keep" = true)
    (p_does_keep : PySem.W.keepIn K (.ref F_does_keep) = true)
    (a_keep_truth : PySem.W.nsIn K mainGlobals "keep_truth" = some (some (.ref F_keep_truth)))
    (l_keep_truth : K.lookup F_keep_truth = some ⟨oc_keep_truth, od_keep_truth, .func (PySem.W.fnOf "keep_truth" "keep_truth" (defArgs s_keep_truth) (defBody s_keep_truth) (defScope s_keep_truth) .none kV_keep_truth dc_keep_truth pm_keep_truth an_keep_truth cd_keep_truth ct_keep_truth), sl_keep_truth⟩)
    (k_keep_truth : PySem.W.codeIn K cd_keep_truth "keep_truth" = true)
    (p_keep_truth : PySem.W.keepIn K (.ref F_keep_truth) = true)
    (a_sum_round : PySem.W.nsIn K mainGlobals "sum_round" = some (some (.ref F_sum_round)))
    (l_sum_round : K.lookup F_sum_round = some ⟨oc_sum_round, od_sum_round, .func (PySem.W.fnOf "sum_round" "sum_round" (defArgs s_sum_round) (defBody s_sum_round) (defScope s_sum_round) .none kV_sum_round dc_sum_round pm_sum_round an_sum_round cd_sum_round ct_sum_round), sl_sum_round⟩)
    (k_sum_round : PySem.W.codeIn K cd_sum_round "sum_round" = true)
    (p_sum_round : PySem.W.keepIn K (.ref F_sum_round) = true)
    (a_gain_of_round : PySem.W.nsIn K mainGlobals "gain_of_round" = some (some (.ref F_gain_of_round)))
    (l_gain_of_round : K.lookup F_gain_of_round = some ⟨oc_gain_of_round, od_gain_of_round, .func (PySem.W.fnOf "gain_of_round" "gain_of_round" (defArgs s_gain_of_round) (defBody s_gain_of_round) (defScope s_gain_of_round) .none kV_gain_of_round dc_gain_of_round pm_gain_of_round an_gain_of_round cd_gain_of_round ct_gain_of_round), sl_gain_of_round⟩)
    (k_gain_of_round : PySem.W.codeIn K cd_gain_of_round "gain_of_round" = true)
    (p_gain_of_round : PySem.W.keepIn K (.ref F_gain_of_round) = true)
    (a_longer : PySem.W.nsIn K mainGlobals "longer" = some (some (.ref F_longer)))
    (l_longer : K.lookup F_longer = some ⟨oc_longer, od_longer, .func (PySem.W.fnOf "longer" "longer" (defArgs s_longer) (defBody s_longer) (defScope s_longer) .none kV_longer dc_longer pm_longer an_longer cd_longer ct_longer), sl_longer⟩)
    (k_longer : PySem.W.codeIn K cd_longer "longer" = true)
    (p_longer : PySem.W.keepIn K (.ref F_longer) = true)
    (a_round_of_gains : PySem.W.nsIn K mainGlobals "round_of_gains" = some (some (.ref F_round_of_gains)))
    (l_round_of_gains : K.lookup F_round_of_gains = some ⟨oc_round_of_gains, od_round_of_gains, .func (PySem.W.fnOf "round_of_gains" "round_of_gains" (defArgs s_round_of_gains) (defBody s_round_of_gains) (defScope s_round_of_gains) .none kV_round_of_gains dc_round_of_gains pm_round_of_gains an_round_of_gains cd_round_of_gains ct_round_of_gains), sl_round_of_gains⟩)
    (k_round_of_gains : PySem.W.codeIn K cd_round_of_gains "round_of_gains" = true)
    (p_round_of_gains : PySem.W.keepIn K (.ref F_round_of_gains) = true)
    (a_greatest_payments : PySem.W.nsIn K mainGlobals "greatest_payments" = some (some (.ref F_greatest_payments)))
    (l_greatest_payments : K.lookup F_greatest_payments = some ⟨oc_greatest_payments, od_greatest_payments, .func (PySem.W.fnOf "greatest_payments" "greatest_payments" (defArgs s_greatest_payments) (defBody s_greatest_payments) (defScope s_greatest_payments) .none kV_greatest_payments dc_greatest_payments pm_greatest_payments an_greatest_payments cd_greatest_payments ct_greatest_payments), sl_greatest_payments⟩)
    (k_greatest_payments : PySem.W.codeIn K cd_greatest_payments "greatest_payments" = true)
    (p_greatest_payments : PySem.W.keepIn K (.ref F_greatest_payments) = true)
    (a_check_wishes : PySem.W.nsIn K mainGlobals "check_wishes" = some (some (.ref F_check_wishes)))
    (l_check_wishes : K.lookup F_check_wishes = some ⟨oc_check_wishes, od_check_wishes, .func (PySem.W.fnOf "check_wishes" "check_wishes" (defArgs s_check_wishes) (defBody s_check_wishes) (defScope s_check_wishes) .none kV_check_wishes dc_check_wishes pm_check_wishes an_check_wishes cd_check_wishes ct_check_wishes), sl_check_wishes⟩)
    (k_check_wishes : PySem.W.codeIn K cd_check_wishes "check_wishes" = true)
    (p_check_wishes : PySem.W.keepIn K (.ref F_check_wishes) = true)
    (a_rule_in : PySem.W.nsIn K mainGlobals "rule_in" = some (some (.ref F_rule_in)))
    (l_rule_in : K.lookup F_rule_in = some ⟨oc_rule_in, od_rule_in, .func (PySem.W.fnOf "rule_in" "rule_in" (defArgs s_rule_in) (defBody s_rule_in) (defScope s_rule_in) .none kV_rule_in dc_rule_in pm_rule_in an_rule_in cd_rule_in ct_rule_in), sl_rule_in⟩)
    (k_rule_in : PySem.W.codeIn K cd_rule_in "rule_in" = true)
    (p_rule_in : PySem.W.keepIn K (.ref F_rule_in) = true)
    (a_fair_in : PySem.W.nsIn K mainGlobals "fair_in" = some (some (.ref F_fair_in)))
    (l_fair_in : K.lookup F_fair_in = some ⟨oc_fair_in, od_fair_in, .func (PySem.W.fnOf "fair_in" "fair_in" (defArgs s_fair_in) (defBody s_fair_in) (defScope s_fair_in) .none kV_fair_in dc_fair_in pm_fair_in an_fair_in cd_fair_in ct_fair_in), sl_fair_in⟩)
    (k_fair_in : PySem.W.codeIn K cd_fair_in "fair_in" = true)
    (p_fair_in : PySem.W.keepIn K (.ref F_fair_in) = true)
    (a_l_draws : PySem.W.nsIn K mainGlobals "_law_draws" = some (some (.ref F_l_draws)))
    (l_l_draws : K.lookup F_l_draws = some ⟨oc_l_draws, od_l_draws, .func (PySem.W.fnOf "_law_draws" "_law_draws" (defArgs s_l_draws) (defBody s_l_draws) (defScope s_l_draws) .none kV_l_draws dc_l_draws pm_l_draws an_l_draws cd_l_draws ct_l_draws), sl_l_draws⟩)
    (k_l_draws : PySem.W.codeIn K cd_l_draws "_law_draws" = true)
    (p_l_draws : PySem.W.keepIn K (.ref F_l_draws) = true)
    (a_l_mix : PySem.W.nsIn K mainGlobals "_law_mix" = some (some (.ref F_l_mix)))
    (l_l_mix : K.lookup F_l_mix = some ⟨oc_l_mix, od_l_mix, .func (PySem.W.fnOf "_law_mix" "_law_mix" (defArgs s_l_mix) (defBody s_l_mix) (defScope s_l_mix) .none kV_l_mix dc_l_mix pm_l_mix an_l_mix cd_l_mix ct_l_mix), sl_l_mix⟩)
    (k_l_mix : PySem.W.codeIn K cd_l_mix "_law_mix" = true)
    (p_l_mix : PySem.W.keepIn K (.ref F_l_mix) = true)
    (a_l_subsets : PySem.W.nsIn K mainGlobals "_law_subsets" = some (some (.ref F_l_subsets)))
    (l_l_subsets : K.lookup F_l_subsets = some ⟨oc_l_subsets, od_l_subsets, .func (PySem.W.fnOf "_law_subsets" "_law_subsets" (defArgs s_l_subsets) (defBody s_l_subsets) (defScope s_l_subsets) .none kV_l_subsets dc_l_subsets pm_l_subsets an_l_subsets cd_l_subsets ct_l_subsets), sl_l_subsets⟩)
    (k_l_subsets : PySem.W.codeIn K cd_l_subsets "_law_subsets" = true)
    (p_l_subsets : PySem.W.keepIn K (.ref F_l_subsets) = true)
    (a_l_at : PySem.W.nsIn K mainGlobals "_law_at" = some (some (.ref F_l_at)))
    (l_l_at : K.lookup F_l_at = some ⟨oc_l_at, od_l_at, .func (PySem.W.fnOf "_law_at" "_law_at" (defArgs s_l_at) (defBody s_l_at) (defScope s_l_at) .none kV_l_at dc_l_at pm_l_at an_l_at cd_l_at ct_l_at), sl_l_at⟩)
    (k_l_at : PySem.W.codeIn K cd_l_at "_law_at" = true)
    (p_l_at : PySem.W.keepIn K (.ref F_l_at) = true)
    (a_l_drawn : PySem.W.nsIn K mainGlobals "_law_drawn" = some (some (.ref F_l_drawn)))
    (l_l_drawn : K.lookup F_l_drawn = some ⟨oc_l_drawn, od_l_drawn, .func (PySem.W.fnOf "_law_drawn" "_law_drawn" (defArgs s_l_drawn) (defBody s_l_drawn) (defScope s_l_drawn) .none kV_l_drawn dc_l_drawn pm_l_drawn an_l_drawn cd_l_drawn ct_l_drawn), sl_l_drawn⟩)
    (k_l_drawn : PySem.W.codeIn K cd_l_drawn "_law_drawn" = true)
    (p_l_drawn : PySem.W.keepIn K (.ref F_l_drawn) = true)
    (a_l_book : PySem.W.nsIn K mainGlobals "_law_book" = some (some (.ref F_l_book)))
    (l_l_book : K.lookup F_l_book = some ⟨oc_l_book, od_l_book, .func (PySem.W.fnOf "_law_book" "_law_book" (defArgs s_l_book) (defBody s_l_book) (defScope s_l_book) .none kV_l_book dc_l_book pm_l_book an_l_book cd_l_book ct_l_book), sl_l_book⟩)
    (k_l_book : PySem.W.codeIn K cd_l_book "_law_book" = true)
    (p_l_book : PySem.W.keepIn K (.ref F_l_book) = true)
    (a_l_shares : PySem.W.nsIn K mainGlobals "_law_shares" = some (some (.ref F_l_shares)))
    (l_l_shares : K.lookup F_l_shares = some ⟨oc_l_shares, od_l_shares, .func (PySem.W.fnOf "_law_shares" "_law_shares" (defArgs s_l_shares) (defBody s_l_shares) (defScope s_l_shares) .none kV_l_shares dc_l_shares pm_l_shares an_l_shares cd_l_shares ct_l_shares), sl_l_shares⟩)
    (k_l_shares : PySem.W.codeIn K cd_l_shares "_law_shares" = true)
    (p_l_shares : PySem.W.keepIn K (.ref F_l_shares) = true)
    (a_l_numbers : PySem.W.nsIn K mainGlobals "_law_numbers" = some (some (.ref F_l_numbers)))
    (l_l_numbers : K.lookup F_l_numbers = some ⟨oc_l_numbers, od_l_numbers, .func (PySem.W.fnOf "_law_numbers" "_law_numbers" (defArgs s_l_numbers) (defBody s_l_numbers) (defScope s_l_numbers) .none kV_l_numbers dc_l_numbers pm_l_numbers an_l_numbers cd_l_numbers ct_l_numbers), sl_l_numbers⟩)
    (k_l_numbers : PySem.W.codeIn K cd_l_numbers "_law_numbers" = true)
    (p_l_numbers : PySem.W.keepIn K (.ref F_l_numbers) = true)
    (a_l_sum : PySem.W.nsIn K mainGlobals "_law_sum" = some (some (.ref F_l_sum)))
    (l_l_sum : K.lookup F_l_sum = some ⟨oc_l_sum, od_l_sum, .func (PySem.W.fnOf "_law_sum" "_law_sum" (defArgs s_l_sum) (defBody s_l_sum) (defScope s_l_sum) .none kV_l_sum dc_l_sum pm_l_sum an_l_sum cd_l_sum ct_l_sum), sl_l_sum⟩)
    (k_l_sum : PySem.W.codeIn K cd_l_sum "_law_sum" = true)
    (p_l_sum : PySem.W.keepIn K (.ref F_l_sum) = true)
    (a_l_best : PySem.W.nsIn K mainGlobals "_law_best" = some (some (.ref F_l_best)))
    (l_l_best : K.lookup F_l_best = some ⟨oc_l_best, od_l_best, .func (PySem.W.fnOf "_law_best" "_law_best" (defArgs s_l_best) (defBody s_l_best) (defScope s_l_best) .none kV_l_best dc_l_best pm_l_best an_l_best cd_l_best ct_l_best), sl_l_best⟩)
    (k_l_best : PySem.W.codeIn K cd_l_best "_law_best" = true)
    (p_l_best : PySem.W.keepIn K (.ref F_l_best) = true)
    (a_l_paid : PySem.W.nsIn K mainGlobals "_law_paid" = some (some (.ref F_l_paid)))
    (l_l_paid : K.lookup F_l_paid = some ⟨oc_l_paid, od_l_paid, .func (PySem.W.fnOf "_law_paid" "_law_paid" (defArgs s_l_paid) (defBody s_l_paid) (defScope s_l_paid) .none kV_l_paid dc_l_paid pm_l_paid an_l_paid cd_l_paid ct_l_paid), sl_l_paid⟩)
    (k_l_paid : PySem.W.codeIn K cd_l_paid "_law_paid" = true)
    (p_l_paid : PySem.W.keepIn K (.ref F_l_paid) = true)
    (a_l_more : PySem.W.nsIn K mainGlobals "_law_more" = some (some (.ref F_l_more)))
    (l_l_more : K.lookup F_l_more = some ⟨oc_l_more, od_l_more, .func (PySem.W.fnOf "_law_more" "_law_more" (defArgs s_l_more) (defBody s_l_more) (defScope s_l_more) .none kV_l_more dc_l_more pm_l_more an_l_more cd_l_more ct_l_more), sl_l_more⟩)
    (k_l_more : PySem.W.codeIn K cd_l_more "_law_more" = true)
    (p_l_more : PySem.W.keepIn K (.ref F_l_more) = true)
    (a_l_keeps : PySem.W.nsIn K mainGlobals "_law_keeps" = some (some (.ref F_l_keeps)))
    (l_l_keeps : K.lookup F_l_keeps = some ⟨oc_l_keeps, od_l_keeps, .func (PySem.W.fnOf "_law_keeps" "_law_keeps" (defArgs s_l_keeps) (defBody s_l_keeps) (defScope s_l_keeps) .none kV_l_keeps dc_l_keeps pm_l_keeps an_l_keeps cd_l_keeps ct_l_keeps), sl_l_keeps⟩)
    (k_l_keeps : PySem.W.codeIn K cd_l_keeps "_law_keeps" = true)
    (p_l_keeps : PySem.W.keepIn K (.ref F_l_keeps) = true)
    (a_l_rows : PySem.W.nsIn K mainGlobals "_law_rows" = some (some (.ref F_l_rows)))
    (l_l_rows : K.lookup F_l_rows = some ⟨oc_l_rows, od_l_rows, .func (PySem.W.fnOf "_law_rows" "_law_rows" (defArgs s_l_rows) (defBody s_l_rows) (defScope s_l_rows) .none kV_l_rows dc_l_rows pm_l_rows an_l_rows cd_l_rows ct_l_rows), sl_l_rows⟩)
    (k_l_rows : PySem.W.codeIn K cd_l_rows "_law_rows" = true)
    (p_l_rows : PySem.W.keepIn K (.ref F_l_rows) = true)
    (a_l_total : PySem.W.nsIn K mainGlobals "_law_total" = some (some (.ref F_l_total)))
    (l_l_total : K.lookup F_l_total = some ⟨oc_l_total, od_l_total, .func (PySem.W.fnOf "_law_total" "_law_total" (defArgs s_l_total) (defBody s_l_total) (defScope s_l_total) .none kV_l_total dc_l_total pm_l_total an_l_total cd_l_total ct_l_total), sl_l_total⟩)
    (k_l_total : PySem.W.codeIn K cd_l_total "_law_total" = true)
    (p_l_total : PySem.W.keepIn K (.ref F_l_total) = true)
    (a_l_round : PySem.W.nsIn K mainGlobals "_law_round" = some (some (.ref F_l_round)))
    (l_l_round : K.lookup F_l_round = some ⟨oc_l_round, od_l_round, .func (PySem.W.fnOf "_law_round" "_law_round" (defArgs s_l_round) (defBody s_l_round) (defScope s_l_round) .none kV_l_round dc_l_round pm_l_round an_l_round cd_l_round ct_l_round), sl_l_round⟩)
    (k_l_round : PySem.W.codeIn K cd_l_round "_law_round" = true)
    (p_l_round : PySem.W.keepIn K (.ref F_l_round) = true)
    (a_l_greatest : PySem.W.nsIn K mainGlobals "_law_greatest" = some (some (.ref F_l_greatest)))
    (l_l_greatest : K.lookup F_l_greatest = some ⟨oc_l_greatest, od_l_greatest, .func (PySem.W.fnOf "_law_greatest" "_law_greatest" (defArgs s_l_greatest) (defBody s_l_greatest) (defScope s_l_greatest) .none kV_l_greatest dc_l_greatest pm_l_greatest an_l_greatest cd_l_greatest ct_l_greatest), sl_l_greatest⟩)
    (k_l_greatest : PySem.W.codeIn K cd_l_greatest "_law_greatest" = true)
    (p_l_greatest : PySem.W.keepIn K (.ref F_l_greatest) = true)
    (a_l_rule : PySem.W.nsIn K mainGlobals "_law_rule" = some (some (.ref F_l_rule)))
    (l_l_rule : K.lookup F_l_rule = some ⟨oc_l_rule, od_l_rule, .func (PySem.W.fnOf "_law_rule" "_law_rule" (defArgs s_l_rule) (defBody s_l_rule) (defScope s_l_rule) .none kV_l_rule dc_l_rule pm_l_rule an_l_rule cd_l_rule ct_l_rule), sl_l_rule⟩)
    (k_l_rule : PySem.W.codeIn K cd_l_rule "_law_rule" = true)
    (p_l_rule : PySem.W.keepIn K (.ref F_l_rule) = true)
    (a_l_fault : PySem.W.nsIn K mainGlobals "_law_fault" = some (some (.ref F_l_fault)))
    (l_l_fault : K.lookup F_l_fault = some ⟨oc_l_fault, od_l_fault, .func (PySem.W.fnOf "_law_fault" "_law_fault" (defArgs s_l_fault) (defBody s_l_fault) (defScope s_l_fault) .none kV_l_fault dc_l_fault pm_l_fault an_l_fault cd_l_fault ct_l_fault), sl_l_fault⟩)
    (k_l_fault : PySem.W.codeIn K cd_l_fault "_law_fault" = true)
    (p_l_fault : PySem.W.keepIn K (.ref F_l_fault) = true)
    (a_l_book_fault : PySem.W.nsIn K mainGlobals "_law_book_fault" = some (some (.ref F_l_book_fault)))
    (l_l_book_fault : K.lookup F_l_book_fault = some ⟨oc_l_book_fault, od_l_book_fault, .func (PySem.W.fnOf "_law_book_fault" "_law_book_fault" (defArgs s_l_book_fault) (defBody s_l_book_fault) (defScope s_l_book_fault) .none kV_l_book_fault dc_l_book_fault pm_l_book_fault an_l_book_fault cd_l_book_fault ct_l_book_fault), sl_l_book_fault⟩)
    (k_l_book_fault : PySem.W.codeIn K cd_l_book_fault "_law_book_fault" = true)
    (p_l_book_fault : PySem.W.keepIn K (.ref F_l_book_fault) = true)
    (a_l_faults : PySem.W.nsIn K mainGlobals "_law_faults" = some (some (.ref F_l_faults)))
    (l_l_faults : K.lookup F_l_faults = some ⟨oc_l_faults, od_l_faults, .func (PySem.W.fnOf "_law_faults" "_law_faults" (defArgs s_l_faults) (defBody s_l_faults) (defScope s_l_faults) .none kV_l_faults dc_l_faults pm_l_faults an_l_faults cd_l_faults ct_l_faults), sl_l_faults⟩)
    (k_l_faults : PySem.W.codeIn K cd_l_faults "_law_faults" = true)
    (p_l_faults : PySem.W.keepIn K (.ref F_l_faults) = true)
    (a_law : PySem.W.nsIn K mainGlobals "law" = some (some (.ref F_law)))
    (l_law : K.lookup F_law = some ⟨oc_law, od_law, .func (PySem.W.fnOf "law" "law" (defArgs s_law) (defBody s_law) (defScope s_law) .none kV_law dc_law pm_law an_law cd_law ct_law), sl_law⟩)
    (k_law : PySem.W.codeIn K cd_law "law" = true)
    (p_law : PySem.W.keepIn K (.ref F_law) = true)
    (z_sum : PySem.W.nsIn K mainGlobals "sum" = some none)
    (z_tuple : PySem.W.nsIn K mainGlobals "tuple" = some none)
    (z_range : PySem.W.nsIn K mainGlobals "range" = some none)
    (z_len : PySem.W.nsIn K mainGlobals "len" = some none)
    (z_enumerate : PySem.W.nsIn K mainGlobals "enumerate" = some none)
    (z_max : PySem.W.nsIn K mainGlobals "max" = some none)
    (z_all : PySem.W.nsIn K mainGlobals "all" = some none)
    (z_min : PySem.W.nsIn K mainGlobals "min" = some none)
    (z_list : PySem.W.nsIn K mainGlobals "list" = some none)
    (z_abs : PySem.W.nsIn K mainGlobals "abs" = some none)
    (z_int : PySem.W.nsIn K mainGlobals "int" = some none)
    (z_sorted : PySem.W.nsIn K mainGlobals "sorted" = some none)
    (z_repr : PySem.W.nsIn K mainGlobals "repr" = some none)
    (u_POWERS : PySem.W.nsIn K mainGlobals "POWERS" = some (some (.ref A_POWERS)))
    (v_POWERS : K.lookup A_POWERS = some ⟨.type "tuple", od_POWERS, .seq #[.int 1 t_POWERS_0, .int 2 t_POWERS_1, .int 4 t_POWERS_2, .int 8 t_POWERS_3, .int 16 t_POWERS_4, .int 32 t_POWERS_5, .int 64 t_POWERS_6] n_POWERS, sl_POWERS⟩)
    (u_LENGTHS : PySem.W.nsIn K mainGlobals "LENGTHS" = some (some (.ref A_LENGTHS)))
    (v_LENGTHS : K.lookup A_LENGTHS = some ⟨.type "tuple", od_LENGTHS, .seq #[.int 2 t_LENGTHS_0, .int 4 t_LENGTHS_1, .int 8 t_LENGTHS_2, .int 16 t_LENGTHS_3, .int 32 t_LENGTHS_4, .int 64 t_LENGTHS_5] n_LENGTHS, sl_LENGTHS⟩)
    (i_MOST_WORTH : PySem.W.nsIn K mainGlobals "MOST_WORTH" = some (some (.int 1000000 t_MOST_WORTH)))
    (i_MOST_BIDDERS : PySem.W.nsIn K mainGlobals "MOST_BIDDERS" = some (some (.int 6 t_MOST_BIDDERS)))
    (i_MOST_TYPES : PySem.W.nsIn K mainGlobals "MOST_TYPES" = some (some (.int 6 t_MOST_TYPES)))
    (i_MOST_ENDS : PySem.W.nsIn K mainGlobals "MOST_ENDS" = some (some (.int 64 t_MOST_ENDS)))
    (e_BadBook : ErrG P K mg "BadBook")
    (e_BadTable : ErrG P K mg "BadTable")
    (e_BadBidder : ErrG P K mg "BadBidder")
    (e_BadType : ErrG P K mg "BadType")
    (e_BadEnd : ErrG P K mg "BadEnd")
    (e_BadPaid : ErrG P K mg "BadPaid")
    (ea_BadPaid_BadPaid : PySem.W.nsIn K mainGlobals (Str.ofString "BadPaid") = some (some (.ref C_BadPaid_BadPaid)))
    (eb_BadPaid_BadPaid : PySem.W.nsIn K mainGlobals (Str.ofString "BadPaid") = some (some (.ref D_BadPaid_BadPaid)))
    (ec_BadPaid_BadPaid : PySem.W.exmOne K (.ref C_BadPaid_BadPaid) (.ref D_BadPaid_BadPaid) = some true)
    (ea_BadEnd_BadPaid : PySem.W.nsIn K mainGlobals (Str.ofString "BadEnd") = some (some (.ref C_BadEnd_BadPaid)))
    (eb_BadEnd_BadPaid : PySem.W.nsIn K mainGlobals (Str.ofString "BadPaid") = some (some (.ref D_BadEnd_BadPaid)))
    (ec_BadEnd_BadPaid : PySem.W.exmOne K (.ref C_BadEnd_BadPaid) (.ref D_BadEnd_BadPaid) = some false)
    (ea_BadType_BadPaid : PySem.W.nsIn K mainGlobals (Str.ofString "BadType") = some (some (.ref C_BadType_BadPaid)))
    (eb_BadType_BadPaid : PySem.W.nsIn K mainGlobals (Str.ofString "BadPaid") = some (some (.ref D_BadType_BadPaid)))
    (ec_BadType_BadPaid : PySem.W.exmOne K (.ref C_BadType_BadPaid) (.ref D_BadType_BadPaid) = some false)
    (ea_BadBidder_BadPaid : PySem.W.nsIn K mainGlobals (Str.ofString "BadBidder") = some (some (.ref C_BadBidder_BadPaid)))
    (eb_BadBidder_BadPaid : PySem.W.nsIn K mainGlobals (Str.ofString "BadPaid") = some (some (.ref D_BadBidder_BadPaid)))
    (ec_BadBidder_BadPaid : PySem.W.exmOne K (.ref C_BadBidder_BadPaid) (.ref D_BadBidder_BadPaid) = some false)
    (ea_BadBook_BadPaid : PySem.W.nsIn K mainGlobals (Str.ofString "BadBook") = some (some (.ref C_BadBook_BadPaid)))
    (eb_BadBook_BadPaid : PySem.W.nsIn K mainGlobals (Str.ofString "BadPaid") = some (some (.ref D_BadBook_BadPaid)))
    (ec_BadBook_BadPaid : PySem.W.exmOne K (.ref C_BadBook_BadPaid) (.ref D_BadBook_BadPaid) = some false)
    (ea_BadTable_BadPaid : PySem.W.nsIn K mainGlobals (Str.ofString "BadTable") = some (some (.ref C_BadTable_BadPaid)))
    (eb_BadTable_BadPaid : PySem.W.nsIn K mainGlobals (Str.ofString "BadPaid") = some (some (.ref D_BadTable_BadPaid)))
    (ec_BadTable_BadPaid : PySem.W.exmOne K (.ref C_BadTable_BadPaid) (.ref D_BadTable_BadPaid) = some false)
    (ea_BadPaid_BadEnd : PySem.W.nsIn K mainGlobals (Str.ofString "BadPaid") = some (some (.ref C_BadPaid_BadEnd)))
    (eb_BadPaid_BadEnd : PySem.W.nsIn K mainGlobals (Str.ofString "BadEnd") = some (some (.ref D_BadPaid_BadEnd)))
    (ec_BadPaid_BadEnd : PySem.W.exmOne K (.ref C_BadPaid_BadEnd) (.ref D_BadPaid_BadEnd) = some false)
    (ea_BadEnd_BadEnd : PySem.W.nsIn K mainGlobals (Str.ofString "BadEnd") = some (some (.ref C_BadEnd_BadEnd)))
    (eb_BadEnd_BadEnd : PySem.W.nsIn K mainGlobals (Str.ofString "BadEnd") = some (some (.ref D_BadEnd_BadEnd)))
    (ec_BadEnd_BadEnd : PySem.W.exmOne K (.ref C_BadEnd_BadEnd) (.ref D_BadEnd_BadEnd) = some true)
    (ea_BadType_BadEnd : PySem.W.nsIn K mainGlobals (Str.ofString "BadType") = some (some (.ref C_BadType_BadEnd)))
    (eb_BadType_BadEnd : PySem.W.nsIn K mainGlobals (Str.ofString "BadEnd") = some (some (.ref D_BadType_BadEnd)))
    (ec_BadType_BadEnd : PySem.W.exmOne K (.ref C_BadType_BadEnd) (.ref D_BadType_BadEnd) = some false)
    (ea_BadBidder_BadEnd : PySem.W.nsIn K mainGlobals (Str.ofString "BadBidder") = some (some (.ref C_BadBidder_BadEnd)))
    (eb_BadBidder_BadEnd : PySem.W.nsIn K mainGlobals (Str.ofString "BadEnd") = some (some (.ref D_BadBidder_BadEnd)))
    (ec_BadBidder_BadEnd : PySem.W.exmOne K (.ref C_BadBidder_BadEnd) (.ref D_BadBidder_BadEnd) = some false)
    (ea_BadBook_BadEnd : PySem.W.nsIn K mainGlobals (Str.ofString "BadBook") = some (some (.ref C_BadBook_BadEnd)))
    (eb_BadBook_BadEnd : PySem.W.nsIn K mainGlobals (Str.ofString "BadEnd") = some (some (.ref D_BadBook_BadEnd)))
    (ec_BadBook_BadEnd : PySem.W.exmOne K (.ref C_BadBook_BadEnd) (.ref D_BadBook_BadEnd) = some false)
    (ea_BadTable_BadEnd : PySem.W.nsIn K mainGlobals (Str.ofString "BadTable") = some (some (.ref C_BadTable_BadEnd)))
    (eb_BadTable_BadEnd : PySem.W.nsIn K mainGlobals (Str.ofString "BadEnd") = some (some (.ref D_BadTable_BadEnd)))
    (ec_BadTable_BadEnd : PySem.W.exmOne K (.ref C_BadTable_BadEnd) (.ref D_BadTable_BadEnd) = some false)
    (ea_BadPaid_BadType : PySem.W.nsIn K mainGlobals (Str.ofString "BadPaid") = some (some (.ref C_BadPaid_BadType)))
    (eb_BadPaid_BadType : PySem.W.nsIn K mainGlobals (Str.ofString "BadType") = some (some (.ref D_BadPaid_BadType)))
    (ec_BadPaid_BadType : PySem.W.exmOne K (.ref C_BadPaid_BadType) (.ref D_BadPaid_BadType) = some false)
    (ea_BadEnd_BadType : PySem.W.nsIn K mainGlobals (Str.ofString "BadEnd") = some (some (.ref C_BadEnd_BadType)))
    (eb_BadEnd_BadType : PySem.W.nsIn K mainGlobals (Str.ofString "BadType") = some (some (.ref D_BadEnd_BadType)))
    (ec_BadEnd_BadType : PySem.W.exmOne K (.ref C_BadEnd_BadType) (.ref D_BadEnd_BadType) = some false)
    (ea_BadType_BadType : PySem.W.nsIn K mainGlobals (Str.ofString "BadType") = some (some (.ref C_BadType_BadType)))
    (eb_BadType_BadType : PySem.W.nsIn K mainGlobals (Str.ofString "BadType") = some (some (.ref D_BadType_BadType)))
    (ec_BadType_BadType : PySem.W.exmOne K (.ref C_BadType_BadType) (.ref D_BadType_BadType) = some true)
    (ea_BadBidder_BadType : PySem.W.nsIn K mainGlobals (Str.ofString "BadBidder") = some (some (.ref C_BadBidder_BadType)))
    (eb_BadBidder_BadType : PySem.W.nsIn K mainGlobals (Str.ofString "BadType") = some (some (.ref D_BadBidder_BadType)))
    (ec_BadBidder_BadType : PySem.W.exmOne K (.ref C_BadBidder_BadType) (.ref D_BadBidder_BadType) = some false)
    (ea_BadBook_BadType : PySem.W.nsIn K mainGlobals (Str.ofString "BadBook") = some (some (.ref C_BadBook_BadType)))
    (eb_BadBook_BadType : PySem.W.nsIn K mainGlobals (Str.ofString "BadType") = some (some (.ref D_BadBook_BadType)))
    (ec_BadBook_BadType : PySem.W.exmOne K (.ref C_BadBook_BadType) (.ref D_BadBook_BadType) = some false)
    (ea_BadTable_BadType : PySem.W.nsIn K mainGlobals (Str.ofString "BadTable") = some (some (.ref C_BadTable_BadType)))
    (eb_BadTable_BadType : PySem.W.nsIn K mainGlobals (Str.ofString "BadType") = some (some (.ref D_BadTable_BadType)))
    (ec_BadTable_BadType : PySem.W.exmOne K (.ref C_BadTable_BadType) (.ref D_BadTable_BadType) = some false)
    (ea_BadPaid_BadTable : PySem.W.nsIn K mainGlobals (Str.ofString "BadPaid") = some (some (.ref C_BadPaid_BadTable)))
    (eb_BadPaid_BadTable : PySem.W.nsIn K mainGlobals (Str.ofString "BadTable") = some (some (.ref D_BadPaid_BadTable)))
    (ec_BadPaid_BadTable : PySem.W.exmOne K (.ref C_BadPaid_BadTable) (.ref D_BadPaid_BadTable) = some false)
    (ea_BadEnd_BadTable : PySem.W.nsIn K mainGlobals (Str.ofString "BadEnd") = some (some (.ref C_BadEnd_BadTable)))
    (eb_BadEnd_BadTable : PySem.W.nsIn K mainGlobals (Str.ofString "BadTable") = some (some (.ref D_BadEnd_BadTable)))
    (ec_BadEnd_BadTable : PySem.W.exmOne K (.ref C_BadEnd_BadTable) (.ref D_BadEnd_BadTable) = some false)
    (ea_BadType_BadTable : PySem.W.nsIn K mainGlobals (Str.ofString "BadType") = some (some (.ref C_BadType_BadTable)))
    (eb_BadType_BadTable : PySem.W.nsIn K mainGlobals (Str.ofString "BadTable") = some (some (.ref D_BadType_BadTable)))
    (ec_BadType_BadTable : PySem.W.exmOne K (.ref C_BadType_BadTable) (.ref D_BadType_BadTable) = some false)
    (ea_BadBidder_BadTable : PySem.W.nsIn K mainGlobals (Str.ofString "BadBidder") = some (some (.ref C_BadBidder_BadTable)))
    (eb_BadBidder_BadTable : PySem.W.nsIn K mainGlobals (Str.ofString "BadTable") = some (some (.ref D_BadBidder_BadTable)))
    (ec_BadBidder_BadTable : PySem.W.exmOne K (.ref C_BadBidder_BadTable) (.ref D_BadBidder_BadTable) = some false)
    (ea_BadBook_BadTable : PySem.W.nsIn K mainGlobals (Str.ofString "BadBook") = some (some (.ref C_BadBook_BadTable)))
    (eb_BadBook_BadTable : PySem.W.nsIn K mainGlobals (Str.ofString "BadTable") = some (some (.ref D_BadBook_BadTable)))
    (ec_BadBook_BadTable : PySem.W.exmOne K (.ref C_BadBook_BadTable) (.ref D_BadBook_BadTable) = some false)
    (ea_BadTable_BadTable : PySem.W.nsIn K mainGlobals (Str.ofString "BadTable") = some (some (.ref C_BadTable_BadTable)))
    (eb_BadTable_BadTable : PySem.W.nsIn K mainGlobals (Str.ofString "BadTable") = some (some (.ref D_BadTable_BadTable)))
    (ec_BadTable_BadTable : PySem.W.exmOne K (.ref C_BadTable_BadTable) (.ref D_BadTable_BadTable) = some true)
    (ea_BadPaid_BadBidder : PySem.W.nsIn K mainGlobals (Str.ofString "BadPaid") = some (some (.ref C_BadPaid_BadBidder)))
    (eb_BadPaid_BadBidder : PySem.W.nsIn K mainGlobals (Str.ofString "BadBidder") = some (some (.ref D_BadPaid_BadBidder)))
    (ec_BadPaid_BadBidder : PySem.W.exmOne K (.ref C_BadPaid_BadBidder) (.ref D_BadPaid_BadBidder) = some false)
    (ea_BadEnd_BadBidder : PySem.W.nsIn K mainGlobals (Str.ofString "BadEnd") = some (some (.ref C_BadEnd_BadBidder)))
    (eb_BadEnd_BadBidder : PySem.W.nsIn K mainGlobals (Str.ofString "BadBidder") = some (some (.ref D_BadEnd_BadBidder)))
    (ec_BadEnd_BadBidder : PySem.W.exmOne K (.ref C_BadEnd_BadBidder) (.ref D_BadEnd_BadBidder) = some false)
    (ea_BadType_BadBidder : PySem.W.nsIn K mainGlobals (Str.ofString "BadType") = some (some (.ref C_BadType_BadBidder)))
    (eb_BadType_BadBidder : PySem.W.nsIn K mainGlobals (Str.ofString "BadBidder") = some (some (.ref D_BadType_BadBidder)))
    (ec_BadType_BadBidder : PySem.W.exmOne K (.ref C_BadType_BadBidder) (.ref D_BadType_BadBidder) = some false)
    (ea_BadBidder_BadBidder : PySem.W.nsIn K mainGlobals (Str.ofString "BadBidder") = some (some (.ref C_BadBidder_BadBidder)))
    (eb_BadBidder_BadBidder : PySem.W.nsIn K mainGlobals (Str.ofString "BadBidder") = some (some (.ref D_BadBidder_BadBidder)))
    (ec_BadBidder_BadBidder : PySem.W.exmOne K (.ref C_BadBidder_BadBidder) (.ref D_BadBidder_BadBidder) = some true)
    (ea_BadBook_BadBidder : PySem.W.nsIn K mainGlobals (Str.ofString "BadBook") = some (some (.ref C_BadBook_BadBidder)))
    (eb_BadBook_BadBidder : PySem.W.nsIn K mainGlobals (Str.ofString "BadBidder") = some (some (.ref D_BadBook_BadBidder)))
    (ec_BadBook_BadBidder : PySem.W.exmOne K (.ref C_BadBook_BadBidder) (.ref D_BadBook_BadBidder) = some false)
    (ea_BadTable_BadBidder : PySem.W.nsIn K mainGlobals (Str.ofString "BadTable") = some (some (.ref C_BadTable_BadBidder)))
    (eb_BadTable_BadBidder : PySem.W.nsIn K mainGlobals (Str.ofString "BadBidder") = some (some (.ref D_BadTable_BadBidder)))
    (ec_BadTable_BadBidder : PySem.W.exmOne K (.ref C_BadTable_BadBidder) (.ref D_BadTable_BadBidder) = some false)
    (ea_BadPaid_BadBook : PySem.W.nsIn K mainGlobals (Str.ofString "BadPaid") = some (some (.ref C_BadPaid_BadBook)))
    (eb_BadPaid_BadBook : PySem.W.nsIn K mainGlobals (Str.ofString "BadBook") = some (some (.ref D_BadPaid_BadBook)))
    (ec_BadPaid_BadBook : PySem.W.exmOne K (.ref C_BadPaid_BadBook) (.ref D_BadPaid_BadBook) = some false)
    (ea_BadEnd_BadBook : PySem.W.nsIn K mainGlobals (Str.ofString "BadEnd") = some (some (.ref C_BadEnd_BadBook)))
    (eb_BadEnd_BadBook : PySem.W.nsIn K mainGlobals (Str.ofString "BadBook") = some (some (.ref D_BadEnd_BadBook)))
    (ec_BadEnd_BadBook : PySem.W.exmOne K (.ref C_BadEnd_BadBook) (.ref D_BadEnd_BadBook) = some false)
    (ea_BadType_BadBook : PySem.W.nsIn K mainGlobals (Str.ofString "BadType") = some (some (.ref C_BadType_BadBook)))
    (eb_BadType_BadBook : PySem.W.nsIn K mainGlobals (Str.ofString "BadBook") = some (some (.ref D_BadType_BadBook)))
    (ec_BadType_BadBook : PySem.W.exmOne K (.ref C_BadType_BadBook) (.ref D_BadType_BadBook) = some false)
    (ea_BadBidder_BadBook : PySem.W.nsIn K mainGlobals (Str.ofString "BadBidder") = some (some (.ref C_BadBidder_BadBook)))
    (eb_BadBidder_BadBook : PySem.W.nsIn K mainGlobals (Str.ofString "BadBook") = some (some (.ref D_BadBidder_BadBook)))
    (ec_BadBidder_BadBook : PySem.W.exmOne K (.ref C_BadBidder_BadBook) (.ref D_BadBidder_BadBook) = some false)
    (ea_BadBook_BadBook : PySem.W.nsIn K mainGlobals (Str.ofString "BadBook") = some (some (.ref C_BadBook_BadBook)))
    (eb_BadBook_BadBook : PySem.W.nsIn K mainGlobals (Str.ofString "BadBook") = some (some (.ref D_BadBook_BadBook)))
    (ec_BadBook_BadBook : PySem.W.exmOne K (.ref C_BadBook_BadBook) (.ref D_BadBook_BadBook) = some true)
    (ea_BadTable_BadBook : PySem.W.nsIn K mainGlobals (Str.ofString "BadTable") = some (some (.ref C_BadTable_BadBook)))
    (eb_BadTable_BadBook : PySem.W.nsIn K mainGlobals (Str.ofString "BadBook") = some (some (.ref D_BadTable_BadBook)))
    (ec_BadTable_BadBook : PySem.W.exmOne K (.ref C_BadTable_BadBook) (.ref D_BadTable_BadBook) = some false) : Txt P K mg :=
  ⟨mk_def X G0 a_number_of l_number_of k_number_of p_number_of (fun _ _ _ _ _ _ us hl => match us, hl with | [_], _ => rfl),
   mk_def X G0 a_bundle_of l_bundle_of k_bundle_of p_bundle_of (fun _ _ _ _ _ _ us hl => match us, hl with | [_], _ => rfl),
   mk_def X G0 a_within l_within k_within p_within (fun _ _ _ _ _ _ us hl => match us, hl with | [_, _], _ => rfl),
   mk_def X G0 a_parts_of l_parts_of k_parts_of p_parts_of (fun _ _ _ _ _ _ us hl => match us, hl with | [_], _ => rfl),
   mk_def X G0 a_is_table l_is_table k_is_table p_is_table (fun _ _ _ _ _ _ us hl => match us, hl with | [_], _ => rfl),
   mk_def X G0 a_check_book l_check_book k_check_book p_check_book (fun _ _ _ _ _ _ us hl => match us, hl with | [_], _ => rfl),
   mk_def X G0 a_most_at l_most_at k_most_at p_most_at (fun _ _ _ _ _ _ us hl => match us, hl with | [_, _, _], _ => rfl),
   mk_def X G0 a_rests l_rests k_rests p_rests (fun _ _ _ _ _ _ us hl => match us, hl with | [_], _ => rfl),
   mk_def X G0 a_best_of l_best_of k_best_of p_best_of (fun _ _ _ _ _ _ us hl => match us, hl with | [_], _ => rfl),
   mk_def X G0 a_sum_without l_sum_without k_sum_without p_sum_without (fun _ _ _ _ _ _ us hl => match us, hl with | [_, _], _ => rfl),
   mk_def X G0 a_check_bidder l_check_bidder k_check_bidder p_check_bidder (fun _ _ _ _ _ _ us hl => match us, hl with | [_, _], _ => rfl),
   mk_def X G0 a_paid_by l_paid_by k_paid_by p_paid_by (fun _ _ _ _ _ _ us hl => match us, hl with | [_, _, _, _, _], _ => rfl),
   mk_def X G0 a_all_paid l_all_paid k_all_paid p_all_paid (fun _ _ _ _ _ _ us hl => match us, hl with | [_, _], _ => rfl),
   mk_def X G0 a_with_lie l_with_lie k_with_lie p_with_lie (fun _ _ _ _ _ _ us hl => match us, hl with | [_, _, _], _ => rfl),
   mk_def X G0 a_check_rule l_check_rule k_check_rule p_check_rule (fun _ _ _ _ _ _ us hl => match us, hl with | [_, _], _ => rfl),
   mk_def X G0 a_likes_more l_likes_more k_likes_more p_likes_more (fun _ _ _ _ _ _ us hl => match us, hl with | [_, _, _, _], _ => rfl),
   mk_def X G0 a_does_keep l_does_keep k_does_keep p_does_keep (fun _ _ _ _ _ _ us hl => match us, hl with | [_, _, _], _ => rfl),
   mk_def X G0 a_keep_truth l_keep_truth k_keep_truth p_keep_truth (fun _ _ _ _ _ _ us hl => match us, hl with | [_, _, _], _ => rfl),
   mk_def X G0 a_sum_round l_sum_round k_sum_round p_sum_round (fun _ _ _ _ _ _ us hl => match us, hl with | [_, _, _], _ => rfl),
   mk_def X G0 a_gain_of_round l_gain_of_round k_gain_of_round p_gain_of_round (fun _ _ _ _ _ _ us hl => match us, hl with | [_, _, _], _ => rfl),
   mk_def X G0 a_longer l_longer k_longer p_longer (fun _ _ _ _ _ _ us hl => match us, hl with | [_, _], _ => rfl),
   mk_def X G0 a_round_of_gains l_round_of_gains k_round_of_gains p_round_of_gains (fun _ _ _ _ _ _ us hl => match us, hl with | [_, _], _ => rfl),
   mk_def X G0 a_greatest_payments l_greatest_payments k_greatest_payments p_greatest_payments (fun _ _ _ _ _ _ us hl => match us, hl with | [_, _], _ => rfl),
   mk_def X G0 a_check_wishes l_check_wishes k_check_wishes p_check_wishes (fun _ _ _ _ _ _ us hl => match us, hl with | [_, _, _], _ => rfl),
   mk_def X G0 a_rule_in l_rule_in k_rule_in p_rule_in (fun _ _ _ _ _ _ us hl => match us, hl with | [_, _, _], _ => rfl),
   mk_def X G0 a_fair_in l_fair_in k_fair_in p_fair_in (fun _ _ _ _ _ _ us hl => match us, hl with | [_, _, _], _ => rfl),
   mk_def X G0 a_l_draws l_l_draws k_l_draws p_l_draws (fun _ _ _ _ _ _ us hl => match us, hl with | [_], _ => rfl),
   mk_def X G0 a_l_mix l_l_mix k_l_mix p_l_mix (fun _ _ _ _ _ _ us hl => match us, hl with | [_, _, _], _ => rfl),
   mk_def X G0 a_l_subsets l_l_subsets k_l_subsets p_l_subsets (fun _ _ _ _ _ _ us hl => match us, hl with | [_], _ => rfl),
   mk_def X G0 a_l_at l_l_at k_l_at p_l_at (fun _ _ _ _ _ _ us hl => match us, hl with | [_, _], _ => rfl),
   mk_def X G0 a_l_drawn l_l_drawn k_l_drawn p_l_drawn (fun _ _ _ _ _ _ us hl => match us, hl with | [_, _, _], _ => rfl),
   mk_def X G0 a_l_book l_l_book k_l_book p_l_book (fun _ _ _ _ _ _ us hl => match us, hl with | [_, _, _, _], _ => rfl),
   mk_def X G0 a_l_shares l_l_shares k_l_shares p_l_shares (fun _ _ _ _ _ _ us hl => match us, hl with | [_, _], _ => rfl),
   mk_def X G0 a_l_numbers l_l_numbers k_l_numbers p_l_numbers (fun _ _ _ _ _ _ us hl => match us, hl with | [_], _ => rfl),
   mk_def X G0 a_l_sum l_l_sum k_l_sum p_l_sum (fun _ _ _ _ _ _ us hl => match us, hl with | [_, _], _ => rfl),
   mk_def X G0 a_l_best l_l_best k_l_best p_l_best (fun _ _ _ _ _ _ us hl => match us, hl with | [_, _], _ => rfl),
   mk_def X G0 a_l_paid l_l_paid k_l_paid p_l_paid (fun _ _ _ _ _ _ us hl => match us, hl with | [_, _, _], _ => rfl),
   mk_def X G0 a_l_more l_l_more k_l_more p_l_more (fun _ _ _ _ _ _ us hl => match us, hl with | [_, _, _, _], _ => rfl),
   mk_def X G0 a_l_keeps l_l_keeps k_l_keeps p_l_keeps (fun _ _ _ _ _ _ us hl => match us, hl with | [_, _, _], _ => rfl),
   mk_def X G0 a_l_rows l_l_rows k_l_rows p_l_rows (fun _ _ _ _ _ _ us hl => match us, hl with | [_], _ => rfl),
   mk_def X G0 a_l_total l_l_total k_l_total p_l_total (fun _ _ _ _ _ _ us hl => match us, hl with | [_, _, _], _ => rfl),
   mk_def X G0 a_l_round l_l_round k_l_round p_l_round (fun _ _ _ _ _ _ us hl => match us, hl with | [_, _], _ => rfl),
   mk_def X G0 a_l_greatest l_l_greatest k_l_greatest p_l_greatest (fun _ _ _ _ _ _ us hl => match us, hl with | [_, _], _ => rfl),
   mk_def X G0 a_l_rule l_l_rule k_l_rule p_l_rule (fun _ _ _ _ _ _ us hl => match us, hl with | [_, _], _ => rfl),
   mk_def X G0 a_l_fault l_l_fault k_l_fault p_l_fault (fun _ _ _ _ _ _ us hl => match us, hl with | [_, _, _, _], _ => rfl),
   mk_def X G0 a_l_book_fault l_l_book_fault k_l_book_fault p_l_book_fault (fun _ _ _ _ _ _ us hl => match us, hl with | [_, _, _, _], _ => rfl),
   mk_def X G0 a_l_faults l_l_faults k_l_faults p_l_faults (fun _ _ _ _ _ _ us hl => match us, hl with | [], _ => rfl),
   mk_def X G0 a_law l_law k_law p_law (fun _ _ _ _ _ _ us hl => match us, hl with | [_], _ => rfl),
   mk_none X G0 z_sum,
   mk_none X G0 z_tuple,
   mk_none X G0 z_range,
   mk_none X G0 z_len,
   mk_none X G0 z_enumerate,
   mk_none X G0 z_max,
   mk_none X G0 z_all,
   mk_none X G0 z_min,
   mk_none X G0 z_list,
   mk_none X G0 z_abs,
   mk_none X G0 z_int,
   mk_none X G0 z_sorted,
   mk_none X G0 z_repr,
   mk_tup X G0 u_POWERS v_POWERS (.int (.int (.int (.int (.int (.int (.int .nil))))))) (show (7 : Nat) ≤ sizeLine by decide),
   mk_tup X G0 u_LENGTHS v_LENGTHS (.int (.int (.int (.int (.int (.int .nil)))))) (show (6 : Nat) ≤ sizeLine by decide),
   mk_int X G0 i_MOST_WORTH,
   mk_int X G0 i_MOST_BIDDERS,
   mk_int X G0 i_MOST_TYPES,
   mk_int X G0 i_MOST_ENDS,
   e_BadBook,
   e_BadTable,
   e_BadBidder,
   e_BadType,
   e_BadEnd,
   e_BadPaid,
   mk_exm X G0 ea_BadPaid_BadPaid eb_BadPaid_BadPaid ec_BadPaid_BadPaid e_BadPaid,
   mk_exm X G0 ea_BadEnd_BadPaid eb_BadEnd_BadPaid ec_BadEnd_BadPaid e_BadEnd,
   mk_exm X G0 ea_BadType_BadPaid eb_BadType_BadPaid ec_BadType_BadPaid e_BadType,
   mk_exm X G0 ea_BadBidder_BadPaid eb_BadBidder_BadPaid ec_BadBidder_BadPaid e_BadBidder,
   mk_exm X G0 ea_BadBook_BadPaid eb_BadBook_BadPaid ec_BadBook_BadPaid e_BadBook,
   mk_exm X G0 ea_BadTable_BadPaid eb_BadTable_BadPaid ec_BadTable_BadPaid e_BadTable,
   mk_exm X G0 ea_BadPaid_BadEnd eb_BadPaid_BadEnd ec_BadPaid_BadEnd e_BadPaid,
   mk_exm X G0 ea_BadEnd_BadEnd eb_BadEnd_BadEnd ec_BadEnd_BadEnd e_BadEnd,
   mk_exm X G0 ea_BadType_BadEnd eb_BadType_BadEnd ec_BadType_BadEnd e_BadType,
   mk_exm X G0 ea_BadBidder_BadEnd eb_BadBidder_BadEnd ec_BadBidder_BadEnd e_BadBidder,
   mk_exm X G0 ea_BadBook_BadEnd eb_BadBook_BadEnd ec_BadBook_BadEnd e_BadBook,
   mk_exm X G0 ea_BadTable_BadEnd eb_BadTable_BadEnd ec_BadTable_BadEnd e_BadTable,
   mk_exm X G0 ea_BadPaid_BadType eb_BadPaid_BadType ec_BadPaid_BadType e_BadPaid,
   mk_exm X G0 ea_BadEnd_BadType eb_BadEnd_BadType ec_BadEnd_BadType e_BadEnd,
   mk_exm X G0 ea_BadType_BadType eb_BadType_BadType ec_BadType_BadType e_BadType,
   mk_exm X G0 ea_BadBidder_BadType eb_BadBidder_BadType ec_BadBidder_BadType e_BadBidder,
   mk_exm X G0 ea_BadBook_BadType eb_BadBook_BadType ec_BadBook_BadType e_BadBook,
   mk_exm X G0 ea_BadTable_BadType eb_BadTable_BadType ec_BadTable_BadType e_BadTable,
   mk_exm X G0 ea_BadPaid_BadTable eb_BadPaid_BadTable ec_BadPaid_BadTable e_BadPaid,
   mk_exm X G0 ea_BadEnd_BadTable eb_BadEnd_BadTable ec_BadEnd_BadTable e_BadEnd,
   mk_exm X G0 ea_BadType_BadTable eb_BadType_BadTable ec_BadType_BadTable e_BadType,
   mk_exm X G0 ea_BadBidder_BadTable eb_BadBidder_BadTable ec_BadBidder_BadTable e_BadBidder,
   mk_exm X G0 ea_BadBook_BadTable eb_BadBook_BadTable ec_BadBook_BadTable e_BadBook,
   mk_exm X G0 ea_BadTable_BadTable eb_BadTable_BadTable ec_BadTable_BadTable e_BadTable,
   mk_exm X G0 ea_BadPaid_BadBidder eb_BadPaid_BadBidder ec_BadPaid_BadBidder e_BadPaid,
   mk_exm X G0 ea_BadEnd_BadBidder eb_BadEnd_BadBidder ec_BadEnd_BadBidder e_BadEnd,
   mk_exm X G0 ea_BadType_BadBidder eb_BadType_BadBidder ec_BadType_BadBidder e_BadType,
   mk_exm X G0 ea_BadBidder_BadBidder eb_BadBidder_BadBidder ec_BadBidder_BadBidder e_BadBidder,
   mk_exm X G0 ea_BadBook_BadBidder eb_BadBook_BadBidder ec_BadBook_BadBidder e_BadBook,
   mk_exm X G0 ea_BadTable_BadBidder eb_BadTable_BadBidder ec_BadTable_BadBidder e_BadTable,
   mk_exm X G0 ea_BadPaid_BadBook eb_BadPaid_BadBook ec_BadPaid_BadBook e_BadPaid,
   mk_exm X G0 ea_BadEnd_BadBook eb_BadEnd_BadBook ec_BadEnd_BadBook e_BadEnd,
   mk_exm X G0 ea_BadType_BadBook eb_BadType_BadBook ec_BadType_BadBook e_BadType,
   mk_exm X G0 ea_BadBidder_BadBook eb_BadBidder_BadBook ec_BadBidder_BadBook e_BadBidder,
   mk_exm X G0 ea_BadBook_BadBook eb_BadBook_BadBook ec_BadBook_BadBook e_BadBook,
   mk_exm X G0 ea_BadTable_BadBook eb_BadTable_BadBook ec_BadTable_BadBook e_BadTable⟩
end K05

open PySem PySem.W PyProof.Rows
set_option maxHeartbeats 0 in
theorem PySem.Challenge.cw_truebidsbest_k05_main_rules_paid_exactly_holds : PySem.Challenge.rw_truebidsbest_k05_main_rules_paid_exactly.Holds := by
  w_on; o_law; k_head; (case hw => w_witness2)
  k_fill
  refine G.walk_g (l := PySem.Challenge.rw_truebidsbest_k05_main_rules_paid_exactly) (n := 63) (k := 12) (F := K05.f_law) rfl (by decide) rfl ⟨rfl, by decide, by decide⟩ (fun w h Y => PySem.W.kIn_of Y) ?C K05.good
  case C =>
    intro w mg h KX G0 base KB GB
    refine K05.c_law ?T
    refine' K05.mk_txt KX G0 ?a_number_of ?l_number_of ?k_number_of ?p_number_of ?a_bundle_of ?l_bundle_of ?k_bundle_of ?p_bundle_of ?a_within ?l_within ?k_within ?p_within ?a_parts_of ?l_parts_of ?k_parts_of ?p_parts_of ?a_is_table ?l_is_table ?k_is_table ?p_is_table ?a_check_book ?l_check_book ?k_check_book ?p_check_book ?a_most_at ?l_most_at ?k_most_at ?p_most_at ?a_rests ?l_rests ?k_rests ?p_rests ?a_best_of ?l_best_of ?k_best_of ?p_best_of ?a_sum_without ?l_sum_without ?k_sum_without ?p_sum_without ?a_check_bidder ?l_check_bidder ?k_check_bidder ?p_check_bidder ?a_paid_by ?l_paid_by ?k_paid_by ?p_paid_by ?a_all_paid ?l_all_paid ?k_all_paid ?p_all_paid ?a_with_lie ?l_with_lie ?k_with_lie ?p_with_lie ?a_check_rule ?l_check_rule ?k_check_rule ?p_check_rule ?a_likes_more ?l_likes_more ?k_likes_more ?p_likes_more ?a_does_keep ?l_does_keep ?k_does_keep ?p_does_keep ?a_keep_truth ?l_keep_truth ?k_keep_truth ?p_keep_truth ?a_sum_round ?l_sum_round ?k_sum_round ?p_sum_round ?a_gain_of_round ?l_gain_of_round ?k_gain_of_round ?p_gain_of_round ?a_longer ?l_longer ?k_longer ?p_longer ?a_round_of_gains ?l_round_of_gains ?k_round_of_gains ?p_round_of_gains ?a_greatest_payments ?l_greatest_payments ?k_greatest_payments ?p_greatest_payments ?a_check_wishes ?l_check_wishes ?k_check_wishes ?p_check_wishes ?a_rule_in ?l_rule_in ?k_rule_in ?p_rule_in ?a_fair_in ?l_fair_in ?k_fair_in ?p_fair_in ?a_l_draws ?l_l_draws ?k_l_draws ?p_l_draws ?a_l_mix ?l_l_mix ?k_l_mix ?p_l_mix ?a_l_subsets ?l_l_subsets ?k_l_subsets ?p_l_subsets ?a_l_at ?l_l_at ?k_l_at ?p_l_at ?a_l_drawn ?l_l_drawn ?k_l_drawn ?p_l_drawn ?a_l_book ?l_l_book ?k_l_book ?p_l_book ?a_l_shares ?l_l_shares ?k_l_shares ?p_l_shares ?a_l_numbers ?l_l_numbers ?k_l_numbers ?p_l_numbers ?a_l_sum ?l_l_sum ?k_l_sum ?p_l_sum ?a_l_best ?l_l_best ?k_l_best ?p_l_best ?a_l_paid ?l_l_paid ?k_l_paid ?p_l_paid ?a_l_more ?l_l_more ?k_l_more ?p_l_more ?a_l_keeps ?l_l_keeps ?k_l_keeps ?p_l_keeps ?a_l_rows ?l_l_rows ?k_l_rows ?p_l_rows ?a_l_total ?l_l_total ?k_l_total ?p_l_total ?a_l_round ?l_l_round ?k_l_round ?p_l_round ?a_l_greatest ?l_l_greatest ?k_l_greatest ?p_l_greatest ?a_l_rule ?l_l_rule ?k_l_rule ?p_l_rule ?a_l_fault ?l_l_fault ?k_l_fault ?p_l_fault ?a_l_book_fault ?l_l_book_fault ?k_l_book_fault ?p_l_book_fault ?a_l_faults ?l_l_faults ?k_l_faults ?p_l_faults ?a_law ?l_law ?k_law ?p_law ?z_sum ?z_tuple ?z_range ?z_len ?z_enumerate ?z_max ?z_all ?z_min ?z_list ?z_abs ?z_int ?z_sorted ?z_repr ?u_POWERS ?v_POWERS ?u_LENGTHS ?v_LENGTHS ?i_MOST_WORTH ?i_MOST_BIDDERS ?i_MOST_TYPES ?i_MOST_ENDS ?e_BadBook ?e_BadTable ?e_BadBidder ?e_BadType ?e_BadEnd ?e_BadPaid ?ea_BadPaid_BadPaid ?eb_BadPaid_BadPaid ?ec_BadPaid_BadPaid ?ea_BadEnd_BadPaid ?eb_BadEnd_BadPaid ?ec_BadEnd_BadPaid ?ea_BadType_BadPaid ?eb_BadType_BadPaid ?ec_BadType_BadPaid ?ea_BadBidder_BadPaid ?eb_BadBidder_BadPaid ?ec_BadBidder_BadPaid ?ea_BadBook_BadPaid ?eb_BadBook_BadPaid ?ec_BadBook_BadPaid ?ea_BadTable_BadPaid ?eb_BadTable_BadPaid ?ec_BadTable_BadPaid ?ea_BadPaid_BadEnd ?eb_BadPaid_BadEnd ?ec_BadPaid_BadEnd ?ea_BadEnd_BadEnd ?eb_BadEnd_BadEnd ?ec_BadEnd_BadEnd ?ea_BadType_BadEnd ?eb_BadType_BadEnd ?ec_BadType_BadEnd ?ea_BadBidder_BadEnd ?eb_BadBidder_BadEnd ?ec_BadBidder_BadEnd ?ea_BadBook_BadEnd ?eb_BadBook_BadEnd ?ec_BadBook_BadEnd ?ea_BadTable_BadEnd ?eb_BadTable_BadEnd ?ec_BadTable_BadEnd ?ea_BadPaid_BadType ?eb_BadPaid_BadType ?ec_BadPaid_BadType ?ea_BadEnd_BadType ?eb_BadEnd_BadType ?ec_BadEnd_BadType ?ea_BadType_BadType ?eb_BadType_BadType ?ec_BadType_BadType ?ea_BadBidder_BadType ?eb_BadBidder_BadType ?ec_BadBidder_BadType ?ea_BadBook_BadType ?eb_BadBook_BadType ?ec_BadBook_BadType ?ea_BadTable_BadType ?eb_BadTable_BadType ?ec_BadTable_BadType ?ea_BadPaid_BadTable ?eb_BadPaid_BadTable ?ec_BadPaid_BadTable ?ea_BadEnd_BadTable ?eb_BadEnd_BadTable ?ec_BadEnd_BadTable ?ea_BadType_BadTable ?eb_BadType_BadTable ?ec_BadType_BadTable ?ea_BadBidder_BadTable ?eb_BadBidder_BadTable ?ec_BadBidder_BadTable ?ea_BadBook_BadTable ?eb_BadBook_BadTable ?ec_BadBook_BadTable ?ea_BadTable_BadTable ?eb_BadTable_BadTable ?ec_BadTable_BadTable ?ea_BadPaid_BadBidder ?eb_BadPaid_BadBidder ?ec_BadPaid_BadBidder ?ea_BadEnd_BadBidder ?eb_BadEnd_BadBidder ?ec_BadEnd_BadBidder ?ea_BadType_BadBidder ?eb_BadType_BadBidder ?ec_BadType_BadBidder ?ea_BadBidder_BadBidder ?eb_BadBidder_BadBidder ?ec_BadBidder_BadBidder ?ea_BadBook_BadBidder ?eb_BadBook_BadBidder ?ec_BadBook_BadBidder ?ea_BadTable_BadBidder ?eb_BadTable_BadBidder ?ec_BadTable_BadBidder ?ea_BadPaid_BadBook ?eb_BadPaid_BadBook ?ec_BadPaid_BadBook ?ea_BadEnd_BadBook ?eb_BadEnd_BadBook ?ec_BadEnd_BadBook ?ea_BadType_BadBook ?eb_BadType_BadBook ?ec_BadType_BadBook ?ea_BadBidder_BadBook ?eb_BadBidder_BadBook ?ec_BadBidder_BadBook ?ea_BadBook_BadBook ?eb_BadBook_BadBook ?ec_BadBook_BadBook ?ea_BadTable_BadBook ?eb_BadTable_BadBook ?ec_BadTable_BadBook
    (case a_number_of => k_is)
    (case l_number_of => k_is)
    (case k_number_of => k_is)
    (case p_number_of => k_is)
    (case a_bundle_of => k_is)
    (case l_bundle_of => k_is)
    (case k_bundle_of => k_is)
    (case p_bundle_of => k_is)
    (case a_within => k_is)
    (case l_within => k_is)
    (case k_within => k_is)
    (case p_within => k_is)
    (case a_parts_of => k_is)
    (case l_parts_of => k_is)
    (case k_parts_of => k_is)
    (case p_parts_of => k_is)
    (case a_is_table => k_is)
    (case l_is_table => k_is)
    (case k_is_table => k_is)
    (case p_is_table => k_is)
    (case a_check_book => k_is)
    (case l_check_book => k_is)
    (case k_check_book => k_is)
    (case p_check_book => k_is)
    (case a_most_at => k_is)
    (case l_most_at => k_is)
    (case k_most_at => k_is)
    (case p_most_at => k_is)
    (case a_rests => k_is)
    (case l_rests => k_is)
    (case k_rests => k_is)
    (case p_rests => k_is)
    (case a_best_of => k_is)
    (case l_best_of => k_is)
    (case k_best_of => k_is)
    (case p_best_of => k_is)
    (case a_sum_without => k_is)
    (case l_sum_without => k_is)
    (case k_sum_without => k_is)
    (case p_sum_without => k_is)
    (case a_check_bidder => k_is)
    (case l_check_bidder => k_is)
    (case k_check_bidder => k_is)
    (case p_check_bidder => k_is)
    (case a_paid_by => k_is)
    (case l_paid_by => k_is)
    (case k_paid_by => k_is)
    (case p_paid_by => k_is)
    (case a_all_paid => k_is)
    (case l_all_paid => k_is)
    (case k_all_paid => k_is)
    (case p_all_paid => k_is)
    (case a_with_lie => k_is)
    (case l_with_lie => k_is)
    (case k_with_lie => k_is)
    (case p_with_lie => k_is)
    (case a_check_rule => k_is)
    (case l_check_rule => k_is)
    (case k_check_rule => k_is)
    (case p_check_rule => k_is)
    (case a_likes_more => k_is)
    (case l_likes_more => k_is)
    (case k_likes_more => k_is)
    (case p_likes_more => k_is)
    (case a_does_keep => k_is)
    (case l_does_keep => k_is)
    (case k_does_keep => k_is)
    (case p_does_keep => k_is)
    (case a_keep_truth => k_is)
    (case l_keep_truth => k_is)
    (case k_keep_truth => k_is)
    (case p_keep_truth => k_is)
    (case a_sum_round => k_is)
    (case l_sum_round => k_is)
    (case k_sum_round => k_is)
    (case p_sum_round => k_is)
    (case a_gain_of_round => k_is)
    (case l_gain_of_round => k_is)
    (case k_gain_of_round => k_is)
    (case p_gain_of_round => k_is)
    (case a_longer => k_is)
    (case l_longer => k_is)
    (case k_longer => k_is)
    (case p_longer => k_is)
    (case a_round_of_gains => k_is)
    (case l_round_of_gains => k_is)
    (case k_round_of_gains => k_is)
    (case p_round_of_gains => k_is)
    (case a_greatest_payments => k_is)
    (case l_greatest_payments => k_is)
    (case k_greatest_payments => k_is)
    (case p_greatest_payments => k_is)
    (case a_check_wishes => k_is)
    (case l_check_wishes => k_is)
    (case k_check_wishes => k_is)
    (case p_check_wishes => k_is)
    (case a_rule_in => k_is)
    (case l_rule_in => k_is)
    (case k_rule_in => k_is)
    (case p_rule_in => k_is)
    (case a_fair_in => k_is)
    (case l_fair_in => k_is)
    (case k_fair_in => k_is)
    (case p_fair_in => k_is)
    (case a_l_draws => k_is)
    (case l_l_draws => k_is)
    (case k_l_draws => k_is)
    (case p_l_draws => k_is)
    (case a_l_mix => k_is)
    (case l_l_mix => k_is)
    (case k_l_mix => k_is)
    (case p_l_mix => k_is)
    (case a_l_subsets => k_is)
    (case l_l_subsets => k_is)
    (case k_l_subsets => k_is)
    (case p_l_subsets => k_is)
    (case a_l_at => k_is)
    (case l_l_at => k_is)
    (case k_l_at => k_is)
    (case p_l_at => k_is)
    (case a_l_drawn => k_is)
    (case l_l_drawn => k_is)
    (case k_l_drawn => k_is)
    (case p_l_drawn => k_is)
    (case a_l_book => k_is)
    (case l_l_book => k_is)
    (case k_l_book => k_is)
    (case p_l_book => k_is)
    (case a_l_shares => k_is)
    (case l_l_shares => k_is)
    (case k_l_shares => k_is)
    (case p_l_shares => k_is)
    (case a_l_numbers => k_is)
    (case l_l_numbers => k_is)
    (case k_l_numbers => k_is)
    (case p_l_numbers => k_is)
    (case a_l_sum => k_is)
    (case l_l_sum => k_is)
    (case k_l_sum => k_is)
    (case p_l_sum => k_is)
    (case a_l_best => k_is)
    (case l_l_best => k_is)
    (case k_l_best => k_is)
    (case p_l_best => k_is)
    (case a_l_paid => k_is)
    (case l_l_paid => k_is)
    (case k_l_paid => k_is)
    (case p_l_paid => k_is)
    (case a_l_more => k_is)
    (case l_l_more => k_is)
    (case k_l_more => k_is)
    (case p_l_more => k_is)
    (case a_l_keeps => k_is)
    (case l_l_keeps => k_is)
    (case k_l_keeps => k_is)
    (case p_l_keeps => k_is)
    (case a_l_rows => k_is)
    (case l_l_rows => k_is)
    (case k_l_rows => k_is)
    (case p_l_rows => k_is)
    (case a_l_total => k_is)
    (case l_l_total => k_is)
    (case k_l_total => k_is)
    (case p_l_total => k_is)
    (case a_l_round => k_is)
    (case l_l_round => k_is)
    (case k_l_round => k_is)
    (case p_l_round => k_is)
    (case a_l_greatest => k_is)
    (case l_l_greatest => k_is)
    (case k_l_greatest => k_is)
    (case p_l_greatest => k_is)
    (case a_l_rule => k_is)
    (case l_l_rule => k_is)
    (case k_l_rule => k_is)
    (case p_l_rule => k_is)
    (case a_l_fault => k_is)
    (case l_l_fault => k_is)
    (case k_l_fault => k_is)
    (case p_l_fault => k_is)
    (case a_l_book_fault => k_is)
    (case l_l_book_fault => k_is)
    (case k_l_book_fault => k_is)
    (case p_l_book_fault => k_is)
    (case a_l_faults => k_is)
    (case l_l_faults => k_is)
    (case k_l_faults => k_is)
    (case p_l_faults => k_is)
    (case a_law => k_is)
    (case l_law => k_is)
    (case k_law => k_is)
    (case p_law => k_is)
    (case z_sum => k_is)
    (case z_tuple => k_is)
    (case z_range => k_is)
    (case z_len => k_is)
    (case z_enumerate => k_is)
    (case z_max => k_is)
    (case z_all => k_is)
    (case z_min => k_is)
    (case z_list => k_is)
    (case z_abs => k_is)
    (case z_int => k_is)
    (case z_sorted => k_is)
    (case z_repr => k_is)
    (case u_POWERS => k_is)
    (case v_POWERS => k_is)
    (case u_LENGTHS => k_is)
    (case v_LENGTHS => k_is)
    (case i_MOST_WORTH => k_is)
    (case i_MOST_BIDDERS => k_is)
    (case i_MOST_TYPES => k_is)
    (case i_MOST_ENDS => k_is)
    (case e_BadBook => refine' PySem.AeX.mk_err KX G0 ?gC ?cls ?hbm ?sa ?ga ?gg ?noN ?iC ?tC ?kC ?exC ?tyC ?hdC ?sup ?isD ?veC ?opq ?clD ?nsu ?top ?fn ?hcd ?hev ?code ?hvs ?hfile ?cell; (case gC => k_is); (case cls => k_is); (case hbm => rfl); (case sa => k_is); (case ga => k_is); (case gg => k_is); (case noN => k_is); (case iC => k_is); (case tC => k_is); (case kC => k_is); (case exC => k_is); (case tyC => k_is); (case hdC => k_is); (case veC => k_is); (case opq => k_is); (case nsu => k_is); (case top => rfl); (case fn => k_is); (case hcd => k_is); (case hev => exact fun _ => ⟨_, rfl⟩); (case code => k_is); (case hvs => rfl); (case hfile => rfl); (case cell => k_is); (case sup => ks_is); (case isD => k_is); (case clD => k_is))
    (case e_BadTable => refine' PySem.AeX.mk_err KX G0 ?gC ?cls ?hbm ?sa ?ga ?gg ?noN ?iC ?tC ?kC ?exC ?tyC ?hdC ?sup ?isD ?veC ?opq ?clD ?nsu ?top ?fn ?hcd ?hev ?code ?hvs ?hfile ?cell; (case gC => k_is); (case cls => k_is); (case hbm => rfl); (case sa => k_is); (case ga => k_is); (case gg => k_is); (case noN => k_is); (case iC => k_is); (case tC => k_is); (case kC => k_is); (case exC => k_is); (case tyC => k_is); (case hdC => k_is); (case veC => k_is); (case opq => k_is); (case nsu => k_is); (case top => rfl); (case fn => k_is); (case hcd => k_is); (case hev => exact fun _ => ⟨_, rfl⟩); (case code => k_is); (case hvs => rfl); (case hfile => rfl); (case cell => k_is); (case sup => ks_is); (case isD => k_is); (case clD => k_is))
    (case e_BadBidder => refine' PySem.AeX.mk_err KX G0 ?gC ?cls ?hbm ?sa ?ga ?gg ?noN ?iC ?tC ?kC ?exC ?tyC ?hdC ?sup ?isD ?veC ?opq ?clD ?nsu ?top ?fn ?hcd ?hev ?code ?hvs ?hfile ?cell; (case gC => k_is); (case cls => k_is); (case hbm => rfl); (case sa => k_is); (case ga => k_is); (case gg => k_is); (case noN => k_is); (case iC => k_is); (case tC => k_is); (case kC => k_is); (case exC => k_is); (case tyC => k_is); (case hdC => k_is); (case veC => k_is); (case opq => k_is); (case nsu => k_is); (case top => rfl); (case fn => k_is); (case hcd => k_is); (case hev => exact fun _ => ⟨_, rfl⟩); (case code => k_is); (case hvs => rfl); (case hfile => rfl); (case cell => k_is); (case sup => ks_is); (case isD => k_is); (case clD => k_is))
    (case e_BadType => refine' PySem.AeX.mk_err KX G0 ?gC ?cls ?hbm ?sa ?ga ?gg ?noN ?iC ?tC ?kC ?exC ?tyC ?hdC ?sup ?isD ?veC ?opq ?clD ?nsu ?top ?fn ?hcd ?hev ?code ?hvs ?hfile ?cell; (case gC => k_is); (case cls => k_is); (case hbm => rfl); (case sa => k_is); (case ga => k_is); (case gg => k_is); (case noN => k_is); (case iC => k_is); (case tC => k_is); (case kC => k_is); (case exC => k_is); (case tyC => k_is); (case hdC => k_is); (case veC => k_is); (case opq => k_is); (case nsu => k_is); (case top => rfl); (case fn => k_is); (case hcd => k_is); (case hev => exact fun _ => ⟨_, rfl⟩); (case code => k_is); (case hvs => rfl); (case hfile => rfl); (case cell => k_is); (case sup => ks_is); (case isD => k_is); (case clD => k_is))
    (case e_BadEnd => refine' PySem.AeX.mk_err KX G0 ?gC ?cls ?hbm ?sa ?ga ?gg ?noN ?iC ?tC ?kC ?exC ?tyC ?hdC ?sup ?isD ?veC ?opq ?clD ?nsu ?top ?fn ?hcd ?hev ?code ?hvs ?hfile ?cell; (case gC => k_is); (case cls => k_is); (case hbm => rfl); (case sa => k_is); (case ga => k_is); (case gg => k_is); (case noN => k_is); (case iC => k_is); (case tC => k_is); (case kC => k_is); (case exC => k_is); (case tyC => k_is); (case hdC => k_is); (case veC => k_is); (case opq => k_is); (case nsu => k_is); (case top => rfl); (case fn => k_is); (case hcd => k_is); (case hev => exact fun _ => ⟨_, rfl⟩); (case code => k_is); (case hvs => rfl); (case hfile => rfl); (case cell => k_is); (case sup => ks_is); (case isD => k_is); (case clD => k_is))
    (case e_BadPaid => refine' PySem.AeX.mk_err KX G0 ?gC ?cls ?hbm ?sa ?ga ?gg ?noN ?iC ?tC ?kC ?exC ?tyC ?hdC ?sup ?isD ?veC ?opq ?clD ?nsu ?top ?fn ?hcd ?hev ?code ?hvs ?hfile ?cell; (case gC => k_is); (case cls => k_is); (case hbm => rfl); (case sa => k_is); (case ga => k_is); (case gg => k_is); (case noN => k_is); (case iC => k_is); (case tC => k_is); (case kC => k_is); (case exC => k_is); (case tyC => k_is); (case hdC => k_is); (case veC => k_is); (case opq => k_is); (case nsu => k_is); (case top => rfl); (case fn => k_is); (case hcd => k_is); (case hev => exact fun _ => ⟨_, rfl⟩); (case code => k_is); (case hvs => rfl); (case hfile => rfl); (case cell => k_is); (case sup => ks_is); (case isD => k_is); (case clD => k_is))
    (case ea_BadPaid_BadPaid => k_is)
    (case eb_BadPaid_BadPaid => k_is)
    (case ec_BadPaid_BadPaid => kts_exm)
    (case ea_BadEnd_BadPaid => k_is)
    (case eb_BadEnd_BadPaid => k_is)
    (case ec_BadEnd_BadPaid => kts_exm)
    (case ea_BadType_BadPaid => k_is)
    (case eb_BadType_BadPaid => k_is)
    (case ec_BadType_BadPaid => kts_exm)
    (case ea_BadBidder_BadPaid => k_is)
    (case eb_BadBidder_BadPaid => k_is)
    (case ec_BadBidder_BadPaid => kts_exm)
    (case ea_BadBook_BadPaid => k_is)
    (case eb_BadBook_BadPaid => k_is)
    (case ec_BadBook_BadPaid => kts_exm)
    (case ea_BadTable_BadPaid => k_is)
    (case eb_BadTable_BadPaid => k_is)
    (case ec_BadTable_BadPaid => kts_exm)
    (case ea_BadPaid_BadEnd => k_is)
    (case eb_BadPaid_BadEnd => k_is)
    (case ec_BadPaid_BadEnd => kts_exm)
    (case ea_BadEnd_BadEnd => k_is)
    (case eb_BadEnd_BadEnd => k_is)
    (case ec_BadEnd_BadEnd => kts_exm)
    (case ea_BadType_BadEnd => k_is)
    (case eb_BadType_BadEnd => k_is)
    (case ec_BadType_BadEnd => kts_exm)
    (case ea_BadBidder_BadEnd => k_is)
    (case eb_BadBidder_BadEnd => k_is)
    (case ec_BadBidder_BadEnd => kts_exm)
    (case ea_BadBook_BadEnd => k_is)
    (case eb_BadBook_BadEnd => k_is)
    (case ec_BadBook_BadEnd => kts_exm)
    (case ea_BadTable_BadEnd => k_is)
    (case eb_BadTable_BadEnd => k_is)
    (case ec_BadTable_BadEnd => kts_exm)
    (case ea_BadPaid_BadType => k_is)
    (case eb_BadPaid_BadType => k_is)
    (case ec_BadPaid_BadType => kts_exm)
    (case ea_BadEnd_BadType => k_is)
    (case eb_BadEnd_BadType => k_is)
    (case ec_BadEnd_BadType => kts_exm)
    (case ea_BadType_BadType => k_is)
    (case eb_BadType_BadType => k_is)
    (case ec_BadType_BadType => kts_exm)
    (case ea_BadBidder_BadType => k_is)
    (case eb_BadBidder_BadType => k_is)
    (case ec_BadBidder_BadType => kts_exm)
    (case ea_BadBook_BadType => k_is)
    (case eb_BadBook_BadType => k_is)
    (case ec_BadBook_BadType => kts_exm)
    (case ea_BadTable_BadType => k_is)
    (case eb_BadTable_BadType => k_is)
    (case ec_BadTable_BadType => kts_exm)
    (case ea_BadPaid_BadTable => k_is)
    (case eb_BadPaid_BadTable => k_is)
    (case ec_BadPaid_BadTable => kts_exm)
    (case ea_BadEnd_BadTable => k_is)
    (case eb_BadEnd_BadTable => k_is)
    (case ec_BadEnd_BadTable => kts_exm)
    (case ea_BadType_BadTable => k_is)
    (case eb_BadType_BadTable => k_is)
    (case ec_BadType_BadTable => kts_exm)
    (case ea_BadBidder_BadTable => k_is)
    (case eb_BadBidder_BadTable => k_is)
    (case ec_BadBidder_BadTable => kts_exm)
    (case ea_BadBook_BadTable => k_is)
    (case eb_BadBook_BadTable => k_is)
    (case ec_BadBook_BadTable => kts_exm)
    (case ea_BadTable_BadTable => k_is)
    (case eb_BadTable_BadTable => k_is)
    (case ec_BadTable_BadTable => kts_exm)
    (case ea_BadPaid_BadBidder => k_is)
    (case eb_BadPaid_BadBidder => k_is)
    (case ec_BadPaid_BadBidder => kts_exm)
    (case ea_BadEnd_BadBidder => k_is)
    (case eb_BadEnd_BadBidder => k_is)
    (case ec_BadEnd_BadBidder => kts_exm)
    (case ea_BadType_BadBidder => k_is)
    (case eb_BadType_BadBidder => k_is)
    (case ec_BadType_BadBidder => kts_exm)
    (case ea_BadBidder_BadBidder => k_is)
    (case eb_BadBidder_BadBidder => k_is)
    (case ec_BadBidder_BadBidder => kts_exm)
    (case ea_BadBook_BadBidder => k_is)
    (case eb_BadBook_BadBidder => k_is)
    (case ec_BadBook_BadBidder => kts_exm)
    (case ea_BadTable_BadBidder => k_is)
    (case eb_BadTable_BadBidder => k_is)
    (case ec_BadTable_BadBidder => kts_exm)
    (case ea_BadPaid_BadBook => k_is)
    (case eb_BadPaid_BadBook => k_is)
    (case ec_BadPaid_BadBook => kts_exm)
    (case ea_BadEnd_BadBook => k_is)
    (case eb_BadEnd_BadBook => k_is)
    (case ec_BadEnd_BadBook => kts_exm)
    (case ea_BadType_BadBook => k_is)
    (case eb_BadType_BadBook => k_is)
    (case ec_BadType_BadBook => kts_exm)
    (case ea_BadBidder_BadBook => k_is)
    (case eb_BadBidder_BadBook => k_is)
    (case ec_BadBidder_BadBook => kts_exm)
    (case ea_BadBook_BadBook => k_is)
    (case eb_BadBook_BadBook => k_is)
    (case ec_BadBook_BadBook => kts_exm)
    (case ea_BadTable_BadBook => k_is)
    (case eb_BadTable_BadBook => k_is)
    (case ec_BadTable_BadBook => kts_exm)

