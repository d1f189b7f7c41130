import PyProof.Rows.All
import Wide.All
import OpenK.AllK
import Wide.FinOn
import HandS.ForMost
import HandS.ForExc
import HandS.TupAny
import HandS.TupLe
import HandS.Style
import HandS.Wide
import HandS.Deep
import KE.LtData
import HandS.Star
import HandS.SortInts
import HandS.More
import HandS.SortRule
import HandS.Small
import HandS.Zip
import HandS.CallSlots
import HandS.ExcOwn
import HandS.Ends
import HandS.SetFor
import HandS.Strs
import HandS.TupSets
import HandS.RaiseMore
import KE.KIndexOf
import KE.OsSetLaws
import PyProof.ReprRoads
import HandS.ForSpec
import KE.KExcSuper
import HandS.ExcSuper
import HandS.TryMany
import KE.GoesEnum
import KE.GoesMore
import HandS.TryOnly
import KE.SortData
import KE.DataMinMax
import PyProof.SumWalkG
import KE.RegKSuper
import KE.RegKTryMore
import PySem.Challenge.RW_truebidsbest_k04_main_no_lie_ever_pays
set_option Elab.async false
set_option linter.all false
set_option maxRecDepth 100000
namespace G
open PySem PySem.Spec PyProof.Rows L2

abbrev D := PyData
abbrev Frg := PySem.W.Frag
abbrev MgT := Str → Option Value
abbrev St := L2.St

/-- what running a piece comes to: a value, an own error with its number, or nothing told -/
inductive R (α : Type) where
  | ok (a : α)
  | ex (c : String) (n : Int)
  | no
def R.bind {α β : Type} : R α → (α → R β) → R β
  | .ok a, f => f a
  | .ex c n, _ => .ex c n
  | .no, _ => .no
def R.map {α β : Type} (f : α → β) : R α → R β
  | .ok a => .ok (f a)
  | .ex c n => .ex c n
  | .no => .no
@[simp] theorem R.bind_ok {α β : Type} (a : α) (f : α → R β) : (R.ok a).bind f = f a := rfl
@[simp] theorem R.bind_ex {α β : Type} (c : String) (n : Int) (f : α → R β) : (R.ex c n).bind f = .ex c n := rfl
@[simp] theorem R.bind_no {α β : Type} (f : α → R β) : (R.no : R α).bind f = .no := rfl

/-- a slot: data that nobody changes any more; a list or dict that this frame alone holds; a caught error -/
inductive Sl where
  | v (d : D)
  | own (t : Bool) (d : D)
  | er (c : String) (n : Int)
  | sc (ns : List Int)
abbrev En := List (Option Sl)

/-! ### data in the abstract heap -/
def kD : Key → D
  | .inl i => .int i
  | .inr z => .str z
def TupK (K : Frg) (a : Addr) (vs : List V) : Prop :=
  ∃ (o : Obj) (its : Array Value) (n : Nat), K.lookup a = some o ∧ o.cls = .type "tuple" ∧ o.data = .seq its n ∧ its.size ≤ sizeLine ∧ Vals vs its.toList
mutual
inductive Rep (K : Frg) (H : Hp) (A : List Addr) : V → D → Prop
  | non : Rep K H A .non .none
  | bl (b : Bool) : Rep K H A (.bl b) (.bool b)
  | int (i : Int) : Rep K H A (.int i) (.int i)
  | str (z : Str) : Rep K H A (.str z) (.str z)
  | lst {a : Addr} {vs : List V} {ds : List D} : a ∉ A → H a = some (.lst vs) → RepL K H A vs ds → Rep K H A (.ref a) (.list ds)
  | tup {a : Addr} {vs : List V} {ds : List D} : a ∉ A → H a = some (.tup vs) → RepL K H A vs ds → Rep K H A (.ref a) (.tuple ds)
  | dk {a : Addr} {kvs : List (Key × V)} {ds : List (D × D)} : a ∉ A → Rd H a (.dK kvs) → RepK K H A kvs ds → Rep K H A (.ref a) (.dict ds)
  | dt {a : Addr} {kvs : List (List Key × V)} {ds : List (D × D)} : a ∉ A → Rd H a (.dT kvs) → RepT K H A kvs ds → Rep K H A (.ref a) (.dict ds)
inductive RepL (K : Frg) (H : Hp) (A : List Addr) : List V → List D → Prop
  | nil : RepL K H A [] []
  | cons {v : V} {vs : List V} {d : D} {ds : List D} : Rep K H A v d → RepL K H A vs ds → RepL K H A (v :: vs) (d :: ds)
inductive RepK (K : Frg) (H : Hp) (A : List Addr) : List (Key × V) → List (D × D) → Prop
  | nil : RepK K H A [] []
  | cons {k : Key} {v : V} {vs : List (Key × V)} {d : D} {ds : List (D × D)} : Rep K H A v d → RepK K H A vs ds → RepK K H A ((k, v) :: vs) ((kD k, d) :: ds)
inductive RepT (K : Frg) (H : Hp) (A : List Addr) : List (List Key × V) → List (D × D) → Prop
  | nil : RepT K H A [] []
  | cons {k : List Key} {v : V} {vs : List (List Key × V)} {d : D} {ds : List (D × D)} : Rep K H A v d → RepT K H A vs ds → RepT K H A ((k, v) :: vs) ((.tuple (k.map kD), d) :: ds)
end

/-- from one state to a later one: what is not ours alone stays; what is ours alone later was so, or is new -/
structure Tr (A : List Addr) (H : Hp) (A' : List Addr) (H' : Hp) : Prop where
  keep : ∀ b o, H b = some o → b ∉ A → H' b = some o
  new : ∀ a ∈ A', a ∈ A ∨ H a = none
theorem Tr.refl (A : List Addr) (H : Hp) : Tr A H A H := ⟨fun _ _ h _ => h, fun _ h => .inl h⟩
theorem Tr.same {A : List Addr} {H H' : Hp} (h : Same H H') : Tr A H A H' := ⟨fun b o q _ => h b o q, fun _ h => .inl h⟩
theorem Tr.out {A A' : List Addr} {H H' : Hp} (t : Tr A H A' H') {b : Addr} {o : HO} (h : H b = some o) (n : b ∉ A) : b ∉ A' := fun q => by
  rcases t.new b q with z | z
  · exact n z
  · rw [h] at z; cases z
theorem Tr.trans {A A1 A2 : List Addr} {H H1 H2 : Hp} (t : Tr A H A1 H1) (u : Tr A1 H1 A2 H2) : Tr A H A2 H2 where
  keep := fun b o h n => u.keep b o (t.keep b o h n) (t.out h n)
  new := fun a ha => by
    rcases u.new a ha with z | z
    · exact t.new a z
    · by_cases hA : a ∈ A
      · exact .inl hA
      · refine .inr ?_
        cases q : H a with
        | none => rfl
        | some o => rw [t.keep a o q hA] at z; cases z
theorem Tr.write {A : List Addr} {H : Hp} {a : Addr} {x : HO} (h : a ∈ A) : Tr A H A (upd H a x) := ⟨fun c y q n => by rw [upd_ne (show c ≠ a from fun z => n (by rw [z]; exact h))]; exact q, fun c hc => .inl hc⟩
theorem Tr.sub {A A' : List Addr} {H : Hp} (h : ∀ a ∈ A', a ∈ A) : Tr A H A' H := ⟨fun _ _ h _ => h, fun a ha => .inl (h a ha)⟩

/-- the law's script: a list of ints that is only read -/
def LRep (K : Frg) (H : Hp) (A : List Addr) (a : Addr) (vs : List V) : Prop := (a ∉ A ∧ Rd H a (.lst vs)) ∨
  ∃ (o : Obj) (its : Array Value) (n : Nat), K.lookup a = some o ∧ o.cls = .type "list" ∧ o.dict = none ∧ o.data = .seq its n ∧ its.size ≤ sizeLine ∧ Vals vs its.toList
theorem LRep.sq {K : Frg} {H : Hp} {A : List Addr} {a : Addr} {vs : List V} : LRep K H A a vs → SqL K H a vs
  | .inl h => .inl h.2
  | .inr h => .inr h
section
variable {K : Frg} {H H' : Hp} {A A' : List Addr}
theorem LRep.tr (t : Tr A H A' H') {a : Addr} {vs : List V} : LRep K H A a vs → LRep K H' A' a vs
  | .inl ⟨n, .inl h⟩ => .inl ⟨t.out h n, .inl (t.keep _ _ h n)⟩
  | .inl ⟨n, .inr ⟨o, h⟩⟩ => .inl ⟨t.out h n, .inr ⟨o, t.keep _ _ h n⟩⟩
  | .inr h => .inr h
mutual
theorem Rep.tr (t : Tr A H A' H') : ∀ {v : V} {d : D}, Rep K H A v d → Rep K H' A' v d
  | _, _, .non => .non
  | _, _, .bl b => .bl b
  | _, _, .int i => .int i
  | _, _, .str z => .str z
  | _, _, .lst n h r => .lst (t.out h n) (t.keep _ _ h n) (RepL.tr t r)
  | _, _, .tup n h r => .tup (t.out h n) (t.keep _ _ h n) (RepL.tr t r)
  | _, _, .dk n h r => .dk (by rcases h with h | ⟨o, h⟩ <;> exact t.out h n) (by rcases h with h | ⟨o, h⟩; exact .inl (t.keep _ _ h n); exact .inr ⟨o, t.keep _ _ h n⟩) (RepK.tr t r)
  | _, _, .dt n h r => .dt (by rcases h with h | ⟨o, h⟩ <;> exact t.out h n) (by rcases h with h | ⟨o, h⟩; exact .inl (t.keep _ _ h n); exact .inr ⟨o, t.keep _ _ h n⟩) (RepT.tr t r)
theorem RepL.tr (t : Tr A H A' H') : ∀ {v : List V} {d : List D}, RepL K H A v d → RepL K H' A' v d
  | _, _, .nil => .nil
  | _, _, .cons a b => .cons (Rep.tr t a) (RepL.tr t b)
theorem RepK.tr (t : Tr A H A' H') : ∀ {v : List (Key × V)} {d : List (D × D)}, RepK K H A v d → RepK K H' A' v d
  | _, _, .nil => .nil
  | _, _, .cons a b => .cons (Rep.tr t a) (RepK.tr t b)
theorem RepT.tr (t : Tr A H A' H') : ∀ {v : List (List Key × V)} {d : List (D × D)}, RepT K H A v d → RepT K H' A' v d
  | _, _, .nil => .nil
  | _, _, .cons a b => .cons (Rep.tr t a) (RepT.tr t b)
end
theorem Rep.same (s : Same H H') {v : V} {d : D} (h : Rep K H A v d) : Rep K H' A v d := h.tr (Tr.same s)
theorem RepL.same (s : Same H H') {v : List V} {d : List D} (h : RepL K H A v d) : RepL K H' A v d := h.tr (Tr.same s)
theorem Rep.sub (s : ∀ a ∈ A', a ∈ A) {v : V} {d : D} (h : Rep K H A v d) : Rep K H A' v d := h.tr (Tr.sub s)
theorem RepL.sub (s : ∀ a ∈ A', a ∈ A) {v : List V} {d : List D} (h : RepL K H A v d) : RepL K H A' v d := h.tr (Tr.sub s)
theorem RepL.length : ∀ {vs : List V} {ds : List D}, RepL K H A vs ds → vs.length = ds.length
  | _, _, .nil => rfl
  | _, _, .cons _ t => by rw [List.length_cons, List.length_cons, RepL.length t]
theorem RepL.get : ∀ {vs : List V} {ds : List D} {i : Nat} {d : D}, RepL K H A vs ds → ds[i]? = some d → ∃ v, vs[i]? = some v ∧ Rep K H A v d
  | _, _, _, _, .nil, h => by simp at h
  | _, _, 0, _, .cons a _, h => by simp at h; subst h; exact ⟨_, rfl, a⟩
  | _, _, i + 1, _, .cons _ t, h => by
    obtain ⟨v, h1, h2⟩ := RepL.get (i := i) t (by simpa using h)
    exact ⟨v, by simpa using h1, h2⟩
theorem RepL.append : ∀ {vs us : List V} {ds es : List D}, RepL K H A vs ds → RepL K H A us es → RepL K H A (vs ++ us) (ds ++ es)
  | _, _, _, _, .nil, s => s
  | _, _, _, _, .cons a t, s => .cons a (RepL.append t s)
theorem RepL.set : ∀ {vs : List V} {ds : List D} {v : V} {d : D} (i : Nat), RepL K H A vs ds → Rep K H A v d → RepL K H A (vs.set i v) (ds.set i d)
  | _, _, _, _, _, .nil, _ => .nil
  | _, _, _, _, 0, .cons _ t, r => .cons r t
  | _, _, _, _, i + 1, .cons a t, r => .cons a (RepL.set i t r)
theorem RepL.take : ∀ {vs : List V} {ds : List D} (n : Nat), RepL K H A vs ds → RepL K H A (vs.take n) (ds.take n)
  | _, _, 0, _ => by rw [List.take_zero, List.take_zero]; exact .nil
  | _, _, _ + 1, .nil => .nil
  | _, _, n + 1, .cons r t => .cons r (RepL.take n t)
theorem RepL.drop : ∀ {vs : List V} {ds : List D} (n : Nat), RepL K H A vs ds → RepL K H A (vs.drop n) (ds.drop n)
  | _, _, 0, r => r
  | _, _, _ + 1, .nil => .nil
  | _, _, n + 1, .cons _ t => RepL.drop n t
theorem RepL.reverse : ∀ {vs : List V} {ds : List D}, RepL K H A vs ds → RepL K H A vs.reverse ds.reverse
  | _, _, .nil => .nil
  | _, _, .cons a t => by rw [List.reverse_cons, List.reverse_cons]; exact (RepL.reverse t).append (.cons a .nil)
theorem RepL.one {v : V} {d : D} (h : Rep K H A v d) : RepL K H A [v] [d] := .cons h .nil
theorem RepL.flatRep {vs : List V} {ds : List D} (h : RepL K H A vs ds) : ∀ n : Nat, RepL K H A (List.replicate n vs).flatten (List.replicate n ds).flatten
  | 0 => .nil
  | n + 1 => by rw [List.replicate_succ, List.replicate_succ, List.flatten_cons, List.flatten_cons]; exact h.append (flatRep h n)
theorem RepL.getV : ∀ {vs : List V} {ds : List D} {i : Nat} {v : V}, RepL K H A vs ds → vs[i]? = some v → ∃ d, ds[i]? = some d ∧ Rep K H A v d
  | _, _, _, _, .nil, h => by simp at h
  | _, _, 0, _, .cons a _, h => by simp at h; subst h; exact ⟨_, rfl, a⟩
  | _, _, i + 1, _, .cons _ t, h => by
    obtain ⟨v, h1, h2⟩ := RepL.getV (i := i) t (by simpa using h)
    exact ⟨v, by simpa using h1, h2⟩

/-- a list or dict of which the frame alone holds the object (t: a dict whose keys are tuples) -/
def ORep (K : Frg) (H : Hp) (A : List Addr) (a : Addr) (t : Bool) : D → Prop
  | .list ds => ∃ vs, H a = some (.lst vs) ∧ RepL K H A vs ds
  | .dict ds => (t = false ∧ ∃ kvs, H a = some (.dK kvs) ∧ RepK K H A kvs ds) ∨ (t = true ∧ ∃ kvs, H a = some (.dT kvs) ∧ RepT K H A kvs ds)
  | _ => False
/-- read, not kept -/
def RepB (K : Frg) (H : Hp) (A : List Addr) (v : V) (d : D) : Prop := Rep K H A v d ∨ (∃ a, v = .ref a ∧ a ∈ A ∧ ∃ t, ORep K H A a t d) ∨ ∃ a vs ds, v = .ref a ∧ d = .tuple ds ∧ TupK K a vs ∧ RepL K H A vs ds
theorem ORep.tr (s : Same H H') (u : Tr A H A' H') {a : Addr} {t : Bool} : ∀ {d : D}, ORep K H A a t d → ORep K H' A' a t d
  | .list _, ⟨vs, h, r⟩ => ⟨vs, s _ _ h, r.tr u⟩
  | .dict _, .inl ⟨e, vs, h, r⟩ => .inl ⟨e, vs, s _ _ h, r.tr u⟩
  | .dict _, .inr ⟨e, vs, h, r⟩ => .inr ⟨e, vs, s _ _ h, r.tr u⟩
  | .none, h => h.elim
  | .bool _, h => h.elim
  | .int _, h => h.elim
  | .str _, h => h.elim
  | .tuple _, h => h.elim
theorem ORep.same (s : Same H H') {a : Addr} {t : Bool} {d : D} (h : ORep K H A a t d) : ORep K H' A a t d := h.tr s (Tr.same s)
theorem RepB.same (s : Same H H') {v : V} {d : D} : RepB K H A v d → RepB K H' A v d
  | .inl h => .inl (h.same s)
  | .inr (.inl ⟨a, e, m, t, h⟩) => .inr (.inl ⟨a, e, m, t, h.same s⟩)
  | .inr (.inr ⟨a, vs, ds, e, e2, h, r⟩) => .inr (.inr ⟨a, vs, ds, e, e2, h, r.same s⟩)
theorem ORep.some {a : Addr} {t : Bool} : ∀ {d : D}, ORep K H A a t d → ∃ o, H a = Option.some o ∧ Mut (Option.some o)
  | .list _, ⟨vs, h, r⟩ => ⟨_, h, trivial⟩
  | .dict _, .inl ⟨_, vs, h, r⟩ => ⟨_, h, trivial⟩
  | .dict _, .inr ⟨_, vs, h, r⟩ => ⟨_, h, trivial⟩
  | .none, h => h.elim
  | .bool _, h => h.elim
  | .int _, h => h.elim
  | .str _, h => h.elim
  | .tuple _, h => h.elim
/-- the object at another place was changed -/
theorem ORep.other {a b : Addr} {t : Bool} {o : HO} (n : a ≠ b) (hb : b ∈ A) : ∀ {d : D}, ORep K H A a t d → ORep K (upd H b o) A a t d := by
  have u : Tr A H A (upd H b o) := ⟨fun c x h q => by rw [upd_ne (show c ≠ b from fun z => q (by rw [z]; exact hb))]; exact h, fun c h => .inl h⟩
  intro d h
  cases d with
  | list ds => obtain ⟨vs, h, r⟩ := h; exact ⟨vs, by rw [upd_ne n]; exact h, r.tr u⟩
  | dict ds =>
    rcases h with ⟨e, vs, h, r⟩ | ⟨e, vs, h, r⟩
    · exact .inl ⟨e, vs, by rw [upd_ne n]; exact h, r.tr u⟩
    · exact .inr ⟨e, vs, by rw [upd_ne n]; exact h, r.tr u⟩
  | _ => exact h.elim
/-- let go: from now on it is data that nobody changes -/
theorem ORep.free {a : Addr} {t : Bool} (ha : a ∉ A') (s : ∀ b ∈ A', b ∈ A) : ∀ {d : D}, ORep K H A a t d → Rep K H A' (.ref a) d
  | .list _, ⟨vs, h, r⟩ => .lst ha h (r.sub s)
  | .dict _, .inl ⟨_, vs, h, r⟩ => .dk ha (.inl h) (r.tr (Tr.sub s))
  | .dict _, .inr ⟨_, vs, h, r⟩ => .dt ha (.inl h) (r.tr (Tr.sub s))
  | .none, h => h.elim
  | .bool _, h => h.elim
  | .int _, h => h.elim
  | .str _, h => h.elim
  | .tuple _, h => h.elim
theorem ORep.sub {a : Addr} {t : Bool} (s : ∀ b ∈ A', b ∈ A) {d : D} (h : ORep K H A a t d) : ORep K H A' a t d := h.tr (Same.refl H) (Tr.sub s)
end

/-! ### the state as the meanings see it -/
def SRep (K : Frg) (H0 : Hp) (A0 A : List Addr) (H : Hp) (v : V) : Sl → Prop
  | .v d => Rep K H A v d
  | .own t d => ∃ a, v = .ref a ∧ a ∈ A ∧ (H0 a = none ∧ a ∉ A0) ∧ ORep K H A a t d
  | .er _ _ => True
  | .sc ns => ∃ a, v = .ref a ∧ LRep K H A a (ns.map V.int)
structure Ok (K : Frg) (H0 : Hp) (A0 A : List Addr) (ρ : En) (σ : St) (H : Hp) : Prop where
  len : σ.length = ρ.length
  ext : Same H0 H
  sub : ∀ a ∈ A0, a ∈ A
  new : ∀ a ∈ A, a ∈ A0 ∨ H0 a = none
  has : ∀ a ∈ A, H a ≠ none
  slot : ∀ (i : Nat) (s : Sl), ρ[i]? = some (some s) → ∃ v, σ[i]? = some (some v) ∧ SRep K H0 A0 A H v s
  dis : ∀ (i j : Nat) (a : Addr) (t t' : Bool) (d d' : D), i ≠ j → ρ[i]? = some (some (.own t d)) → ρ[j]? = some (some (.own t' d')) → σ[i]? = some (some (.ref a)) → σ[j]? ≠ some (some (.ref a))
theorem SRep.same {K : Frg} {H0 H H' : Hp} {A0 A : List Addr} (s : Same H H') {v : V} : ∀ {x : Sl}, SRep K H0 A0 A H v x → SRep K H0 A0 A H' v x
  | .v _, h => Rep.same s h
  | .own _ _, ⟨a, e, m, n, h⟩ => ⟨a, e, m, n, h.same s⟩
  | .er _ _, _ => trivial
  | .sc _, ⟨a, e, h⟩ => ⟨a, e, h.tr (Tr.same s)⟩
theorem Ok.same {K : Frg} {H0 H H' : Hp} {A0 A : List Addr} {ρ : En} {σ : St} (o : Ok K H0 A0 A ρ σ H) (s : Same H H') : Ok K H0 A0 A ρ σ H' :=
  ⟨o.len, o.ext.trans s, o.sub, o.new, fun a ha z => o.has a ha (s.free z), fun i x h => let ⟨v, h1, h2⟩ := o.slot i x h; ⟨v, h1, h2.same s⟩, o.dis⟩
theorem Ok.fresh {K : Frg} {H0 H : Hp} {A0 A : List Addr} {ρ : En} {σ : St} (o : Ok K H0 A0 A ρ σ H) {p : Addr} (h : H p = none) : p ∉ A := fun z => o.has p z h

/-! ### meanings -/
section
variable (K : Frg) (mg : MgT) (W : WX)
/-- an own error of the class named c, its number n, in the later heap H' -/
def ErrAt (c : String) (n : Int) (u : Value) (p : Addr) (H' : Hp) : Prop := mg (Str.ofString c) = some u ∧ H' p = some (.xd [("at", .int n)])
def Post {α : Type} (σ : St) (H : Hp) (P : α → Hp → Prop) : R α → Prop
  | .ok a => ∀ H', Same H H' → P a H'
  | .ex c n => ∀ u p H', Same H H' → H p = none → ErrAt mg c n u p H' → W u (some p) σ H'
  | .no => False
end
section
variable {mg : MgT} {W : WX} {α β : Type} {σ : St} {H H1 : Hp} {P P' : α → Hp → Prop} {r : R α}
theorem Post.same (h : Post mg W σ H P r) (s : Same H H1) : Post mg W σ H1 P r := by
  cases r with
  | ok a => exact fun H' s' => h H' (s.trans s')
  | ex c n => exact fun u p H' s' f e => h u p H' (s.trans s') (s.free f) e
  | no => exact h
theorem Post.mono (h : Post mg W σ H P r) (m : ∀ a H1, Same H H1 → P a H1 → P' a H1) : Post mg W σ H P' r := by
  cases r with
  | ok a => exact fun H' s' => m a H' s' (h H' s')
  | ex c n => exact h
  | no => exact h
theorem Post.bind {Pb : β → Hp → Prop} {k : α → R β} (h : Post mg W σ H Pb (r.bind k)) : Post mg W σ H (fun a H1 => Post mg W σ H1 Pb (k a)) r := by
  cases r with
  | ok a => exact fun H' s' => Post.same (r := k a) h s'
  | ex c n => exact h
  | no => exact h
theorem Post.at {a : α} (h : Post mg W σ H P (.ok a)) : P a H := h H (Same.refl H)
end
section
variable (K : Frg) (mg : MgT) (W : WX)
def tF (f : En → R D) : TE := fun σ H Q => ∃ H0 A0 A ρ, Ok K H0 A0 A ρ σ H ∧ Post mg W σ H (fun d H' => ∀ v, Rep K H' A v d → Q v H') (f ρ)
def tFB (f : En → R D) : TE := fun σ H Q => ∃ H0 A0 A ρ, Ok K H0 A0 A ρ σ H ∧ Post mg W σ H (fun d H' => ∀ v, RepB K H' A v d → Q v H') (f ρ)
/-- a new list or dict, which nothing else holds -/
def RepN (K : Frg) (t : Bool) (H H' : Hp) (A : List Addr) (v : V) (d : D) : Prop := ∃ a, v = .ref a ∧ H a = none ∧ ORep K H' (a :: A) a t d
def tFN (t : Bool) (f : En → R D) : TE := fun σ H Q => ∃ H0 A0 A ρ, Ok K H0 A0 A ρ σ H ∧ Post mg W σ H (fun d H' => ∀ v, RepN K t H H' A v d → Q v H') (f ρ)
def tFT (f : En → R Bool) : TT := fun σ H Q => ∃ H0 A0 A ρ, Ok K H0 A0 A ρ σ H ∧ Post mg W σ H (fun b H' => Q b H') (f ρ)
def tFA (f : En → R (List D)) : TA := fun σ H Q => ∃ H0 A0 A ρ, Ok K H0 A0 A ρ σ H ∧ Post mg W σ H (fun ds H' => ∀ vs, RepL K H' A vs ds → Q vs H') (f ρ)
def tFAB (f : En → R (List D)) : TA := fun σ H Q => ∃ H0 A0 A ρ, Ok K H0 A0 A ρ σ H ∧ Post mg W σ H (fun ds H' => ∀ vs, Paired (RepB K H' A) vs ds → Q vs H') (f ρ)
end
/-- what a statement comes to -/
inductive SR where
  | nx (ρ : En)
  | rt (d : D)
  | bk (ρ : En)
  | ct (ρ : En)
  | ex (c : String) (n : Int) (ρ : En)
  | no
section
variable (K : Frg) (mg : MgT) (W : WX)
def PostS (H0 : Hp) (A0 A : List Addr) (H : Hp) (E : Ends) : SR → Prop
  | .nx ρ' => ∀ σ' H' A', Ok K H0 A0 A' ρ' σ' H' → Tr A H A' H' → E.nx σ' H'
  | .rt d => ∀ v H', Same H0 H' → Rep K H' A0 v d → E.rt v H'
  | .bk ρ' => ∀ σ' H' A', Ok K H0 A0 A' ρ' σ' H' → Tr A H A' H' → E.bk σ' H'
  | .ct ρ' => ∀ σ' H' A', Ok K H0 A0 A' ρ' σ' H' → Tr A H A' H' → E.ct σ' H'
  | .ex c n ρ' => ∀ u p σ' H' A', Ok K H0 A0 A' ρ' σ' H' → Tr A H A' H' → H0 p = none → ErrAt mg c n u p H' → W u (some p) σ' H'
  | .no => False
def tFS (g : En → SR) : TS := fun E σ H => ∃ H0 A0 A ρ, Ok K H0 A0 A ρ σ H ∧ PostS K mg W H0 A0 A H E (g ρ)
end
abbrev FE (X : Cx) (W : WX) (e : Expr) (f : En → R D) : Prop := PE X e (tF X.K X.mg W f)
abbrev FB (X : Cx) (W : WX) (e : Expr) (f : En → R D) : Prop := PE X e (tFB X.K X.mg W f)
abbrev FN (X : Cx) (W : WX) (t : Bool) (e : Expr) (f : En → R D) : Prop := PE X e (tFN X.K X.mg W t f)
abbrev FT (X : Cx) (W : WX) (e : Expr) (f : En → R Bool) : Prop := PT X e (tFT X.K X.mg W f)
abbrev FA (X : Cx) (W : WX) (es : List Expr) (f : En → R (List D)) : Prop := PA X es (tFA X.K X.mg W f)
abbrev FAB (X : Cx) (W : WX) (es : List Expr) (f : En → R (List D)) : Prop := PA X es (tFAB X.K X.mg W f)
abbrev FS (X : Cx) (W : WX) (st : Stmt) (g : En → SR) : Prop := PS X st (tFS X.K X.mg W g)
abbrev FSs (X : Cx) (W : WX) (st : List Stmt) (g : En → SR) : Prop := PSs X st (tFS X.K X.mg W g)

section
variable {X : Cx}
theorem impE {e : Expr} {t t' : TE} (h : PE X e t) (i : ∀ σ H Q, t' σ H Q → t σ H Q) : PE X e t' := ⟨fun pins s σ H Q I q => h.run pins s σ H Q I (i _ _ _ q)⟩
theorem impT {e : Expr} {t t' : TT} (h : PT X e t) (i : ∀ σ H Q, t' σ H Q → t σ H Q) : PT X e t' := ⟨fun pins s σ H Q I q => h.run pins s σ H Q I (i _ _ _ q)⟩
theorem impW {e : Expr} {t t' : TT} (h : PW X e t) (i : ∀ σ H Q, t' σ H Q → t σ H Q) : PW X e t' := ⟨fun wh pins s σ H Q I q => h.run wh pins s σ H Q I (i _ _ _ q)⟩
theorem impA {e : List Expr} {t t' : TA} (h : PA X e t) (i : ∀ σ H Q, t' σ H Q → t σ H Q) : PA X e t' := ⟨fun pos pins s σ H Q I q => h.run pos pins s σ H Q I (i _ _ _ q)⟩
theorem impS {e : Stmt} {t t' : TS} (h : PS X e t) (i : ∀ D σ H, t' D σ H → t D σ H) : PS X e t' := ⟨fun pins s σ H D I q => h.run pins s σ H D I (i _ _ _ q)⟩
theorem impSs {e : List Stmt} {t t' : TS} (h : PSs X e t) (i : ∀ D σ H, t' D σ H → t D σ H) : PSs X e t' := ⟨fun pins s σ H D I q => h.run pins s σ H D I (i _ _ _ q)⟩
end

/-! ### reading shapes off -/
section
variable {K : Frg} {H : Hp} {A : List Addr} {v : V}
theorem RepB.of {d : D} (h : Rep K H A v d) : RepB K H A v d := .inl h
theorem RepB.int {i : Int} (h : RepB K H A v (.int i)) : v = .int i := by
  rcases h with h | ⟨a, _, _, _, h⟩ | ⟨_, _, _, _, e, _⟩
  · cases h; rfl
  · exact h.elim
  · cases e
theorem RepB.bool {i : Bool} (h : RepB K H A v (.bool i)) : v = .bl i := by
  rcases h with h | ⟨a, _, _, _, h⟩ | ⟨_, _, _, _, e, _⟩
  · cases h; rfl
  · exact h.elim
  · cases e
theorem RepB.str {i : Str} (h : RepB K H A v (.str i)) : v = .str i := by
  rcases h with h | ⟨a, _, _, _, h⟩ | ⟨_, _, _, _, e, _⟩
  · cases h; rfl
  · exact h.elim
  · cases e
theorem RepB.non (h : RepB K H A v .none) : v = .non := by
  rcases h with h | ⟨a, _, _, _, h⟩ | ⟨_, _, _, _, e, _⟩
  · cases h; rfl
  · exact h.elim
  · cases e
theorem RepB.lst {ds : List D} (h : RepB K H A v (.list ds)) : ∃ a vs, v = .ref a ∧ H a = some (.lst vs) ∧ RepL K H A vs ds := by
  rcases h with h | ⟨a, e, _, _, vs, h, r⟩ | ⟨_, _, _, _, e, _⟩
  · cases h with
    | lst n h r => exact ⟨_, _, rfl, h, r⟩
  · exact ⟨a, vs, e, h, r⟩
  · cases e
theorem RepB.tup {ds : List D} (h : RepB K H A v (.tuple ds)) : ∃ a vs, v = .ref a ∧ SqT K H a vs ∧ RepL K H A vs ds := by
  rcases h with h | ⟨a, e, _, _, h⟩ | ⟨a, vs, _, e, e2, h, r⟩
  · cases h with
    | tup n h r => exact ⟨_, _, rfl, .inl (.inl h), r⟩
  · exact h.elim
  · cases e2
    exact ⟨a, vs, e, .inr h, r⟩
theorem RepB.dict {ds : List (D × D)} (h : RepB K H A v (.dict ds)) : ∃ a, v = .ref a ∧ ((∃ kvs, Rd H a (.dK kvs) ∧ RepK K H A kvs ds) ∨ ∃ kvs, Rd H a (.dT kvs) ∧ RepT K H A kvs ds) := by
  rcases h with h | ⟨a, e, _, _, h⟩ | ⟨_, _, _, _, e, _⟩
  · cases h with
    | dk n h r => exact ⟨_, rfl, .inl ⟨_, h, r⟩⟩
    | dt n h r => exact ⟨_, rfl, .inr ⟨_, h, r⟩⟩
  · rcases h with ⟨_, kvs, h, r⟩ | ⟨_, kvs, h, r⟩
    · exact ⟨a, e, .inl ⟨kvs, .inl h, r⟩⟩
    · exact ⟨a, e, .inr ⟨kvs, .inl h, r⟩⟩
  · cases e
mutual
/-- data without dicts, as the kit's own relation has it -/
theorem Rep.dp : ∀ {v : V} {d : D}, Rep K H A v d → d.hasDict = false → Dp K H v d
  | _, _, .non, _ => .non
  | _, _, .bl b, _ => .bl b
  | _, _, .int i, _ => .int i
  | _, _, .str z, _ => .str z
  | _, _, .lst _ h r, q => .lst (SqL.of h) (RepL.dp r (by simpa only [PyData.hasDict] using q))
  | _, _, .tup _ h r, q => .tup (.inl (.inl h)) (RepL.dp r (by simpa only [PyData.hasDict] using q))
  | _, _, .dk _ _ _, q => by simp [PyData.hasDict] at q
  | _, _, .dt _ _ _, q => by simp [PyData.hasDict] at q
theorem RepL.dp : ∀ {v : List V} {d : List D}, RepL K H A v d → PyData.hasDictAll d = false → DpAll K H v d
  | _, _, .nil, _ => .nil
  | _, _, .cons a b, q => by
    simp only [PyData.hasDictAll, Bool.or_eq_false_iff] at q
    exact .cons (Rep.dp a q.1) (RepL.dp b q.2)
end
theorem RepB.dp {d : D} (h : RepB K H A v d) (q : SeqAt.shaped d = true) : Dp K H v d := by
  have q' : d.hasDict = false := PyData.hasDict_of_canLay d (SeqAt.canLay_of_shaped q)
  rcases h with h | ⟨a, e, _, _, h⟩ | ⟨a, vs, ds, rfl, rfl, h, r⟩
  · exact h.dp q'
  rotate_left
  · exact .tup (.inr h) (r.dp (by simpa only [PyData.hasDict] using q'))
  · cases d with
    | list ds =>
      obtain ⟨vs, h, r⟩ := h
      subst e
      exact .lst (SqL.of h) (r.dp (by simpa only [PyData.hasDict] using q'))
    | dict ds => simp [PyData.hasDict] at q'
    | none => exact h.elim
    | bool _ => exact h.elim
    | int _ => exact h.elim
    | str _ => exact h.elim
    | tuple _ => exact h.elim
end
/-! ### new objects -/
theorem same_upd {H : Hp} {p : Addr} {o : HO} (h : H p = none) : Same H (upd H p o) := fun b x e => by
  rw [upd_ne (ne_of_none e h)]
  exact e
section
variable {K : Frg} {H : Hp} {A : List Addr} {p : Addr} {vs : List V} {ds : List D}
/-- what stood before the new object does not reach it -/
theorem Tr.new1 {o : HO} (hp : H p = none) : Tr A H (p :: A) (upd H p o) := ⟨fun b x e _ => same_upd hp b x e, fun a ha => by
  rcases List.mem_cons.mp ha with rfl | h
  · exact .inr hp
  · exact .inl h⟩
theorem orep_lst {t : Bool} (hp : H p = none) (r : RepL K H A vs ds) : ORep K (upd H p (.lst vs)) (p :: A) p t (.list ds) := ⟨vs, upd_same, r.tr (Tr.new1 hp)⟩
theorem rep_tup (ha : p ∉ A) (hp : H p = none) (r : RepL K H A vs ds) : Rep K (upd H p (.tup vs)) A (.ref p) (.tuple ds) := .tup ha upd_same (r.same (same_upd hp))
theorem rep_lst (ha : p ∉ A) (hp : H p = none) (r : RepL K H A vs ds) : Rep K (upd H p (.lst vs)) A (.ref p) (.list ds) := .lst ha upd_same (r.same (same_upd hp))
end
end G

namespace G
open PySem PySem.Spec PyProof.Rows L2

/-! ### names and constants -/
def cVar (i : Nat) : En → R D := fun ρ => match ρ[i]? with | some (some (.v d)) => .ok d | _ => .no
def cVarB (i : Nat) : En → R D := fun ρ => match ρ[i]? with | some (some (.v d)) => .ok d | some (some (.own _ d)) => .ok d | _ => .no
def cK (d : D) : En → R D := fun _ => .ok d
section
variable {X : Cx} {W : WX}
theorem fe_var {i : Nat} {x : Str} {pos : Pos} (h : PE X (.Name x pos) (tVar i)) : FE X W (.Name x pos) (cVar i)   := impE h fun σ H Q ⟨H0, A0, A, ρ, o, P⟩ => by
  unfold cVar at P
  split at P
  · rename_i d e
    obtain ⟨v, h1, h2⟩ := o.slot i _ e
    exact ⟨v, h1, P.at v h2⟩
  · exact P.elim
theorem fb_var {i : Nat} {x : Str} {pos : Pos} (h : PE X (.Name x pos) (tVar i)) : FB X W (.Name x pos) (cVarB i)   := impE h fun σ H Q ⟨H0, A0, A, ρ, o, P⟩ => by
  unfold cVarB at P
  split at P
  · rename_i d e
    obtain ⟨v, h1, h2⟩ := o.slot i _ e
    exact ⟨v, h1, P.at v (.inl h2)⟩
  · rename_i d e
    obtain ⟨v, h1, a, e2, m, n, h2⟩ := o.slot i _ e
    exact ⟨v, h1, P.at v (.inr (.inl ⟨a, e2, m, _, h2⟩))⟩
  · exact P.elim
theorem fe_k {e : Expr} {v : V} {d : D} (h : PE X e (tC v)) (r : ∀ H A, Rep X.K H A v d) : FE X W e (cK d)   := impE h fun σ H Q ⟨H0, A0, A, ρ, o, P⟩ => P.at v (r _ _)
theorem fe_int {i : Int} {j : Nat} {pos : Pos} : FE X W (.Constant (.int i) j pos) (cK (.int i)) := fe_k pe_int fun _ _ => .int i
theorem fe_bl {i : Bool} {j : Nat} {pos : Pos} : FE X W (.Constant (.bool i) j pos) (cK (.bool i)) := fe_k pe_bl fun _ _ => .bl i
theorem fe_str {i : Str} {j : Nat} {pos : Pos} : FE X W (.Constant (.str i) j pos) (cK (.str i)) := fe_k pe_str fun _ _ => .str i
theorem fe_non {j : Nat} {pos : Pos} : FE X W (.Constant .none j pos) (cK .none) := fe_k pe_non fun _ _ => .non
theorem fb_of {e : Expr} {f : En → R D} (h : FE X W e f) : FB X W e f := impE h fun σ H Q ⟨H0, A0, A, ρ, o, P⟩ => ⟨H0, A0, A, ρ, o, P.mono fun d H1 _ q v r => q v (.inl r)⟩
theorem fe_of_fn {t : Bool} {e : Expr} {f : En → R D} (h : FN X W t e f) : FE X W e f := impE h fun σ H Q ⟨H0, A0, A, ρ, o, P⟩ => ⟨H0, A0, A, ρ, o, P.mono fun d H1 _ q v ⟨a, e, n, r⟩ => q v (by
  rw [e]
  exact r.free (o.fresh n) fun b hb => List.mem_cons_of_mem _ hb)⟩
end

/-! ### operators -/
def ofO {α : Type} : Option α → R α
  | some a => .ok a
  | none => .no
@[simp] theorem ofO_some {α : Type} (a : α) : ofO (some a) = R.ok a := rfl
@[simp] theorem ofO_none {α : Type} : ofO (none : Option α) = R.no := rfl
theorem Post.ofO {mg : MgT} {W : WX} {α : Type} {σ : St} {H : Hp} {P : α → Hp → Prop} {o : Option α} (h : Post mg W σ H P (ofO o)) : ∃ a, o = some a ∧ ∀ H', Same H H' → P a H' := by
  cases o with
  | none => exact h.elim
  | some a => exact ⟨a, rfl, h⟩
def cBin (dop : D → D → Option D) (f g : En → R D) : En → R D := fun ρ => (f ρ).bind fun x => (g ρ).bind fun y => ofO (dop x y)
def cUn (dop : D → Option D) (f : En → R D) : En → R D := fun ρ => (f ρ).bind fun x => ofO (dop x)
/-- an operator of values does on data what dop says -/
def DOp (X : Cx) (F : Value → Value → Sem Value) (dop : D → D → Option D) : Prop :=
  ∃ r : R2, OpR X F r ∧ ∀ (H : Hp) (A : List Addr) (x y : V) (d1 d2 d : D) (Q : VK), (∀ a ∈ A, H a ≠ none) → RepB X.K H A x d1 → RepB X.K H A y d2 → dop d1 d2 = some d → (∀ v H', Same H H' → Rep X.K H' A v d → Q v H') → r x y H Q
/-- .. operands that are data nobody changes -/
def DOpE (X : Cx) (F : Value → Value → Sem Value) (dop : D → D → Option D) : Prop :=
  ∃ r : R2, OpR X F r ∧ ∀ (H : Hp) (A : List Addr) (x y : V) (d1 d2 d : D) (Q : VK), (∀ a ∈ A, H a ≠ none) → Rep X.K H A x d1 → Rep X.K H A y d2 → dop d1 d2 = some d → (∀ v H', Same H H' → Rep X.K H' A v d → Q v H') → r x y H Q
def DUn (X : Cx) (F : Value → Sem Value) (dop : D → Option D) : Prop :=
  ∃ r : V → Hp → VK → Prop, UnR X F r ∧ ∀ (H : Hp) (A : List Addr) (x : V) (d1 d : D) (Q : VK), (∀ a ∈ A, H a ≠ none) → RepB X.K H A x d1 → dop d1 = some d → (∀ v H', Same H H' → Rep X.K H' A v d → Q v H') → r x H Q
section
variable {X : Cx} {W : WX} {a b c : Expr} {f g h : En → R D} {dop dop' : D → D → Option D} {op op' : CmpOp} {pos : Pos}
theorem op_read {r : R2} (hs : ∀ (H : Hp) (A : List Addr) (x y : V) (d1 d2 d : D) (Q : VK), (∀ a ∈ A, H a ≠ none) → RepB X.K H A x d1 → RepB X.K H A y d2 → dop d1 d2 = some d → (∀ v H', Same H H' → Rep X.K H' A v d → Q v H') → r x y H Q)
    (σ : St) (H : Hp) (Q : VK) (q : tF X.K X.mg W (cBin dop f g) σ H Q) : tOp r (tFB X.K X.mg W f) (tFB X.K X.mg W g) σ H Q := by
  obtain ⟨H0, A0, A, ρ, o, P⟩ := q
  refine ⟨H0, A0, A, ρ, o, P.bind.mono fun d1 H1 s1 P1 x hx => ?_⟩
  refine ⟨H0, A0, A, ρ, o.same s1, P1.bind.mono fun d2 H2 s2 P2 y hy => ?_⟩
  obtain ⟨d, e, P3⟩ := P2.ofO
  exact hs H2 A x y d1 d2 d Q ((o.same s1).same s2).has (hx.same s2) hy e fun v H' s3 hv => P3 H' s3 v hv
theorem fe_op {op : Operator} (ho : DOp X (binaryOp op) dop) (ha : FB X W a f) (hb : FB X W b g) : FE X W (.BinOp a op b pos) (cBin dop f g) := by
  obtain ⟨r, hr, hs⟩ := ho
  exact impE (pe_op hr ha hb) (op_read hs)
theorem fe_opE {op : Operator} (ho : DOpE X (binaryOp op) dop) (ha : FE X W a f) (hb : FE X W b g) : FE X W (.BinOp a op b pos) (cBin dop f g) := by
  obtain ⟨r, hr, hs⟩ := ho
  refine impE (pe_op hr ha hb) fun σ H Q ⟨H0, A0, A, ρ, o, P⟩ => ?_
  refine ⟨H0, A0, A, ρ, o, P.bind.mono fun d1 H1 s1 P1 x hx => ?_⟩
  refine ⟨H0, A0, A, ρ, o.same s1, P1.bind.mono fun d2 H2 s2 P2 y hy => ?_⟩
  obtain ⟨d, e, P3⟩ := P2.ofO
  exact hs H2 A x y d1 d2 d Q ((o.same s1).same s2).has (hx.same s2) hy e fun v H' s3 hv => P3 H' s3 v hv
theorem fe_un {op : UnaryOp} {dop : D → Option D} (ho : DUn X (unaryOp op) dop) (ha : FB X W a f) : FE X W (.UnaryOp op a pos) (cUn dop f) := by
  obtain ⟨r, hr, hs⟩ := ho
  refine impE (pe_un hr ha) fun σ H Q ⟨H0, A0, A, ρ, o, P⟩ => ?_
  refine ⟨H0, A0, A, ρ, o, P.bind.mono fun d1 H1 s1 P1 x hx => ?_⟩
  obtain ⟨d, e, P3⟩ := P1.ofO
  exact hs H1 A x d1 d Q (o.same s1).has hx e fun v H' s3 hv => P3 H' s3 v hv
theorem fe_cmp (ho : DOp X (compareOp op) dop) (ha : FB X W a f) (hb : FB X W b g) (hm : behindInMarks op b = false) : FE X W (.Compare a [op] [b] pos) (cBin dop f g) := by
  obtain ⟨r, hr, hs⟩ := ho
  exact impE (pe_cmpR hr ha hb hm) (op_read hs)
def toB : D → Option Bool
  | .bool b => some b
  | _ => none
def cBinT (dop : D → D → Option D) (f g : En → R D) : En → R Bool := fun ρ => (f ρ).bind fun x => (g ρ).bind fun y => ofO ((dop x y).bind toB)
theorem toB_some {d : D} {k : Bool} (h : toB d = some k) : d = .bool k := by
  cases d <;> simp [toB] at h
  rw [h]
theorem ft_cmp (ho : DOp X (compareOp op) dop) (ha : FB X W a f) (hb : FB X W b g) (hm : behindInMarks op b = false) : FT X W (.Compare a [op] [b] pos) (cBinT dop f g) := by
  obtain ⟨r, hr, hs⟩ := ho
  refine impT (pt_cmpR hr ha hb hm) fun σ H Q ⟨H0, A0, A, ρ, o, P⟩ => ?_
  refine ⟨H0, A0, A, ρ, o, P.bind.mono fun d1 H1 s1 P1 x hx => ?_⟩
  refine ⟨H0, A0, A, ρ, o.same s1, P1.bind.mono fun d2 H2 s2 P2 y hy => ?_⟩
  obtain ⟨k, e, P3⟩ := P2.ofO
  obtain ⟨d, e1, e2⟩ := Option.bind_eq_some_iff.mp e
  obtain rfl := toB_some e2
  exact hs H2 A x y d1 d2 _ _ ((o.same s1).same s2).has (hx.same s2) hy e1 fun v H' s3 hv => ⟨k, (RepB.of hv).bool, P3 H' s3⟩
/-- a < b < c -/
def cChain (dop dop' : D → D → Option D) (f g h : En → R D) : En → R D := fun ρ => (f ρ).bind fun x => (g ρ).bind fun y => (ofO ((dop x y).bind toB)).bind fun k =>
  if k = true then (h ρ).bind fun z => ofO (dop' y z) else .ok (.bool false)
def cChainT (dop dop' : D → D → Option D) (f g h : En → R D) : En → R Bool := fun ρ => (f ρ).bind fun x => (g ρ).bind fun y => (ofO ((dop x y).bind toB)).bind fun k =>
  if k = true then (h ρ).bind fun z => ofO ((dop' y z).bind toB) else .ok false
theorem fe_chain (ho : DOp X (compareOp op) dop) (ho' : DOp X (compareOp op') dop') (ha : FB X W a f) (hb : FB X W b g) (hc : FB X W c h) (hm : lastMarks [op, op'] [b, c] = false) : FE X W (.Compare a [op, op'] [b, c] pos) (cChain dop dop' f g h) := by
  obtain ⟨r, hr, hs⟩ := ho
  obtain ⟨r', hr', hs'⟩ := ho'
  refine impE (pe_chain hr hr' ha hb hc hm) fun σ H Q ⟨H0, A0, A, ρ, o, P⟩ => ?_
  refine ⟨H0, A0, A, ρ, o, P.bind.mono fun d1 H1 s1 P1 x hx => ?_⟩
  have o1 := o.same s1
  refine ⟨H0, A0, A, ρ, o1, P1.bind.mono fun d2 H2 s2 P2 y hy => ?_⟩
  have o2 := o1.same s2
  have P2' := P2.bind
  obtain ⟨k, e, P3⟩ := P2'.ofO
  obtain ⟨d, e1, e2⟩ := Option.bind_eq_some_iff.mp e
  obtain rfl := toB_some e2
  refine hs H2 A x y d1 d2 _ _ o2.has (hx.same s2) hy e1 fun v H3 s3 hv => ⟨k, (RepB.of hv).bool, ?_⟩
  have P4 := P3 H3 s3
  have o3 := o2.same s3
  cases k with
  | false => exact Post.at (a := PyData.bool false) (P := fun d H' => ∀ v, Rep X.K H' A v d → Q v H') P4 _ (.bl false)
  | true =>
    refine ⟨H0, A0, A, ρ, o3, Post.mono (Post.bind (k := fun z => ofO (dop' d2 z)) P4) fun d3 H4 s4 P5 z hz => ?_⟩
    obtain ⟨d4, e4, P6⟩ := P5.ofO
    exact hs' H4 A y z d2 d3 d4 Q (o3.same s4).has ((hy.same s3).same s4) hz e4 fun v H' s5 hv => P6 H' s5 v hv
theorem ft_chain (ho : DOp X (compareOp op) dop) (ho' : DOp X (compareOp op') dop') (ha : FB X W a f) (hb : FB X W b g) (hc : FB X W c h) (hm : lastMarks [op, op'] [b, c] = false) : FT X W (.Compare a [op, op'] [b, c] pos) (cChainT dop dop' f g h) := by
  obtain ⟨r, hr, hs⟩ := ho
  obtain ⟨r', hr', hs'⟩ := ho'
  refine impT (pt_chain hr hr' ha hb hc hm) fun σ H Q ⟨H0, A0, A, ρ, o, P⟩ => ?_
  refine ⟨H0, A0, A, ρ, o, P.bind.mono fun d1 H1 s1 P1 x hx => ?_⟩
  have o1 := o.same s1
  refine ⟨H0, A0, A, ρ, o1, P1.bind.mono fun d2 H2 s2 P2 y hy => ?_⟩
  have o2 := o1.same s2
  have P2' := P2.bind
  obtain ⟨k, e, P3⟩ := P2'.ofO
  obtain ⟨d, e1, e2⟩ := Option.bind_eq_some_iff.mp e
  obtain rfl := toB_some e2
  refine hs H2 A x y d1 d2 _ _ o2.has (hx.same s2) hy e1 fun v H3 s3 hv => ⟨k, (RepB.of hv).bool, ?_⟩
  have P4 := P3 H3 s3
  have o3 := o2.same s3
  cases k with
  | false => exact ⟨false, rfl, Post.at (a := false) (P := fun b H' => Q b H') P4⟩
  | true =>
    refine ⟨H0, A0, A, ρ, o3, Post.mono (Post.bind (k := fun z => ofO ((dop' d2 z).bind toB)) P4) fun d3 H4 s4 P5 z hz => ?_⟩
    obtain ⟨k4, e4, P6⟩ := P5.ofO
    obtain ⟨d4, e5, e6⟩ := Option.bind_eq_some_iff.mp e4
    obtain rfl := toB_some e6
    exact hs' H4 A y z d2 d3 _ _ (o3.same s4).has ((hy.same s3).same s4) hz e5 fun v H' s5 hv => ⟨k4, (RepB.of hv).bool, P6 H' s5⟩
end

/-! ### the operators on data -/
def dAdd : D → D → Option D
  | .int i, .int j => some (.int (i + j))
  | .list xs, .list ys => if xs.length + ys.length ≤ sizeLine then some (.list (xs ++ ys)) else none
  | .tuple xs, .tuple ys => if xs.length + ys.length ≤ sizeLine then some (.tuple (xs ++ ys)) else none
  | .str x, .str y => if x.length + y.length ≤ sizeLine then some (.str (x ++ y)) else none
  | _, _ => none
def dAddB : D → D → Option D
  | .int i, .int j => some (.int (i + j))
  | .list xs, .list ys => if xs.length + ys.length ≤ sizeLine then some (.list (xs ++ ys)) else none
  | _, _ => none
def dSub : D → D → Option D
  | .int i, .int j => some (.int (i - j))
  | _, _ => none
def dMul : D → D → Option D
  | .int i, .int j => if i.natAbs.log2 + j.natAbs.log2 < 1000000 then some (.int (i * j)) else none
  | .list xs, .int k => if k < 1000000 ∧ xs.length * k.toNat ≤ sizeLine ∧ -1000000 < k then some (.list (List.replicate k.toNat xs).flatten) else none
  | _, _ => none
def dDiv : D → D → Option D
  | .int i, .int j => if j ≠ 0 ∧ j.natAbs.log2 < 9000 then some (.int (i.fdiv j)) else none
  | _, _ => none
def dMod : D → D → Option D
  | .int i, .int j => if j ≠ 0 then some (.int (i.fmod j)) else none
  | _, _ => none
def dNeg : D → Option D
  | .int i => some (.int (-i))
  | _ => none
def dLt : D → D → Option D
  | .int i, .int j => some (.bool (decide (i < j)))
  | x, y => if PySem.W.alike x y = true ∧ x.depth ≤ 64 ∧ SeqAt.shaped x = true ∧ SeqAt.shaped y = true ∧ PyData.eqv x .none = false then some (.bool (PySem.W.dataLt x y)) else none
def dLe : D → D → Option D
  | .int i, .int j => some (.bool (decide (i ≤ j)))
  | _, _ => none
def dGt : D → D → Option D
  | .int i, .int j => some (.bool (decide (j < i)))
  | _, _ => none
def dGe : D → D → Option D
  | .int i, .int j => some (.bool (decide (j ≤ i)))
  | _, _ => none
def dEq (x y : D) : Option D := if SeqAt.shaped x = true ∧ SeqAt.shaped y = true then some (.bool (PyData.eqv x y)) else none
def dNe (x y : D) : Option D := if SeqAt.shaped x = true ∧ SeqAt.shaped y = true then some (.bool (!PyData.eqv x y)) else none
/-- is: of None, of truth values -/
def dIs : D → D → Option D
  | .bool a, .bool b => some (.bool (decide (a = b)))
  | .none, .none => some (.bool true)
  | _, .none => some (.bool false)
  | _, _ => none
def dIsNot : D → D → Option D
  | .bool a, .bool b => some (.bool (!decide (a = b)))
  | .none, .none => some (.bool false)
  | _, .none => some (.bool true)
  | _, _ => none
section
variable {X : Cx}
theorem do_add : DOpE X (binaryOp .Add) dAdd := by
  refine ⟨_, OpR.or op_add (OpR.or op_cat (OpR.or op_catA op_add_str)), fun H A x y d1 d2 d Q ha hxr hyr e q => ?_⟩
  have hx := RepB.of hxr
  have hy := RepB.of hyr
  unfold dAdd at e
  split at e
  · cases e
    obtain rfl := hx.int
    obtain rfl := hy.int
    exact .inl ⟨_, _, rfl, rfl, q _ H (Same.refl H) (.int _)⟩
  · split at e
    · rename_i hl
      cases e
      obtain ⟨a, vs, rfl, h1, r1⟩ := hx.lst
      obtain ⟨b, us, rfl, h2, r2⟩ := hy.lst
      refine .inr (.inl ⟨a, b, vs, us, rfl, rfl, h1, h2, by rw [r1.length, r2.length]; exact hl, fun p hp => q _ _ (same_upd hp) (rep_lst (fun z => ha p z hp) hp (r1.append r2))⟩)
    · cases e
  · split at e
    · rename_i hl
      cases e
      obtain ⟨a, vs, rfl, h1, r1⟩ := hx.tup
      obtain ⟨b, us, rfl, h2, r2⟩ := hy.tup
      refine .inr (.inr (.inl ⟨a, b, vs, us, rfl, rfl, h1, h2, by rw [r1.length, r2.length]; exact hl, fun z => ?_, fun _ z => ?_, fun _ _ p hp => q _ _ (same_upd hp) (rep_tup (fun z => ha p z hp) hp (r1.append r2))⟩))
      · subst z
        cases r1
        exact q _ H (Same.refl H) hyr
      · subst z
        cases r2
        rw [List.append_nil] at q
        exact q _ H (Same.refl H) hxr
    · cases e
  · split at e
    · rename_i hl
      cases e
      obtain rfl := hx.str
      obtain rfl := hy.str
      exact .inr (.inr (.inr ⟨_, _, rfl, rfl, hl, q _ H (Same.refl H) (.str _)⟩))
    · cases e
  · cases e
theorem do_addB : DOp X (binaryOp .Add) dAddB := by
  refine ⟨_, OpR.or op_add op_cat, fun H A x y d1 d2 d Q ha hx hy e q => ?_⟩
  unfold dAddB at e
  split at e
  · cases e
    obtain rfl := hx.int
    obtain rfl := hy.int
    exact .inl ⟨_, _, rfl, rfl, q _ H (Same.refl H) (.int _)⟩
  · split at e
    · rename_i hl
      cases e
      obtain ⟨a, vs, rfl, h1, r1⟩ := hx.lst
      obtain ⟨b, us, rfl, h2, r2⟩ := hy.lst
      refine .inr ⟨a, b, vs, us, rfl, rfl, h1, h2, by rw [r1.length, r2.length]; exact hl, fun p hp => q _ _ (same_upd hp) (rep_lst (fun z => ha p z hp) hp (r1.append r2))⟩
    · cases e
  · cases e
theorem do_sub : DOp X (binaryOp .Sub) dSub := by
  refine ⟨_, op_sub, fun H A x y d1 d2 d Q ha hx hy e q => ?_⟩
  unfold dSub at e
  split at e
  · cases e
    obtain rfl := hx.int
    obtain rfl := hy.int
    exact ⟨_, _, rfl, rfl, q _ H (Same.refl H) (.int _)⟩
  · cases e
theorem do_mul : DOp X (binaryOp .Mult) dMul := by
  refine ⟨_, OpR.or op_mulW op_rep, fun H A x y d1 d2 d Q ha hx hy e q => ?_⟩
  unfold dMul at e
  split at e
  · split at e
    · rename_i hl
      cases e
      obtain rfl := hx.int
      obtain rfl := hy.int
      exact .inl ⟨_, _, rfl, rfl, hl, q _ H (Same.refl H) (.int _)⟩
    · cases e
  · split at e
    · rename_i hl
      cases e
      obtain ⟨a, vs, rfl, h1, r1⟩ := hx.lst
      obtain rfl := hy.int
      obtain ⟨h2, h3, h4⟩ := hl
      exact .inr ⟨a, _, vs, rfl, rfl, h1, by omega, by omega, by rw [r1.length]; exact h3, fun p hp => q _ _ (same_upd hp) (rep_lst (fun z => ha p z hp) hp (r1.flatRep _))⟩
    · cases e
  · cases e
def CDivX (_ j : Int) : Prop := j ≠ 0 ∧ j.natAbs.log2 < 9000
theorem op_fdivX : OpR X (binaryOp .FloorDiv) (rI CDivX fun i j => .int (i.fdiv j)) := opI fun i j _ _ _ _ _ hc q => floordiv_int hc.1 q (.inl (PyProof.noPylong_of_log2 hc.2))
theorem do_div : DOp X (binaryOp .FloorDiv) dDiv := by
  refine ⟨_, op_fdivX, fun H A x y d1 d2 d Q ha hx hy e q => ?_⟩
  unfold dDiv at e
  split at e
  · split at e
    · rename_i hl
      cases e
      obtain rfl := hx.int
      obtain rfl := hy.int
      exact ⟨_, _, rfl, rfl, hl, q _ H (Same.refl H) (.int _)⟩
    · cases e
  · cases e
theorem do_mod : DOp X (binaryOp .Mod) dMod := by
  refine ⟨_, op_modN, fun H A x y d1 d2 d Q ha hx hy e q => ?_⟩
  unfold dMod at e
  split at e
  · split at e
    · rename_i hl
      cases e
      obtain rfl := hx.int
      obtain rfl := hy.int
      exact ⟨_, _, rfl, rfl, hl, q _ H (Same.refl H) (.int _)⟩
    · cases e
  · cases e
theorem du_neg : DUn X (unaryOp .USub) dNeg := by
  refine ⟨_, un_neg, fun H A x d1 d Q ha hx e q => ?_⟩
  unfold dNeg at e
  split at e
  · cases e
    obtain rfl := hx.int
    exact ⟨_, rfl, q _ H (Same.refl H) (.int _)⟩
  · cases e
theorem do_le : DOp X (compareOp .LtE) dLe := by
  refine ⟨_, op_le, fun H A x y d1 d2 d Q ha hx hy e q => ?_⟩
  unfold dLe at e
  split at e
  · cases e
    obtain rfl := hx.int
    obtain rfl := hy.int
    exact ⟨_, _, rfl, rfl, q _ H (Same.refl H) (.bl _)⟩
  · cases e
theorem do_gt : DOp X (compareOp .Gt) dGt := by
  refine ⟨_, op_gt, fun H A x y d1 d2 d Q ha hx hy e q => ?_⟩
  unfold dGt at e
  split at e
  · cases e
    obtain rfl := hx.int
    obtain rfl := hy.int
    exact ⟨_, _, rfl, rfl, q _ H (Same.refl H) (.bl _)⟩
  · cases e
theorem do_ge : DOp X (compareOp .GtE) dGe := by
  refine ⟨_, op_ge, fun H A x y d1 d2 d Q ha hx hy e q => ?_⟩
  unfold dGe at e
  split at e
  · cases e
    obtain rfl := hx.int
    obtain rfl := hy.int
    exact ⟨_, _, rfl, rfl, q _ H (Same.refl H) (.bl _)⟩
  · cases e
theorem do_eq (hu : X.A.units + 64 < cLine) : DOp X (compareOp .Eq) dEq := by
  refine ⟨_, op_eqD hu, fun H A x y d1 d2 d Q ha hx hy e q => ?_⟩
  unfold dEq at e
  split at e
  · rename_i hs
    cases e
    exact ⟨d1, d2, hx.dp hs.1, hy.dp hs.2, hs.1, hs.2, q _ H (Same.refl H) (.bl _)⟩
  · cases e
theorem do_ne (hu : X.A.units + 64 < cLine) : DOp X (compareOp .NotEq) dNe := by
  refine ⟨_, op_neD hu, fun H A x y d1 d2 d Q ha hx hy e q => ?_⟩
  unfold dNe at e
  split at e
  · rename_i hs
    cases e
    exact ⟨d1, d2, hx.dp hs.1, hy.dp hs.2, hs.1, hs.2, q _ H (Same.refl H) (.bl _)⟩
  · cases e
def rLtD (K : Frg) : R2 := fun x y H Q => ∃ d e, Dp K H x d ∧ Dp K H y e ∧ PySem.W.alike d e = true ∧ d ≠ .none ∧ d.depth ≤ 64 ∧ Q (.bl (PySem.W.dataLt d e)) H
theorem op_ltD (hu : X.A.units + 64 < cLine) : OpR X (compareOp .Lt) (rLtD X.K) := by
  intro pins s σ H x y v u Q I rx ry h
  obtain ⟨d, e, hd, he, ha, hn, hdp, q⟩ := h
  obtain ⟨as, r1⟩ := Dp.reads I d x v hd rx
  obtain ⟨bs, r2⟩ := Dp.reads I e y u he ry
  have hm : min d.depth e.depth ≤ d.depth := Nat.min_le_left _ _
  exact PySem.W.rcLt_alike d e X.A s v u as bs r1 r2 ha hn (by omega) _ _ _ _ ⟨.bl _, H, I, rfl, q⟩
theorem do_lt (hu : X.A.units + 64 < cLine) : DOp X (compareOp .Lt) dLt := by
  refine ⟨_, OpR.or op_lt (op_ltD hu), fun H A x y d1 d2 d Q ha hx hy e q => ?_⟩
  unfold dLt at e
  split at e
  · cases e
    obtain rfl := hx.int
    obtain rfl := hy.int
    exact .inl ⟨_, _, rfl, rfl, q _ H (Same.refl H) (.bl _)⟩
  · split at e
    · rename_i hs
      cases e
      obtain ⟨h1, h2, h3, h4, h5⟩ := hs
      refine .inr ⟨d1, d2, hx.dp h3, hy.dp h4, h1, fun z => ?_, h2, q _ H (Same.refl H) (.bl _)⟩
      rw [z] at h5
      simp [PyData.eqv] at h5
    · cases e
theorem nnon {K : Frg} {H : Hp} {A : List Addr} {x : V} {d : D} (h : RepB K H A x d) (n : d ≠ .none) : decide (x = V.non) = false := by
  rcases h with h | ⟨a, e, _, _, _⟩ | ⟨a, _, _, e, _⟩
  · cases h <;> first | rfl | exact absurd rfl n
  · rw [e]; rfl
  · rw [e]; rfl
theorem do_is : DOp X (compareOp .Is) dIs := by
  refine ⟨_, OpR.or op_isN op_is_bl, fun H A x y d1 d2 d Q ha hx hy e q => ?_⟩
  unfold dIs at e
  split at e
  · cases e
    obtain rfl := hx.bool
    obtain rfl := hy.bool
    exact .inr ⟨_, _, rfl, rfl, q _ H (Same.refl H) (.bl _)⟩
  · cases e
    obtain rfl := hx.non
    obtain rfl := hy.non
    exact .inl ⟨rfl, q _ H (Same.refl H) (.bl _)⟩
  · rename_i n
    cases e
    obtain rfl := hy.non
    refine .inl ⟨rfl, ?_⟩
    rw [nnon hx n]
    exact q _ H (Same.refl H) (.bl _)
  · cases e
theorem do_isnot : DOp X (compareOp .IsNot) dIsNot := by
  refine ⟨_, OpR.or op_notN op_isnot_bl, fun H A x y d1 d2 d Q ha hx hy e q => ?_⟩
  unfold dIsNot at e
  split at e
  · cases e
    obtain rfl := hx.bool
    obtain rfl := hy.bool
    exact .inr ⟨_, _, rfl, rfl, q _ H (Same.refl H) (.bl _)⟩
  · cases e
    obtain rfl := hx.non
    obtain rfl := hy.non
    exact .inl ⟨rfl, q _ H (Same.refl H) (.bl _)⟩
  · rename_i n
    cases e
    obtain rfl := hy.non
    refine .inl ⟨rfl, ?_⟩
    rw [nnon hx n]
    exact q _ H (Same.refl H) (.bl _)
  · cases e
end
end G

namespace G
open PySem PySem.Spec PyProof.Rows L2
set_option maxHeartbeats 1000000
section
variable {X : Cx} {W : WX} {a b c e : Expr} {es rest : List Expr} {f g h : En → R D} {p q : En → R Bool} {pos : Pos}

/-! ### tests -/
def cTest (f : En → R D) : En → R Bool := fun ρ => (f ρ).bind fun d => ofO (toB d)
theorem ft_val (h : FE X W e f) (he : ∀ whole, isTrue e X.env whole = (do let v ← whole; standAt e.pos; holding [v] (truthy v)) := by intro _; rfl) : FT X W e (cTest f) := impT (pt_val h he) fun σ H Q ⟨H0, A0, A, ρ, o, P⟩ => by
  refine ⟨H0, A0, A, ρ, o, P.bind.mono fun d H1 s1 P1 v hv => ?_⟩
  obtain ⟨k, e1, P2⟩ := P1.ofO
  obtain rfl := toB_some e1
  exact ⟨k, (RepB.of hv).bool, P2 H1 (Same.refl _)⟩
def cNot (p : En → R Bool) : En → R Bool := fun ρ => (p ρ).bind fun k => .ok (!k)
def cAnd (p q : En → R Bool) : En → R Bool := fun ρ => (p ρ).bind fun k => if k = true then q ρ else .ok false
def cOr (p q : En → R Bool) : En → R Bool := fun ρ => (p ρ).bind fun k => if k = true then .ok true else q ρ
theorem ft_not (h : FT X W a p) : FT X W (.UnaryOp .Not a pos) (cNot p) := impT (pt_not h) fun σ H Q ⟨H0, A0, A, ρ, o, P⟩ => by
  refine ⟨H0, A0, A, ρ, o, P.bind.mono fun k H1 s1 P1 => P1.at⟩
abbrev FW (X : Cx) (W : WX) (e : Expr) (f : En → R Bool) : Prop := PW X e (tFT X.K X.mg W f)
theorem fw_and1 (h : FT X W a p) : FW X W (.BoolOp .And [a] pos) p := pw_and1 h
theorem fw_or1 (h : FT X W a p) : FW X W (.BoolOp .Or [a] pos) p := pw_or1 h
theorem fw_and (ha : FT X W a p) (hb : FW X W (.BoolOp .And (b :: rest) pos) q) : FW X W (.BoolOp .And (a :: b :: rest) pos) (cAnd p q) := impW (pw_and ha hb) fun σ H Q ⟨H0, A0, A, ρ, o, P⟩ => by
  refine ⟨H0, A0, A, ρ, o, P.bind.mono fun k H1 s1 P1 => ?_⟩
  cases k with
  | true => exact ⟨H0, A0, A, ρ, o.same s1, P1⟩
  | false => exact P1.at
theorem fw_or (ha : FT X W a p) (hb : FW X W (.BoolOp .Or (b :: rest) pos) q) : FW X W (.BoolOp .Or (a :: b :: rest) pos) (cOr p q) := impW (pw_or ha hb) fun σ H Q ⟨H0, A0, A, ρ, o, P⟩ => by
  refine ⟨H0, A0, A, ρ, o, P.bind.mono fun k H1 s1 P1 => ?_⟩
  cases k with
  | true => exact P1.at
  | false => exact ⟨H0, A0, A, ρ, o.same s1, P1⟩
theorem ft_w (h : FW X W e p) : FT X W e p := PW.pt h

/-! ### and, or, not, if as values -/
def cAndV (f g : En → R D) : En → R D := fun ρ => (cTest f ρ).bind fun k => if k = true then g ρ else .ok (.bool false)
def cOrV (f g : En → R D) : En → R D := fun ρ => (cTest f ρ).bind fun k => if k = true then .ok (.bool true) else g ρ
def cNotV (f : En → R D) : En → R D := fun ρ => (cTest f ρ).bind fun k => .ok (.bool (!k))
def cIf (p : En → R Bool) (f g : En → R D) : En → R D := fun ρ => (p ρ).bind fun k => if k = true then f ρ else g ρ
theorem fe_one {op} (h : FE X W a f) : FE X W (.BoolOp op [a] pos) f := pe_one h
theorem bind_test {α : Type} {f : En → R D} {ρ : En} {k : Bool → R α} : (cTest f ρ).bind k = (f ρ).bind fun d => (ofO (toB d)).bind k := by
  unfold cTest
  cases f ρ <;> rfl
theorem fe_and (ha : FE X W a f) (hb : FE X W (.BoolOp .And (b :: rest) pos) g) : FE X W (.BoolOp .And (a :: b :: rest) pos) (cAndV f g) := impE (pe_and ha hb) fun σ H Q ⟨H0, A0, A, ρ, o, P⟩ => by
  unfold cAndV at P
  rw [bind_test] at P
  refine ⟨H0, A0, A, ρ, o, P.bind.mono fun d H1 s1 P1 v hv => ?_⟩
  obtain ⟨k, e1, P2⟩ := P1.bind.ofO
  obtain rfl := toB_some e1
  refine ⟨k, (RepB.of hv).bool, ?_⟩
  have P3 := P2 H1 (Same.refl _)
  cases k with
  | true => exact ⟨H0, A0, A, ρ, o.same s1, P3⟩
  | false => exact Post.at (P := fun d H' => ∀ v, Rep X.K H' A v d → Q v H') (a := .bool false) P3 _ (.bl false)
theorem fe_or (ha : FE X W a f) (hb : FE X W (.BoolOp .Or (b :: rest) pos) g) : FE X W (.BoolOp .Or (a :: b :: rest) pos) (cOrV f g) := impE (pe_or ha hb) fun σ H Q ⟨H0, A0, A, ρ, o, P⟩ => by
  unfold cOrV at P
  rw [bind_test] at P
  refine ⟨H0, A0, A, ρ, o, P.bind.mono fun d H1 s1 P1 v hv => ?_⟩
  obtain ⟨k, e1, P2⟩ := P1.bind.ofO
  obtain rfl := toB_some e1
  refine ⟨k, (RepB.of hv).bool, ?_⟩
  have P3 := P2 H1 (Same.refl _)
  cases k with
  | false => exact ⟨H0, A0, A, ρ, o.same s1, P3⟩
  | true => exact Post.at (P := fun d H' => ∀ v, Rep X.K H' A v d → Q v H') (a := .bool true) P3 _ (.bl true)
theorem fe_not (ha : FE X W a f) : FE X W (.UnaryOp .Not a pos) (cNotV f) := impE (pe_not ha) fun σ H Q ⟨H0, A0, A, ρ, o, P⟩ => by
  unfold cNotV at P
  rw [bind_test] at P
  refine ⟨H0, A0, A, ρ, o, P.bind.mono fun d H1 s1 P1 v hv => ?_⟩
  obtain ⟨k, e1, P2⟩ := P1.bind.ofO
  obtain rfl := toB_some e1
  exact ⟨k, (RepB.of hv).bool, Post.at (P := fun d H' => ∀ v, Rep X.K H' A v d → Q v H') (a := .bool (!k)) (P2 H1 (Same.refl _)) _ (.bl _)⟩
theorem fe_if (hc : FT X W c p) (ha : FE X W a f) (hb : FE X W b g) : FE X W (.IfExp c a b pos) (cIf p f g) := impE (pe_ifExp hc ha hb) fun σ H Q ⟨H0, A0, A, ρ, o, P⟩ => by
  refine ⟨H0, A0, A, ρ, o, P.bind.mono fun k H1 s1 P1 => ?_⟩
  cases k with
  | true => exact ⟨H0, A0, A, ρ, o.same s1, P1⟩
  | false => exact ⟨H0, A0, A, ρ, o.same s1, P1⟩

/-! ### rows of expressions, displays -/
def cNil : En → R (List D) := fun _ => .ok []
def cCons (f : En → R D) (l : En → R (List D)) : En → R (List D) := fun ρ => (f ρ).bind fun d => (l ρ).bind fun ds => .ok (d :: ds)
def itemsOf : D → Option (List D)
  | .list xs => some xs
  | .tuple xs => some xs
  | _ => none
def cStar (f : En → R D) (l : En → R (List D)) : En → R (List D) := fun ρ => (f ρ).bind fun d => (ofO (itemsOf d)).bind fun xs => (l ρ).bind fun ds => .ok (xs ++ ds)
variable {l : En → R (List D)}
theorem fa_nil : FA X W [] cNil := impA pa_nil fun σ H Q ⟨H0, A0, A, ρ, o, P⟩ => Post.at (P := fun ds H' => ∀ vs, RepL X.K H' A vs ds → Q vs H') (a := []) P _ .nil
theorem fab_nil : FAB X W [] cNil := impA pa_nil fun σ H Q ⟨H0, A0, A, ρ, o, P⟩ => Post.at (P := fun ds H' => ∀ vs, Paired (RepB X.K H' A) vs ds → Q vs H') (a := []) P _ .nil
theorem fa_cons (ha : FE X W e f) (hr : FA X W es l) (hs : starEach (e :: es) X.env = (false, eval e X.env) :: starEach es X.env := by rfl) : FA X W (e :: es) (cCons f l) := impA (pa_cons ha hr hs) fun σ H Q ⟨H0, A0, A, ρ, o, P⟩ => by
  refine ⟨H0, A0, A, ρ, o, P.bind.mono fun d H1 s1 P1 v hv => ?_⟩
  refine ⟨H0, A0, A, ρ, o.same s1, P1.bind.mono fun ds H2 s2 P2 vs hvs => ?_⟩
  exact Post.at (P := fun ds H' => ∀ vs, RepL X.K H' A vs ds → Q vs H') (a := d :: ds) P2 _ (.cons (hv.same s2) hvs)
theorem fa_star (ha : FB X W e f) (hr : FA X W es l) (hs : starEach (.Starred e pos :: es) X.env = (true, eval e X.env) :: starEach es X.env := by rfl) : FA X W (.Starred e pos :: es) (cStar f l) := impA (StX.pa_star ha hr hs) fun σ H Q ⟨H0, A0, A, ρ, o, P⟩ => by
  refine ⟨H0, A0, A, ρ, o, P.bind.mono fun d H1 s1 P1 v hv => ?_⟩
  obtain ⟨xs, e1, P2⟩ := P1.bind.ofO
  have P3 := (P2 H1 (Same.refl _)).bind
  have key : ∀ us : List V, RepL X.K H1 A us xs → Post X.mg W σ H1 (fun ds H' => ∀ vs, RepL X.K H' A vs ds → Q (us ++ vs) H') (l ρ) := fun us r => P3.mono fun ds H2 s2 P4 vs hvs =>
    Post.at (P := fun ds H' => ∀ vs, RepL X.K H' A vs ds → Q vs H') (a := xs ++ ds) P4 _ ((r.same s2).append hvs)
  cases d with
  | list ys =>
    obtain ⟨a, us, rfl, h1, r⟩ := hv.lst
    cases e1
    exact ⟨a, us, rfl, .inr (SqL.of h1), H0, A0, A, ρ, o.same s1, key us r⟩
  | tuple ys =>
    obtain ⟨a, us, rfl, h1, r⟩ := hv.tup
    cases e1
    exact ⟨a, us, rfl, .inl h1, H0, A0, A, ρ, o.same s1, key us r⟩
  | _ => cases e1
theorem fab_cons (ha : FB X W e f) (hr : FAB X W es l) (hs : starEach (e :: es) X.env = (false, eval e X.env) :: starEach es X.env := by rfl) : FAB X W (e :: es) (cCons f l) := impA (pa_cons ha hr hs) fun σ H Q ⟨H0, A0, A, ρ, o, P⟩ => by
  refine ⟨H0, A0, A, ρ, o, P.bind.mono fun d H1 s1 P1 v hv => ?_⟩
  refine ⟨H0, A0, A, ρ, o.same s1, P1.bind.mono fun ds H2 s2 P2 vs hvs => ?_⟩
  exact Post.at (P := fun ds H' => ∀ vs, Paired (RepB X.K H' A) vs ds → Q vs H') (a := d :: ds) P2 _ (.cons (hv.same s2) hvs)
def cList (l : En → R (List D)) : En → R D := fun ρ => (l ρ).bind fun ds => if ds.length ≤ sizeLine then .ok (.list ds) else .no
def cTup (l : En → R (List D)) : En → R D := fun ρ => (l ρ).bind fun ds => if ds.length ≤ sizeLine then .ok (.tuple ds) else .no
theorem fn_list {t : Bool} (h : FA X W es l) : FN X W t (.List es pos) (cList l) := impE (pe_lst h) fun σ H Q ⟨H0, A0, A, ρ, o, P⟩ => by
  refine ⟨H0, A0, A, ρ, o, P.bind.mono fun ds H1 s1 P1 vs hvs => ?_⟩
  split at P1
  · rename_i hl
    exact ⟨by rw [hvs.length]; exact hl, fun p hp => P1 _ (same_upd hp) _ ⟨p, rfl, s1.free hp, orep_lst hp hvs⟩⟩
  · exact P1.elim
theorem fe_tup {x1} (h : FA X W es l) : FE X W (.Tuple es x1 pos) (cTup l) := impE (pe_tup h) fun σ H Q ⟨H0, A0, A, ρ, o, P⟩ => by
  refine ⟨H0, A0, A, ρ, o, P.bind.mono fun ds H1 s1 P1 vs hvs => ?_⟩
  split at P1
  · rename_i hl
    exact ⟨by rw [hvs.length]; exact hl, fun p hp => P1 _ (same_upd hp) _ (rep_tup ((o.same s1).fresh hp) hp hvs)⟩
  · exact P1.elim

/-! ### subscripts, slices -/
/-- a key of a dict, as data -/
def keyD : D → Option Key
  | .int i => some (.inl i)
  | .str z => some (.inr z)
  | _ => none
def keysD : List D → Option (List Key)
  | [] => some []
  | d :: ds => (keyD d).bind fun k => (keysD ds).map fun ks => k :: ks
theorem keyD_some {d : D} {k : Key} (h : keyD d = some k) : d = kD k := by
  cases d <;> simp [keyD] at h <;> subst h <;> rfl
theorem keysD_some : ∀ {ds : List D} {ks : List Key}, keysD ds = some ks → ds = ks.map kD
  | [], ks, h => by cases h; rfl
  | d :: ds, ks, h => by
    unfold keysD at h
    obtain ⟨k, h1, h2⟩ := Option.bind_eq_some_iff.mp h
    obtain ⟨r, h3, h4⟩ := Option.map_eq_some_iff.mp h2
    subst h4
    rw [keyD_some h1, keysD_some h3, List.map_cons]
/-- what a dict's rows hold under a key -/
def getK : List (D × D) → Key → Option D
  | [], _ => none
  | (d, v) :: r, k => if keyD d = some k then some v else getK r k
def getT : List (D × D) → List Key → Option D
  | [], _ => none
  | (d, v) :: r, k => if (match d with | .tuple ds => keysD ds | _ => none) = some k then some v else getT r k
theorem keyD_kD (k : Key) : keyD (kD k) = some k := by cases k <;> rfl
theorem keysD_map (k : List Key) : keysD (k.map kD) = some k := by
  induction k with
  | nil => rfl
  | cons a r ih => rw [List.map_cons]; unfold keysD; rw [keyD_kD, Option.bind_some, ih]; rfl
theorem getK_rep {K : Frg} {H : Hp} {A : List Addr} {k : Key} : ∀ {kvs : List (Key × V)} {ds : List (D × D)}, RepK K H A kvs ds → (∀ d, getK ds k = some d → ∃ v, valV kvs k = some v ∧ Rep K H A v d) ∧ (getK ds k = none → valV kvs k = none)
  | _, _, .nil => ⟨fun d h => by simp [getK] at h, fun _ => rfl⟩
  | _, _, .cons (k := k') (v := v) (d := d) r t => by
    have ih := getK_rep (k := k) t
    unfold getK valV
    rw [keyD_kD]
    by_cases e : k' = k
    · subst e
      simp only [if_true, List.find?_cons, decide_true, Option.map_some, Option.some.injEq]
      exact ⟨fun d' h => ⟨v, rfl, h ▸ r⟩, fun h => by cases h⟩
    · have e' : ¬ (some k' = some k) := fun z => e (Option.some.inj z)
      rw [if_neg e', List.find?_cons, decide_eq_false e]
      exact ih
theorem getT_rep {K : Frg} {H : Hp} {A : List Addr} {k : List Key} : ∀ {kvs : List (List Key × V)} {ds : List (D × D)}, RepT K H A kvs ds → (∀ d, getT ds k = some d → ∃ v, valV kvs k = some v ∧ Rep K H A v d) ∧ (getT ds k = none → valV kvs k = none)
  | _, _, .nil => ⟨fun d h => by simp [getT] at h, fun _ => rfl⟩
  | _, _, .cons (k := k') (v := v) (d := d) r t => by
    have ih := getT_rep (k := k) t
    unfold getT valV
    simp only [keysD_map]
    by_cases e : k' = k
    · subst e
      simp only [if_true, List.find?_cons, decide_true, Option.map_some, Option.some.injEq]
      exact ⟨fun d' h => ⟨v, rfl, h ▸ r⟩, fun h => by cases h⟩
    · have e' : ¬ (some k' = some k) := fun z => e (Option.some.inj z)
      rw [if_neg e', List.find?_cons, decide_eq_false e]
      exact ih
/-- a row's item, by a place of either sign -/
def dIx : D → D → Option D
  | .list xs, .int i => atI xs i
  | .tuple xs, .int i => atI xs i
  | .str z, .int i => if z.length ≤ sizeLine then (atI z.cps.toList i).map fun c => .str ⟨#[c]⟩ else none
  | .dict kvs, .int i => if (kvs.all fun kv => (keyD kv.1).isSome) = true then getK kvs (.inl i) else none
  | .dict kvs, .str z => if (kvs.all fun kv => (keyD kv.1).isSome) = true then getK kvs (.inr z) else none
  | .dict kvs, .tuple ds => (keysD ds).bind fun ks => if (kvs.all fun kv => (keyD kv.1).isNone) = true then getT kvs ks else none
  | _, _ => none
theorem repK_keys {K : Frg} {H : Hp} {A : List Addr} : ∀ {kvs : List (Key × V)} {ds : List (D × D)}, RepK K H A kvs ds → (ds.all fun kv => (keyD kv.1).isSome) = true
  | _, _, .nil => rfl
  | _, _, .cons r t => by rw [List.all_cons, keyD_kD, repK_keys t]; rfl
theorem repT_keys {K : Frg} {H : Hp} {A : List Addr} : ∀ {kvs : List (List Key × V)} {ds : List (D × D)}, RepT K H A kvs ds → (ds.all fun kv => (keyD kv.1).isNone) = true
  | _, _, .nil => rfl
  | _, _, .cons r t => by rw [List.all_cons, repT_keys t]; rfl
theorem repK_of_T {K : Frg} {H : Hp} {A : List Addr} {kvs : List (List Key × V)} {ds : List (D × D)} (r : RepT K H A kvs ds) (h : (ds.all fun kv => (keyD kv.1).isSome) = true) : ds = [] := by
  cases r with
  | nil => rfl
  | cons a t => rw [List.all_cons] at h; simp [keyD] at h
theorem repT_of_K {K : Frg} {H : Hp} {A : List Addr} {kvs : List (Key × V)} {ds : List (D × D)} (r : RepK K H A kvs ds) (h : (ds.all fun kv => (keyD kv.1).isNone) = true) : ds = [] := by
  cases r with
  | nil => rfl
  | cons a t => rw [List.all_cons, keyD_kD] at h; simp at h
theorem atI_rep {K : Frg} {H : Hp} {A : List Addr} {vs : List V} {ds : List D} {i : Int} {d : D} (r : RepL K H A vs ds) (h : atI ds i = some d) : ∃ v, atI vs i = some v ∧ Rep K H A v d := by
  unfold atI at h ⊢
  rw [r.length]
  obtain ⟨j, h1, h2⟩ := Option.bind_eq_some_iff.mp h
  obtain ⟨v, h3, h4⟩ := r.get h2
  exact ⟨v, by rw [h1, Option.bind_some, h3], h4⟩
def rIxDc : R2 := fun x y H Q => ∃ a v, x = .ref a ∧ DGet H a y (some v) ∧ Q v H
theorem ix_dict (hu : X.A.units + 1 < cLine) : IxR X rIxDc := by
  intro value slice pins s σ H x y v u Q I rx ry h hs
  obtain ⟨a, z, rfl, hg, q⟩ := h
  cases rx
  exact tail_any (dict_typeIs I hg) PySem.F.slot_dict_getitem.lookup (d_getItem hu I hg ry fun w' s' I' r' => ⟨z, H, I', r', q⟩) hs
theorem rep_key {K : Frg} {H : Hp} {A : List Addr} {ks : List Key} : ∀ {vs : List V}, RepL K H A vs (ks.map kD) → vs = ks.map kV := by
  induction ks with
  | nil => intro vs r; cases r; rfl
  | cons k ks ih =>
    intro vs r
    rw [List.map_cons] at r
    cases r with
    | cons a t =>
      rw [List.map_cons, ← ih t]
      cases k with
      | inl i => cases a; rfl
      | inr i => cases a; rfl
theorem fe_ix (hu : X.A.units + 1 < cLine) (ha : FB X W a f) (hb : FE X W b g) (hs : PlainIx b) : FE X W (.Subscript a b pos) (cBin dIx f g) := by
  refine impE (pe_ix (IxR.or ix_seq (ix_dict hu)) ha hb hs) fun σ H Q ⟨H0, A0, A, ρ, o, P⟩ => ?_
  refine ⟨H0, A0, A, ρ, o, P.bind.mono fun d1 H1 s1 P1 x hx => ?_⟩
  refine ⟨H0, A0, A, ρ, o.same s1, P1.bind.mono fun d2 H2 s2 P2 y hy => ?_⟩
  obtain ⟨d, e, P3⟩ := P2.ofO
  have q := P3 H2 (Same.refl _)
  have hx := hx.same s2
  unfold dIx at e
  split at e
  · obtain ⟨p, vs, rfl, h1, r⟩ := hx.lst
    obtain rfl := (RepB.of hy).int
    obtain ⟨v, h2, h3⟩ := atI_rep r e
    exact .inl (.inl ⟨p, vs, _, v, rfl, rfl, SqL.of h1, h2, q v h3⟩)
  · obtain ⟨p, vs, rfl, h1, r⟩ := hx.tup
    obtain rfl := (RepB.of hy).int
    obtain ⟨v, h2, h3⟩ := atI_rep r e
    exact .inl (.inr (.inl ⟨p, vs, _, v, rfl, rfl, h1, h2, q v h3⟩))
  · split at e
    · rename_i hz
      obtain rfl := hx.str
      obtain rfl := (RepB.of hy).int
      obtain ⟨c, h1, h2⟩ := Option.map_eq_some_iff.mp e
      subst h2
      exact .inl (.inr (.inr ⟨_, _, c, rfl, rfl, hz, h1, q _ (.str _)⟩))
    · cases e
  · split at e
    · rename_i hk
      obtain rfl := (RepB.of hy).int
      obtain ⟨p, rfl, ⟨kvs, h1, r⟩ | ⟨kvs, h1, r⟩⟩ := hx.dict
      · obtain ⟨v, h2, h3⟩ := (getK_rep r).1 d e
        exact .inr ⟨p, v, rfl, .inl ⟨kvs, .inl _, h1, rfl, h2.symm⟩, q v h3⟩
      · rw [repK_of_T r hk] at e; cases e
    · cases e
  · split at e
    · rename_i hk
      obtain rfl := (RepB.of hy).str
      obtain ⟨p, rfl, ⟨kvs, h1, r⟩ | ⟨kvs, h1, r⟩⟩ := hx.dict
      · obtain ⟨v, h2, h3⟩ := (getK_rep r).1 d e
        exact .inr ⟨p, v, rfl, .inl ⟨kvs, .inr _, h1, rfl, h2.symm⟩, q v h3⟩
      · rw [repK_of_T r hk] at e; cases e
    · cases e
  · obtain ⟨ks, h0, e2⟩ := Option.bind_eq_some_iff.mp e
    clear e
    have h0 := keysD_some h0
    subst h0
    split at e2
    · rename_i hk
      obtain ⟨p, rfl, ⟨kvs, h1, r⟩ | ⟨kvs, h1, r⟩⟩ := hx.dict
      · rw [repT_of_K r hk] at e2; cases e2
      · obtain ⟨v, h2, h3⟩ := (getT_rep r).1 d e2
        cases hy with
        | tup n hb2 rk =>
          rw [rep_key rk] at hb2
          exact .inr ⟨p, v, rfl, .inr ⟨kvs, ks, _, h1, rfl, hb2, h2.symm⟩, q v h3⟩
    · cases e2
  · cases e
end
end G

namespace G
open PySem PySem.Spec PyProof.Rows L2

/-! ### slices -/
def cutL (xs : List D) (lo hi : Option Int) : List D := (xs.drop (HT.sIx xs.length 0 lo)).take (HT.sIx xs.length xs.length hi - HT.sIx xs.length 0 lo)
def cutZ (z : Str) (lo hi : Option Int) : Str := ⟨((z.cps.toList.drop (HT.sIx z.length 0 lo)).take (HT.sIx z.length z.length hi - HT.sIx z.length 0 lo)).toArray⟩
def cPartN : En → R (Option Int) := fun _ => .ok none
def toI : D → Option Int
  | .int i => some i
  | _ => none
theorem toI_some {d : D} {i : Int} (h : toI d = some i) : d = .int i := by
  cases d <;> simp [toI] at h
  rw [h]
def cPart (f : En → R D) : En → R (Option Int) := fun ρ => (f ρ).bind fun d => (ofO (toI d)).bind fun i => .ok (some i)
def dCut (d : D) (lo hi : Option Int) : Option D := match d with
  | .list xs => some (.list (cutL xs lo hi))
  | .tuple xs => some (.tuple (cutL xs lo hi))
  | .str z => if z.length ≤ sizeLine then some (.str (cutZ z lo hi)) else none
  | _ => none
def cSlice (f : En → R D) (l h : En → R (Option Int)) : En → R D := fun ρ => (f ρ).bind fun d => (l ρ).bind fun lo => (h ρ).bind fun hi => ofO (dCut d lo hi)
def dRev : D → Option D
  | .list xs => some (.list xs.reverse)
  | _ => none
def cRev (f : En → R D) : En → R D := fun ρ => (f ρ).bind fun d => ofO (dRev d)
theorem RepL.cut {K : Frg} {H : Hp} {A : List Addr} {vs : List V} {ds : List D} (r : RepL K H A vs ds) (lo hi : Option Int) : RepL K H A (cutV vs lo hi) (cutL ds lo hi) := by
  unfold cutV cutL
  rw [r.length]
  exact (r.drop _).take _
section
variable {X : Cx} {W : WX} {a b c e : Expr} {es rest : List Expr} {f g h : En → R D} {p q : En → R Bool} {l : En → R (List D)} {lo hi : Option Expr} {pl ph : En → R (Option Int)} {pos p1 p2 p3 p4 : Pos}
/-- a slice's end -/
def tFO (K : Frg) (mg : MgT) (W : WX) (f : En → R (Option Int)) : TO := fun σ H Q => ∃ H0 A0 A ρ, Ok K H0 A0 A ρ σ H ∧ Post mg W σ H (fun o H' => Q o H') (f ρ)
abbrev FO (X : Cx) (W : WX) (o : Option Expr) (f : En → R (Option Int)) : Prop := PO X o (tFO X.K X.mg W f)
theorem impO {o : Option Expr} {t t' : TO} (h : PO X o t) (i : ∀ σ H Q, t' σ H Q → t σ H Q) : PO X o t' := ⟨fun pins s σ H Q I q => h.run pins s σ H Q I (i _ _ _ q)⟩
theorem fo_none : FO X W none cPartN := impO po_none fun σ H Q ⟨H0, A0, A, ρ, o, P⟩ => Post.at (a := (none : Option Int)) (P := fun o H' => Q o H') P
theorem fo_some (ha : FE X W a f) : FO X W (some a) (cPart f) := impO (po_some ha) fun σ H Q ⟨H0, A0, A, ρ, o, P⟩ => by
  refine ⟨H0, A0, A, ρ, o, P.bind.mono fun d H1 s1 P1 v hv => ?_⟩
  obtain ⟨i, e1, P2⟩ := P1.bind.ofO
  obtain rfl := toI_some e1
  exact ⟨i, (RepB.of hv).int, Post.at (a := some i) (P := fun o H' => Q o H') (P2 H1 (Same.refl _))⟩
theorem sl_all : SlR X (fun x l u H Q => rSlL X.K x l u H Q ∨ rSlA X.K x l u H Q ∨ rSlS x l u H Q) := SlR.or sl_list (SlR.or sl_tupA sl_str)
theorem fe_slice (ha : FE X W a f) (hl : FO X W lo pl) (hh : FO X W hi ph) : FE X W (.Subscript a (.Slice lo hi none p2) pos) (cSlice f pl ph) := impE (pe_slice sl_all ha hl hh) fun σ H Q ⟨H0, A0, A, ρ, o, P⟩ => by
  refine ⟨H0, A0, A, ρ, o, P.bind.mono fun d H1 s1 P1 v hv => ?_⟩
  refine ⟨H0, A0, A, ρ, o.same s1, P1.bind.mono fun l1 H2 s2 P2 => ?_⟩
  refine ⟨H0, A0, A, ρ, (o.same s1).same s2, P2.bind.mono fun l2 H3 s3 P3 => ?_⟩
  obtain ⟨d3, e3, P4⟩ := P3.ofO
  have hv := (hv.same s2).same s3
  have o3 := ((o.same s1).same s2).same s3
  unfold dCut at e3
  split at e3
  · cases e3
    obtain ⟨p, vs, rfl, h1, r⟩ := (RepB.of hv).lst
    exact .inl ⟨p, vs, rfl, SqL.of h1, fun p hp => P4 _ (same_upd hp) _ (rep_lst (o3.fresh hp) hp (r.cut l1 l2))⟩
  · cases e3
    obtain ⟨p, vs, rfl, h1, r⟩ := (RepB.of hv).tup
    refine .inr (.inl ⟨p, vs, rfl, h1, fun z => P4 _ (Same.refl _) _ ?_, fun z p hp => P4 _ (same_upd hp) _ (rep_tup (o3.fresh hp) hp (r.cut l1 l2))⟩)
    have e : ∀ xs : List D, xs.length = vs.length → cutL xs l1 l2 = xs := fun xs hx => by
      unfold cutL
      rw [hx, z.1, z.2, List.drop_zero, Nat.sub_zero, ← hx, List.take_length]
    rw [e _ r.length.symm]
    exact hv
  · split at e3
    · rename_i hz
      cases e3
      obtain rfl := (RepB.of hv).str
      exact .inr (.inr ⟨_, rfl, hz, P4 _ (Same.refl _) _ (.str _)⟩)
    · cases e3
  · cases e3
theorem fe_rev {k : Nat} (ha : FB X W a f) : FE X W (.Subscript a (.Slice none none (some (.UnaryOp .USub (.Constant (.int 1) k p1) p2)) p3) pos) (cRev f) := impE (pe_revL ha) fun σ H Q ⟨H0, A0, A, ρ, o, P⟩ => by
  refine ⟨H0, A0, A, ρ, o, P.bind.mono fun d H1 s1 P1 v hv => ?_⟩
  obtain ⟨d3, e3, P4⟩ := P1.ofO
  unfold dRev at e3
  split at e3
  · cases e3
    obtain ⟨p, vs, rfl, h1, r⟩ := hv.lst
    exact ⟨p, vs, rfl, SqL.of h1, fun p hp => P4 _ (same_upd hp) _ (rep_lst ((o.same s1).fresh hp) hp r.reverse)⟩
  · cases e3

/-! ### built-in functions -/
def cCall (df : List D → Option D) (l : En → R (List D)) : En → R D := fun ρ => (l ρ).bind fun ds => ofO (df ds)
def DCall (X : Cx) (F : Value) (df : List D → Option D) : Prop :=
  ∃ r : List V → Hp → VK → Prop, CallR X F r ∧ ∀ (H : Hp) (A : List Addr) (vs : List V) (ds : List D) (d : D) (Q : VK), (∀ a ∈ A, H a ≠ none) → Paired (RepB X.K H A) vs ds → df ds = some d → (∀ v H', Same H H' → Rep X.K H' A v d → Q v H') → r vs H Q
/-- .. data that nobody changes -/
def DCallE (X : Cx) (F : Value) (df : List D → Option D) : Prop :=
  ∃ r : List V → Hp → VK → Prop, CallR X F r ∧ ∀ (H : Hp) (A : List Addr) (vs : List V) (ds : List D) (d : D) (Q : VK), (∀ a ∈ A, H a ≠ none) → RepL X.K H A vs ds → df ds = some d → (∀ v H', Same H H' → Rep X.K H' A v d → Q v H') → r vs H Q
/-- .. that hand back a new list -/
def DCallN (X : Cx) (F : Value) (df : List D → Option D) : Prop :=
  ∃ r : List V → Hp → VK → Prop, CallR X F r ∧ ∀ (H : Hp) (A : List Addr) (vs : List V) (ds : List D) (d : D) (Q : VK), (∀ a ∈ A, H a ≠ none) → Paired (RepB X.K H A) vs ds → df ds = some d → (∀ v H', Same H H' → RepN X.K false H H' A v d → Q v H') → r vs H Q
theorem repN_rep {t : Bool} {K : Frg} {H H' : Hp} {A : List Addr} (ha : ∀ a ∈ A, H a ≠ none) {v : V} {d : D} (h : RepN K t H H' A v d) : Rep K H' A v d := by
  obtain ⟨a, e, n, r⟩ := h
  rw [e]
  exact r.free (fun z => ha a z n) fun b hb => List.mem_cons_of_mem _ hb
theorem DCallN.call {F : Value} {df : List D → Option D} (h : DCallN X F df) : DCall X F df := by
  obtain ⟨r, hr, hs⟩ := h
  exact ⟨r, hr, fun H A vs ds d Q ha hv e q => hs H A vs ds d Q ha hv e fun v H' s n => q v H' s (repN_rep ha n)⟩
theorem DCall.orE {F : Value} {df dg : List D → Option D} (h : DCall X F df) (h' : DCall X F dg) : DCall X F (fun ds => (df ds).orElse fun _ => dg ds) := by
  obtain ⟨r, hr, hs⟩ := h
  obtain ⟨r', hr', hs'⟩ := h'
  refine ⟨_, CallR.or hr hr', fun H A vs ds d Q ha hv e q => ?_⟩
  have e : ((df ds).orElse fun _ => dg ds) = some d := e
  cases e1 : df ds with
  | some d1 => rw [e1] at e; cases e; exact .inl (hs H A vs ds _ Q ha hv e1 q)
  | none => rw [e1] at e; exact .inr (hs' H A vs ds _ Q ha hv e q)
variable {x : Str} {id T : String} {df : List D → Option D}
theorem call_read {F : Value} {r : List V → Hp → VK → Prop} (hs : ∀ (H : Hp) (A : List Addr) (vs : List V) (ds : List D) (d : D) (Q : VK), (∀ a ∈ A, H a ≠ none) → Paired (RepB X.K H A) vs ds → df ds = some d → (∀ v H', Same H H' → Rep X.K H' A v d → Q v H') → r vs H Q)
    (σ : St) (H : Hp) (Q : VK) (hq : tF X.K X.mg W (cCall df l) σ H Q) : tCB r (tFAB X.K X.mg W l) σ H Q := by
  obtain ⟨H0, A0, A, ρ, o, P⟩ := hq
  refine ⟨H0, A0, A, ρ, o, P.bind.mono fun ds H1 s1 P1 vs hvs => ?_⟩
  obtain ⟨d, e, P2⟩ := P1.ofO
  exact hs H1 A vs ds d Q (o.same s1).has hvs e fun v H' s hv => P2 H' s v hv
theorem fe_callB (hc : DCall X (.builtin id) df) (hg : Gl X x) (hm : X.mg x = none) (hv : bootBuiltins x = some (.builtin id)) (ha : FAB X W (e :: es) l) (hn : x ≠ "__name__" := by decide) (hdb : (x == ("__debug__" : Str)) = false := by decide)
    (he : starEach (e :: es) X.env = (false, eval e X.env) :: starEach es X.env := by rfl) (hpl : (backTo pos (starEach es X.env)).any (·.1) = false := by rfl) : FE X W (.Call (.Name x p1) (e :: es) [] pos) (cCall df l) := by
  obtain ⟨r, hr, hs⟩ := hc
  exact impE (pe_callB hr hg hm hv ha hn hdb he hpl) (call_read (F := .builtin id) hs)
theorem fe_callTy (hc : DCall X (.type T) df) (hg : Gl X x) (hm : X.mg x = none) (hv : bootBuiltins x = some (.type T)) (ha : FAB X W (e :: es) l) (hn : x ≠ "__name__" := by decide) (hdb : (x == ("__debug__" : Str)) = false := by decide)
    (he : starEach (e :: es) X.env = (false, eval e X.env) :: starEach es X.env := by rfl) (hpl : (backTo pos (starEach es X.env)).any (·.1) = false := by rfl) : FE X W (.Call (.Name x p1) (e :: es) [] pos) (cCall df l) := by
  obtain ⟨r, hr, hs⟩ := hc
  exact impE (pe_callTy hr hg hm hv ha hn hdb he hpl) (call_read (F := .type T) hs)
theorem fe_callTyE (hc : DCallE X (.type T) df) (hg : Gl X x) (hm : X.mg x = none) (hv : bootBuiltins x = some (.type T)) (ha : FA X W (e :: es) l) (hn : x ≠ "__name__" := by decide) (hdb : (x == ("__debug__" : Str)) = false := by decide)
    (he : starEach (e :: es) X.env = (false, eval e X.env) :: starEach es X.env := by rfl) (hpl : (backTo pos (starEach es X.env)).any (·.1) = false := by rfl) : FE X W (.Call (.Name x p1) (e :: es) [] pos) (cCall df l) := by
  obtain ⟨r, hr, hs⟩ := hc
  refine impE (pe_callTy hr hg hm hv ha hn hdb he hpl) fun σ H Q ⟨H0, A0, A, ρ, o, P⟩ => ?_
  refine ⟨H0, A0, A, ρ, o, P.bind.mono fun ds H1 s1 P1 vs hvs => ?_⟩
  obtain ⟨d, e, P2⟩ := P1.ofO
  exact hs H1 A vs ds d Q (o.same s1).has hvs e fun v H' s hv => P2 H' s v hv
theorem fn_callTy (hc : DCallN X (.type T) df) (hg : Gl X x) (hm : X.mg x = none) (hv : bootBuiltins x = some (.type T)) (ha : FAB X W (e :: es) l) (hn : x ≠ "__name__" := by decide) (hdb : (x == ("__debug__" : Str)) = false := by decide)
    (he : starEach (e :: es) X.env = (false, eval e X.env) :: starEach es X.env := by rfl) (hpl : (backTo pos (starEach es X.env)).any (·.1) = false := by rfl) : FN X W false (.Call (.Name x p1) (e :: es) [] pos) (cCall df l) := by
  obtain ⟨r, hr, hs⟩ := hc
  refine impE (pe_callTy hr hg hm hv ha hn hdb he hpl) fun σ H Q ⟨H0, A0, A, ρ, o, P⟩ => ?_
  refine ⟨H0, A0, A, ρ, o, P.bind.mono fun ds H1 s1 P1 vs hvs => ?_⟩
  obtain ⟨d, e, P2⟩ := P1.ofO
  refine hs H1 A vs ds d Q (o.same s1).has hvs e fun v H' s hv => P2 H' s v ?_
  obtain ⟨p, e, n, r⟩ := hv
  exact ⟨p, e, s1.free n, r⟩

theorem pair1 {α β : Type} {F : α → β → Prop} {vs : List α} {d : β} (h : Paired F vs [d]) : ∃ v, vs = [v] ∧ F v d := by
  cases h with
  | cons a t => cases t; exact ⟨_, rfl, a⟩
theorem pair2 {α β : Type} {F : α → β → Prop} {vs : List α} {d d2 : β} (h : Paired F vs [d, d2]) : ∃ v v2, vs = [v, v2] ∧ F v d ∧ F v2 d2 := by
  cases h with
  | cons a t =>
    obtain ⟨v2, rfl, b⟩ := pair1 t
    exact ⟨_, _, rfl, a, b⟩
def dLen : List D → Option D
  | [.list xs] => some (.int xs.length)
  | [.tuple xs] => some (.int xs.length)
  | [.str z] => if z.length ≤ sizeLine then some (.int z.length) else none
  | _ => none
theorem dc_len : DCall X (.builtin "len") dLen := by
  refine ⟨_, CallR.or call_len_seq call_len_str, fun H A vs ds d Q ha hv e q => ?_⟩
  unfold dLen at e
  split at e
  · cases e
    obtain ⟨v, rfl, h⟩ := pair1 hv
    obtain ⟨p, us, rfl, h1, r⟩ := h.lst
    exact .inl ⟨p, us, rfl, .inl (SqL.of h1), by rw [r.length]; exact q _ H (Same.refl H) (.int _)⟩
  · cases e
    obtain ⟨v, rfl, h⟩ := pair1 hv
    obtain ⟨p, us, rfl, h1, r⟩ := h.tup
    exact .inl ⟨p, us, rfl, .inr h1, by rw [r.length]; exact q _ H (Same.refl H) (.int _)⟩
  · split at e
    · rename_i hz
      cases e
      obtain ⟨v, rfl, h⟩ := pair1 hv
      obtain rfl := h.str
      exact .inr ⟨_, rfl, hz, q _ H (Same.refl H) (.int _)⟩
    · cases e
  · cases e
/-- whole numbers -/
def intsOf : List D → Option (List Int)
  | [] => some []
  | .int i :: r => (intsOf r).map fun ns => i :: ns
  | _ => none
@[simp] theorem intsOf_map (ns : List Int) : intsOf (ns.map PyData.int) = some ns := by
  induction ns with
  | nil => rfl
  | cons a r ih => rw [List.map_cons]; unfold intsOf; rw [ih]; rfl
theorem intsOf_rep {K : Frg} {H : Hp} {A : List Addr} : ∀ {vs : List V} {ds : List D} {ns : List Int}, RepL K H A vs ds → intsOf ds = some ns → vs = ns.map V.int
  | _, _, ns, .nil, h => by cases h; rfl
  | _, _, ns, .cons (d := d) a t, h => by
    cases d with
    | int i =>
      unfold intsOf at h
      obtain ⟨r, h1, h2⟩ := Option.map_eq_some_iff.mp h
      subst h2
      rw [List.map_cons, ← intsOf_rep t h1, (RepB.of a).int]
    | _ => cases h
def boolsOf : List D → Option (List Bool)
  | [] => some []
  | .bool i :: r => (boolsOf r).map fun ns => i :: ns
  | _ => none
@[simp] theorem boolsOf_map (ns : List Bool) : boolsOf (ns.map PyData.bool) = some ns := by
  induction ns with
  | nil => rfl
  | cons a r ih => rw [List.map_cons]; unfold boolsOf; rw [ih]; rfl
theorem boolsOf_rep {K : Frg} {H : Hp} {A : List Addr} : ∀ {vs : List V} {ds : List D} {ns : List Bool}, RepL K H A vs ds → boolsOf ds = some ns → vs = ns.map V.bl
  | _, _, ns, .nil, h => by cases h; rfl
  | _, _, ns, .cons (d := d) a t, h => by
    cases d with
    | bool i =>
      unfold boolsOf at h
      obtain ⟨r, h1, h2⟩ := Option.map_eq_some_iff.mp h
      subst h2
      rw [List.map_cons, ← boolsOf_rep t h1, (RepB.of a).bool]
    | _ => cases h
def dSum : List D → Option D
  | [.list xs] => (intsOf xs).map fun ns => .int ns.sum
  | _ => none
theorem dc_sum (hc : X.calm = true) : DCall X (.builtin "sum") dSum := by
  refine ⟨_, cr_sum hc, fun H A vs ds d Q ha hv e q => ?_⟩
  unfold dSum at e
  split at e
  · obtain ⟨ns, h1, h2⟩ := Option.map_eq_some_iff.mp e
    cases h2
    obtain ⟨v, rfl, h⟩ := pair1 hv
    obtain ⟨p, us, rfl, h3, r⟩ := h.lst
    exact ⟨p, ns, rfl, SqL.of (by rw [← intsOf_rep r h1]; exact h3), q _ H (Same.refl H) (.int _)⟩
  · cases e
def maxI : List Int → Option Int
  | [] => none
  | n :: r => some (r.foldl max n)
def minI : List Int → Option Int
  | [] => none
  | n :: r => some (r.foldl min n)
theorem foldl_max (n : Int) (r : List Int) : (r.foldl max n ∈ n :: r) ∧ ∀ y ∈ n :: r, y ≤ r.foldl max n := by
  induction r generalizing n with
  | nil => exact ⟨List.mem_cons_self, fun y hy => by simp at hy; simp [hy]⟩
  | cons a r ih =>
    obtain ⟨h1, h2⟩ := ih (max n a)
    rw [List.foldl_cons]
    refine ⟨?_, fun y hy => ?_⟩
    · rcases List.mem_cons.mp h1 with z | z
      · rw [z]
        rcases Int.le_total n a with w | w
        · rw [Int.max_eq_right w]; simp
        · rw [Int.max_eq_left w]; simp
      · exact List.mem_cons_of_mem _ (List.mem_cons_of_mem _ z)
    · have h3 := h2 (max n a) List.mem_cons_self
      rcases List.mem_cons.mp hy with z | z
      · rw [z]; omega
      · rcases List.mem_cons.mp z with z | z
        · rw [z]; omega
        · exact h2 y (List.mem_cons_of_mem _ z)
theorem foldl_min (n : Int) (r : List Int) : (r.foldl min n ∈ n :: r) ∧ ∀ y ∈ n :: r, r.foldl min n ≤ y := by
  induction r generalizing n with
  | nil => exact ⟨List.mem_cons_self, fun y hy => by simp at hy; simp [hy]⟩
  | cons a r ih =>
    obtain ⟨h1, h2⟩ := ih (min n a)
    rw [List.foldl_cons]
    refine ⟨?_, fun y hy => ?_⟩
    · rcases List.mem_cons.mp h1 with z | z
      · rw [z]
        rcases Int.le_total n a with w | w
        · rw [Int.min_eq_left w]; simp
        · rw [Int.min_eq_right w]; simp
      · exact List.mem_cons_of_mem _ (List.mem_cons_of_mem _ z)
    · have h3 := h2 (min n a) List.mem_cons_self
      rcases List.mem_cons.mp hy with z | z
      · rw [z]; omega
      · rcases List.mem_cons.mp z with z | z
        · rw [z]; omega
        · exact h2 y (List.mem_cons_of_mem _ z)
def dMax : List D → Option D
  | [.list xs] => ((intsOf xs).bind maxI).map .int
  | [.int i, .int j] => some (.int (max i j))
  | _ => none
def dMin : List D → Option D
  | [.list xs] => ((intsOf xs).bind minI).map .int
  | [.int i, .int j] => some (.int (min i j))
  | _ => none
theorem dc_max (hc : X.calm = true) : DCall X (.builtin "max") dMax := by
  refine ⟨_, CallR.or (cr_max hc) (call_max2 hc), fun H A vs ds d Q ha hv e q => ?_⟩
  unfold dMax at e
  split at e
  · obtain ⟨m, h1, h2⟩ := Option.map_eq_some_iff.mp e
    cases h2
    obtain ⟨ns, h3, h4⟩ := Option.bind_eq_some_iff.mp h1
    obtain ⟨v, rfl, h⟩ := pair1 hv
    obtain ⟨p, us, rfl, h5, r⟩ := h.lst
    cases ns with
    | nil => cases h4
    | cons n r2 =>
      cases h4
      obtain ⟨f1, f2⟩ := foldl_max n r2
      refine .inl ⟨p, n :: r2, rfl, SqL.of (by rw [← intsOf_rep r h3]; exact h5), by simp, fun m hm1 hm2 => ?_⟩
      have e1 := hm2 _ f1
      have e2 := f2 m hm1
      have : m = r2.foldl max n := by omega
      rw [this]
      exact q _ H (Same.refl H) (.int _)
  · cases e
    obtain ⟨v, v2, rfl, h, h'⟩ := pair2 hv
    obtain rfl := h.int
    obtain rfl := h'.int
    rename_i i j
    refine .inr ⟨i, j, rfl, ?_⟩
    have e : (if j > i then j else i) = max i j := by split <;> omega
    rw [e]
    exact q _ H (Same.refl H) (.int _)
  · cases e
theorem dc_min (hc : X.calm = true) : DCall X (.builtin "min") dMin := by
  refine ⟨_, CallR.or (cr_min hc) (call_min2 hc), fun H A vs ds d Q ha hv e q => ?_⟩
  unfold dMin at e
  split at e
  · obtain ⟨m, h1, h2⟩ := Option.map_eq_some_iff.mp e
    cases h2
    obtain ⟨ns, h3, h4⟩ := Option.bind_eq_some_iff.mp h1
    obtain ⟨v, rfl, h⟩ := pair1 hv
    obtain ⟨p, us, rfl, h5, r⟩ := h.lst
    cases ns with
    | nil => cases h4
    | cons n r2 =>
      cases h4
      obtain ⟨f1, f2⟩ := foldl_min n r2
      refine .inl ⟨p, n :: r2, rfl, SqL.of (by rw [← intsOf_rep r h3]; exact h5), by simp, fun m hm1 hm2 => ?_⟩
      have e1 := hm2 _ f1
      have e2 := f2 m hm1
      have : m = r2.foldl min n := by omega
      rw [this]
      exact q _ H (Same.refl H) (.int _)
  · cases e
    obtain ⟨v, v2, rfl, h, h'⟩ := pair2 hv
    obtain rfl := h.int
    obtain rfl := h'.int
    rename_i i j
    refine .inr ⟨i, j, rfl, ?_⟩
    have e : (if j < i then j else i) = min i j := by split <;> omega
    rw [e]
    exact q _ H (Same.refl H) (.int _)
  · cases e
def dAbs : List D → Option D
  | [.int i] => some (.int (i.natAbs : Int))
  | _ => none
theorem dc_abs : DCall X (.builtin "abs") dAbs := by
  refine ⟨_, call_abs, fun H A vs ds d Q ha hv e q => ?_⟩
  unfold dAbs at e
  split at e
  · cases e
    obtain ⟨v, rfl, h⟩ := pair1 hv
    obtain rfl := h.int
    rename_i i
    refine ⟨i, rfl, ?_⟩
    have e : (if i < 0 then -i else i) = (i.natAbs : Int) := by split <;> omega
    rw [e]
    exact q _ H (Same.refl H) (.int _)
  · cases e
def dInt : List D → Option D
  | [.int i] => some (.int i)
  | [.bool b] => some (.int (if b then 1 else 0))
  | _ => none
theorem dc_int : DCall X (.type "int") dInt := by
  refine ⟨_, call_int1, fun H A vs ds d Q ha hv e q => ?_⟩
  unfold dInt at e
  split at e
  · cases e
    obtain ⟨v, rfl, h⟩ := pair1 hv
    obtain rfl := h.int
    exact .inl ⟨_, rfl, q _ H (Same.refl H) (.int _)⟩
  · cases e
    obtain ⟨v, rfl, h⟩ := pair1 hv
    obtain rfl := h.bool
    exact .inr ⟨_, rfl, q _ H (Same.refl H) (.int _)⟩
  · cases e
def dAny : List D → Option D
  | [.list xs] => (boolsOf xs).map fun bs => .bool (bs.any fun b => b)
  | _ => none
def dAll : List D → Option D
  | [.list xs] => (boolsOf xs).map fun bs => .bool (bs.all fun b => b)
  | _ => none
theorem dc_any (hc : X.calm = true) : DCall X (.builtin "any") dAny := by
  refine ⟨_, cr_any hc, fun H A vs ds d Q ha hv e q => ?_⟩
  unfold dAny at e
  split at e
  · obtain ⟨ns, h1, h2⟩ := Option.map_eq_some_iff.mp e
    cases h2
    obtain ⟨v, rfl, h⟩ := pair1 hv
    obtain ⟨p, us, rfl, h3, r⟩ := h.lst
    exact ⟨p, ns, rfl, SqL.of (by rw [← boolsOf_rep r h1]; exact h3), q _ H (Same.refl H) (.bl _)⟩
  · cases e
theorem dc_all (hc : X.calm = true) : DCall X (.builtin "all") dAll := by
  refine ⟨_, cr_all hc, fun H A vs ds d Q ha hv e q => ?_⟩
  unfold dAll at e
  split at e
  · obtain ⟨ns, h1, h2⟩ := Option.map_eq_some_iff.mp e
    cases h2
    obtain ⟨v, rfl, h⟩ := pair1 hv
    obtain ⟨p, us, rfl, h3, r⟩ := h.lst
    exact ⟨p, ns, rfl, SqL.of (by rw [← boolsOf_rep r h1]; exact h3), q _ H (Same.refl H) (.bl _)⟩
  · cases e
def dListOf : List D → Option D
  | [.list xs] => some (.list xs)
  | [.tuple xs] => some (.list xs)
  | _ => none
theorem dc_list : DCallN X (.type "list") dListOf := by
  refine ⟨_, call_list_of, fun H A vs ds d Q ha hv e q => ?_⟩
  unfold dListOf at e
  split at e
  · cases e
    obtain ⟨v, rfl, h⟩ := pair1 hv
    obtain ⟨p, us, rfl, h1, r⟩ := h.lst
    exact ⟨p, us, rfl, .inl (SqL.of h1), fun n hn => q _ _ (same_upd hn) ⟨n, rfl, hn, orep_lst hn r⟩⟩
  · cases e
    obtain ⟨v, rfl, h⟩ := pair1 hv
    obtain ⟨p, us, rfl, h1, r⟩ := h.tup
    exact ⟨p, us, rfl, .inr h1, fun n hn => q _ _ (same_upd hn) ⟨n, rfl, hn, orep_lst hn r⟩⟩
  · cases e
def dTupOf : List D → Option D
  | [.list xs] => some (.tuple xs)
  | [.tuple xs] => some (.tuple xs)
  | _ => none
theorem dc_tuple : DCallE X (.type "tuple") dTupOf := by
  refine ⟨_, call_tuple_of, fun H A vs ds d Q ha hv e q => ?_⟩
  unfold dTupOf at e
  split at e
  · cases e
    cases hv with
    | cons h t =>
      cases t
      obtain ⟨p, us, rfl, h1, r⟩ := (RepB.of h).lst
      exact ⟨p, us, rfl, .inl ⟨SqL.of h1, fun n hn => q _ _ (same_upd hn) (rep_tup (fun z => ha n z hn) hn r)⟩⟩
  · cases e
    cases hv with
    | cons h t =>
      cases t
      obtain ⟨p, us, rfl, h1, r⟩ := (RepB.of h).tup
      exact ⟨p, us, rfl, .inr ⟨h1, q _ _ (Same.refl H) h⟩⟩
  · cases e
end
end G

namespace G
open PySem PySem.Spec PyProof.Rows L2

/-! ### how the state changes -/
section
variable {K : Frg} {H0 H H' : Hp} {A0 A A' : List Addr} {ρ : En} {σ : St} {i : Nat} {v : V} {d : D} {a : Addr} {t : Bool}
theorem SRep.tr (s : Same H H') (u : Tr A H A' H') (m : ∀ b ∈ A, b ∈ A') : ∀ {x : Sl}, SRep K H0 A0 A H v x → SRep K H0 A0 A' H' v x
  | .v _, h => Rep.tr u h
  | .own _ _, ⟨a, e, m1, n, h⟩ => ⟨a, e, m a m1, n, h.tr s u⟩
  | .er _ _, _ => trivial
  | .sc _, ⟨a, e, h⟩ => ⟨a, e, h.tr u⟩
theorem get_set_some {α : Type} {l : List α} {i j : Nat} {x y : α} (h : (l.set i x)[j]? = some y) : (j = i ∧ i < l.length ∧ x = y) ∨ (j ≠ i ∧ l[j]? = some y) := by
  by_cases e : j = i
  · subst e
    by_cases hl : j < l.length
    · rw [List.getElem?_set_self hl] at h
      exact .inl ⟨rfl, hl, Option.some.inj h⟩
    · rw [List.getElem?_eq_none (by simpa using hl)] at h; cases h
  · rw [List.getElem?_set_ne (Ne.symm e)] at h
    exact .inr ⟨e, h⟩
/-- a name gets data -/
theorem Ok.set (o : Ok K H0 A0 A ρ σ H) (i : Nat) (r : Rep K H A v d) : Ok K H0 A0 A (ρ.set i (some (.v d))) (σ.set i (some v)) H where
  len := by rw [List.length_set, List.length_set]; exact o.len
  ext := o.ext
  sub := o.sub
  new := o.new
  has := o.has
  slot := fun j s h => by
    rcases get_set_some h with ⟨e, hl, e2⟩ | ⟨e, h⟩
    · subst e
      cases e2
      exact ⟨v, by rw [List.getElem?_set_self (by rw [o.len]; exact hl)], r⟩
    · obtain ⟨v', h1, h2⟩ := o.slot j s h
      exact ⟨v', by rw [List.getElem?_set_ne (Ne.symm e)]; exact h1, h2⟩
  dis := fun j k b t t' d1 d2 ne h1 h2 h3 => by
    rcases get_set_some h1 with ⟨_, _, e2⟩ | ⟨e, h1⟩
    · cases e2
    · rcases get_set_some h2 with ⟨_, _, e2⟩ | ⟨e', h2⟩
      · cases e2
      · rw [List.getElem?_set_ne (Ne.symm e)] at h3
        rw [List.getElem?_set_ne (Ne.symm e')]
        exact o.dis j k b t t' d1 d2 ne h1 h2 h3
/-- a name is forgotten -/
theorem Ok.forget (o : Ok K H0 A0 A ρ σ H) (i : Nat) : Ok K H0 A0 A (ρ.set i none) σ H where
  len := by rw [List.length_set]; exact o.len
  ext := o.ext
  sub := o.sub
  new := o.new
  has := o.has
  slot := fun j s h => by
    rcases get_set_some h with ⟨_, _, e2⟩ | ⟨e, h⟩
    · cases e2
    · exact o.slot j s h
  dis := fun j k b t t' d1 d2 ne h1 h2 h3 => by
    rcases get_set_some h1 with ⟨_, _, e2⟩ | ⟨e, h1⟩
    · cases e2
    · rcases get_set_some h2 with ⟨_, _, e2⟩ | ⟨e', h2⟩
      · cases e2
      · exact o.dis j k b t t' d1 d2 ne h1 h2 h3
/-- a name gets an object that it alone holds -/
theorem Ok.setOwn (o : Ok K H0 A0 A ρ σ H) (s : Same H H') (i : Nat) (n : H a = none) (r : ORep K H' (a :: A) a t d) : Ok K H0 A0 (a :: A) (ρ.set i (some (.own t d))) (σ.set i (some (.ref a))) H' := by
  have u : Tr A H (a :: A) H' := ⟨fun b x h _ => s b x h, fun b hb => by
    rcases List.mem_cons.mp hb with rfl | hb
    · exact .inr n
    · exact .inl hb⟩
  have n0 : H0 a = none := o.ext.free n
  have old : ∀ (j : Nat) (t' : Bool) (d' : D), ρ[j]? = some (some (.own t' d')) → σ[j]? ≠ some (some (.ref a)) := fun j t' d' h z => by
    obtain ⟨v', h1, b, e, hb, _, _⟩ := o.slot j _ h
    rw [h1] at z
    cases z
    cases e
    exact o.has _ hb n
  exact {
    len := by rw [List.length_set, List.length_set]; exact o.len
    ext := o.ext.trans s
    sub := fun b hb => List.mem_cons_of_mem _ (o.sub b hb)
    new := fun b hb => by
      rcases List.mem_cons.mp hb with rfl | hb
      · exact .inr n0
      · exact o.new b hb
    has := fun b hb z => by
      rcases List.mem_cons.mp hb with rfl | hb
      · obtain ⟨x, h, _⟩ := r.some
        rw [h] at z; cases z
      · exact o.has b hb (s.free z)
    slot := fun j x h => by
      rcases get_set_some h with ⟨e, hl, e2⟩ | ⟨e, h⟩
      · subst e
        cases e2
        exact ⟨.ref a, by rw [List.getElem?_set_self (by rw [o.len]; exact hl)], a, rfl, List.mem_cons_self, ⟨n0, fun z => o.has a (o.sub a z) n⟩, r⟩
      · obtain ⟨v', h1, h2⟩ := o.slot j x h
        exact ⟨v', by rw [List.getElem?_set_ne (Ne.symm e)]; exact h1, h2.tr s u fun b hb => List.mem_cons_of_mem _ hb⟩
    dis := fun j k b t1 t2 d1 d2 ne h1 h2 h3 => by
      rcases get_set_some h1 with ⟨e, hl, e2⟩ | ⟨e, h1⟩
      · subst e
        rw [List.getElem?_set_self (by rw [o.len]; exact hl)] at h3
        cases h3
        rcases get_set_some h2 with ⟨e', _, _⟩ | ⟨e', h2⟩
        · exact absurd e'.symm ne
        · rw [List.getElem?_set_ne (Ne.symm e')]
          exact old k t2 d2 h2
      · rw [List.getElem?_set_ne (Ne.symm e)] at h3
        rcases get_set_some h2 with ⟨e', hl, _⟩ | ⟨e', h2⟩
        · rw [e', List.getElem?_set_self (by rw [o.len]; exact hl)]
          intro z
          cases z
          exact old j t1 d1 h1 h3
        · rw [List.getElem?_set_ne (Ne.symm e')]
          exact o.dis j k b t1 t2 d1 d2 ne h1 h2 h3 }
/-- the object that a name alone holds is changed -/
theorem Ok.mut {x : HO} {d' : D} (o : Ok K H0 A0 A ρ σ H) (h : ρ[i]? = some (some (.own t d))) (hv : σ[i]? = some (some (.ref a))) (r : ORep K (upd H a x) A a t d') :
    Ok K H0 A0 A (ρ.set i (some (.own t d'))) σ (upd H a x) ∧ Tr A H A (upd H a x) := by
  obtain ⟨v', h1, b, e, hb, n0, r0⟩ := o.slot i _ h
  rw [hv] at h1
  cases h1
  cases e
  have u : Tr A H A (upd H a x) := ⟨fun c y q n => by rw [upd_ne (show c ≠ a from fun z => n (by rw [z]; exact hb))]; exact q, fun c hc => .inl hc⟩
  refine ⟨⟨by rw [List.length_set]; exact o.len, fun c y q => ?_, o.sub, o.new, fun c hc z => ?_, fun j s q => ?_, fun j k c t1 t2 d1 d2 ne q1 q2 q3 => ?_⟩, u⟩
  · rw [upd_ne (show c ≠ a from fun z => by rw [z, n0.1] at q; cases q)]
    exact o.ext c y q
  · by_cases e : c = a
    · subst e; rw [upd_same] at z; cases z
    · rw [upd_ne e] at z; exact o.has c hc z
  · rcases get_set_some q with ⟨e, _, e2⟩ | ⟨e, q⟩
    · subst e
      cases e2
      exact ⟨_, hv, a, rfl, hb, n0, r⟩
    · obtain ⟨v', h1, h2⟩ := o.slot j s q
      refine ⟨v', h1, ?_⟩
      cases s with
      | v d1 => exact Rep.tr u h2
      | own t1 d1 =>
        obtain ⟨c, e1, hc, nc, rc⟩ := h2
        subst e1
        exact ⟨c, rfl, hc, nc, rc.other (fun z => by
          subst z
          exact o.dis i j c t t1 d d1 (Ne.symm e) h q hv h1) hb⟩
      | er _ _ => exact trivial
      | sc ns =>
        obtain ⟨c, e1, h3⟩ := h2
        exact ⟨c, e1, h3.tr u⟩
  · rcases get_set_some q1 with ⟨e, hl, e2⟩ | ⟨e, q1⟩
    · subst e
      rcases get_set_some q2 with ⟨e', _, _⟩ | ⟨e', q2⟩
      · exact absurd e'.symm ne
      · exact o.dis j k c t t2 d d2 ne h q2 q3
    · rcases get_set_some q2 with ⟨e', _, _⟩ | ⟨e', q2⟩
      · rw [e']
        exact o.dis j i c t1 t d1 d e q1 h q3
      · exact o.dis j k c t1 t2 d1 d2 ne q1 q2 q3
/-- a name's object is let go: shared data from now on -/
def frz (i : Nat) (ρ : En) : En := match ρ[i]? with
  | some (some (.own _ d)) => ρ.set i (some (.v d))
  | _ => ρ
theorem Ok.frz (o : Ok K H0 A0 A ρ σ H) (i : Nat) : ∃ A', Ok K H0 A0 A' (frz i ρ) σ H ∧ Tr A H A' H := by
  unfold G.frz
  split
  · rename_i t d h
    obtain ⟨v, h1, a, e, ha, n0, r⟩ := o.slot i _ h
    subst e
    have hs : ∀ b ∈ A.filter (fun b => decide (b ≠ a)), b ∈ A := fun b hb => (List.mem_filter.mp hb).1
    have hna : a ∉ A.filter (fun b => decide (b ≠ a)) := fun hb => by simpa using (List.mem_filter.mp hb).2
    refine ⟨A.filter fun b => decide (b ≠ a), ⟨by rw [List.length_set]; exact o.len, o.ext, fun b hb => ?_, fun b hb => o.new b (hs b hb), fun b hb => o.has b (hs b hb), fun j s q => ?_, fun j k c t1 t2 d1 d2 ne q1 q2 q3 => ?_⟩, Tr.sub hs⟩
    · refine List.mem_filter.mpr ⟨o.sub b hb, decide_eq_true fun z => ?_⟩
      subst z
      exact n0.2 hb
    · rcases get_set_some q with ⟨e, _, e2⟩ | ⟨e, q⟩
      · subst e
        cases e2
        exact ⟨_, h1, r.free hna hs⟩
      · obtain ⟨v', g1, g2⟩ := o.slot j s q
        refine ⟨v', g1, ?_⟩
        cases s with
        | v d1 => exact Rep.sub hs g2
        | own t1 d1 =>
          obtain ⟨c, e1, hc, nc, rc⟩ := g2
          subst e1
          exact ⟨c, rfl, List.mem_filter.mpr ⟨hc, decide_eq_true fun z => by
            subst z
            exact o.dis i j c t t1 d d1 (Ne.symm e) h q h1 g1⟩, nc, rc.sub hs⟩
        | er _ _ => exact trivial
        | sc ns =>
          obtain ⟨c, e1, h3⟩ := g2
          exact ⟨c, e1, h3.tr (Tr.sub hs)⟩
    · rcases get_set_some q1 with ⟨_, _, e2⟩ | ⟨_, q1⟩
      · cases e2
      · rcases get_set_some q2 with ⟨_, _, e2⟩ | ⟨_, q2⟩
        · cases e2
        · exact o.dis j k c t1 t2 d1 d2 ne q1 q2 q3
  · exact ⟨A, o, Tr.refl A H⟩
/-- all objects are let go -/
def letGo : Option Sl → Option Sl
  | some (.own _ d) => some (.v d)
  | s => s
def disown (ρ : En) : En := ρ.map letGo
theorem Ok.disown (o : Ok K H0 A0 A ρ σ H) : Ok K H0 A0 A0 (disown ρ) σ H where
  len := by unfold G.disown; rw [List.length_map]; exact o.len
  ext := o.ext
  sub := fun _ h => h
  new := fun _ h => .inl h
  has := fun a h => o.has a (o.sub a h)
  slot := fun j s h => by
    unfold G.disown at h
    rw [List.getElem?_map] at h
    obtain ⟨x, h1, h2⟩ := Option.map_eq_some_iff.mp h
    cases x with
    | none => cases h2
    | some x =>
      obtain ⟨v, g1, g2⟩ := o.slot j x h1
      refine ⟨v, g1, ?_⟩
      cases x with
      | v d => cases h2; exact Rep.sub o.sub g2
      | own t d =>
        cases h2
        obtain ⟨a, e, ha, n0, r⟩ := g2
        subst e
        exact r.free n0.2 o.sub
      | er c n => cases h2; exact trivial
      | sc ns =>
        cases h2
        obtain ⟨c, e1, h3⟩ := g2
        exact ⟨c, e1, h3.tr (Tr.sub o.sub)⟩
  dis := fun j k c t1 t2 d1 d2 ne q1 q2 q3 => by
    unfold G.disown at q1
    rw [List.getElem?_map] at q1
    obtain ⟨x, h1, h2⟩ := Option.map_eq_some_iff.mp q1
    cases x with
    | none => cases h2
    | some x => cases x <;> cases h2
theorem flat_rep {w : V} : ∀ {d : D}, Rep K H A w d → (match d with | .list _ => false | .tuple _ => false | .dict _ => false | _ => true) = true → Rep K H A' w d
  | .none, .non, _ => .non
  | .bool _, .bl b, _ => .bl b
  | .int _, .int b, _ => .int b
  | .str _, .str b, _ => .str b
end

/-- the same but at the places ix -/
def Agree (ix : List Nat) (σ σ' : St) : Prop := σ'.length = σ.length ∧ ∀ j, j ∉ ix → σ'[j]? = σ[j]?
/-- names of a block forgotten -/
def wipeE (ρ : En) : List Nat → En
  | [] => ρ
  | v :: vs => (wipeE ρ vs).set v none
theorem wipe_out {σ : St} {i : Nat} : ∀ {vs : List Nat}, i ∉ vs → (wipe σ vs)[i]? = σ[i]?
  | [], _ => rfl
  | v :: vs, h => by
    unfold wipe
    rw [List.getElem?_set_ne (fun z => h (by simp [z])), wipe_out fun z => h (List.mem_cons_of_mem _ z)]
theorem wipe_in {σ : St} {i : Nat} : ∀ {vs : List Nat}, i ∈ vs → (wipe σ vs)[i]? = if i < σ.length then some none else none
  | v :: vs, h => by
    unfold wipe
    by_cases e : v = i
    · subst e
      by_cases hl : v < σ.length
      · rw [List.getElem?_set_self (by rw [wipe_length]; exact hl), if_pos hl]
      · rw [List.getElem?_eq_none (by rw [List.length_set, wipe_length]; omega), if_neg hl]
    · rw [List.getElem?_set_ne e]
      rcases List.mem_cons.mp h with z | z
      · exact absurd z.symm e
      · exact wipe_in z
theorem wipe_agree {ix vs : List Nat} {σ σ' : St} (h : ∀ i ∈ ix, i ∈ vs) (a : Agree ix σ σ') : wipe σ' vs = wipe σ vs := by
  refine List.ext_getElem? fun i => ?_
  by_cases e : i ∈ vs
  · rw [wipe_in e, wipe_in e, a.1]
  · rw [wipe_out e, wipe_out e]
    exact a.2 i fun z => e (h i z)
theorem wipe_wipe {vs : List Nat} {σ : St} : wipe (wipe σ vs) vs = wipe σ vs := by
  refine List.ext_getElem? fun i => ?_
  by_cases e : i ∈ vs
  · rw [wipe_in e, wipe_in e, wipe_length]
  · rw [wipe_out e, wipe_out e]
theorem wipeE_length (ρ : En) : ∀ vs : List Nat, (wipeE ρ vs).length = ρ.length
  | [] => rfl
  | v :: vs => by unfold wipeE; rw [List.length_set, wipeE_length ρ vs]
theorem Ok.wipe {K : Frg} {H0 H : Hp} {A0 A : List Addr} {ρ : En} {σ : St} (o : Ok K H0 A0 A ρ σ H) : ∀ vs : List Nat, Ok K H0 A0 A (wipeE ρ vs) (L2.wipe σ vs) H
  | [] => o
  | v :: vs => by
    have p := (o.wipe vs).forget v
    refine ⟨by rw [L2.wipe_length, wipeE_length]; exact o.len, o.ext, o.sub, o.new, o.has, fun i s h => ?_, fun i j a t t' d d' ne h1 h2 h3 => ?_⟩
    · have h' : ((wipeE ρ vs).set v none)[i]? = some (some s) := h
      obtain ⟨x, h1, h2⟩ := p.slot i s h'
      refine ⟨x, ?_, h2⟩
      unfold L2.wipe
      rcases get_set_some h' with ⟨_, _, e⟩ | ⟨e, _⟩
      · cases e
      · rw [List.getElem?_set_ne (Ne.symm e)]; exact h1
    · have h1' : ((wipeE ρ vs).set v none)[i]? = some (some (.own t d)) := h1
      have h2' : ((wipeE ρ vs).set v none)[j]? = some (some (.own t' d')) := h2
      have hi : i ≠ v := by
        rcases get_set_some h1' with ⟨_, _, e⟩ | ⟨e, _⟩
        · cases e
        · exact e
      have hj : j ≠ v := by
        rcases get_set_some h2' with ⟨_, _, e⟩ | ⟨e, _⟩
        · cases e
        · exact e
      unfold L2.wipe at h3 ⊢
      rw [List.getElem?_set_ne (Ne.symm hi)] at h3
      rw [List.getElem?_set_ne (Ne.symm hj)]
      exact p.dis i j a t t' d d' ne h1' h2' h3
/-- one more object that is ours alone, kept for what is around -/
theorem Ok.grow {K : Frg} {H0 H H' : Hp} {A0 A : List Addr} {ρ : En} {σ : St} {l : Addr} (o : Ok K H0 A0 A ρ σ H) (s : Same H H') (n : H l = none) (y : H' l ≠ none) : Ok K H0 (l :: A0) (l :: A) ρ σ H' := by
  have u : Tr A H (l :: A) H' := ⟨fun b x h _ => s b x h, fun b hb => by
    rcases List.mem_cons.mp hb with rfl | hb
    · exact .inr n
    · exact .inl hb⟩
  refine ⟨o.len, o.ext.trans s, fun b hb => ?_, fun b hb => ?_, fun b hb z => ?_, fun i x h => ?_, o.dis⟩
  · rcases List.mem_cons.mp hb with rfl | hb
    · exact List.mem_cons_self
    · exact List.mem_cons_of_mem _ (o.sub b hb)
  · rcases List.mem_cons.mp hb with rfl | hb
    · exact .inl List.mem_cons_self
    · rcases o.new b hb with h | h
      · exact .inl (List.mem_cons_of_mem _ h)
      · exact .inr h
  · rcases List.mem_cons.mp hb with rfl | hb
    · exact y z
    · exact o.has b hb (s.free z)
  · obtain ⟨v, h1, h2⟩ := o.slot i x h
    refine ⟨v, h1, ?_⟩
    cases x with
    | v d => exact Rep.tr u h2
    | er c n => exact trivial
    | sc ns =>
      obtain ⟨c, e1, h3⟩ := h2
      exact ⟨c, e1, h3.tr u⟩
    | own t d =>
      obtain ⟨a, e, ha, n0, r⟩ := h2
      exact ⟨a, e, List.mem_cons_of_mem _ ha, ⟨n0.1, fun z => by
        rcases List.mem_cons.mp z with z | z
        · exact o.has a ha (by rw [z]; exact n)
        · exact n0.2 z⟩, r.tr s u⟩
/-- what is kept for what is around is changed -/
theorem Ok.touch {K : Frg} {H0 H : Hp} {A0 A : List Addr} {ρ : En} {σ : St} {l : Addr} {x : HO} (o : Ok K H0 A0 A ρ σ H) (hl : l ∈ A0) (n : H0 l = none) : Ok K H0 A0 A ρ σ (upd H l x) := by
  have hA := o.sub l hl
  refine ⟨o.len, fun c y q => ?_, o.sub, o.new, fun b hb z => ?_, fun i s h => ?_, o.dis⟩
  · rw [upd_ne (show c ≠ l from fun z => by rw [z, n] at q; cases q)]
    exact o.ext c y q
  · by_cases e : b = l
    · subst e; rw [upd_same] at z; cases z
    · rw [upd_ne e] at z; exact o.has b hb z
  · obtain ⟨v, h1, h2⟩ := o.slot i s h
    refine ⟨v, h1, ?_⟩
    cases s with
    | v d => exact Rep.tr (Tr.write hA) h2
    | er c n => exact trivial
    | sc ns =>
      obtain ⟨c, e1, h3⟩ := h2
      exact ⟨c, e1, h3.tr (Tr.write hA)⟩
    | own t d =>
      obtain ⟨a, e, ha, n0, r⟩ := h2
      exact ⟨a, e, ha, n0, r.other (fun z => n0.2 (by rw [z]; exact hl)) hA⟩

/-! ### what follows a piece -/
def SR.of {α : Type} (r : R α) (ρ : En) (k : α → SR) : SR := match r with
  | .ok a => k a
  | .ex c n => .ex c n ρ
  | .no => .no
@[simp] theorem SR.of_ok {α : Type} (a : α) (ρ : En) (k : α → SR) : SR.of (.ok a) ρ k = k a := rfl
@[simp] theorem SR.of_ex {α : Type} (c : String) (n : Int) (ρ : En) (k : α → SR) : SR.of (.ex c n : R α) ρ k = .ex c n ρ := rfl
@[simp] theorem SR.of_no {α : Type} (ρ : En) (k : α → SR) : SR.of (.no : R α) ρ k = .no := rfl
section
variable {K : Frg} {mg : MgT} {W : WX} {H0 H H1 : Hp} {A0 A A1 : List Addr} {E : Ends} {ρ : En} {σ : St}
theorem PostS.tr {r : SR} (h : PostS K mg W H0 A0 A H E r) (u : Tr A H A1 H1) : PostS K mg W H0 A0 A1 H1 E r := by
  cases r with
  | nx ρ' => exact fun σ' H' A' o t => h σ' H' A' o (u.trans t)
  | rt d => exact h
  | bk ρ' => exact fun σ' H' A' o t => h σ' H' A' o (u.trans t)
  | ct ρ' => exact fun σ' H' A' o t => h σ' H' A' o (u.trans t)
  | ex c n ρ' => exact fun u' p σ' H' A' o t => h u' p σ' H' A' o (u.trans t)
  | no => exact h
theorem PostS.same {r : SR} (h : PostS K mg W H0 A0 A H E r) (s : Same H H1) : PostS K mg W H0 A0 A H1 E r := h.tr (Tr.same s)
theorem PostS.of {α : Type} {r : R α} {k : α → SR} (o : Ok K H0 A0 A ρ σ H) (h : PostS K mg W H0 A0 A H E (SR.of r ρ k)) : Post mg W σ H (fun a _ => PostS K mg W H0 A0 A H E (k a)) r := by
  cases r with
  | ok a => exact fun H1 s => h
  | ex c n => exact fun u p H1 s f e => h u p σ H1 A (o.same s) (Tr.same s) (o.ext.free f) e
  | no => exact h
/-- the end of a piece replaced -/
theorem PostS.seq {r : SR} {g2 : En → SR} (h : PostS K mg W H0 A0 A H E (match r with | .nx ρ' => g2 ρ' | r => r)) : PostS K mg W H0 A0 A H { E with nx := tFS K mg W g2 E } r := by
  cases r with
  | nx ρ' => exact fun σ' H' A' o t => ⟨H0, A0, A', ρ', o, PostS.tr (r := g2 ρ') h t⟩
  | rt d => exact h
  | bk ρ' => exact h
  | ct ρ' => exact h
  | ex c n ρ' => exact h
  | no => exact h
end

/-! ### statements -/
def sNext : En → SR := fun ρ => .nx ρ
def sSeq (g1 g2 : En → SR) : En → SR := fun ρ => match g1 ρ with
  | .nx ρ' => g2 ρ'
  | r => r
def sExpr (f : En → R D) : En → SR := fun ρ => .of (f ρ) ρ fun _ => .nx ρ
def sRet (f : En → R D) : En → SR := fun ρ => .of (f (disown ρ)) (disown ρ) .rt
def sRetN : En → SR := fun ρ => .rt .none
def sIf (p : En → R Bool) (g1 g2 : En → SR) : En → SR := fun ρ => .of (p ρ) ρ fun b => if b = true then g1 ρ else g2 ρ
def sSet (i : Nat) (f : En → R D) : En → SR := fun ρ => .of (f ρ) ρ fun d => .nx (ρ.set i (some (.v d)))
def sSetN (i : Nat) (t : Bool) (f : En → R D) : En → SR := fun ρ => .of (f ρ) ρ fun d => .nx (ρ.set i (some (.own t d)))
def sFrz (i : Nat) (g : En → SR) : En → SR := fun ρ => g (frz i ρ)
section
variable {X : Cx} {W : WX} {e a b c : Expr} {f h : En → R D} {p : En → R Bool} {g g1 g2 : En → SR} {st : Stmt} {rest s1 s2 : List Stmt} {pos pos' : Pos} {x : Str} {i : Nat} {t : Bool}
theorem fss_nil : FSs X W [] sNext := impSs pss_nil fun D σ H ⟨H0, A0, A, ρ, o, P⟩ => P σ H A o (Tr.refl A H)
theorem fss_cons (h1 : FS X W st g1) (h2 : FSs X W rest g2) : FSs X W (st :: rest) (sSeq g1 g2) := impSs (pss_cons h1 h2) fun D σ H ⟨H0, A0, A, ρ, o, P⟩ => ⟨H0, A0, A, ρ, o, PostS.seq P⟩
theorem fss_one (h1 : FS X W st g1) : FSs X W [st] g1 := pss_one h1
theorem fs_pass : FS X W (.Pass pos) sNext := impS ps_pass fun D σ H ⟨H0, A0, A, ρ, o, P⟩ => P σ H A o (Tr.refl A H)
theorem fs_doc {z : Str} {j : Nat} : FS X W (.Expr (.Constant (.str z) j pos) pos') sNext := impS ps_doc fun D σ H ⟨H0, A0, A, ρ, o, P⟩ => P σ H A o (Tr.refl A H)
theorem fs_break : FS X W (.Break pos) (fun ρ => .bk ρ) := impS ps_break fun D σ H ⟨H0, A0, A, ρ, o, P⟩ => P σ H A o (Tr.refl A H)
theorem fs_continue : FS X W (.Continue pos) (fun ρ => .ct ρ) := impS ps_continue fun D σ H ⟨H0, A0, A, ρ, o, P⟩ => P σ H A o (Tr.refl A H)
theorem fs_expr (he : FE X W e f) (hs : swapsWith e none pos.line X.env = pure false := by rfl) : FS X W (.Expr e pos) (sExpr f) := impS (ps_expr he hs) fun D σ H ⟨H0, A0, A, ρ, o, P⟩ =>
  ⟨H0, A0, A, ρ, o, (P.of o).mono fun d H1 s1 P1 v _ => P1 σ H1 A (o.same s1) (Tr.same s1)⟩
theorem fs_ret (he : FE X W e f) : FS X W (.Return (some e) pos) (sRet f) := impS (ps_ret he) fun D σ H ⟨H0, A0, A, ρ, o, P⟩ => by
  have P' : PostS X.K X.mg W H0 A0 A0 H D (SR.of (f (disown ρ)) (disown ρ) .rt) := PostS.tr (r := sRet f ρ) P (Tr.sub o.sub)
  exact ⟨H0, A0, A0, disown ρ, o.disown, (P'.of o.disown).mono fun d H1 s1 P1 v r => P1 v H1 (o.ext.trans s1) r⟩
theorem fs_retN : FS X W (.Return none pos) sRetN := impS ps_retN fun D σ H ⟨H0, A0, A, ρ, o, P⟩ => P _ H o.ext .non
theorem fs_if (hc : FT X W c p) (ha : FSs X W s1 g1) (hb : FSs X W s2 g2) : FS X W (.If c s1 s2 pos) (sIf p g1 g2) := impS (ps_if hc ha hb) fun D σ H ⟨H0, A0, A, ρ, o, P⟩ => by
  refine ⟨H0, A0, A, ρ, o, (P.of o).mono fun b H1 s1 P1 => ?_⟩
  cases b with
  | true => exact ⟨H0, A0, A, ρ, o.same s1, PostS.same (r := g1 ρ) P1 s1⟩
  | false => exact ⟨H0, A0, A, ρ, o.same s1, PostS.same (r := g2 ρ) P1 s1⟩
theorem fs_set (hN : X.N.Nodup) (hi : X.N[i]? = some x) (hx : Loc X.env.scope x) (he : FE X W e f) (hs : swapsWith e (some (.Name x pos')) pos.line X.env = pure false := by rfl) (hf : X.fn x = true ∨ X.env.scope.names.lookup x = some .local := by first | exact .inl rfl | exact .inr rfl | assumption) :
    FS X W (.Assign [.Name x pos'] e pos) (sSet i f) := impS (ps_set hN hi hx he hs hf) fun D σ H ⟨H0, A0, A, ρ, o, P⟩ =>
  ⟨H0, A0, A, ρ, o, (P.of o).mono fun d H1 s1 P1 v r => P1 _ H1 A ((o.same s1).set i r) (Tr.same s1)⟩
theorem fs_setN (hN : X.N.Nodup) (hi : X.N[i]? = some x) (hx : Loc X.env.scope x) (he : FN X W t e f) (hs : swapsWith e (some (.Name x pos')) pos.line X.env = pure false := by rfl) (hf : X.fn x = true ∨ X.env.scope.names.lookup x = some .local := by first | exact .inl rfl | exact .inr rfl | assumption) :
    FS X W (.Assign [.Name x pos'] e pos) (sSetN i t f) := impS (ps_set hN hi hx he hs hf) fun D σ H ⟨H0, A0, A, ρ, o, P⟩ =>
  ⟨H0, A0, A, ρ, o, (P.of o).mono fun d H1 s1 P1 v ⟨a, e, n, r⟩ => by
    subst e
    exact P1 _ H1 (a :: A) (o.setOwn s1 i n r) ⟨fun b x h _ => s1 b x h, fun b hb => by
      rcases List.mem_cons.mp hb with rfl | hb
      · exact .inr n
      · exact .inl hb⟩⟩
theorem fs_frz (i : Nat) (hs : FS X W st g) : FS X W st (sFrz i g) := impS hs fun D σ H ⟨H0, A0, A, ρ, o, P⟩ => by
  obtain ⟨A', o', u⟩ := o.frz i
  exact ⟨H0, A0, A', _, o', PostS.tr (r := g (frz i ρ)) P u⟩
theorem fss_frz (i : Nat) (hs : FSs X W s1 g) : FSs X W s1 (sFrz i g) := impSs hs fun D σ H ⟨H0, A0, A, ρ, o, P⟩ => by
  obtain ⟨A', o', u⟩ := o.frz i
  exact ⟨H0, A0, A', _, o', PostS.tr (r := g (frz i ρ)) P u⟩
/-- a call that hands back nothing that could hold what it was handed -/
def flatD : D → Bool
  | .list _ => false
  | .tuple _ => false
  | .dict _ => false
  | _ => true
def cFlat (f : En → R D) : En → R D := fun ρ => (f (disown ρ)).bind fun d => if flatD d = true then .ok d else .no
theorem fe_flat (he : FE X W e f) : FE X W e (cFlat f) := impE he fun σ H Q ⟨H0, A0, A, ρ, o, P⟩ => by
  refine ⟨H0, A0, A0, disown ρ, o.disown, P.bind.mono fun d H1 s1 P1 v r => ?_⟩
  split at P1
  · rename_i hf
    exact P1 H1 (Same.refl _) v (flat_rep r hf)
  · exact P1.elim

/-! ### targets -/
abbrev TgF := D → En → Option En
def tFG (K : Frg) (ix : List Nat) (t : TgF) : TG := fun v σ H Q => ∃ H0 A0 A ρ d ρ', Ok K H0 A0 A ρ σ H ∧ Rep K H A v d ∧ t d ρ = some ρ' ∧ ∀ σ', Ok K H0 A0 A ρ' σ' H → Agree ix σ σ' → Q σ' H
abbrev FG (X : Cx) (tg : Expr) (ix : List Nat) (t : TgF) : Prop := PG X tg (tFG X.K ix t)
def tFGs (K : Frg) (ix : List Nat) (t : List D → En → Option En) : TGs := fun vs σ H Q => ∃ H0 A0 A ρ ds ρ', Ok K H0 A0 A ρ σ H ∧ RepL K H A vs ds ∧ t ds ρ = some ρ' ∧ ∀ σ', Ok K H0 A0 A ρ' σ' H → Agree ix σ σ' → Q σ' H
abbrev FGs (X : Cx) (tg : List Expr) (ix : List Nat) (t : List D → En → Option En) : Prop := PGs X tg (tFGs X.K ix t)
theorem impG {e : Expr} {t t' : TG} (h : PG X e t) (i : ∀ v σ H Q, t' v σ H Q → t v σ H Q) : PG X e t' := ⟨fun pins s σ H v u Q I r q => h.run pins s σ H v u Q I r (i _ _ _ _ q)⟩
theorem impGs {e : List Expr} {t t' : TGs} (h : PGs X e t) (i : ∀ v σ H Q, t' v σ H Q → t v σ H Q) : PGs X e t' := ⟨fun pins s σ H v u Q I r q => h.run pins s σ H v u Q I r (i _ _ _ _ q)⟩
def gN (i : Nat) : TgF := fun d ρ => some (ρ.set i (some (.v d)))
def gT (t : List D → En → Option En) : TgF := fun d ρ => match d with
  | .tuple ds => t ds ρ
  | _ => none
def gE : List D → En → Option En := fun ds ρ => match ds with
  | [] => some ρ
  | _ => none
def gC (t : TgF) (u : List D → En → Option En) : List D → En → Option En := fun ds ρ => match ds with
  | d :: ds => (t d ρ).bind (u ds)
  | [] => none
theorem fg_name (hN : X.N.Nodup) (hi : X.N[i]? = some x) (hx : Loc X.env.scope x) (hf : X.fn x = true ∨ X.env.scope.names.lookup x = some .local := by first | exact .inl rfl | exact .inr rfl | assumption) : FG X (.Name x pos) [i] (gN i) :=
  impG (pg_name hN hi hx hf) fun v σ H Q ⟨H0, A0, A, ρ, d, ρ', o, r, e, q⟩ => by
    cases e
    exact q _ (o.set i r) ⟨List.length_set, fun j hj => List.getElem?_set_ne (fun z => hj (by simp [z]))⟩
theorem fgs_nil : FGs X [] [] gE := impGs pgs_nil fun vs σ H Q ⟨H0, A0, A, ρ, ds, ρ', o, r, e, q⟩ => by
  cases r with
  | nil => cases e; exact ⟨rfl, q _ o ⟨rfl, fun _ _ => rfl⟩⟩
  | cons _ _ => cases e
theorem fgs_cons {es : List Expr} {ix1 ix2 : List Nat} {tg : TgF} {tgs : List D → En → Option En} (h1 : FG X e ix1 tg) (h2 : FGs X es ix2 tgs)
    (hs : (assignEach (e :: es) X.env).map (·.2) = assign e X.env :: (assignEach es X.env).map (·.2) := by rfl) : FGs X (e :: es) (ix1 ++ ix2) (gC tg tgs) := impGs (pgs_cons h1 h2 hs) fun vs σ H Q ⟨H0, A0, A, ρ, ds, ρ', o, r, e, q⟩ => by
  cases r with
  | nil => cases e
  | cons a t =>
    obtain ⟨ρ1, e1, e2⟩ := Option.bind_eq_some_iff.mp (show (tg _ ρ).bind (tgs _) = some ρ' from e)
    exact ⟨_, _, rfl, H0, A0, A, ρ, _, ρ1, o, a, e1, fun σ1 o1 g1 => ⟨H0, A0, A, ρ1, _, ρ', o1, t, e2, fun σ2 o2 g2 => q σ2 o2 ⟨g2.1.trans g1.1, fun j hj => (g2.2 j fun z => hj (List.mem_append_right _ z)).trans (g1.2 j fun z => hj (List.mem_append_left _ z))⟩⟩⟩
theorem fg_tup {es : List Expr} {k n : Nat} {ix : List Nat} {tgs : List D → En → Option En} (hc : X.calm = true) (hg : FGs X es ix tgs) (hl : ∀ ds ρ ρ', tgs ds ρ = some ρ' → ds.length = n)
    (hn : (assignEach es X.env).length = n := by rfl) (hst : (assignEach es X.env).findIdx? (·.1) = none := by rfl) : FG X (.Tuple es k pos) ix (gT tgs) := impG (pg_tup hc hg hn hst) fun v σ H Q ⟨H0, A0, A, ρ, d, ρ', o, r, e, q⟩ => by
  unfold gT at e
  split at e
  · obtain ⟨a, vs, rfl, h1, r1⟩ := (RepB.of r).tup
    exact ⟨a, vs, rfl, h1, by rw [r1.length]; exact hl _ _ _ e, H0, A0, A, ρ, _, ρ', o, r1, e, q⟩
  · cases e
theorem gE_len {ds : List D} {ρ ρ' : En} (h : gE ds ρ = some ρ') : ds.length = 0 := by
  cases ds with
  | nil => rfl
  | cons _ _ => cases h
theorem gC_len {tg : TgF} {tgs : List D → En → Option En} {n : Nat} (h : ∀ ds ρ ρ', tgs ds ρ = some ρ' → ds.length = n) {ds : List D} {ρ ρ' : En} (q : gC tg tgs ds ρ = some ρ') : ds.length = n + 1 := by
  cases ds with
  | nil => cases q
  | cons d ds =>
    obtain ⟨ρ1, e1, e2⟩ := Option.bind_eq_some_iff.mp (show (tg d ρ).bind (tgs ds) = some ρ' from q)
    rw [List.length_cons, h _ _ _ e2]
/-- target = e -/
def sAsg (t : TgF) (f : En → R D) : En → SR := fun ρ => .of (f ρ) ρ fun d => match t d ρ with
  | some ρ' => .nx ρ'
  | none => .no
theorem fs_asg {tg : Expr} {ix : List Nat} {t : TgF} (he : FE X W e f) (hg : FG X tg ix t) (hs : swapsWithSole [tg] e pos.line X.env = pure false := by rfl) (hw : swappedStores [tg] e X.env = pure none := by rfl)
    (h1 : (assignEach [tg] X.env).map (·.2) = [assign tg X.env] := by rfl) : FS X W (.Assign [tg] e pos) (sAsg t f) := impS (ps_asg he hg hs hw h1) fun D σ H ⟨H0, A0, A, ρ, o, P⟩ => by
  refine ⟨H0, A0, A, ρ, o, (P.of o).mono fun d H1 s1 P1 v r => ?_⟩
  split at P1
  · rename_i ρ' e
    exact ⟨H0, A0, A, ρ, d, ρ', o.same s1, r, e, fun σ' o' _ => P1 σ' H1 A o' (Tr.same s1)⟩
  · exact P1.elim
/-- a, b = e1, e2: two plain local names -/
def sPar (i j : Nat) (l : En → R (List D)) : En → SR := fun ρ => .of (l ρ) ρ fun ds => match ds with
  | [d, d2] => .nx ((ρ.set i (some (.v d))).set j (some (.v d2)))
  | _ => .no
theorem fs_par {j : Nat} {y : Str} {px py pt : Pos} {kt k2 pt2} {l : En → R (List D)} (hc : X.calm = true) (hN : X.N.Nodup) (hi : X.N[i]? = some x) (hj : X.N[j]? = some y) (hij : i ≠ j)
    (hx : X.env.scope.names.lookup x = some .local) (hy : X.env.scope.names.lookup y = some .local) (ha : FA X W [a, b] l)
    (hw : swappedStores [.Tuple [.Name x px, .Name y py] kt pt] (.Tuple [a, b] k2 pt2) X.env = pure (some [x, y]))
    (hs : swapsWithSole [.Tuple [.Name x px, .Name y py] kt pt] (.Tuple [a, b] k2 pt2) pos.line X.env = pure false := by rfl) :
    FS X W (.Assign [.Tuple [.Name x px, .Name y py] kt pt] (.Tuple [a, b] k2 pt2) pos) (sPar i j l) := impS (ps_par hc hN hi hj hij hx hy ha hw hs) fun D σ H ⟨H0, A0, A, ρ, o, P⟩ => by
  refine ⟨H0, A0, A, ρ, o, (P.of o).mono fun ds H1 s1 P1 vs r => ?_⟩
  split at P1
  · cases r with
    | cons r1 t1 =>
      cases t1 with
      | cons r2 t2 =>
        cases t2
        exact ⟨_, _, rfl, P1 _ H1 A (((o.same s1).set i r1).set j r2) (Tr.same s1)⟩
  · exact P1.elim

/-! ### objects that the frame alone holds, changed -/
/-- the list that a name alone holds -/
def ownL (ρ : En) (i : Nat) : Option (Bool × List D) := match ρ[i]? with
  | some (some (.own t (.list ds))) => some (t, ds)
  | _ => none
def ownD (ρ : En) (i : Nat) : Option (Bool × List (D × D)) := match ρ[i]? with
  | some (some (.own t (.dict ds))) => some (t, ds)
  | _ => none
theorem ownL_some {ρ : En} {t : Bool} {ds : List D} (h : ownL ρ i = some (t, ds)) : ρ[i]? = some (some (.own t (.list ds))) := by
  unfold ownL at h
  split at h
  · rename_i e; cases h; exact e
  · cases h
theorem ownD_some {ρ : En} {t : Bool} {ds : List (D × D)} (h : ownD ρ i = some (t, ds)) : ρ[i]? = some (some (.own t (.dict ds))) := by
  unfold ownD at h
  split at h
  · rename_i e; cases h; exact e
  · cases h
def sAppend (i : Nat) (f : En → R D) : En → SR := fun ρ => match ownL ρ i with
  | some (t, ds) => .of (f ρ) ρ fun d => if ds.length < sizeLine then .nx (ρ.set i (some (.own t (.list (ds ++ [d]))))) else .no
  | none => .no
/-- x[k] = e on a list, in bounds -/
def sSetL (i : Nat) (fi f : En → R D) : En → SR := fun ρ => match ownL ρ i with
  | some (t, ds) => .of ((f ρ).bind fun d => (fi ρ).bind fun k => ofO ((toI k).bind fun k => (ixN ds.length k).map fun j => (j, d))) ρ fun q => .nx (ρ.set i (some (.own t (.list (ds.set q.1 q.2)))))
  | none => .no
/-- rows with one more, or one changed -/
def putD (p : D → Bool) (k v : D) (ds : List (D × D)) : List (D × D) :=
  if (ds.any fun kv => p kv.1) = true then ds.map (fun kv => if p kv.1 = true then (kv.1, v) else kv) else ds ++ [(k, v)]
def isK (k : Key) (d : D) : Bool := decide (keyD d = some k)
def isT (k : List Key) (d : D) : Bool := match d with
  | .tuple ds => decide (keysD ds = some k)
  | _ => false
def dPut (t : Bool) (ds : List (D × D)) (k v : D) : Option (List (D × D)) :=
  if ds.length < sizeLine then (match t, k with
    | false, k => (keyD k).map fun q => putD (isK q) k v ds
    | true, .tuple ks => (keysD ks).map fun q => putD (isT q) k v ds
    | _, _ => none) else none
/-- x[k] = e on a dict -/
def sSetD (i : Nat) (fi f : En → R D) : En → SR := fun ρ => match ownD ρ i with
  | some (t, ds) => .of ((f ρ).bind fun d => (fi ρ).bind fun k => ofO (dPut t ds k d)) ρ fun q => .nx (ρ.set i (some (.own t (.dict q))))
  | none => .no
end
end G

namespace G
open PySem PySem.Spec PyProof.Rows L2
section
variable {X : Cx} {W : WX} {e a b c o i e1 : Expr} {f fo fi : En → R D} {p : En → R Bool} {g g1 g2 : En → SR} {st : Stmt} {rest s1 s2 : List Stmt} {pos pos' p1 p2 p3 : Pos} {x : Str} {ix : Nat} {t : Bool}

/-! ### x.append(e), x[i] = e of objects that the frame alone holds -/
theorem fs_append {apos cpos : Pos} (hv : PE X (.Name x p1) (tVar ix)) (he : FE X W e f)
    (hbase : attributeBase (.Name x p1) "append" X.env (eval (.Name x p1) X.env) = eval (.Name x p1) X.env := by rfl)
    (hfew : ((backTo cpos (starEach (e :: []) X.env)).all (fun x => !x.1) && (backToKw cpos (keywordEach [] X.env)).all (fun x => x.1.isSome)
      && decide ((e :: []).length + ([] : List Keyword).length + (if ([] : List Keyword).isEmpty then 0 else 1) < 30)) = true := by rfl)
    (hline : (apos.endLine == cpos.line) = true := by rfl) (hs : starEach (e :: []) X.env = (false, eval e X.env) :: starEach [] X.env := by rfl) (hplain : (backTo cpos (starEach [] X.env)).any (·.1) = false := by rfl)
    (hsw : swapsWith (.Call (.Attribute (.Name x p1) "append" apos) [e] [] cpos) none pos.line X.env = pure false := by rfl) :
    FS X W (.Expr (.Call (.Attribute (.Name x p1) "append" apos) [e] [] cpos) pos) (sAppend ix f) := by
  refine impS (ps_expr (pe_bm PySem.F.plainAttrs_list PySem.F.slot_list_append PySem.F.type_list_append mt_append hv (pa_cons he pa_nil hs) hbase hfew hline hs hplain) hsw) fun Ee σ H ⟨H0, A0, A, ρ, ok, P⟩ => ?_
  unfold sAppend at P
  split at P
  · rename_i t ds hh
    have h := ownL_some hh
    obtain ⟨v, h1, l, e2, hl, n0, vs, h2, r⟩ := ok.slot ix _ h
    subst e2
    refine ⟨_, h1, Or.inl ⟨rfl, vs, SqL.of h2⟩, H0, A0, A, ρ, ok, (P.of ok).mono fun d H1 s1 P2 y hy => ?_⟩
    split at P2
    · rename_i hz
      refine ⟨l, vs, y, rfl, rfl, s1 _ _ h2, by rw [r.length]; exact hz, ?_⟩
      obtain ⟨o', u⟩ := (ok.same s1).mut (x := .lst (vs ++ [y])) (d' := .list (ds ++ [d])) h h1 ⟨_, upd_same, ((r.same s1).append (.one hy)).tr (Tr.write hl)⟩
      exact P2 _ _ A o' ((Tr.same s1).trans u)
    · exact P2.elim
  · exact P.elim
theorem PSet.or {t t' : TSet} (h : PSet X t) (h' : PSet X t') : PSet X (fun o i v H Q => t o i v H Q ∨ t' o i v H Q) := by
  intro pins s σ H o i v ov iv u Q I ro ri rv q
  rcases q with q | q
  · exact h pins s σ H o i v ov iv u Q I ro ri rv q
  · exact h' pins s σ H o i v ov iv u Q I ro ri rv q
theorem fs_setL (hv : PE X (.Name x p1) (tVar ix)) (hi : FE X W i fi) (he : FE X W e f)
    (ha : ∀ v, assign (.Subscript (.Name x p1) i p2) X.env v = (do
      let ov ← holding [v] (eval (.Name x p1) X.env)
      let iv ← holding [v, ov] (eval i X.env)
      standAt p2
      holding [v, ov, iv] (setItem ov iv v)
      release [v, ov, iv] []) := by intro _; rfl)
    (hs : swapsWithSole [.Subscript (.Name x p1) i p2] e pos.line X.env = pure false := by rfl) (hw : swappedStores [.Subscript (.Name x p1) i p2] e X.env = pure none := by rfl)
    (h1 : (assignEach [.Subscript (.Name x p1) i p2] X.env).map (·.2) = [assign (.Subscript (.Name x p1) i p2) X.env] := by rfl) :
    FS X W (.Assign [.Subscript (.Name x p1) i p2] e pos) (sSetL ix fi f) := by
  refine impS (ps_asg he (pg_sub hv hi set_list ha) hs hw h1) fun Ee σ H ⟨H0, A0, A, ρ, ok, P⟩ => ?_
  unfold sSetL at P
  split at P
  · rename_i t ds hh
    have h := ownL_some hh
    obtain ⟨v, h1, l, e2, hl, n0, vs, h2, r⟩ := ok.slot ix _ h
    subst e2
    refine ⟨H0, A0, A, ρ, ok, (P.of ok).bind.mono fun d H1 s1 P2 y hy => ⟨_, h1, H0, A0, A, ρ, ok.same s1, P2.bind.mono fun k H2 s2 P3 z hz => ?_⟩⟩
    obtain ⟨q, e3, P4⟩ := P3.ofO
    have P4 := P4 H2 (Same.refl _)
    obtain ⟨k', e4, e5⟩ := Option.bind_eq_some_iff.mp e3
    obtain ⟨j, e6, e7⟩ := Option.map_eq_some_iff.mp e5
    obtain rfl := toI_some e4
    subst e7
    refine ⟨l, vs, k', j, rfl, (RepB.of hz).int, s2 _ _ (s1 _ _ h2), by rw [r.length]; exact e6, ?_⟩
    obtain ⟨o', u⟩ := ((ok.same s1).same s2).mut (x := .lst (vs.set j y)) (d' := .list (ds.set j d)) h h1 ⟨_, upd_same, (RepL.set j ((r.same s1).same s2) (hy.same s2)).tr (Tr.write hl)⟩
    exact P4 _ _ A o' (((Tr.same s1).trans (Tr.same s2)).trans u)
  · exact P.elim
theorem any_repK {K : Frg} {H : Hp} {A : List Addr} {k : Key} : ∀ {kvs : List (Key × V)} {ds : List (D × D)}, RepK K H A kvs ds → (kvs.any fun kv => decide (kv.1 = k)) = (ds.any fun kv => isK k kv.1)
  | _, _, .nil => rfl
  | _, _, .cons (k := k') r t => by
    rw [List.any_cons, List.any_cons, any_repK t]
    congr 1
    show _ = decide (keyD (kD k') = some k)
    rw [keyD_kD]
    by_cases e : k' = k
    · subst e; simp
    · rw [decide_eq_false e, decide_eq_false (show ¬ some k' = some k from fun z => e (Option.some.inj z))]
theorem any_repT {K : Frg} {H : Hp} {A : List Addr} {k : List Key} : ∀ {kvs : List (List Key × V)} {ds : List (D × D)}, RepT K H A kvs ds → (kvs.any fun kv => decide (kv.1 = k)) = (ds.any fun kv => isT k kv.1)
  | _, _, .nil => rfl
  | _, _, .cons (k := k') r t => by
    rw [List.any_cons, List.any_cons, any_repT t]
    congr 1
    show _ = decide (keysD (k'.map kD) = some k)
    rw [keysD_map]
    by_cases e : k' = k
    · subst e; simp
    · rw [decide_eq_false e, decide_eq_false (show ¬ some k' = some k from fun z => e (Option.some.inj z))]
theorem map_repK {K : Frg} {H : Hp} {A : List Addr} {k : Key} {v : V} {d : D} (hv : Rep K H A v d) : ∀ {kvs : List (Key × V)} {ds : List (D × D)}, RepK K H A kvs ds → RepK K H A (kvs.map fun kv => if kv.1 = k then (kv.1, v) else kv) (ds.map fun kv => if isK k kv.1 = true then (kv.1, d) else kv)
  | _, _, .nil => .nil
  | _, _, .cons (k := k') r t => by
    rw [List.map_cons, List.map_cons]
    have e : isK k (kD k') = decide (k' = k) := by
      unfold isK
      rw [keyD_kD]
      by_cases e : k' = k
      · subst e; simp
      · rw [decide_eq_false e, decide_eq_false (show ¬ some k' = some k from fun z => e (Option.some.inj z))]
    by_cases q : k' = k
    · rw [if_pos (show k' = k from q), if_pos (show isK k (kD k') = true by rw [e]; exact decide_eq_true q)]
      exact .cons hv (map_repK hv t)
    · rw [if_neg (show ¬ k' = k from q), if_neg (show ¬ isK k (kD k') = true by rw [e]; simpa using q)]
      exact .cons r (map_repK hv t)
theorem map_repT {K : Frg} {H : Hp} {A : List Addr} {k : List Key} {v : V} {d : D} (hv : Rep K H A v d) : ∀ {kvs : List (List Key × V)} {ds : List (D × D)}, RepT K H A kvs ds → RepT K H A (kvs.map fun kv => if kv.1 = k then (kv.1, v) else kv) (ds.map fun kv => if isT k kv.1 = true then (kv.1, d) else kv)
  | _, _, .nil => .nil
  | _, _, .cons (k := k') r t => by
    rw [List.map_cons, List.map_cons]
    have e : isT k (.tuple (k'.map kD)) = decide (k' = k) := by
      show decide (keysD (k'.map kD) = some k) = _
      rw [keysD_map]
      by_cases e : k' = k
      · subst e; simp
      · rw [decide_eq_false e, decide_eq_false (show ¬ some k' = some k from fun z => e (Option.some.inj z))]
    by_cases q : k' = k
    · rw [if_pos (show k' = k from q), if_pos (show isT k (.tuple (k'.map kD)) = true by rw [e]; exact decide_eq_true q)]
      exact .cons hv (map_repT hv t)
    · rw [if_neg (show ¬ k' = k from q), if_neg (show ¬ isT k (.tuple (k'.map kD)) = true by rw [e]; simpa using q)]
      exact .cons r (map_repT hv t)
theorem RepK.append {K : Frg} {H : Hp} {A : List Addr} : ∀ {a b : List (Key × V)} {ds es : List (D × D)}, RepK K H A a ds → RepK K H A b es → RepK K H A (a ++ b) (ds ++ es)
  | _, _, _, _, .nil, s => s
  | _, _, _, _, .cons a t, s => .cons a (RepK.append t s)
theorem RepT.append {K : Frg} {H : Hp} {A : List Addr} : ∀ {a b : List (List Key × V)} {ds es : List (D × D)}, RepT K H A a ds → RepT K H A b es → RepT K H A (a ++ b) (ds ++ es)
  | _, _, _, _, .nil, s => s
  | _, _, _, _, .cons a t, s => .cons a (RepT.append t s)
theorem put_repK {K : Frg} {H : Hp} {A : List Addr} {k : Key} {v : V} {d : D} (hv : Rep K H A v d) {kvs : List (Key × V)} {ds : List (D × D)} (r : RepK K H A kvs ds) : RepK K H A (putK kvs k v) (putD (isK k) (kD k) d ds) := by
  unfold putK putD
  rw [any_repK r]
  split
  · exact map_repK hv r
  · exact r.append (.cons hv .nil)
theorem put_repT {K : Frg} {H : Hp} {A : List Addr} {k : List Key} {v : V} {d : D} (hv : Rep K H A v d) {kvs : List (List Key × V)} {ds : List (D × D)} (r : RepT K H A kvs ds) : RepT K H A (putK kvs k v) (putD (isT k) (.tuple (k.map kD)) d ds) := by
  unfold putK putD
  rw [any_repT r]
  split
  · exact map_repT hv r
  · exact r.append (.cons hv .nil)
theorem RepK.length {K : Frg} {H : Hp} {A : List Addr} : ∀ {a : List (Key × V)} {ds : List (D × D)}, RepK K H A a ds → a.length = ds.length
  | _, _, .nil => rfl
  | _, _, .cons _ t => by rw [List.length_cons, List.length_cons, RepK.length t]
theorem RepT.length {K : Frg} {H : Hp} {A : List Addr} : ∀ {a : List (List Key × V)} {ds : List (D × D)}, RepT K H A a ds → a.length = ds.length
  | _, _, .nil => rfl
  | _, _, .cons _ t => by rw [List.length_cons, List.length_cons, RepT.length t]
theorem fs_setD (hu : X.A.units + 1 < cLine) (hv : PE X (.Name x p1) (tVar ix)) (hi : FE X W i fi) (he : FE X W e f)
    (ha : ∀ v, assign (.Subscript (.Name x p1) i p2) X.env v = (do
      let ov ← holding [v] (eval (.Name x p1) X.env)
      let iv ← holding [v, ov] (eval i X.env)
      standAt p2
      holding [v, ov, iv] (setItem ov iv v)
      release [v, ov, iv] []) := by intro _; rfl)
    (hs : swapsWithSole [.Subscript (.Name x p1) i p2] e pos.line X.env = pure false := by rfl) (hw : swappedStores [.Subscript (.Name x p1) i p2] e X.env = pure none := by rfl)
    (h1 : (assignEach [.Subscript (.Name x p1) i p2] X.env).map (·.2) = [assign (.Subscript (.Name x p1) i p2) X.env] := by rfl) :
    FS X W (.Assign [.Subscript (.Name x p1) i p2] e pos) (sSetD ix fi f) := by
  refine impS (ps_asg he (pg_sub hv hi (set_dict hu) ha) hs hw h1) fun Ee σ H ⟨H0, A0, A, ρ, ok, P⟩ => ?_
  unfold sSetD at P
  split at P
  · rename_i t ds hh
    have h := ownD_some hh
    obtain ⟨v, h1, l, e2, hl, n0, hr⟩ := ok.slot ix _ h
    subst e2
    refine ⟨H0, A0, A, ρ, ok, (P.of ok).bind.mono fun d H1 s1 P2 y hy => ⟨_, h1, H0, A0, A, ρ, ok.same s1, P2.bind.mono fun k H2 s2 P3 z hz => ?_⟩⟩
    obtain ⟨q, e3, P4⟩ := P3.ofO
    have P4 := P4 H2 (Same.refl _)
    have hy2 := hy.same s2
    unfold dPut at e3
    split at e3
    · rename_i hlen
      rcases hr with ⟨rfl, kvs, h2, r⟩ | ⟨rfl, kvs, h2, r⟩
      · obtain ⟨k', e4, e5⟩ := Option.map_eq_some_iff.mp e3
        obtain rfl := keyD_some e4
        subst e5
        have ez : z = kV k' := by
          cases k' with
          | inl n => exact (RepB.of hz).int
          | inr n => exact (RepB.of hz).str
        have r2 : RepK X.K H2 A kvs ds := (r.tr (Tr.same s1)).tr (Tr.same s2)
        refine ⟨l, _, rfl, .inl ⟨kvs, k', s2 _ _ (s1 _ _ h2), ez, by rw [r.length]; exact hlen, rfl⟩, ?_⟩
        obtain ⟨o', u⟩ := ((ok.same s1).same s2).mut (x := .dK (putK kvs k' y)) (d' := .dict (putD (isK k') (kD k') d ds)) h h1 (.inl ⟨rfl, _, upd_same, (put_repK hy2 r2).tr (Tr.write hl)⟩)
        exact P4 _ _ A o' (((Tr.same s1).trans (Tr.same s2)).trans u)
      · cases k with
        | tuple ks =>
          obtain ⟨k', e4, e5⟩ := Option.map_eq_some_iff.mp (show (keysD ks).map _ = some q from e3)
          obtain rfl := keysD_some e4
          subst e5
          have r2 : RepT X.K H2 A kvs ds := (r.tr (Tr.same s1)).tr (Tr.same s2)
          cases hz with
          | tup nz hb rk =>
            rw [rep_key rk] at hb
            refine ⟨l, _, rfl, .inr ⟨kvs, k', _, s2 _ _ (s1 _ _ h2), rfl, hb, by rw [r.length]; exact hlen, rfl⟩, ?_⟩
            obtain ⟨o', u⟩ := ((ok.same s1).same s2).mut (x := .dT (putK kvs k' y)) (d' := .dict (putD (isT k') (.tuple (k'.map kD)) d ds)) h h1 (.inr ⟨rfl, _, upd_same, (put_repT hy2 r2).tr (Tr.write hl)⟩)
            exact P4 _ _ A o' (((Tr.same s1).trans (Tr.same s2)).trans u)
        | _ => cases e3
    · cases e3
  · exact P.elim

/-! ### loops -/
def loopL (tgt : TgF) (body : En → SR) : List D → En → SR
  | [], ρ => .nx ρ
  | d :: ds, ρ => match tgt d ρ with
    | none => .no
    | some ρ1 => match body ρ1 with
      | .nx ρ2 => loopL tgt body ds ρ2
      | .ct ρ2 => loopL tgt body ds ρ2
      | .bk ρ2 => .nx ρ2
      | r => r
def whileL (c : En → R Bool) (body : En → SR) : Nat → En → SR
  | 0, _ => .no
  | n + 1, ρ => .of (c ρ) ρ fun b => if b = true then (match body ρ with
      | .nx ρ2 => whileL c body n ρ2
      | .ct ρ2 => whileL c body n ρ2
      | .bk ρ2 => .nx ρ2
      | r => r) else .nx ρ
/-- an iterator that yields these data, one after another, as long as they stand -/
def WalkJ (K : Frg) (A : List Addr) (J : It) (H : Hp) (ds : List D) : Prop :=
  ∀ A' H', Tr A H A' H' → (∀ a ∈ A', H' a ≠ none) → (∀ (i : Nat) (d : D), ds[i]? = some d → J.go i H' ∧ ∀ x H'', J.yld i H' x H'' → Same H' H'' ∧ Rep K H'' A' x d) ∧ J.stop ds.length H'
def tFI (K : Frg) (mg : MgT) (W : WX) (f : En → R (List D)) : TI := fun σ H Rr => ∃ H0 A0 A ρ, Ok K H0 A0 A ρ σ H ∧ Post mg W σ H (fun ds H1 => ∀ J, WalkJ K A J H1 ds → Rr J H1) (f ρ)
abbrev FI (X : Cx) (W : WX) (tg iter : Expr) (f : En → R (List D)) : Prop := PI X tg iter (tFI X.K X.mg W f)
theorem impI {tg iter : Expr} {t t' : TI} (h : PI X tg iter t) (i : ∀ σ H Q, t' σ H Q → t σ H Q) : PI X tg iter t' := ⟨fun pins s σ H R I q => h.run pins s σ H R I (i _ _ _ q)⟩
def sFor (tgt : TgF) (l : En → R (List D)) (body : En → SR) : En → SR := fun ρ => .of (l ρ) ρ fun ds => loopL tgt body ds ρ
theorem fs_for {tg iter : Expr} {body : List Stmt} {l : En → R (List D)} {tgt : TgF} {gb : En → SR} {jx : List Nat} (hp : PassesOwn (model X.prog X.w) X.A X.env X.xe) (hc : X.calm = true) (hi : FI X W tg iter l) (hg : FG X tg jx tgt) (hb : FSs X W body gb)
    (hs : ∀ x, foldedSetIterable iter X.env x = pure x := by intro _; rfl) : FS X W (.For tg iter body [] pos) (sFor tgt l gb) := by
  refine impS (ps_for hp hc hi hg hb hs) fun Ee σ H ⟨H0, A0, A, ρ, ok, P⟩ => ?_
  refine ⟨H0, A0, A, ρ, ok, (P.of ok).mono fun ds H1 s1 P1 J hJ => ?_⟩
  refine ⟨fun i m σ2 H2 => m = ds.length - i ∧ i ≤ ds.length ∧ ∃ A2 ρ2, Ok X.K H0 A0 A2 ρ2 σ2 H2 ∧ Tr A H1 A2 H2 ∧ PostS X.K X.mg W H0 A0 A2 H2 Ee (loopL tgt gb (ds.drop i) ρ2), ⟨ds.length, rfl, Nat.zero_le _, A, ρ, ok.same s1, Tr.refl _ _, PostS.same (r := loopL tgt gb ds ρ) P1 s1⟩, ?_⟩
  rintro i m σ2 H2 ⟨rfl, hi, A2, ρ2, ok2, u2, P2⟩
  obtain ⟨hgo, hst⟩ := hJ A2 H2 u2 ok2.has
  by_cases hlt : i < ds.length
  · refine .inr ⟨(hgo i ds[i] (by simp [hlt])).1, fun σ' H' => ∃ A' ρ', Ok X.K H0 A0 A' ρ' σ' H' ∧ Tr A H1 A' H' ∧ PostS X.K X.mg W H0 A0 A' H' Ee (loopL tgt gb (ds.drop (i + 1)) ρ'), fun σ' H' ⟨A', ρ', h1, h2, h3⟩ => ⟨ds.length - (i + 1), by omega, rfl, hlt, A', ρ', h1, h2, h3⟩, fun x H' hy => ?_⟩
    obtain ⟨sx, rx⟩ := (hgo i ds[i] (by simp [hlt])).2 x H' hy
    rw [List.drop_eq_getElem_cons hlt] at P2
    unfold loopL at P2
    split at P2
    · exact P2.elim
    · rename_i ρ3 e3
      refine ⟨H0, A0, A2, ρ2, ds[i], ρ3, ok2.same sx, rx, e3, fun σ3 o3 _ => ⟨H0, A0, A2, ρ3, o3, ?_⟩⟩
      have u3 : Tr A H1 A2 H' := u2.trans (Tr.same sx)
      have back : ∀ (ρ4 : En), PostS X.K X.mg W H0 A0 A2 H2 Ee (loopL tgt gb (ds.drop (i + 1)) ρ4) → ∀ σ' H'' A', Ok X.K H0 A0 A' ρ4 σ' H'' → Tr A2 H' A' H'' → ∃ A' ρ', Ok X.K H0 A0 A' ρ' σ' H'' ∧ Tr A H1 A' H'' ∧ PostS X.K X.mg W H0 A0 A' H'' Ee (loopL tgt gb (ds.drop (i + 1)) ρ') :=
        fun ρ4 q σ' H'' A' o' t => ⟨A', ρ4, o', u3.trans t, PostS.tr q ((Tr.same sx).trans t)⟩
      cases hb : gb ρ3 with
      | nx ρ4 => rw [hb] at P2; exact fun σ' H'' A' o' t => back ρ4 P2 σ' H'' A' o' t
      | ct ρ4 => rw [hb] at P2; exact fun σ' H'' A' o' t => back ρ4 P2 σ' H'' A' o' t
      | bk ρ4 => rw [hb] at P2; exact fun σ' H'' A' o' t => P2 σ' H'' A' o' ((Tr.same sx).trans t)
      | rt d => rw [hb] at P2; exact P2
      | ex cc n ρ4 => rw [hb] at P2; exact fun u p σ' H'' A' o' t => P2 u p σ' H'' A' o' ((Tr.same sx).trans t)
      | no => rw [hb] at P2; exact P2
  · have e : i = ds.length := by omega
    subst e
    rw [List.drop_length] at P2
    exact .inl ⟨hst, P2 σ2 H2 A2 ok2 (Tr.refl _ _)⟩
def sWhile (n : Nat) (c : En → R Bool) (body : En → SR) : En → SR := whileL c body n
theorem fs_while {n : Nat} {body : List Stmt} {gb : En → SR} (hp : PassesOwn (model X.prog X.w) X.A X.env X.xe) (hc : FT X W c p) (hb : FSs X W body gb) : FS X W (.While c body [] pos) (sWhile n p gb) := by
  refine impS (ps_while hp hc hb) fun Ee σ H ⟨H0, A0, A, ρ, ok, P⟩ => ?_
  refine ⟨fun m σ2 H2 => ∃ A2 ρ2, Ok X.K H0 A0 A2 ρ2 σ2 H2 ∧ PostS X.K X.mg W H0 A0 A2 H2 Ee (whileL p gb m ρ2), ⟨n, A, ρ, ok, P⟩, ?_⟩
  rintro m σ2 H2 ⟨A2, ρ2, ok2, P2⟩
  cases m with
  | zero => exact P2.elim
  | succ m =>
    unfold whileL at P2
    refine ⟨H0, A0, A2, ρ2, ok2, (P2.of ok2).mono fun b H3 s3 P3 => ?_⟩
    cases b with
    | false => exact P3 σ2 H3 A2 (ok2.same s3) (Tr.same s3)
    | true =>
      refine ⟨fun σ' H' => ∃ A' ρ', Ok X.K H0 A0 A' ρ' σ' H' ∧ PostS X.K X.mg W H0 A0 A' H' Ee (whileL p gb m ρ'), fun σ' H' ⟨A', ρ', h1, h2⟩ => ⟨m, Nat.lt_succ_self _, A', ρ', h1, h2⟩, H0, A0, A2, ρ2, ok2.same s3, ?_⟩
      cases hb : gb ρ2 with
      | nx ρ4 => rw [hb] at P3; exact fun σ' H'' A' o' t => ⟨A', ρ4, o', PostS.tr (r := whileL p gb m ρ4) P3 ((Tr.same s3).trans t)⟩
      | ct ρ4 => rw [hb] at P3; exact fun σ' H'' A' o' t => ⟨A', ρ4, o', PostS.tr (r := whileL p gb m ρ4) P3 ((Tr.same s3).trans t)⟩
      | bk ρ4 => rw [hb] at P3; exact fun σ' H'' A' o' t => P3 σ' H'' A' o' ((Tr.same s3).trans t)
      | rt d => rw [hb] at P3; exact P3
      | ex cc n ρ4 => rw [hb] at P3; exact fun u p σ' H'' A' o' t => P3 u p σ' H'' A' o' ((Tr.same s3).trans t)
      | no => rw [hb] at P3; exact P3
end
end G

namespace G
open PySem PySem.Spec PyProof.Rows L2 RZ
section
variable {X : Cx} {W : WX} {e a b c o i elt tg iter tg1 iter1 : Expr} {ifs ifs1 : List Expr} {es : List Expr} {f fo fi : En → R D} {p p1 : En → R Bool} {l l1 : En → R (List D)} {tgt tgt1 : TgF} {pos pos' q1 q2 q3 : Pos} {x : Str}
theorem PI.or {t t' : TI} (h : PI X tg iter t) (h' : PI X tg iter t') : PI X tg iter (fun σ H R => t σ H R ∨ t' σ H R) := ⟨fun pins s σ H R I q => by
  rcases q with q | q
  · exact h.run pins s σ H R I q
  · exact h'.run pins s σ H R I q⟩

/-! ### what a for goes through -/
def cItems (f : En → R D) : En → R (List D) := fun ρ => (f ρ).bind fun d => ofO (itemsOf d)
theorem rep_listAt {K : Frg} {H H' : Hp} {A A' : List Addr} {v : V} {ds : List D} (r : Rep K H A v (.list ds)) : ∃ a vs, v = .ref a ∧ H a = some (.lst vs) ∧ RepL K H A vs ds ∧ a ∉ A := by
  cases r with
  | lst n h r => exact ⟨_, _, rfl, h, r, n⟩
theorem rep_tupAt {K : Frg} {H H' : Hp} {A A' : List Addr} {v : V} {ds : List D} (r : Rep K H A v (.tuple ds)) : ∃ a vs, v = .ref a ∧ H a = some (.tup vs) ∧ RepL K H A vs ds ∧ a ∉ A := by
  cases r with
  | tup n h r => exact ⟨_, _, rfl, h, r, n⟩
theorem sql_uniq {K : Frg} {H : Hp} {a : Addr} {vs : List V} {I : Nat} {x : V} (h : ∀ xs, SqL K H a xs → xs[I]? = some x) (e : H a = some (.lst vs)) : vs[I]? = some x := h vs (SqL.of e)
theorem walk_itl {K : Frg} {A : List Addr} {H : Hp} {a : Addr} {ds : List D} (r : Rep K H A (.ref a) (.list ds)) : WalkJ K A (Itl K a) H ds := fun A' H' u _ => by
  have r' := r.tr u
  obtain ⟨b, vs, e, h, rl, _⟩ := rep_listAt (H' := H') (A' := A') r'
  cases e
  refine ⟨fun i d hd => ?_, vs, SqL.of h, by rw [rl.length]; exact Nat.le_refl _⟩
  obtain ⟨v, h1, h2⟩ := rl.get hd
  refine ⟨⟨vs, v, SqL.of h, h1⟩, fun x H'' ⟨e2, y⟩ => ?_⟩
  subst e2
  have := sql_uniq y h
  rw [h1] at this
  cases this
  exact ⟨Same.refl _, h2⟩
theorem walk_itt {K : Frg} {A : List Addr} {H : Hp} {a : Addr} {ds : List D} (r : Rep K H A (.ref a) (.tuple ds)) : WalkJ K A (Itt K a) H ds := fun A' H' u _ => by
  have r' := r.tr u
  obtain ⟨b, vs, e, h, rl, _⟩ := rep_tupAt (H' := H') (A' := A') r'
  cases e
  refine ⟨fun i d hd => ?_, vs, SqT.of h, by rw [rl.length]; exact Nat.le_refl _⟩
  obtain ⟨v, h1, h2⟩ := rl.get hd
  refine ⟨⟨vs, v, SqT.of h, h1⟩, fun x H'' ⟨e2, y⟩ => ?_⟩
  subst e2
  have := y vs (SqT.of h)
  rw [h1] at this
  cases this
  exact ⟨Same.refl _, h2⟩
theorem fi_items (he : FE X W e f) : FI X W tg e (cItems f) := impI (PI.or (pi_list he) (pi_tup he)) fun σ H Q ⟨H0, A0, A, ρ, ok, P⟩ => by
  have P1 := P.bind
  cases hf : f ρ with
  | no => rw [hf] at P1; exact P1.elim
  | ex cc n =>
    rw [hf] at P1
    exact .inl ⟨H0, A0, A, ρ, ok, by rw [hf]; exact P1⟩
  | ok d =>
    rw [hf] at P1
    have P2 : ∀ H1, Same H H1 → ∃ ds, itemsOf d = some ds ∧ ∀ J, WalkJ X.K A J H1 ds → Q J H1 := fun H1 s => by
      obtain ⟨ds, e1, e2⟩ := Post.ofO (P1 H1 s)
      exact ⟨ds, e1, e2 H1 (Same.refl _)⟩
    cases d with
    | list ds =>
      refine .inl ⟨H0, A0, A, ρ, ok, ?_⟩
      rw [hf]
      refine fun H1 s v r => ?_
      obtain ⟨a, vs, e, h, rl, _⟩ := rep_listAt (H' := H1) (A' := A) r
      subst e
      obtain ⟨ds', e1, q⟩ := P2 H1 s
      cases e1
      exact ⟨a, rfl, ⟨vs, SqL.of h⟩, q _ (walk_itl r)⟩
    | tuple ds =>
      refine .inr ⟨H0, A0, A, ρ, ok, ?_⟩
      rw [hf]
      refine fun H1 s v r => ?_
      obtain ⟨a, vs, e, h, rl, _⟩ := rep_tupAt (H' := H1) (A' := A) r
      subst e
      obtain ⟨ds', e1, q⟩ := P2 H1 s
      cases e1
      exact ⟨a, rfl, ⟨vs, SqT.of h⟩, q _ (walk_itt r)⟩
    | _ =>
      obtain ⟨ds', e1, q⟩ := P2 H (Same.refl _)
      cases e1
/-- a, a + 1, .. : n of them -/
def rangeD (lo : Int) (n : Nat) : List D := (List.range n).map fun k => .int (lo + (k : Nat))
def dRange1 : List D → Option (List D)
  | [.int j] => if -(2 ^ 62) ≤ j ∧ j < 2 ^ 62 then some (rangeD 0 j.toNat) else none
  | _ => none
def dRange2 : List D → Option (List D)
  | [.int i, .int j] => if -(2 ^ 62) ≤ i ∧ i < 2 ^ 62 ∧ -(2 ^ 62) ≤ j ∧ j < 2 ^ 62 then some (rangeD i (j - i).toNat) else none
  | _ => none
def cIter (df : List D → Option (List D)) (l : En → R (List D)) : En → R (List D) := fun ρ => (l ρ).bind fun ds => ofO (df ds)
theorem walk_itr {K : Frg} {A : List Addr} {H : Hp} (lo : Int) (n : Nat) : WalkJ K A (Itr lo n) H (rangeD lo n) := fun A' H' u _ => by
  refine ⟨fun i d hd => ?_, by unfold rangeD; rw [List.length_map, List.length_range]; exact Nat.le_refl n⟩
  unfold rangeD at hd
  rw [List.getElem?_map] at hd
  obtain ⟨k, h1, h2⟩ := Option.map_eq_some_iff.mp hd
  have hk : i < n := by
    have := (List.getElem?_eq_some_iff.mp h1).1
    rwa [List.length_range] at this
  have e : k = i := by
    rw [List.getElem?_range hk] at h1
    exact (Option.some.inj h1).symm
  subst e
  subst h2
  refine ⟨hk, fun x H'' ⟨e2, y⟩ => ?_⟩
  subst e2
  subst y
  exact ⟨Same.refl _, .int _⟩
theorem fi_range1 (hg : Gl X "range") (hm : X.mg "range" = none) (ha : FAB X W [a] l) (hs : starEach [a] X.env = [(false, eval a X.env)] := by rfl) : FI X W tg (.Call (.Name "range" q1) [a] [] pos) (cIter dRange1 l) := impI (pi_range1 hg hm ha hs) fun σ H Q ⟨H0, A0, A, ρ, ok, P⟩ => by
  refine ⟨H0, A0, A, ρ, ok, P.bind.mono fun ds H1 s1 P1 vs hv => ?_⟩
  obtain ⟨es, e1, q⟩ := P1.ofO
  unfold dRange1 at e1
  split at e1
  · split at e1
    · rename_i hj
      cases e1
      obtain ⟨v, e2, h⟩ := pair1 hv
      obtain rfl := h.int
      exact ⟨_, e2, hj.1, hj.2, q H1 (Same.refl _) _ (walk_itr 0 _)⟩
    · cases e1
  · cases e1
theorem fi_range2 (hg : Gl X "range") (hm : X.mg "range" = none) (ha : FAB X W [a, b] l) (hs : starEach [a, b] X.env = [(false, eval a X.env), (false, eval b X.env)] := by rfl) (hs2 : starEach [b] X.env = [(false, eval b X.env)] := by rfl) :
    FI X W tg (.Call (.Name "range" q1) [a, b] [] pos) (cIter dRange2 l) := impI (pi_range2 hg hm ha hs hs2) fun σ H Q ⟨H0, A0, A, ρ, ok, P⟩ => by
  refine ⟨H0, A0, A, ρ, ok, P.bind.mono fun ds H1 s1 P1 vs hv => ?_⟩
  obtain ⟨es, e1, q⟩ := P1.ofO
  unfold dRange2 at e1
  split at e1
  · split at e1
    · rename_i hj
      cases e1
      obtain ⟨v, v2, e2, h, h2⟩ := pair2 hv
      obtain rfl := h.int
      obtain rfl := h2.int
      exact ⟨_, _, e2, hj, q H1 (Same.refl _) _ (walk_itr _ _)⟩
    · cases e1
  · cases e1
/-- with its place ahead -/
def enumL (k : Nat) : List D → List D
  | [] => []
  | d :: ds => .tuple [.int (k : Nat), d] :: enumL (k + 1) ds
theorem enumL_get : ∀ {ds : List D} {k i : Nat}, (enumL k ds)[i]? = ds[i]?.map fun d => .tuple [.int ((k + i : Nat) : Int), d]
  | [], _, _ => by simp [enumL]
  | d :: ds, k, 0 => by simp [enumL]
  | d :: ds, k, i + 1 => by
    unfold enumL
    rw [List.getElem?_cons_succ, List.getElem?_cons_succ, enumL_get, show k + 1 + i = k + (i + 1) by omega]
theorem enumL_length : ∀ (ds : List D) (k : Nat), (enumL k ds).length = ds.length
  | [], _ => rfl
  | d :: ds, k => by unfold enumL; rw [List.length_cons, List.length_cons, enumL_length ds]
def dEnum : List D → Option (List D)
  | [.list xs] => some (enumL 0 xs)
  | _ => none
theorem walk_ite {K : Frg} {A : List Addr} {H : Hp} {a : Addr} {ds : List D} (r : Rep K H A (.ref a) (.list ds)) : WalkJ K A (Ite K a) H (enumL 0 ds) := fun A' H' u hA => by
  have r' := r.tr u
  obtain ⟨b, vs, e, h, rl, _⟩ := rep_listAt (H' := H') (A' := A') r'
  cases e
  refine ⟨fun i d hd => ?_, vs, SqL.of h, by rw [rl.length, enumL_length]; exact Nat.le_refl _⟩
  rw [enumL_get] at hd
  obtain ⟨d1, h1, h2⟩ := Option.map_eq_some_iff.mp hd
  subst h2
  obtain ⟨v, h3, h4⟩ := rl.get h1
  refine ⟨⟨vs, v, SqL.of h, h3⟩, fun x H'' ⟨T, x1, e1, n, e2, y⟩ => ?_⟩
  subst e1
  subst e2
  have := sql_uniq y h
  rw [h3] at this
  cases this
  refine ⟨same_upd n, rep_tup (fun z => hA T z n) n (.cons ?_ (.one h4))⟩
  rw [Nat.zero_add]
  exact .int _
theorem fi_enum {elts : List Expr} {kk : Nat} {tpos : Pos} (hg : Gl X "enumerate") (hm : X.mg "enumerate" = none) (ha : FA X W [e] l) (hs : starEach [e] X.env = [(false, eval e X.env)] := by rfl) :
    FI X W (.Tuple elts kk tpos) (.Call (.Name "enumerate" q1) [e] [] pos) (cIter dEnum l) := impI (pi_enum hg hm ha hs) fun σ H Q ⟨H0, A0, A, ρ, ok, P⟩ => by
  refine ⟨H0, A0, A, ρ, ok, P.bind.mono fun ds H1 s1 P1 vs hv => ?_⟩
  obtain ⟨es, e1, q⟩ := P1.ofO
  unfold dEnum at e1
  split at e1
  · cases e1
    cases hv with
    | cons r t =>
      cases t
      obtain ⟨p, us, rfl, h1, rl, _⟩ := rep_listAt (H' := H1) (A' := A) r
      exact ⟨p, us, rfl, SqL.of h1, q H1 (Same.refl _) _ (walk_ite r)⟩
  · cases e1
def zipL : List D → List D → List D
  | a :: as, b :: bs => .tuple [a, b] :: zipL as bs
  | _, _ => []
theorem zipL_get : ∀ {as bs : List D} {i : Nat} {d : D}, (zipL as bs)[i]? = some d → ∃ x y, as[i]? = some x ∧ bs[i]? = some y ∧ d = .tuple [x, y]
  | [], _, _, _, h => by simp [zipL] at h
  | _ :: _, [], _, _, h => by simp [zipL] at h
  | a :: as, b :: bs, 0, d, h => ⟨a, b, rfl, rfl, by simpa [zipL] using h.symm⟩
  | a :: as, b :: bs, i + 1, d, h => by
    unfold zipL at h
    rw [List.getElem?_cons_succ] at h
    obtain ⟨x, y, h1, h2, h3⟩ := zipL_get h
    exact ⟨x, y, by rw [List.getElem?_cons_succ]; exact h1, by rw [List.getElem?_cons_succ]; exact h2, h3⟩
theorem zipL_length : ∀ (as bs : List D), (zipL as bs).length = min as.length bs.length
  | [], bs => by simp [zipL]
  | _ :: _, [] => by simp [zipL]
  | a :: as, b :: bs => by unfold zipL; rw [List.length_cons, List.length_cons, List.length_cons, zipL_length as bs]; omega
def dZip : List D → Option (List D)
  | [.list xs, .list ys] => some (zipL xs ys)
  | [.tuple xs, .tuple ys] => some (zipL xs ys)
  | _ => none
theorem walk_itz {K : Frg} {A : List Addr} {H : Hp} {a a2 : Addr} {ds es : List D} (r : Rep K H A (.ref a) (.list ds)) (r2 : Rep K H A (.ref a2) (.list es)) : WalkJ K A (Itz K a a2) H (zipL ds es) := fun A' H' u hA => by
  obtain ⟨b, vs, e, h, rl, _⟩ := rep_listAt (H' := H') (A' := A') (r.tr u)
  cases e
  obtain ⟨b, us, e, h', rl', _⟩ := rep_listAt (H' := H') (A' := A') (r2.tr u)
  cases e
  refine ⟨fun i d hd => ?_, vs, us, SqL.of h, SqL.of h', by rw [rl.length, rl'.length, zipL_length]; omega⟩
  obtain ⟨x, y, h1, h2, rfl⟩ := zipL_get hd
  obtain ⟨v, h3, h4⟩ := rl.get h1
  obtain ⟨v', h3', h4'⟩ := rl'.get h2
  refine ⟨⟨vs, us, v, v', SqL.of h, SqL.of h', h3, h3'⟩, fun x H'' ⟨T, x1, x2, e1, n, e2, y1, y2⟩ => ?_⟩
  subst e1
  subst e2
  have := sql_uniq y1 h
  rw [h3] at this
  cases this
  have := sql_uniq y2 h'
  rw [h3'] at this
  cases this
  exact ⟨same_upd n, rep_tup (fun z => hA T z n) n (.cons h4 (.one h4'))⟩
theorem walk_itzT {K : Frg} {A : List Addr} {H : Hp} {a a2 : Addr} {ds es : List D} (r : Rep K H A (.ref a) (.tuple ds)) (r2 : Rep K H A (.ref a2) (.tuple es)) : WalkJ K A (ItzT K a a2) H (zipL ds es) := fun A' H' u hA => by
  obtain ⟨b, vs, e, h, rl, _⟩ := rep_tupAt (H' := H') (A' := A') (r.tr u)
  cases e
  obtain ⟨b, us, e, h', rl', _⟩ := rep_tupAt (H' := H') (A' := A') (r2.tr u)
  cases e
  refine ⟨fun i d hd => ?_, vs, us, SqT.of h, SqT.of h', by rw [rl.length, rl'.length, zipL_length]; omega⟩
  obtain ⟨x, y, h1, h2, rfl⟩ := zipL_get hd
  obtain ⟨v, h3, h4⟩ := rl.get h1
  obtain ⟨v', h3', h4'⟩ := rl'.get h2
  refine ⟨⟨vs, us, v, v', SqT.of h, SqT.of h', h3, h3'⟩, fun x H'' ⟨T, x1, x2, e1, n, e2, y1, y2⟩ => ?_⟩
  subst e1
  subst e2
  have := y1 vs (SqT.of h)
  rw [h3] at this
  cases this
  have := y2 us (SqT.of h')
  rw [h3'] at this
  cases this
  exact ⟨same_upd n, rep_tup (fun z => hA T z n) n (.cons h4 (.one h4'))⟩
theorem repL1 {K : Frg} {H : Hp} {A : List Addr} {vs : List V} {d : D} (h : RepL K H A vs [d]) : ∃ v, vs = [v] ∧ Rep K H A v d := by
  cases h with
  | cons a t => cases t; exact ⟨_, rfl, a⟩
theorem repL2 {K : Frg} {H : Hp} {A : List Addr} {vs : List V} {d d2 : D} (h : RepL K H A vs [d, d2]) : ∃ v v2, vs = [v, v2] ∧ Rep K H A v d ∧ Rep K H A v2 d2 := by
  cases h with
  | cons a t =>
    obtain ⟨v2, rfl, b⟩ := repL1 t
    exact ⟨_, _, rfl, a, b⟩
theorem fi_zip {elts : List Expr} {kk : Nat} {tpos : Pos} (hg : Gl X "zip") (hm : X.mg "zip" = none) (ha : FA X W [a, b] l) (hs : starEach [a, b] X.env = (false, eval a X.env) :: starEach [b] X.env := by rfl) (hpl : (backTo pos (starEach [b] X.env)).any (·.1) = false := by rfl) :
    FI X W (.Tuple elts kk tpos) (.Call (.Name "zip" q1) [a, b] [] pos) (cIter dZip l) := impI (pi_zipA hg hm ha hs hpl) fun σ H Q ⟨H0, A0, A, ρ, ok, P⟩ => by
  refine ⟨H0, A0, A, ρ, ok, P.bind.mono fun ds H1 s1 P1 vs hv => ?_⟩
  obtain ⟨es, e1, q⟩ := P1.ofO
  unfold dZip at e1
  split at e1
  · cases e1
    obtain ⟨v, v2, rfl, r, r2⟩ := repL2 hv
    obtain ⟨p, us, rfl, h1, _⟩ := rep_listAt (H' := H1) (A' := A) r
    obtain ⟨p2, us2, rfl, h2, _⟩ := rep_listAt (H' := H1) (A' := A) r2
    exact ⟨p, p2, us, us2, rfl, .inl ⟨SqL.of h1, SqL.of h2, q H1 (Same.refl _) _ (walk_itz r r2)⟩⟩
  · cases e1
    obtain ⟨v, v2, rfl, r, r2⟩ := repL2 hv
    obtain ⟨p, us, rfl, h1, _⟩ := rep_tupAt (H' := H1) (A' := A) r
    obtain ⟨p2, us2, rfl, h2, _⟩ := rep_tupAt (H' := H1) (A' := A) r2
    exact ⟨p, p2, us, us2, rfl, .inr ⟨SqT.of h1, SqT.of h2, q H1 (Same.refl _) _ (walk_itzT r r2)⟩⟩
  · cases e1

/-! ### comprehensions -/
def wNo : WX := fun _ _ _ _ => False
def noX {α : Type} : R α → Option α
  | .ok a => some a
  | _ => none
@[simp] theorem noX_ok {α : Type} (a : α) : noX (R.ok a) = some a := rfl
theorem Post.noX {mg : MgT} {α : Type} {σ : St} {H : Hp} {P : α → Hp → Prop} {r : R α} {a : α} (h : G.noX r = some a) (q : ∀ H', Same H H' → P a H') : Post mg wNo σ H P r := by
  cases r with
  | ok b => cases h; exact q
  | ex c n => cases h
  | no => cases h
def cTrue : En → R Bool := fun _ => .ok true
abbrev FTs (X : Cx) (W : WX) (ifs : List Expr) (p : En → R Bool) : Prop := PTs X ifs (tFT X.K X.mg W p)
theorem impTs {ifs : List Expr} {t t' : TT} (h : PTs X ifs t) (i : ∀ σ H Q, t' σ H Q → t σ H Q) : PTs X ifs t' := ⟨fun pins s σ H Q I q => h.run pins s σ H Q I (i _ _ _ q)⟩
theorem fts_nil : FTs X W [] cTrue := impTs pts_nil fun σ H Q ⟨H0, A0, A, ρ, ok, P⟩ => Post.at (a := true) (P := fun b H' => Q b H') P
theorem fts_one {c : Expr} (h : FT X W c p) : FTs X W [c] p := pts_one h
def lcL (tgt : TgF) (p : En → R Bool) (f : En → R D) (ρ : En) : List D → Option (List D)
  | [] => some []
  | d :: ds => (tgt d ρ).bind fun ρ1 => (noX (p ρ1)).bind fun b => if b = true then (noX (f ρ1)).bind fun y => (lcL tgt p f ρ ds).map fun ys => y :: ys else lcL tgt p f ρ ds
def cLc (vs : List Nat) (l : En → R (List D)) (tgt : TgF) (p : En → R Bool) (f : En → R D) : En → R D := fun ρ => (l ρ).bind fun ds =>
  ofO ((lcL tgt p f (wipeE ρ vs) ds).bind fun ys => if ys.length ≤ sizeLine then some (.list ys) else none)
theorem lc_read {t : Bool} {own : List (Str × Nat)} {ix : List Nat} (hix : ∀ i ∈ ix, i ∈ own.map (·.2)) (σ : St) (H : Hp) (Q : VK) (hq : tFN X.K X.mg W t (cLc (own.map (·.2)) l tgt p f) σ H Q) :
    tLc (tFI X.K X.mg W l) (tFG X.K ix tgt) (tFT X.K X.mg wNo p) (tF X.K X.mg wNo f) (own.map (·.2)) σ H Q := by
  obtain ⟨H0, A0, A, ρ, ok, P⟩ := hq
  refine ⟨H0, A0, A, ρ, ok, P.bind.mono fun ds H1 s1 P1 J hJ L hL => ?_⟩
  obtain ⟨d, e1, q⟩ := P1.ofO
  obtain ⟨ys, e2, e3⟩ := Option.bind_eq_some_iff.mp e1
  split at e3
  rotate_left
  · cases e3
  rename_i hsz
  cases e3
  have hLa : H L = none := s1.free hL
  have ok1 := ok.same s1
  refine ⟨fun i m H2 => m = ds.length - i ∧ i ≤ ds.length ∧ Same H1 H2 ∧ ∃ vs ys1 ys2, H2 L = some (.lst vs) ∧ RepL X.K H2 (L :: A) vs ys1 ∧ lcL tgt p f (wipeE ρ (own.map (·.2))) (ds.drop i) = some ys2 ∧ ys = ys1 ++ ys2,
    ⟨ds.length, rfl, Nat.zero_le _, same_upd hL, [], [], ys, upd_same, .nil, e2, rfl⟩, ?_⟩
  rintro i m H2 ⟨rfl, hile, sm, vs, ys1, ys2, hLv, rl, el, ey⟩
  have okg : Ok X.K H0 (L :: A0) (L :: A) ρ σ H2 := ok1.grow sm hL (by rw [hLv]; intro z; cases z)
  have okw := okg.wipe (own.map (·.2))
  obtain ⟨hgo, hst⟩ := hJ (L :: A) H2 ⟨fun b x h _ => sm b x h, fun b hb => by
    rcases List.mem_cons.mp hb with rfl | hb
    · exact .inr hL
    · exact .inl hb⟩ okg.has
  by_cases hlt : i < ds.length
  · refine .inr ⟨(hgo i ds[i] (by simp [hlt])).1, fun H' => Same H1 H' ∧ ∃ vs ys1 ys2, H' L = some (.lst vs) ∧ RepL X.K H' (L :: A) vs ys1 ∧ lcL tgt p f (wipeE ρ (own.map (·.2))) (ds.drop (i + 1)) = some ys2 ∧ ys = ys1 ++ ys2,
      fun H' h => ⟨ds.length - (i + 1), by omega, rfl, hlt, h⟩, fun x H3 hy => ?_⟩
    obtain ⟨sx, rx⟩ := (hgo i ds[i] (by simp [hlt])).2 x H3 hy
    rw [List.drop_eq_getElem_cons hlt] at el
    unfold lcL at el
    obtain ⟨ρ1, g1, el⟩ := Option.bind_eq_some_iff.mp el
    obtain ⟨bb, g2, el⟩ := Option.bind_eq_some_iff.mp el
    refine ⟨H0, L :: A0, L :: A, wipeE ρ (own.map (·.2)), ds[i], ρ1, okw.same sx, rx, g1, fun σ2 o2 ag => ⟨(wipe_agree hix ag).trans wipe_wipe, H0, L :: A0, L :: A, ρ1, o2, Post.noX g2 fun H4 s4 => ?_⟩⟩
    cases bb with
    | false =>
      rw [if_neg (by decide)] at el
      rw [if_neg (by decide)]
      exact ⟨(sm.trans sx).trans s4, vs, ys1, ys2, s4 _ _ (sx _ _ hLv), (rl.same sx).same s4, el, ey⟩
    | true =>
      rw [if_pos rfl] at el
      rw [if_pos rfl]
      obtain ⟨y, g3, el⟩ := Option.bind_eq_some_iff.mp el
      obtain ⟨zs, g4, g5⟩ := Option.map_eq_some_iff.mp el
      subst g5
      refine ⟨H0, L :: A0, L :: A, ρ1, o2.same s4, Post.noX g3 fun H5 s5 v hv => ⟨vs, s5 _ _ (s4 _ _ (sx _ _ hLv)), ?_, fun b z hb => ?_, vs ++ [v], ys1 ++ [y], zs, upd_same, ((((rl.same sx).same s4).same s5).append (.one hv)).tr (Tr.write List.mem_cons_self), g4, by rw [ey]; simp⟩⟩
      · rw [rl.length]
        have : ys.length = ys1.length + (y :: zs).length := by rw [ey, List.length_append]
        rw [List.length_cons] at this
        omega
      · rw [upd_ne (ne_of_none hb hL)]
        exact s5 _ _ (s4 _ _ (sx _ _ (sm _ _ hb)))
  · have e : i = ds.length := by omega
    subst e
    rw [List.drop_length] at el
    cases el
    rw [List.append_nil] at ey
    subst ey
    exact .inl ⟨hst, q H2 sm _ ⟨L, rfl, hLa, vs, hLv, rl⟩⟩
theorem fn_lc {t : Bool} {scope : Scope} {own : List (Str × Nat)} {ix : List Nat} (hc : X.calm = true) (hN : X.N.Nodup) (hi : FI X W tg iter l) (okb : BlkOk X.N X.env.scope scope own)
    (hg : ∀ (s : Shared) (H : Hp) (C : Addr) (cl : List (Str × Addr)) (fp : List Addr), FG (X.blk s H scope (compEnvC scope cl C X.env) fp) tg ix tgt) (hix : ∀ i ∈ ix, i ∈ own.map (·.2))
    (ht : ∀ (s : Shared) (H : Hp) (C : Addr) (cl : List (Str × Addr)) (fp : List Addr), FTs (X.blk s H scope (compEnvC scope cl C X.env) fp) wNo ifs p)
    (he : ∀ (s : Shared) (H : Hp) (C : Addr) (cl : List (Str × Addr)) (fp : List Addr), FE (X.blk s H scope (compEnvC scope cl C X.env) fp) wNo elt f) (hs : ∀ x, foldedSetIterable iter X.env x = pure x := by intro _; rfl) :
    FN X W t (.ListComp elt [⟨tg, iter, ifs, 0⟩] scope pos) (cLc (own.map (·.2)) l tgt p f) :=
  impE (pe_lc (g := tFG X.K ix tgt) (tt := tFT X.K X.mg wNo p) (te := tF X.K X.mg wNo f) hc hN hi okb hg ht he hs) (lc_read hix)
theorem fs_setLcN {t : Bool} {i : Nat} {y : Str} {py spos : Pos} {scope : Scope} {own : List (Str × Nat)} {ix : List Nat} (hc : X.calm = true) (hN : X.N.Nodup) (hy : X.N[i]? = some y) (hyl : X.env.scope.names.lookup y = some .local) (hsw : swapsWith (.ListComp elt [⟨tg, iter, ifs, 0⟩] scope pos) (some (.Name y py)) spos.line X.env = pure true) (hi : FI X W tg iter l) (okb : BlkOk X.N X.env.scope scope own)
    (hg : ∀ (s : Shared) (H : Hp) (C : Addr) (cl : List (Str × Addr)) (fp : List Addr), FG (X.blk s H scope (compEnvC scope cl C X.env) fp) tg ix tgt) (hix : ∀ i ∈ ix, i ∈ own.map (·.2))
    (ht : ∀ (s : Shared) (H : Hp) (C : Addr) (cl : List (Str × Addr)) (fp : List Addr), FTs (X.blk s H scope (compEnvC scope cl C X.env) fp) wNo ifs p)
    (he : ∀ (s : Shared) (H : Hp) (C : Addr) (cl : List (Str × Addr)) (fp : List Addr), FE (X.blk s H scope (compEnvC scope cl C X.env) fp) wNo elt f) (hs : ∀ x, foldedSetIterable iter X.env x = pure x := by intro _; rfl) :
    FS X W (.Assign [.Name y py] (.ListComp elt [⟨tg, iter, ifs, 0⟩] scope pos) spos) (sSetN i t (cLc (own.map (·.2)) l tgt p f)) := impS (ps_setLc (g := tFG X.K ix tgt) (tt := tFT X.K X.mg wNo p) (te := tF X.K X.mg wNo f) hc hN hy hyl hsw hi okb hg ht he hs) fun D σ H ⟨H0, A0, A, ρ, o, P⟩ => lc_read (t := t) hix σ H _ ⟨H0, A0, A, ρ, o, (P.of o).mono fun d H1 s1 P1 v ⟨a, e, n, r⟩ => by
    subst e
    exact P1 _ H1 (a :: A) (o.setOwn s1 i n r) ⟨fun b x h _ => s1 b x h, fun b hb => by
      rcases List.mem_cons.mp hb with rfl | hb
      · exact .inr n
      · exact .inl hb⟩⟩
theorem fs_setLcV {i : Nat} {y : Str} {py spos : Pos} {scope : Scope} {own : List (Str × Nat)} {ix : List Nat} (hc : X.calm = true) (hN : X.N.Nodup) (hy : X.N[i]? = some y) (hyl : X.env.scope.names.lookup y = some .local) (hsw : swapsWith (.ListComp elt [⟨tg, iter, ifs, 0⟩] scope pos) (some (.Name y py)) spos.line X.env = pure true) (hi : FI X W tg iter l) (okb : BlkOk X.N X.env.scope scope own)
    (hg : ∀ (s : Shared) (H : Hp) (C : Addr) (cl : List (Str × Addr)) (fp : List Addr), FG (X.blk s H scope (compEnvC scope cl C X.env) fp) tg ix tgt) (hix : ∀ i ∈ ix, i ∈ own.map (·.2))
    (ht : ∀ (s : Shared) (H : Hp) (C : Addr) (cl : List (Str × Addr)) (fp : List Addr), FTs (X.blk s H scope (compEnvC scope cl C X.env) fp) wNo ifs p)
    (he : ∀ (s : Shared) (H : Hp) (C : Addr) (cl : List (Str × Addr)) (fp : List Addr), FE (X.blk s H scope (compEnvC scope cl C X.env) fp) wNo elt f) (hs : ∀ x, foldedSetIterable iter X.env x = pure x := by intro _; rfl) :
    FS X W (.Assign [.Name y py] (.ListComp elt [⟨tg, iter, ifs, 0⟩] scope pos) spos) (sSet i (cLc (own.map (·.2)) l tgt p f)) := impS (ps_setLc (g := tFG X.K ix tgt) (tt := tFT X.K X.mg wNo p) (te := tF X.K X.mg wNo f) hc hN hy hyl hsw hi okb hg ht he hs) fun D σ H ⟨H0, A0, A, ρ, o, P⟩ => lc_read (t := false) hix σ H _ ⟨H0, A0, A, ρ, o, (P.of o).mono fun d H1 s1 P1 v ⟨a, e, n, r⟩ => by
    subst e
    exact P1 _ H1 A ((o.same s1).set i (r.free (fun z => o.has a z n) fun b hb => List.mem_cons_of_mem _ hb)) (Tr.same s1)⟩
def lcL2 (tgt : TgF) (p : En → R Bool) (l1 : En → R (List D)) (vs1 : List Nat) (tgt1 : TgF) (p1 : En → R Bool) (f : En → R D) (ρ : En) : List D → Option (List D)
  | [] => some []
  | d :: ds => (tgt d ρ).bind fun ρ1 => (noX (p ρ1)).bind fun b => if b = true then (noX (l1 ρ1)).bind fun es => (lcL tgt1 p1 f (wipeE ρ1 vs1) es).bind fun ys => (lcL2 tgt p l1 vs1 tgt1 p1 f ρ ds).map fun zs => ys ++ zs
    else lcL2 tgt p l1 vs1 tgt1 p1 f ρ ds
def cLc2 (vs vs1 : List Nat) (l : En → R (List D)) (tgt : TgF) (p : En → R Bool) (l1 : En → R (List D)) (tgt1 : TgF) (p1 : En → R Bool) (f : En → R D) : En → R D := fun ρ => (l ρ).bind fun ds =>
  ofO ((lcL2 tgt p l1 vs1 tgt1 p1 f (wipeE ρ vs) ds).bind fun ys => if ys.length ≤ sizeLine then some (.list ys) else none)
theorem lc2_read {t : Bool} {own : List (Str × Nat)} {vs1 ix ix1 : List Nat} (hix : ∀ i ∈ ix, i ∈ own.map (·.2)) (hix1 : ∀ i ∈ ix1, i ∈ vs1) (σ : St) (H : Hp) (Q : VK) (hq : tFN X.K X.mg W t (cLc2 (own.map (·.2)) vs1 l tgt p l1 tgt1 p1 f) σ H Q) :
    tLc2 (tFI X.K X.mg W l) (tFG X.K ix tgt) (tFT X.K X.mg wNo p) (tFI X.K X.mg wNo l1) (tFG X.K ix1 tgt1) (tFT X.K X.mg wNo p1) (tF X.K X.mg wNo f) (own.map (·.2)) vs1 σ H Q := by
  obtain ⟨H0, A0, A, ρ, ok, P⟩ := hq
  refine ⟨H0, A0, A, ρ, ok, P.bind.mono fun ds H1 s1 P1 J hJ L hL => ?_⟩
  obtain ⟨d, e1, q⟩ := P1.ofO
  obtain ⟨ys, e2, e3⟩ := Option.bind_eq_some_iff.mp e1
  split at e3
  rotate_left
  · cases e3
  rename_i hsz
  cases e3
  have hLa : H L = none := s1.free hL
  have ok1 := ok.same s1
  refine ⟨fun i m H2 => m = ds.length - i ∧ i ≤ ds.length ∧ Same H1 H2 ∧ ∃ vs ys1 ys2, H2 L = some (.lst vs) ∧ RepL X.K H2 (L :: A) vs ys1 ∧ lcL2 tgt p l1 vs1 tgt1 p1 f (wipeE ρ (own.map (·.2))) (ds.drop i) = some ys2 ∧ ys = ys1 ++ ys2,
    ⟨ds.length, rfl, Nat.zero_le _, same_upd hL, [], [], ys, upd_same, .nil, e2, rfl⟩, ?_⟩
  rintro i m H2 ⟨rfl, hile, sm, vs, ys1, ys2, hLv, rl, el, ey⟩
  have okg : Ok X.K H0 (L :: A0) (L :: A) ρ σ H2 := ok1.grow sm hL (by rw [hLv]; intro z; cases z)
  have okw := okg.wipe (own.map (·.2))
  have trL : ∀ {H3 : Hp}, Same H1 H3 → Tr A H1 (L :: A) H3 := fun {H3} s3 => ⟨fun b x h _ => s3 b x h, fun b hb => by
    rcases List.mem_cons.mp hb with rfl | hb
    · exact .inr hL
    · exact .inl hb⟩
  obtain ⟨hgo, hst⟩ := hJ (L :: A) H2 (trL sm) okg.has
  by_cases hlt : i < ds.length
  · refine .inr ⟨(hgo i ds[i] (by simp [hlt])).1, fun H' => Same H1 H' ∧ ∃ vs ys1 ys2, H' L = some (.lst vs) ∧ RepL X.K H' (L :: A) vs ys1 ∧ lcL2 tgt p l1 vs1 tgt1 p1 f (wipeE ρ (own.map (·.2))) (ds.drop (i + 1)) = some ys2 ∧ ys = ys1 ++ ys2,
      fun H' h => ⟨ds.length - (i + 1), by omega, rfl, hlt, h⟩, fun x H3 hy => ?_⟩
    obtain ⟨sx, rx⟩ := (hgo i ds[i] (by simp [hlt])).2 x H3 hy
    rw [List.drop_eq_getElem_cons hlt] at el
    unfold lcL2 at el
    obtain ⟨ρ1, g1, el⟩ := Option.bind_eq_some_iff.mp el
    obtain ⟨bb, g2, el⟩ := Option.bind_eq_some_iff.mp el
    refine ⟨H0, L :: A0, L :: A, wipeE ρ (own.map (·.2)), ds[i], ρ1, okw.same sx, rx, g1, fun σ2 o2 ag => ⟨(wipe_agree hix ag).trans wipe_wipe, H0, L :: A0, L :: A, ρ1, o2, Post.noX g2 fun H4 s4 => ?_⟩⟩
    cases bb with
    | false =>
      rw [if_neg (by decide)] at el
      rw [if_neg (by decide)]
      exact ⟨(sm.trans sx).trans s4, vs, ys1, ys2, s4 _ _ (sx _ _ hLv), (rl.same sx).same s4, el, ey⟩
    | true =>
      rw [if_pos rfl] at el
      rw [if_pos rfl]
      obtain ⟨es, g3, el⟩ := Option.bind_eq_some_iff.mp el
      obtain ⟨us, g4, el⟩ := Option.bind_eq_some_iff.mp el
      obtain ⟨zs, g5, g6⟩ := Option.map_eq_some_iff.mp el
      subst g6
      refine ⟨H0, L :: A0, L :: A, ρ1, o2.same s4, Post.noX g3 fun H5 s5 J1 hJ1 => ?_⟩
      have sm5 : Same H1 H5 := ((sm.trans sx).trans s4).trans s5
      -- the inner loop: us are told already by ws1, still to be told ws2
      refine ⟨fun j k H6 => k = es.length - j ∧ j ≤ es.length ∧ Same H1 H6 ∧ Tr (L :: A) H5 (L :: A) H6 ∧ Ok X.K H0 (L :: A0) (L :: A) ρ1 σ2 H6 ∧ ∃ vs ws1 ws2, H6 L = some (.lst vs) ∧ RepL X.K H6 (L :: A) vs (ys1 ++ ws1) ∧ lcL tgt1 p1 f (wipeE ρ1 vs1) (es.drop j) = some ws2 ∧ us = ws1 ++ ws2,
        ⟨es.length, rfl, Nat.zero_le _, sm5, Tr.refl _ _, (o2.same s4).same s5, vs, [], us, s5 _ _ (s4 _ _ (sx _ _ hLv)), by rw [List.append_nil]; exact ((rl.same sx).same s4).same s5, g4, rfl⟩, ?_⟩
      rintro j k H6 ⟨rfl, hjle, sm6, u6, o6, vs6, ws1, ws2, hLv6, rl6, el6, ey6⟩
      obtain ⟨hgo1, hst1⟩ := hJ1 (L :: A) H6 u6 o6.has
      by_cases hlt1 : j < es.length
      · refine .inr ⟨(hgo1 j es[j] (by simp [hlt1])).1, fun H' => Same H1 H' ∧ Tr (L :: A) H5 (L :: A) H' ∧ Ok X.K H0 (L :: A0) (L :: A) ρ1 σ2 H' ∧ ∃ vs ws1 ws2, H' L = some (.lst vs) ∧ RepL X.K H' (L :: A) vs (ys1 ++ ws1) ∧ lcL tgt1 p1 f (wipeE ρ1 vs1) (es.drop (j + 1)) = some ws2 ∧ us = ws1 ++ ws2,
          fun H' h => ⟨es.length - (j + 1), by omega, rfl, hlt1, h⟩, fun x1 H7 hy1 => ?_⟩
        obtain ⟨sx1, rx1⟩ := (hgo1 j es[j] (by simp [hlt1])).2 x1 H7 hy1
        rw [List.drop_eq_getElem_cons hlt1] at el6
        unfold lcL at el6
        obtain ⟨ρ2, k1, el6⟩ := Option.bind_eq_some_iff.mp el6
        obtain ⟨b2, k2, el6⟩ := Option.bind_eq_some_iff.mp el6
        refine ⟨H0, L :: A0, L :: A, wipeE ρ1 vs1, es[j], ρ2, (o6.same sx1).wipe vs1, rx1, k1, fun σ3 o3 ag1 => ⟨(wipe_agree hix1 ag1).trans wipe_wipe, H0, L :: A0, L :: A, ρ2, o3, Post.noX k2 fun H8 s8 => ?_⟩⟩
        cases b2 with
        | false =>
          rw [if_neg (by decide)] at el6
          rw [if_neg (by decide)]
          exact ⟨(sm6.trans sx1).trans s8, (u6.trans (Tr.same sx1)).trans (Tr.same s8), (o6.same sx1).same s8, vs6, ws1, ws2, s8 _ _ (sx1 _ _ hLv6), (rl6.same sx1).same s8, el6, ey6⟩
        | true =>
          rw [if_pos rfl] at el6
          rw [if_pos rfl]
          obtain ⟨y, k3, el6⟩ := Option.bind_eq_some_iff.mp el6
          obtain ⟨xs, k4, k5⟩ := Option.map_eq_some_iff.mp el6
          subst k5
          refine ⟨H0, L :: A0, L :: A, ρ2, o3.same s8, Post.noX k3 fun H9 s9 v hv => ⟨vs6, s9 _ _ (s8 _ _ (sx1 _ _ hLv6)), ?_, fun b z hb => ?_, ?_, ?_, vs6 ++ [v], ws1 ++ [y], xs, upd_same, ?_, k4, by rw [ey6]; simp⟩⟩
          · rw [rl6.length]
            have h1 : ys.length = ys1.length + (us ++ zs).length := by rw [ey, List.length_append]
            rw [ey6] at h1
            simp only [List.length_append, List.length_cons] at h1 ⊢
            omega
          · rw [upd_ne (ne_of_none hb hL)]
            exact s9 _ _ (s8 _ _ (sx1 _ _ (sm6 _ _ hb)))
          · exact ((((u6.trans (Tr.same sx1)).trans (Tr.same s8)).trans (Tr.same s9))).trans (Tr.write List.mem_cons_self)
          · exact ((((o6.same sx1).same s8).same s9)).touch List.mem_cons_self (ok.ext.free hLa)
          · rw [← List.append_assoc]
            exact (((((rl6.same sx1).same s8).same s9)).append (.one hv)).tr (Tr.write List.mem_cons_self)
      · have e : j = es.length := by omega
        subst e
        rw [List.drop_length] at el6
        cases el6
        rw [List.append_nil] at ey6
        subst ey6
        exact .inl ⟨hst1, sm6, vs6, ys1 ++ us, zs, hLv6, rl6, g5, by rw [ey]; simp⟩
  · have e : i = ds.length := by omega
    subst e
    rw [List.drop_length] at el
    cases el
    rw [List.append_nil] at ey
    subst ey
    exact .inl ⟨hst, q H2 sm _ ⟨L, rfl, hLa, vs, hLv, rl⟩⟩
theorem fn_lc2 {t : Bool} {scope : Scope} {own : List (Str × Nat)} {vs1 ix ix1 : List Nat} (hc : X.calm = true) (hN : X.N.Nodup) (hi : FI X W tg iter l) (okb : BlkOk X.N X.env.scope scope own) (hv1 : ∀ i ∈ vs1, i ∈ own.map (·.2))
    (hg : ∀ (s : Shared) (H : Hp) (C : Addr) (cl : List (Str × Addr)) (fp : List Addr), FG (X.blk s H scope (compEnvC scope cl C X.env) fp) tg ix tgt) (hix : ∀ i ∈ ix, i ∈ own.map (·.2))
    (ht : ∀ (s : Shared) (H : Hp) (C : Addr) (cl : List (Str × Addr)) (fp : List Addr), FTs (X.blk s H scope (compEnvC scope cl C X.env) fp) wNo ifs p)
    (hi1 : ∀ (s : Shared) (H : Hp) (C : Addr) (cl : List (Str × Addr)) (fp : List Addr), FI (X.blk s H scope (compEnvC scope cl C X.env) fp) wNo tg1 iter1 l1)
    (hg1 : ∀ (s : Shared) (H : Hp) (C : Addr) (cl : List (Str × Addr)) (fp : List Addr), FG (X.blk s H scope (compEnvC scope cl C X.env) fp) tg1 ix1 tgt1) (hix1 : ∀ i ∈ ix1, i ∈ vs1)
    (ht1 : ∀ (s : Shared) (H : Hp) (C : Addr) (cl : List (Str × Addr)) (fp : List Addr), FTs (X.blk s H scope (compEnvC scope cl C X.env) fp) wNo ifs1 p1)
    (he : ∀ (s : Shared) (H : Hp) (C : Addr) (cl : List (Str × Addr)) (fp : List Addr), FE (X.blk s H scope (compEnvC scope cl C X.env) fp) wNo elt f) (hs : ∀ x, foldedSetIterable iter X.env x = pure x := by intro _; rfl) (hs1 : ∀ env x, foldedSetIterable iter1 env x = pure x := by intro _ _; rfl) :
    FN X W t (.ListComp elt [⟨tg, iter, ifs, 0⟩, ⟨tg1, iter1, ifs1, 0⟩] scope pos) (cLc2 (own.map (·.2)) vs1 l tgt p l1 tgt1 p1 f) :=
  impE (pe_lc2 (g := tFG X.K ix tgt) (tt := tFT X.K X.mg wNo p) (wi1 := tFI X.K X.mg wNo l1) (g1 := tFG X.K ix1 tgt1) (tt1 := tFT X.K X.mg wNo p1) (te := tF X.K X.mg wNo f) hc hN hi okb hv1 hg ht hi1 hg1 ht1 he hs hs1) (lc2_read hix hix1)
theorem fs_setLc2N {t : Bool} {i : Nat} {y : Str} {py spos : Pos} {scope : Scope} {own : List (Str × Nat)} {vs1 ix ix1 : List Nat} (hc : X.calm = true) (hN : X.N.Nodup) (hy : X.N[i]? = some y) (hyl : X.env.scope.names.lookup y = some .local) (hsw : swapsWith (.ListComp elt [⟨tg, iter, ifs, 0⟩, ⟨tg1, iter1, ifs1, 0⟩] scope pos) (some (.Name y py)) spos.line X.env = pure true) (hi : FI X W tg iter l) (okb : BlkOk X.N X.env.scope scope own) (hv1 : ∀ i ∈ vs1, i ∈ own.map (·.2))
    (hg : ∀ (s : Shared) (H : Hp) (C : Addr) (cl : List (Str × Addr)) (fp : List Addr), FG (X.blk s H scope (compEnvC scope cl C X.env) fp) tg ix tgt) (hix : ∀ i ∈ ix, i ∈ own.map (·.2))
    (ht : ∀ (s : Shared) (H : Hp) (C : Addr) (cl : List (Str × Addr)) (fp : List Addr), FTs (X.blk s H scope (compEnvC scope cl C X.env) fp) wNo ifs p)
    (hi1 : ∀ (s : Shared) (H : Hp) (C : Addr) (cl : List (Str × Addr)) (fp : List Addr), FI (X.blk s H scope (compEnvC scope cl C X.env) fp) wNo tg1 iter1 l1)
    (hg1 : ∀ (s : Shared) (H : Hp) (C : Addr) (cl : List (Str × Addr)) (fp : List Addr), FG (X.blk s H scope (compEnvC scope cl C X.env) fp) tg1 ix1 tgt1) (hix1 : ∀ i ∈ ix1, i ∈ vs1)
    (ht1 : ∀ (s : Shared) (H : Hp) (C : Addr) (cl : List (Str × Addr)) (fp : List Addr), FTs (X.blk s H scope (compEnvC scope cl C X.env) fp) wNo ifs1 p1)
    (he : ∀ (s : Shared) (H : Hp) (C : Addr) (cl : List (Str × Addr)) (fp : List Addr), FE (X.blk s H scope (compEnvC scope cl C X.env) fp) wNo elt f) (hs : ∀ x, foldedSetIterable iter X.env x = pure x := by intro _; rfl) (hs1 : ∀ env x, foldedSetIterable iter1 env x = pure x := by intro _ _; rfl) :
    FS X W (.Assign [.Name y py] (.ListComp elt [⟨tg, iter, ifs, 0⟩, ⟨tg1, iter1, ifs1, 0⟩] scope pos) spos) (sSetN i t (cLc2 (own.map (·.2)) vs1 l tgt p l1 tgt1 p1 f)) := impS (ps_setLc2 (g := tFG X.K ix tgt) (tt := tFT X.K X.mg wNo p) (wi1 := tFI X.K X.mg wNo l1) (g1 := tFG X.K ix1 tgt1) (tt1 := tFT X.K X.mg wNo p1) (te := tF X.K X.mg wNo f) hc hN hy hyl hsw hi okb hv1 hg ht hi1 hg1 ht1 he hs hs1) fun D σ H ⟨H0, A0, A, ρ, o, P⟩ => lc2_read (t := t) hix hix1 σ H _ ⟨H0, A0, A, ρ, o, (P.of o).mono fun d H1 s1 P1 v ⟨a, e, n, r⟩ => by
    subst e
    exact P1 _ H1 (a :: A) (o.setOwn s1 i n r) ⟨fun b x h _ => s1 b x h, fun b hb => by
      rcases List.mem_cons.mp hb with rfl | hb
      · exact .inr n
      · exact .inl hb⟩⟩
theorem fs_setLc2V {i : Nat} {y : Str} {py spos : Pos} {scope : Scope} {own : List (Str × Nat)} {vs1 ix ix1 : List Nat} (hc : X.calm = true) (hN : X.N.Nodup) (hy : X.N[i]? = some y) (hyl : X.env.scope.names.lookup y = some .local) (hsw : swapsWith (.ListComp elt [⟨tg, iter, ifs, 0⟩, ⟨tg1, iter1, ifs1, 0⟩] scope pos) (some (.Name y py)) spos.line X.env = pure true) (hi : FI X W tg iter l) (okb : BlkOk X.N X.env.scope scope own) (hv1 : ∀ i ∈ vs1, i ∈ own.map (·.2))
    (hg : ∀ (s : Shared) (H : Hp) (C : Addr) (cl : List (Str × Addr)) (fp : List Addr), FG (X.blk s H scope (compEnvC scope cl C X.env) fp) tg ix tgt) (hix : ∀ i ∈ ix, i ∈ own.map (·.2))
    (ht : ∀ (s : Shared) (H : Hp) (C : Addr) (cl : List (Str × Addr)) (fp : List Addr), FTs (X.blk s H scope (compEnvC scope cl C X.env) fp) wNo ifs p)
    (hi1 : ∀ (s : Shared) (H : Hp) (C : Addr) (cl : List (Str × Addr)) (fp : List Addr), FI (X.blk s H scope (compEnvC scope cl C X.env) fp) wNo tg1 iter1 l1)
    (hg1 : ∀ (s : Shared) (H : Hp) (C : Addr) (cl : List (Str × Addr)) (fp : List Addr), FG (X.blk s H scope (compEnvC scope cl C X.env) fp) tg1 ix1 tgt1) (hix1 : ∀ i ∈ ix1, i ∈ vs1)
    (ht1 : ∀ (s : Shared) (H : Hp) (C : Addr) (cl : List (Str × Addr)) (fp : List Addr), FTs (X.blk s H scope (compEnvC scope cl C X.env) fp) wNo ifs1 p1)
    (he : ∀ (s : Shared) (H : Hp) (C : Addr) (cl : List (Str × Addr)) (fp : List Addr), FE (X.blk s H scope (compEnvC scope cl C X.env) fp) wNo elt f) (hs : ∀ x, foldedSetIterable iter X.env x = pure x := by intro _; rfl) (hs1 : ∀ env x, foldedSetIterable iter1 env x = pure x := by intro _ _; rfl) :
    FS X W (.Assign [.Name y py] (.ListComp elt [⟨tg, iter, ifs, 0⟩, ⟨tg1, iter1, ifs1, 0⟩] scope pos) spos) (sSet i (cLc2 (own.map (·.2)) vs1 l tgt p l1 tgt1 p1 f)) := impS (ps_setLc2 (g := tFG X.K ix tgt) (tt := tFT X.K X.mg wNo p) (wi1 := tFI X.K X.mg wNo l1) (g1 := tFG X.K ix1 tgt1) (tt1 := tFT X.K X.mg wNo p1) (te := tF X.K X.mg wNo f) hc hN hy hyl hsw hi okb hv1 hg ht hi1 hg1 ht1 he hs hs1) fun D σ H ⟨H0, A0, A, ρ, o, P⟩ => lc2_read (t := false) hix hix1 σ H _ ⟨H0, A0, A, ρ, o, (P.of o).mono fun d H1 s1 P1 v ⟨a, e, n, r⟩ => by
    subst e
    exact P1 _ H1 A ((o.same s1).set i (r.free (fun z => o.has a z n) fun b hb => List.mem_cons_of_mem _ hb)) (Tr.same s1)⟩
end
end G

namespace G
open PySem PySem.Spec PyProof.Rows L2

/-! ### in -/
def flatB1 : D → Bool
  | .none => true
  | .bool _ => true
  | .int _ => true
  | .str _ => true
  | _ => false
/-- whether x is in y -/
def inB (x : D) : D → Option Bool
  | .list ds => if SeqAt.shaped x = true ∧ SeqAt.shaped (.list ds) = true then some (ds.any fun z => PyData.eqv z x) else none
  | .tuple ds => if flatB1 x = true ∧ ds.all flatB1 = true then some (ds.any fun z => PyData.eqv z x) else none
  | .dict kvs => match x with
    | .tuple ds => (keysD ds).bind fun ks => if (kvs.all fun kv => (keyD kv.1).isNone) = true then some (getT kvs ks).isSome else none
    | x => (keyD x).bind fun k => if (kvs.all fun kv => (keyD kv.1).isSome) = true then some (getK kvs k).isSome else none
  | _ => none
def dIn (x y : D) : Option D := (inB x y).map .bool
def dNotIn (x y : D) : Option D := (inB x y).map fun b => .bool (!b)
section
variable {X : Cx}
theorem flat_V {K : Frg} {H : Hp} {A : List Addr} {v : V} {d : D} (h : Rep K H A v d) (f : flatB1 d = true) : flatV v = true ∧ ∀ w e, Rep K H A w e → flatB1 e = true → eqV v w = PyData.eqv d e := by
  cases h with
  | non => exact ⟨rfl, fun w e hw he => by cases hw <;> first | (simp [eqV, PyData.eqv]; done) | cases he⟩
  | bl b => exact ⟨rfl, fun w e hw he => by cases hw <;> first | (simp [eqV, PyData.eqv]; done) | cases he⟩
  | int b => exact ⟨rfl, fun w e hw he => by cases hw <;> first | (simp [eqV, PyData.eqv]; done) | cases he⟩
  | str b => exact ⟨rfl, fun w e hw he => by cases hw <;> first | (simp [eqV, PyData.eqv]; done) | cases he⟩
  | _ => cases f
theorem flat_all {K : Frg} {H : Hp} {A : List Addr} {w : V} {e : D} (hw : Rep K H A w e) (he : flatB1 e = true) : ∀ {vs : List V} {ds : List D}, RepL K H A vs ds → ds.all flatB1 = true → vs.all flatV = true ∧ inV w vs = ds.any fun z => PyData.eqv z e
  | _, _, .nil, _ => ⟨rfl, rfl⟩
  | _, _, .cons a t, h => by
    rw [List.all_cons, Bool.and_eq_true] at h
    obtain ⟨h1, h2⟩ := flat_V a h.1
    obtain ⟨h3, h4⟩ := flat_all hw he t h.2
    refine ⟨by rw [List.all_cons, h1, h3]; rfl, ?_⟩
    unfold inV at h4 ⊢
    rw [List.any_cons, List.any_cons, h4, h2 w e hw he]
def rInDc (neg : Bool) : R2 := fun x y H Q => ∃ a o, y = .ref a ∧ DGet H a x o ∧ Q (.bl (if neg then !o.isSome else o.isSome)) H
theorem op_inDc (hu : X.A.units + 1 < cLine) : OpR X (compareOp .In) (rInDc false) := by
  intro pins s σ H x y v u Q I rx ry h
  obtain ⟨a, o, rfl, g, q⟩ := h
  cases ry
  exact d_in hu I g rx fun s' I' => ⟨.bl _, H, I', rfl, q⟩
theorem op_notInDc (hu : X.A.units + 1 < cLine) : OpR X (compareOp .NotIn) (rInDc true) := by
  intro pins s σ H x y v u Q I rx ry h
  obtain ⟨a, o, rfl, g, q⟩ := h
  cases ry
  exact d_notIn hu I g rx fun s' I' => ⟨.bl _, H, I', rfl, q⟩
/-- an empty dict, of whichever keys -/
theorem bare {P : Program} {w : World} {H : Hp} {h : Heap} {a : Addr} (ok : HOk P w H h) (e : Rd H a (.dK []) ∨ Rd H a (.dT [])) :
    (a == sysModules) = false ∧ h.DictOf (mixKind P w) a [] ∧ h.DictOfH (tupleKind (mixKind P w)) a [] := by
  have q : (a == sysModules) = false ∧ ∃ o es ep, h.get? a = some o ∧ o.ExactDict ∧ o.data = .dict es ep ∧ es.toList = [] := by
    rcases e with e | e
    · obtain ⟨_, hd, vs, rel, dd⟩ := dk_rd ok e
      cases rel
      obtain ⟨o, es, ep, h1, h2, h3, _, h5, _⟩ := dd
      exact ⟨hd, o, es, ep, h1, h2, h3, by cases h6 : es.toList with | nil => rfl | cons x y => rw [h6] at h5; cases h5⟩
    · obtain ⟨_, hd, xs, rel, dd⟩ := dt_rd ok e
      cases rel
      obtain ⟨o, es, ep, h1, h2, h3, h4, _⟩ := dd
      exact ⟨hd, o, es, ep, h1, h2, h3, h4⟩
  obtain ⟨hd, o, es, ep, h1, h2, h3, h4⟩ := q
  have h5 : es = #[] := Array.toList_eq_nil_iff.mp h4
  subst h5
  exact ⟨hd, ⟨o, #[], ep, h1, h2, h3, fun x hx => by simp at hx, .nil, List.nodup_nil⟩, ⟨o, #[], ep, h1, h2, h3, rfl, fun x hx => absurd hx List.not_mem_nil, List.nodup_nil⟩⟩
def rInE (neg : Bool) : R2 := fun x y H Q => ∃ a, y = .ref a ∧ (Rd H a (.dK []) ∨ Rd H a (.dT [])) ∧ ((∃ k, x = kV k) ∨ ∃ (b : Addr) (ks : List Key), x = .ref b ∧ H b = some (.tup (ks.map kV))) ∧ Q (.bl neg) H
theorem op_inE (hu : X.A.units + 1 < cLine) : OpR X (compareOp .In) (rInE false) := by
  intro pins s σ H x y v u Q I rx ry h
  obtain ⟨a, rfl, e, k, q⟩ := h
  cases ry
  obtain ⟨hd, d1, d2⟩ := bare I.hok e
  rcases k with ⟨k, rfl⟩ | ⟨b, ks, rfl, eb⟩
  · exact wpAny_in_of (kV_is rx) hd d1.mapOf ⟨.bl _, H, I.tok _, rfl, q⟩
  · cases rx
    exact wpAny_in_heap (tupleKind_room_in1 hu) (key_of I.hok eb) hd d2 ⟨.bl _, H, I.tok _, rfl, q⟩
theorem op_notInE (hu : X.A.units + 1 < cLine) : OpR X (compareOp .NotIn) (rInE true) := by
  intro pins s σ H x y v u Q I rx ry h
  obtain ⟨a, rfl, e, k, q⟩ := h
  cases ry
  obtain ⟨hd, d1, d2⟩ := bare I.hok e
  rcases k with ⟨k, rfl⟩ | ⟨b, ks, rfl, eb⟩
  · exact wpAny_notIn_of (kV_is rx) hd d1.mapOf ⟨.bl _, H, I.tok _, rfl, q⟩
  · cases rx
    exact wpAny_notIn_heap (tupleKind_room_in1 hu) (key_of I.hok eb) hd d2 ⟨.bl _, H, I.tok _, rfl, q⟩
theorem in_read {K : Frg} {H : Hp} {A : List Addr} {x y : V} {d1 d2 : D} {b : Bool} (hx : Rep K H A x d1) (hy : RepB K H A y d2) (e : inB d1 d2 = some b) :
    (∃ ds, d2 = .list ds ∧ Dp K H x d1 ∧ Dp K H y (.list ds) ∧ SeqAt.shaped d1 = true ∧ SeqAt.shaped (.list ds) = true ∧ b = ds.any fun z => PyData.eqv z d1) ∨
    (∃ p xs, y = .ref p ∧ SqT K H p xs ∧ flatV x = true ∧ xs.all flatV = true ∧ inV x xs = b) ∨ (∃ a o, y = .ref a ∧ DGet H a x o ∧ o.isSome = b) ∨
    ∃ a, y = .ref a ∧ (Rd H a (.dK []) ∨ Rd H a (.dT [])) ∧ ((∃ k, x = kV k) ∨ ∃ (b : Addr) (ks : List Key), x = .ref b ∧ H b = some (.tup (ks.map kV))) ∧ b = false := by
  unfold inB at e
  split at e
  · rename_i ds
    split at e
    · rename_i h
      cases e
      exact .inl ⟨ds, rfl, (RepB.of hx).dp h.1, hy.dp h.2, h.1, h.2, rfl⟩
    · cases e
  · split at e
    · rename_i h
      cases e
      obtain ⟨p, xs, rfl, h1, r⟩ := hy.tup
      obtain ⟨h3, h4⟩ := flat_all hx h.1 r h.2
      exact .inr (.inl ⟨p, xs, rfl, h1, (flat_V hx h.1).1, h3, h4⟩)
    · cases e
  · rename_i kvs
    obtain ⟨a, rfl, hd⟩ := hy.dict
    split at e
    · rename_i ds
      obtain ⟨ks, e1, e2⟩ := Option.bind_eq_some_iff.mp e
      clear e
      obtain rfl := keysD_some e1
      split at e2
      · rename_i hk
        cases e2
        cases hx with
        | tup n hb rk =>
          rw [rep_key rk] at hb
          rcases hd with ⟨rows, h1, r⟩ | ⟨rows, h1, r⟩
          · obtain rfl := repT_of_K r hk
            cases r
            exact .inr (.inr (.inr ⟨a, rfl, .inl h1, .inr ⟨_, ks, rfl, hb⟩, rfl⟩))
          · refine .inr (.inr (.inl ⟨a, valV rows ks, rfl, .inr ⟨rows, ks, _, h1, rfl, hb, rfl⟩, ?_⟩))
            cases hg : getT kvs ks with
            | none => rw [(getT_rep r).2 hg]; rfl
            | some z => obtain ⟨v, h2, _⟩ := (getT_rep r).1 z hg; rw [h2]; rfl
      · cases e2
    · rename_i nt
      obtain ⟨k, e1, e2⟩ := Option.bind_eq_some_iff.mp e
      clear e
      obtain rfl := keyD_some e1
      split at e2
      · rename_i hk
        cases e2
        have ex : x = kV k := by
          cases k with
          | inl n => exact (RepB.of hx).int
          | inr n => exact (RepB.of hx).str
        rcases hd with ⟨rows, h1, r⟩ | ⟨rows, h1, r⟩
        · refine .inr (.inr (.inl ⟨a, valV rows k, rfl, .inl ⟨rows, k, h1, ex, rfl⟩, ?_⟩))
          cases hg : getK kvs k with
          | none => rw [(getK_rep r).2 hg]; rfl
          | some z => obtain ⟨v, h2, _⟩ := (getK_rep r).1 z hg; rw [h2]; rfl
        · obtain rfl := repK_of_T r hk
          cases r
          exact .inr (.inr (.inr ⟨a, rfl, .inr h1, .inl ⟨k, ex⟩, rfl⟩))
      · cases e2
  · cases e
/-- .. the left operand data nobody changes, the right one borrowed -/
def DOpI (X : Cx) (F : Value → Value → Sem Value) (dop : D → D → Option D) : Prop :=
  ∃ r : R2, OpR X F r ∧ ∀ (H : Hp) (A : List Addr) (x y : V) (d1 d2 d : D) (Q : VK), (∀ a ∈ A, H a ≠ none) → Rep X.K H A x d1 → RepB X.K H A y d2 → dop d1 d2 = some d → (∀ v H', Same H H' → Rep X.K H' A v d → Q v H') → r x y H Q
theorem OpR.or {F : Value → Value → Sem Value} {r q : R2} (h : OpR X F r) (k : OpR X F q) : OpR X F (fun x y H Q => r x y H Q ∨ q x y H Q) := by
  intro pins s σ H x y v u Q I rx ry z
  rcases z with z | z
  · exact h pins s σ H x y v u Q I rx ry z
  · exact k pins s σ H x y v u Q I rx ry z
/-- what `in` comes to -/
theorem do_in (hu : X.A.units + 65 < cLine) : DOpI X (compareOp .In) dIn := by
  refine ⟨_, (op_inD hu).or (op_in_seq.or ((op_inDc (by omega)).or (op_inE (by omega)))), fun H A x y d1 d2 d Q hA hx hy e q => ?_⟩
  obtain ⟨b, e1, rfl⟩ := Option.map_eq_some_iff.mp e
  have q' : Q (.bl b) H := q _ H (Same.refl H) (.bl b)
  rcases in_read hx hy e1 with ⟨ds, rfl, h1, h2, h3, h4, rfl⟩ | ⟨p, xs, rfl, h1, h2, h3, rfl⟩ | ⟨a, o, rfl, h1, rfl⟩ | ⟨a, rfl, h1, h2, rfl⟩
  · exact .inl ⟨d1, ds, h1, h2, h3, h4, q'⟩
  · exact .inr (.inl ⟨p, xs, rfl, .inr h1, h2, h3, q'⟩)
  · exact .inr (.inr (.inl ⟨a, o, rfl, h1, q'⟩))
  · exact .inr (.inr (.inr ⟨a, rfl, h1, h2, q'⟩))
theorem do_notin (hu : X.A.units + 65 < cLine) : DOpI X (compareOp .NotIn) dNotIn := by
  refine ⟨_, (op_notInD hu).or (op_notIn_seq.or ((op_notInDc (by omega)).or (op_notInE (by omega)))), fun H A x y d1 d2 d Q hA hx hy e q => ?_⟩
  obtain ⟨b, e1, rfl⟩ := Option.map_eq_some_iff.mp e
  have q' : Q (.bl (!b)) H := q _ H (Same.refl H) (.bl (!b))
  rcases in_read hx hy e1 with ⟨ds, rfl, h1, h2, h3, h4, rfl⟩ | ⟨p, xs, rfl, h1, h2, h3, rfl⟩ | ⟨a, o, rfl, h1, rfl⟩ | ⟨a, rfl, h1, h2, rfl⟩
  · exact .inl ⟨d1, ds, h1, h2, h3, h4, q'⟩
  · exact .inr (.inl ⟨p, xs, rfl, .inr h1, h2, h3, q'⟩)
  · exact .inr (.inr (.inl ⟨a, o, rfl, h1, q'⟩))
  · exact .inr (.inr (.inr ⟨a, rfl, h1, h2, q'⟩))
variable {W : WX} {a b : Expr} {f g : En → R D} {op : CmpOp} {dop : D → D → Option D} {pos : Pos}
theorem fe_inD (ho : DOpI X (compareOp op) dop) (ha : FE X W a f) (hb : FB X W b g) (hm : behindInMarks op b = false) : FE X W (.Compare a [op] [b] pos) (cBin dop f g) := by
  obtain ⟨r, hr, hs⟩ := ho
  refine impE (pe_cmpR hr ha hb hm) fun σ H Q ⟨H0, A0, A, ρ, o, P⟩ => ?_
  refine ⟨H0, A0, A, ρ, o, P.bind.mono fun d1 H1 s1 P1 x hx => ?_⟩
  refine ⟨H0, A0, A, ρ, o.same s1, P1.bind.mono fun d2 H2 s2 P2 y hy => ?_⟩
  obtain ⟨d, e, P3⟩ := P2.ofO
  exact hs H2 A x y d1 d2 d Q ((o.same s1).same s2).has (hx.same s2) hy e fun v H' s3 hv => P3 H' s3 v hv
theorem ft_inD (ho : DOpI X (compareOp op) dop) (ha : FE X W a f) (hb : FB X W b g) (hm : behindInMarks op b = false) : FT X W (.Compare a [op] [b] pos) (cBinT dop f g) := by
  obtain ⟨r, hr, hs⟩ := ho
  refine impT (pt_cmpR hr ha hb hm) fun σ H Q ⟨H0, A0, A, ρ, o, P⟩ => ?_
  refine ⟨H0, A0, A, ρ, o, P.bind.mono fun d1 H1 s1 P1 x hx => ?_⟩
  refine ⟨H0, A0, A, ρ, o.same s1, P1.bind.mono fun d2 H2 s2 P2 y hy => ?_⟩
  obtain ⟨k, e, P3⟩ := P2.ofO
  obtain ⟨d, e1, e2⟩ := Option.bind_eq_some_iff.mp e
  obtain rfl := toB_some e2
  exact hs H2 A x y d1 d2 _ _ ((o.same s1).same s2).has (hx.same s2) hy e1 fun v H' s3 hv => ⟨k, (RepB.of hv).bool, P3 H' s3⟩
end
end G

namespace G
open PySem PySem.Spec PyProof.Rows L2

/-! ### what a def comes to -/
/-- the wish of a call's result -/
def Want (K : Frg) (mg : MgT) (H : Hp) (Av : List Addr) (Q : VK) (E : XK) : R D → Prop
  | .ok d => ∀ v H', Same H H' → Rep K H' Av v d → Q v H'
  | .ex c n => ∀ u p H', Same H H' → H p = none → ErrAt mg c n u p H' → E u (some p) H'
  | .no => False
structure FnG (P : Program) (w : World) (K : Frg) (mg : MgT) (base : Heap) (k : Nat) (f : Addr) (fd : FuncData) (ps : List Str) (F : List D → R D) : Prop where
  run : ∀ (A : Around) (outer : List Env) (s : Shared) (H : Hp) (args : Args) (us : List Value) (vs : List V) (ds : List D) (Av : List Addr) (Q : VK) (E : XK), Room k A → A.guards = some [] → Env0 P w K mg base A outer s H →
    (us.length = ps.length → BindsTo s fd args (ps.zip us)) → Vals vs us → RepL K H Av vs ds → (∀ a ∈ Av, H a ≠ none) → Want K mg H Av Q E (F ds) → codeAny (model P w) A (.call (.ref f) args) (CR (L2.CX P w) outer P w H s Q E) s
theorem FnG.mono {P : Program} {w : World} {K : Frg} {mg : MgT} {base : Heap} {j k : Nat} {f : Addr} {fd : FuncData} {ps : List Str} {F : List D → R D} (h : FnG P w K mg base j f fd ps F) (l : j ≤ k) : FnG P w K mg base k f fd ps F :=
  ⟨fun A outer s H args us vs ds Av Q E hr => h.run A outer s H args us vs ds Av Q E (hr.mono l)⟩
/-- a promise told in other words -/
theorem FnG.imp {P : Program} {w : World} {K : Frg} {mg : MgT} {base : Heap} {k : Nat} {f : Addr} {fd : FuncData} {ps : List Str} {F F' : List D → R D} (h : FnG P w K mg base k f fd ps F) (i : ∀ ds, F' ds = .no ∨ F' ds = F ds) : FnG P w K mg base k f fd ps F' :=
  ⟨fun A outer s H args us vs ds Av Q E hr hg e0 hb r rd ha q => by
    rcases i ds with e | e
    · rw [e] at q; exact q.elim
    · rw [e] at q; exact h.run A outer s H args us vs ds Av Q E hr hg e0 hb r rd ha q⟩
/-- the slots at the entry -/
def enter (n p : Nat) (ds : List D) : En := ds.map (fun d => some (.v d)) ++ List.replicate (n - p) none
def SR.out : SR → R D
  | .nx _ => .ok .none
  | .rt d => .ok d
  | .ex c m _ => .ex c m
  | _ => .no
def runF (n p : Nat) (g : En → SR) (ds : List D) : R D := if ds.length = p then (g (enter n p ds)).out else .no
abbrev wE (E : XK) : WX := fun c d _ H => E c d H
/-- the context of a def's body -/
abbrev bx (P : Program) (w : World) (K : Frg) (mg : MgT) (base : Heap) (N : List Str) (qual : Str) (scope : Scope) (f : Addr) (cd : Value) (A : Around) (outer : List Env) (s : Shared) (H : Hp) (E : XK) : Cx :=
  cxOf (L2.CX P w) P w K mg base N qual scope f cd A outer s H E
theorem bx_takes {P : Program} {w : World} {K : Frg} {mg : MgT} {base : Heap} {N : List Str} {qual : Str} {scope : Scope} {f : Addr} {cd : Value} {A : Around} {outer : List Env} {s : Shared} {H : Hp} {E : XK} : Takes (bx P w K mg base N qual scope f cd A outer s H E) (wE E) :=
  takes_of rfl rfl rfl rfl
theorem bx_owns {P : Program} {w : World} {K : Frg} {mg : MgT} {base : Heap} {N : List Str} {qual : Str} {scope : Scope} {f : Addr} {cd : Value} {A : Around} {outer : List Env} {s : Shared} {H : Hp} {E : XK} :
    PassesOwn (model P w) (bx P w K mg base N qual scope f cd A outer s H E).A (bx P w K mg base N qual scope f cd A outer s H E).env (bx P w K mg base N qual scope f cd A outer s H E).xe := passes_of rfl
theorem Ok.start {K : Frg} {H : Hp} {Av : List Addr} {vs : List V} {ds : List D} {n : Nat} {N : List Str} (hn : N.length = n) (r : RepL K H Av vs ds) (ha : ∀ a ∈ Av, H a ≠ none) (hl : ds.length ≤ n) : Ok K H Av Av (enter n ds.length ds) (L2.start N vs) H where
  len := by
    unfold enter L2.start
    rw [List.length_append, List.length_append, List.length_map, List.length_map, List.length_replicate, List.length_replicate, r.length, hn]
  ext := Same.refl H
  sub := fun _ h => h
  new := fun _ h => .inl h
  has := ha
  slot := fun i s h => by
    unfold enter at h
    by_cases hi : i < ds.length
    · rw [List.getElem?_append_left (by simpa using hi), List.getElem?_map] at h
      obtain ⟨d, h1, h2⟩ := Option.map_eq_some_iff.mp h
      cases h2
      obtain ⟨v, h3, h4⟩ := r.get h1
      refine ⟨v, ?_, h4⟩
      unfold L2.start
      rw [List.getElem?_append_left (by simpa [r.length] using hi), List.getElem?_map, h3]
      rfl
    · rw [List.getElem?_append_right (by simpa using hi), List.getElem?_replicate] at h
      split at h <;> cases h
  dis := fun i j a t t' d d' ne h1 h2 h3 => by
    unfold enter at h1
    by_cases hi : i < ds.length
    · rw [List.getElem?_append_left (by simpa using hi), List.getElem?_map] at h1
      obtain ⟨d, h1, h2⟩ := Option.map_eq_some_iff.mp h1
      cases h2
    · rw [List.getElem?_append_right (by simpa using hi), List.getElem?_replicate] at h1
      split at h1 <;> cases h1
/-- the end of a body -/
theorem want_out {K : Frg} {mg : MgT} {H : Hp} {Av : List Addr} {Q : VK} {E : XK} {r : SR} (h : Want K mg H Av Q E r.out) : PostS K mg (wE E) H Av Av H { nx := fun _ H' => Q .non H', rt := Q } r := by
  cases r with
  | nx ρ => exact fun σ' H' A' o _ => h .non H' o.ext .non
  | rt d => exact h
  | bk ρ => exact h.elim
  | ct ρ => exact h.elim
  | ex c n ρ => exact fun u p σ' H' A' o _ f e => h u p H' o.ext f e
  | no => exact h.elim

/-- THE RULE for a def -/
theorem fng_of {P : Program} {w : World} {K : Frg} {mg : MgT} {base : Heap} {k n p : Nat} {f : Addr} {name qual : Str} {params : Arguments} {body : List Stmt} {scope : Scope} {dV kV doc pm cdv ct oc : Value} {an od : Option Addr}
    {osl : Array (Option Value)} {N ps : List Str} {g : En → SR} (lk : K.lookup f = some ⟨oc, od, .func (PySem.W.fnOf name qual params body scope dV kV doc pm an cdv ct), osl⟩) (hcd : PySem.W.codeIn K cdv qual = true) (S : FnScope N ps scope)
    (hn : N.length = n) (hp : ps.length = p)
    (hbody : ∀ (A : Around) (outer : List Env) (s : Shared) (H : Hp) (E : XK), Room k (A.deeper (envOfC qual scope s.heap.objs.size f cdv)) → A.guards = some [] → FSs (bx P w K mg base N qual scope f cdv A outer s H E) (wE E) body g) :
    FnG P w K mg base (k + 1) f (PySem.W.fnOf name qual params body scope dV kV doc pm an cdv ct) ps (runF n p g) := by
  refine ⟨fun A outer s H args us vs ds Av Q E hr hg e0 hb r rd ha hsp => ?_⟩
  unfold runF at hsp
  split at hsp
  rotate_left
  · exact hsp.elim
  rename_i hds
  have hl : vs.length = ps.length := by rw [rd.length, hds, hp]
  have KX : K.In s.heap := e0.mod.kin.keeps fun b o e => (e0.bs b o e).1
  have lim : s.heap.NoLimit := e0.mod.nolimit.keeps fun b o e => (e0.bs b o e).1
  have hkind : ∀ y ∈ ps.zip us, scope.names.lookup y.1 = some .local ∨ (scope.names.lookup y.1 = some .cell ∧ ((cellsFrom (s.heap.objs.size + 1) scope.names []).lookup y.1).isSome = true) := fun ⟨n, v⟩ hy => by
    rcases S.par n (List.of_mem_zip hy).1 with q | q
    · exact .inl q
    · exact .inr ⟨q, PySem.W.cellsFrom_some _ _ _ (.inl q)⟩
  refine codeAny_call_function hr.depth (KX _ _ lk) rfl S.co S.gen rfl (PySem.W.codeRec_of KX hcd) (hb (by rw [← r.length]; exact hl) _ _ _ _ ?_)
  refine wpAny_newFunctionEnv_cells S.kind hkind fun env he s1 x => ?_
  subst he
  refine ⟨lim.keeps x.toInCall.keep, codeAny_func ?_⟩
  have I : Inv (bx P w K mg base N qual scope f cdv A outer s H E) [] (L2.start N vs) H s1 := inv_start S hr.hd e0 hl r x
  have hpn : p ≤ n := by
    have := congrArg List.length S.pre
    rw [List.length_take] at this
    omega
  have o : Ok K H Av Av (enter n p ds) (L2.start N vs) H := hds ▸ Ok.start hn rd ha (by omega)
  refine wpAny_mono ((hbody A outer s H E (hr.deeper _) hg).run [] s1 (L2.start N vs) H _ I ⟨H, Av, Av, _, o, want_out hsp⟩) (fun fl s' hs => ?_) fun e s' hs => hs
  have fin : ∀ {σ' : St} {H' : Hp} {v : V} {u : Value}, Inv (bx P w K mg base N qual scope f cdv A outer s H E) [] σ' H' s' → RelV v u → Q v H' → CE outer P w H s Q u s' :=
    fun {σ' H' v u} J rv q => ⟨v, H', J.os, J.bare, J.base, J.hok, rv, q⟩
  cases fl with
  | ret u =>
    obtain ⟨v, σ', H', J, rv, q⟩ := hs
    exact fin J rv q
  | next =>
    obtain ⟨σ', H', J, q⟩ := hs
    exact fin (v := V.non) (u := Value.none) J rfl q
  | brk =>
    obtain ⟨_, _, _, q⟩ := hs
    exact False.elim q
  | cont =>
    obtain ⟨_, _, _, q⟩ := hs
    exact False.elim q

/-! ### calls -/
def cCallF (F : List D → R D) (l : En → R (List D)) : En → R D := fun ρ => (l ρ).bind F
section
variable {X : Cx} {W : WX} {k : Nat} {f : Addr} {fd : FuncData} {ps : List Str} {F : List D → R D} {x : Str} {p pos : Pos} {e : Expr} {es : List Expr} {l : En → R (List D)}
theorem run_fng {pins : List (Addr × Obj)} {σ : St} {H : Hp} {s : Shared} {Q : VK} {us : List Value} {vs : List V} {ds : List D} {Av : List Addr} (Fg : FnG X.prog X.w X.K X.mg X.base k f fd ps F) (hr : Room k X.A) (hgd : X.A.guards = some []) (hb : Binds X.K fd ps []) (tk : Takes X W)
    (I : Inv X pins σ H s) (r : Vals vs us) (rd : RepL X.K H Av vs ds) (ha : ∀ a ∈ Av, H a ≠ none) (h : Want X.K X.mg H Av Q (WE W σ) (F ds)) : wpAny (model X.prog X.w) X.A (call (.ref f) us) (EP X pins σ Q) X.xe s := by
  refine wpAny_call (codeAny_mono (Fg.run X.A X.stack s H ⟨us, []⟩ us vs ds Av Q (WE W σ) hr hgd I.env0 (fun hl => ?_) r rd ha h) fun r s' hq => ?_)
  · have b := hb s us I.kIn (by rw [List.append_nil]; exact hl)
    rw [List.append_nil] at b
    exact b
  · cases r with
    | error e => exact passAt tk σ pins H s e s' I hq
    | ok fl =>
      cases fl with
      | ret u => exact I.after hq
      | next => exact False.elim hq
      | brk => exact False.elim hq
      | cont => exact False.elim hq
theorem Post.want {mg : MgT} {K : Frg} {σ : St} {H : Hp} {A : List Addr} {Q : VK} {r : R D} (h : Post mg W σ H (fun d H' => ∀ v, Rep K H' A v d → Q v H') r) : Want K mg H A Q (WE W σ) r := by
  cases r with
  | ok d => exact fun v H' s r => h H' s v r
  | ex c n => exact h
  | no => exact h
theorem fe_call (Fg : FnG X.prog X.w X.K X.mg X.base k f fd ps F) (hr : Room k X.A) (hgd : X.A.guards = some []) (hg : Gl X x) (hm : X.mg x = some (.ref f)) (hk : PySem.W.keepIn X.K (.ref f) = true) (hb : Binds X.K fd ps []) (tk : Takes X W)
    (ha : FA X W (e :: es) l) (hdb : (x == ("__debug__" : Str)) = false := by decide) (he : starEach (e :: es) X.env = (false, eval e X.env) :: starEach es X.env := by rfl) (hpl : (backTo pos (starEach es X.env)).any (·.1) = false := by rfl) :
    FE X W (.Call (.Name x p) (e :: es) [] pos) (cCallF F l) := by
  refine ⟨fun pins s σ H Q I ⟨H0, A0, A, ρ, o, P⟩ => ?_⟩
  refine wpAny_Call_Name_kw (ld_glob I hg hm ?_ hdb)
  refine PySem.W.callWith_K (h₀ := X.base) I.ok.mod.kin hk (thn (ha.run pos pins s σ H (fun vs H1 => Same H H1 ∧ ∃ ds, RepL X.K H1 A vs ds ∧ Want X.K X.mg H1 A Q (WE W σ) (F ds)) I ⟨H0, A0, A, ρ, o, P.bind.mono fun ds H1 s1 P1 vs hv => ⟨s1, ds, hv, P1.want⟩⟩) fun us s1 ⟨vs, H1, I1, r, sm, ds, rd, q⟩ => ⟨I1.kIn, ?_⟩) he hpl
  exact run_fng Fg hr hgd hb tk I1 r rd (o.same sm).has q
theorem fe_call0 (Fg : FnG X.prog X.w X.K X.mg X.base k f fd ps F) (hr : Room k X.A) (hgd : X.A.guards = some []) (hg : Gl X x) (hm : X.mg x = some (.ref f)) (hk : PySem.W.keepIn X.K (.ref f) = true) (hb : Binds X.K fd ps []) (tk : Takes X W)
    (hdb : (x == ("__debug__" : Str)) = false := by decide) : FE X W (.Call (.Name x p) [] [] pos) (cCallF F fun _ => .ok []) := by
  refine ⟨fun pins s σ H Q I ⟨H0, A0, A, ρ, o, P⟩ => ?_⟩
  refine wpAny_Call_Name_kw (ld_glob I hg hm ?_ hdb)
  exact PySem.W.callWith_K0 I.kIn hk (run_fng (us := []) (vs := []) (ds := []) Fg hr hgd hb tk I .nil .nil o.has (Post.want P))
end
end G

namespace G
open PySem PySem.Spec PyProof.Rows L2

/-! ### the law's script -/
def cLenS (i : Nat) : En → R D := fun ρ => match ρ[i]? with
  | some (some (.sc ns)) => .ok (.int ns.length)
  | _ => .no
def cIxS (i : Nat) (g : En → R D) : En → R D := fun ρ => match ρ[i]? with
  | some (some (.sc ns)) => (g ρ).bind fun d => ofO ((toI d).bind fun k => (atI ns k).map .int)
  | _ => .no
def cCallS (i : Nat) (F : List Int → R D) : En → R D := fun ρ => match ρ[i]? with
  | some (some (.sc ns)) => F ns
  | _ => .no
theorem atI_map {α β : Type} {f : α → β} {xs : List α} {k : Int} {y : α} (h : atI xs k = some y) : atI (xs.map f) k = some (f y) := by
  unfold atI at h ⊢
  obtain ⟨j, h1, h2⟩ := Option.bind_eq_some_iff.mp h
  rw [List.length_map, h1, Option.bind_some, List.getElem?_map, h2]
  rfl
section
variable {X : Cx} {W : WX} {x y : Str} {i : Nat} {p q pos : Pos} {b : Expr} {g : En → R D}
theorem fe_lenS (hx : PE X (.Name x q) (tVar i)) (hg : Gl X "len") (hm : X.mg "len" = none) (he : starEach [.Name x q] X.env = (false, eval (.Name x q) X.env) :: starEach [] X.env := by rfl) (hpl : (backTo pos (starEach [] X.env)).any (·.1) = false := by rfl) :
    FE X W (.Call (.Name "len" p) [.Name x q] [] pos) (cLenS i) := impE (pe_callB call_len_seq hg hm PySem.boot_len (pa_cons hx pa_nil) (by decide) (by decide) he hpl) fun σ H Q ⟨H0, A0, A, ρ, o, P⟩ => by
  unfold cLenS at P
  split at P
  · rename_i ns e
    obtain ⟨v, h1, a, e2, h2⟩ := o.slot i _ e
    subst e2
    refine ⟨_, h1, a, ns.map V.int, rfl, .inl h2.sq, ?_⟩
    rw [List.length_map]
    exact Post.at (P := fun d H' => ∀ v, Rep X.K H' A v d → Q v H') P _ (.int _)
  · exact P.elim
theorem fe_ixS (hx : PE X (.Name x q) (tVar i)) (hb : FE X W b g) (hs : PlainIx b) : FE X W (.Subscript (.Name x q) b pos) (cIxS i g) := impE (pe_ix ix_list hx hb hs) fun σ H Q ⟨H0, A0, A, ρ, o, P⟩ => by
  unfold cIxS at P
  split at P
  · rename_i ns e
    obtain ⟨v, h1, a, e2, h2⟩ := o.slot i _ e
    subst e2
    refine ⟨_, h1, H0, A0, A, ρ, o, P.bind.mono fun d2 H2 s2 P2 y hy => ?_⟩
    obtain ⟨d, e3, P3⟩ := P2.ofO
    obtain ⟨k, e4, e5⟩ := Option.bind_eq_some_iff.mp e3
    obtain ⟨z, e6, e7⟩ := Option.map_eq_some_iff.mp e5
    subst e7
    have e8 : d2 = .int k := by
      cases d2 <;> simp [toI] at e4
      rw [e4]
    subst e8
    obtain rfl := (RepB.of hy).int
    exact ⟨a, ns.map V.int, k, .int z, rfl, rfl, (h2.tr (Tr.same s2)).sq, atI_map e6, P3 H2 (Same.refl _) _ (.int z)⟩
  · exact P.elim
end
/-- a def whose one argument is the script -/
structure FnS (P : Program) (w : World) (K : Frg) (mg : MgT) (base : Heap) (k : Nat) (f : Addr) (fd : FuncData) (x : Str) (F : List Int → R D) : Prop where
  run : ∀ (A : Around) (outer : List Env) (s : Shared) (H : Hp) (args : Args) (u : Value) (a : Addr) (ns : List Int) (Av : List Addr) (Q : VK) (E : XK), Room k A → A.guards = some [] → Env0 P w K mg base A outer s H →
    BindsTo s fd args [(x, u)] → RelV (.ref a) u → LRep K H Av a (ns.map V.int) → (∀ a ∈ Av, H a ≠ none) → Want K mg H Av Q E (F ns) → codeAny (model P w) A (.call (.ref f) args) (CR (L2.CX P w) outer P w H s Q E) s
def runS (n : Nat) (g : En → SR) (ns : List Int) : R D := (g (some (.sc ns) :: List.replicate (n - 1) none)).out
theorem fns_of {P : Program} {w : World} {K : Frg} {mg : MgT} {base : Heap} {k n : Nat} {f : Addr} {name qual x : Str} {params : Arguments} {body : List Stmt} {scope : Scope} {dV kV doc pm cdv ct oc : Value} {an od : Option Addr}
    {osl : Array (Option Value)} {N : List Str} {g : En → SR} (lk : K.lookup f = some ⟨oc, od, .func (PySem.W.fnOf name qual params body scope dV kV doc pm an cdv ct), osl⟩) (hcd : PySem.W.codeIn K cdv qual = true) (S : FnScope N [x] scope)
    (hn : N.length = n)
    (hbody : ∀ (A : Around) (outer : List Env) (s : Shared) (H : Hp) (E : XK), Room k (A.deeper (envOfC qual scope s.heap.objs.size f cdv)) → A.guards = some [] → FSs (bx P w K mg base N qual scope f cdv A outer s H E) (wE E) body g) :
    FnS P w K mg base (k + 1) f (PySem.W.fnOf name qual params body scope dV kV doc pm an cdv ct) x (runS n g) := by
  refine ⟨fun A outer s H args u a ns Av Q E hr hg e0 hb r rd ha hsp => ?_⟩
  have KX : K.In s.heap := e0.mod.kin.keeps fun b o e => (e0.bs b o e).1
  have lim : s.heap.NoLimit := e0.mod.nolimit.keeps fun b o e => (e0.bs b o e).1
  have hkind : ∀ y ∈ [(x, u)], scope.names.lookup y.1 = some .local ∨ (scope.names.lookup y.1 = some .cell ∧ ((cellsFrom (s.heap.objs.size + 1) scope.names []).lookup y.1).isSome = true) := fun y hy => by
    obtain rfl := List.mem_singleton.mp hy
    rcases S.par x List.mem_cons_self with q | q
    · exact .inl q
    · exact .inr ⟨q, PySem.W.cellsFrom_some _ _ _ (.inl q)⟩
  refine codeAny_call_function hr.depth (KX _ _ lk) rfl S.co S.gen rfl (PySem.W.codeRec_of KX hcd) (hb _ _ _ _ ?_)
  refine wpAny_newFunctionEnv_cells S.kind hkind fun env he s1 y => ?_
  subst he
  refine ⟨lim.keeps y.toInCall.keep, codeAny_func ?_⟩
  have I : Inv (bx P w K mg base N qual scope f cdv A outer s H E) [] (L2.start N [.ref a]) H s1 := inv_start (ps := [x]) (us := [u]) S hr.hd e0 rfl (.cons r .nil) y
  have hpn : 1 ≤ n := by
    have := congrArg List.length S.pre
    rw [List.length_take] at this
    have h1 : [x].length = 1 := rfl
    omega
  have o : Ok K H Av Av (some (.sc ns) :: List.replicate (n - 1) none) (L2.start N [.ref a]) H := {
    len := by
      unfold L2.start
      simp only [List.length_append, List.length_map, List.length_replicate, List.length_cons, List.length_nil, hn]
      omega
    ext := Same.refl H
    sub := fun _ h => h
    new := fun _ h => .inl h
    has := ha
    slot := fun i s h => by
      cases i with
      | zero =>
        cases h
        exact ⟨.ref a, rfl, a, rfl, rd⟩
      | succ i =>
        rw [List.getElem?_cons_succ, List.getElem?_replicate] at h
        split at h <;> cases h
    dis := fun i j b t t' d d' ne h1 h2 h3 => by
      cases i with
      | zero => cases h1
      | succ i =>
        rw [List.getElem?_cons_succ, List.getElem?_replicate] at h1
        split at h1 <;> cases h1 }
  refine wpAny_mono ((hbody A outer s H E (hr.deeper _) hg).run [] s1 (L2.start N [.ref a]) H _ I ⟨H, Av, Av, _, o, want_out hsp⟩) (fun fl s' hs => ?_) fun e s' hs => hs
  have fin : ∀ {σ' : St} {H' : Hp} {v : V} {u : Value}, Inv (bx P w K mg base N qual scope f cdv A outer s H E) [] σ' H' s' → RelV v u → Q v H' → CE outer P w H s Q u s' :=
    fun {σ' H' v u} J rv q => ⟨v, H', J.os, J.bare, J.base, J.hok, rv, q⟩
  cases fl with
  | ret u =>
    obtain ⟨v, σ', H', J, rv, q⟩ := hs
    exact fin J rv q
  | next =>
    obtain ⟨σ', H', J, q⟩ := hs
    exact fin (v := V.non) (u := Value.none) J rfl q
  | brk =>
    obtain ⟨_, _, _, q⟩ := hs
    exact False.elim q
  | cont =>
    obtain ⟨_, _, _, q⟩ := hs
    exact False.elim q
section
variable {X : Cx} {W : WX} {k i : Nat} {f : Addr} {fd : FuncData} {F : List Int → R D} {x y : Str} {p q pos : Pos}
theorem fe_callS (Fg : FnS X.prog X.w X.K X.mg X.base k f fd y F) (hr : Room k X.A) (hgd : X.A.guards = some []) (hg : Gl X x) (hm : X.mg x = some (.ref f)) (hk : PySem.W.keepIn X.K (.ref f) = true) (hb : Binds X.K fd [y] []) (tk : Takes X W) {z : Str}
    (hx : PE X (.Name z q) (tVar i)) (hdb : (x == ("__debug__" : Str)) = false := by decide) (he : starEach [.Name z q] X.env = (false, eval (.Name z q) X.env) :: starEach [] X.env := by rfl) (hpl : (backTo pos (starEach [] X.env)).any (·.1) = false := by rfl) :
    FE X W (.Call (.Name x p) [.Name z q] [] pos) (cCallS i F) := by
  refine ⟨fun pins s σ H Q I ⟨H0, A0, A, ρ, o, P⟩ => ?_⟩
  unfold cCallS at P
  split at P
  · rename_i ns e
    obtain ⟨v, h1, a, e2, h2⟩ := o.slot i _ e
    subst e2
    refine wpAny_Call_Name_kw (ld_glob I hg hm ?_ hdb)
    refine PySem.W.callWith_K (h₀ := X.base) I.ok.mod.kin hk (thn ((pa_cons hx pa_nil he).run pos pins s σ H (fun vs H1 => vs = [V.ref a] ∧ H = H1) I ⟨.ref a, h1, rfl, rfl⟩) fun us s1 ⟨vs, H1, I1, r, ev, eH⟩ => ⟨I1.kIn, ?_⟩) he hpl
    subst ev
    subst eH
    cases r with
    | cons ru rn =>
      cases rn
      rename_i u _
      have b := hb s1 [u] I1.kIn rfl
      refine wpAny_call (codeAny_mono (Fg.run X.A X.stack s1 H ⟨[u], []⟩ u a ns A Q (WE W σ) hr hgd I1.env0 b ru h2 o.has (Post.want P)) fun r s' hq => ?_)
      cases r with
      | error e => exact passAt tk σ pins H s1 e s' I1 hq
      | ok fl =>
        cases fl with
        | ret u => exact I1.after hq
        | next => exact False.elim hq
        | brk => exact False.elim hq
        | cont => exact False.elim hq
  · exact P.elim
end

/-! ### names of the module -/
def GInt (mg : MgT) (x : Str) (i : Int) : Prop := ∃ t, mg x = some (.int i t)
def GTup (K : Frg) (mg : MgT) (x : Str) (ds : List D) : Prop := ∃ a vs, mg x = some (.ref a) ∧ TupK K a vs ∧ ∀ H A, RepL K H A vs ds
section
variable {X : Cx} {W : WX} {x : Str} {pos : Pos}
theorem fe_gint {i : Int} (h : GInt X.mg x i) (hg : Gl X x) (hd : (x == ("__debug__" : Str)) = false := by decide) : FE X W (.Name x pos) (cK (.int i)) := by
  obtain ⟨t, h⟩ := h
  exact fe_k (pe_glob (v := .int i) hg h ⟨t, rfl⟩ hd) fun _ _ => .int i
theorem fb_gtup {ds : List D} (h : GTup X.K X.mg x ds) (hg : Gl X x) (hd : (x == ("__debug__" : Str)) = false := by decide) : FB X W (.Name x pos) (cK (.tuple ds)) := by
  obtain ⟨a, vs, h, ht, r⟩ := h
  exact impE (pe_glob (v := .ref a) hg h rfl hd) fun σ H Q ⟨H0, A0, A, ρ, o, P⟩ => Post.at (P := fun d H' => ∀ v, RepB X.K H' A v d → Q v H') P _ (.inr (.inr ⟨a, vs, ds, rfl, rfl, ht, r H A⟩))
end
/-- a def that may be called by its name -/
def CallG (P : Program) (w : World) (K : Frg) (mg : MgT) (base : Heap) (k : Nat) (x : Str) (F : List D → R D) : Prop :=
  ∃ f fd ps, FnG P w K mg base k f fd ps F ∧ mg x = some (.ref f) ∧ PySem.W.keepIn K (.ref f) = true ∧ Binds K fd ps []
def CallS (P : Program) (w : World) (K : Frg) (mg : MgT) (base : Heap) (k : Nat) (x : Str) (F : List Int → R D) : Prop :=
  ∃ f fd p, FnS P w K mg base k f fd p F ∧ mg x = some (.ref f) ∧ PySem.W.keepIn K (.ref f) = true ∧ Binds K fd [p] []
/-- a def of the text -/
def DefG (K : Frg) (mg : MgT) (x : Str) (st : Stmt) (ps : List Str) : Prop := ∃ f fd, Fun K x x st f fd ∧ mg x = some (.ref f) ∧ Binds K fd ps []
section
variable {P : Program} {w : World} {K : Frg} {mg : MgT} {base : Heap} {k j n p : Nat} {x y : Str} {F : List D → R D} {st : Stmt} {N ps : List Str} {g : En → SR}
theorem CallG.mono (h : CallG P w K mg base j x F) (l : j ≤ k) : CallG P w K mg base k x F := by
  obtain ⟨f, fd, ps, h1, h2⟩ := h
  exact ⟨f, fd, ps, h1.mono l, h2⟩
theorem DefG.call (h : DefG K mg x st ps) (S : FnScope N ps (defScope st)) (hn : N.length = n) (hp : ps.length = p)
    (hbody : ∀ (f : Addr) (cdv : Value) (A : Around) (outer : List Env) (s : Shared) (H : Hp) (E : XK), Room k (A.deeper (envOfC x (defScope st) s.heap.objs.size f cdv)) → A.guards = some [] → FSs (bx P w K mg base N x (defScope st) f cdv A outer s H E) (wE E) (defBody st) g) :
    CallG P w K mg base (k + 1) x (runF n p g) := by
  obtain ⟨f, fd, F, hm, hb⟩ := h
  obtain ⟨oc, od, kV, doc, pm, an, cdv, ct, osl, rfl, lk, hcd⟩ := F.ex
  exact ⟨f, _, ps, fng_of lk hcd S hn hp fun A outer s H E hr hg => hbody f cdv A outer s H E hr hg, hm, F.kp, hb⟩
theorem DefG.callS (h : DefG K mg x st [y]) (S : FnScope N [y] (defScope st)) (hn : N.length = n)
    (hbody : ∀ (f : Addr) (cdv : Value) (A : Around) (outer : List Env) (s : Shared) (H : Hp) (E : XK), Room k (A.deeper (envOfC x (defScope st) s.heap.objs.size f cdv)) → A.guards = some [] → FSs (bx P w K mg base N x (defScope st) f cdv A outer s H E) (wE E) (defBody st) g) :
    CallS P w K mg base (k + 1) x (runS n g) := by
  obtain ⟨f, fd, F, hm, hb⟩ := h
  obtain ⟨oc, od, kV, doc, pm, an, cdv, ct, osl, rfl, lk, hcd⟩ := F.ex
  exact ⟨f, _, y, fns_of lk hcd S hn fun A outer s H E hr hg => hbody f cdv A outer s H E hr hg, hm, F.kp, hb⟩
end
section
variable {X : Cx} {W : WX} {k i : Nat} {F : List D → R D} {F1 : List Int → R D} {x z : Str} {p q pos : Pos} {e : Expr} {es : List Expr} {l : En → R (List D)}
theorem fe_cl (c : CallG X.prog X.w X.K X.mg X.base k x F) (hr : Room k X.A) (hgd : X.A.guards = some []) (tk : Takes X W) (hg : Gl X x) (ha : FA X W (e :: es) l) (hdb : (x == ("__debug__" : Str)) = false := by decide)
    (he : starEach (e :: es) X.env = (false, eval e X.env) :: starEach es X.env := by rfl) (hpl : (backTo pos (starEach es X.env)).any (·.1) = false := by rfl) :
    FE X W (.Call (.Name x p) (e :: es) [] pos) (cCallF F l) := by
  obtain ⟨f, fd, ps, h1, h2, h3, h4⟩ := c
  exact fe_call h1 hr hgd hg h2 h3 h4 tk ha hdb he hpl
theorem fe_cl0 (c : CallG X.prog X.w X.K X.mg X.base k x F) (hr : Room k X.A) (hgd : X.A.guards = some []) (tk : Takes X W) (hg : Gl X x) (hdb : (x == ("__debug__" : Str)) = false := by decide) :
    FE X W (.Call (.Name x p) [] [] pos) (cCallF F fun _ => .ok []) := by
  obtain ⟨f, fd, ps, h1, h2, h3, h4⟩ := c
  exact fe_call0 h1 hr hgd hg h2 h3 h4 tk hdb
theorem fe_clS (c : CallS X.prog X.w X.K X.mg X.base k x F1) (hr : Room k X.A) (hgd : X.A.guards = some []) (tk : Takes X W) (hg : Gl X x) (hx : PE X (.Name z q) (tVar i)) (hdb : (x == ("__debug__" : Str)) = false := by decide)
    (he : starEach [.Name z q] X.env = (false, eval (.Name z q) X.env) :: starEach [] X.env := by rfl) (hpl : (backTo pos (starEach [] X.env)).any (·.1) = false := by rfl) :
    FE X W (.Call (.Name x p) [.Name z q] [] pos) (cCallS i F1) := by
  obtain ⟨f, fd, y, h1, h2, h3, h4⟩ := c
  exact fe_callS h1 hr hgd hg h2 h3 h4 tk hx hdb he hpl
end
end G

namespace G
open PySem PySem.Spec PyProof.Rows L2
theorem units65 {k : Nat} {A : Around} (r : Room k A) : A.units + 65 < cLine := by
  have := r.un
  omega

/-! ### powers -/
def dPow : D → D → Option D
  | .int a, .int b => if 0 ≤ b ∧ b ≤ 1000000 ∧ a.natAbs < 2 ^ 64 then some (.int (a ^ b.toNat)) else none
  | _, _ => none
section
variable {X : Cx} {W : WX} {a b c e : Expr} {es : List Expr} {f g : En → R D} {l : En → R (List D)} {p q p1 p2 pos : Pos} {x : Str}
theorem do_pow : DOp X (binaryOp .Pow) dPow := by
  refine ⟨_, op_pow, fun H A x y d1 d2 d Q ha hx hy e q => ?_⟩
  unfold dPow at e
  split at e
  · split at e
    · rename_i h
      cases e
      obtain rfl := hx.int
      obtain rfl := hy.int
      exact ⟨_, _, rfl, rfl, h, q _ H (Same.refl H) (.int _)⟩
    · cases e
  · cases e

/-! ### min, max of two -/
def dMax2 : List D → Option D
  | [.int a, .int b] => some (.int (max a b))
  | _ => none
def dMin2 : List D → Option D
  | [.int a, .int b] => some (.int (min a b))
  | _ => none
theorem dc_max2 (hc : X.calm = true) : DCall X (.builtin "max") dMax2 := by
  refine ⟨_, call_max2 hc, fun H A vs ds d Q ha hv e q => ?_⟩
  unfold dMax2 at e
  split at e
  · cases e
    obtain ⟨v, v2, rfl, h1, h2⟩ := pair2 hv
    obtain rfl := h1.int
    obtain rfl := h2.int
    refine ⟨_, _, rfl, ?_⟩
    rename_i a b
    have e : (if b > a then b else a) = max a b := by split <;> omega
    rw [e]
    exact q _ H (Same.refl H) (.int _)
  · cases e
theorem dc_min2 (hc : X.calm = true) : DCall X (.builtin "min") dMin2 := by
  refine ⟨_, call_min2 hc, fun H A vs ds d Q ha hv e q => ?_⟩
  unfold dMin2 at e
  split at e
  · cases e
    obtain ⟨v, v2, rfl, h1, h2⟩ := pair2 hv
    obtain rfl := h1.int
    obtain rfl := h2.int
    refine ⟨_, _, rfl, ?_⟩
    rename_i a b
    have e : (if b < a then b else a) = min a b := by split <;> omega
    rw [e]
    exact q _ H (Same.refl H) (.int _)
  · cases e

/-! ### ints in order -/
def insI (a : Int) : List Int → List Int
  | [] => [a]
  | b :: r => if a ≤ b then a :: b :: r else b :: insI a r
def srtI : List Int → List Int
  | [] => []
  | a :: r => insI a (srtI r)
theorem insI_perm (a : Int) : ∀ r : List Int, (insI a r).Perm (a :: r)
  | [] => .refl _
  | b :: r => by
    unfold insI
    split
    · exact .refl _
    · exact ((insI_perm a r).cons b).trans (.swap a b r)
theorem srtI_perm : ∀ l : List Int, (srtI l).Perm l
  | [] => .refl _
  | a :: r => (insI_perm a (srtI r)).trans ((srtI_perm r).cons a)
theorem insI_sorted {a : Int} : ∀ {r : List Int}, r.Pairwise (· ≤ ·) → (insI a r).Pairwise (· ≤ ·)
  | [], _ => List.pairwise_singleton _ _
  | b :: r, h => by
    rw [List.pairwise_cons] at h
    unfold insI
    split
    · rename_i hab
      refine List.pairwise_cons.mpr ⟨fun y hy => ?_, List.pairwise_cons.mpr h⟩
      rcases List.mem_cons.mp hy with rfl | hy
      · exact hab
      · exact Int.le_trans hab (h.1 y hy)
    · refine List.pairwise_cons.mpr ⟨fun y hy => ?_, insI_sorted h.2⟩
      rcases List.mem_cons.mp ((insI_perm a r).mem_iff.mp hy) with rfl | hy
      · omega
      · exact h.1 y hy
theorem srtI_sorted : ∀ l : List Int, (srtI l).Pairwise (· ≤ ·)
  | [] => .nil
  | a :: r => insI_sorted (srtI_sorted r)
theorem sorted_uniq : ∀ {l m : List Int}, l.Perm m → l.Pairwise (· ≤ ·) → m.Pairwise (· ≤ ·) → l = m
  | [], m, p, _, _ => by rw [List.nil_perm.mp p]
  | a :: l, [], p, _, _ => absurd p.length_eq (by simp)
  | a :: l, b :: m, p, h1, h2 => by
    rw [List.pairwise_cons] at h1 h2
    have hab : a = b := by
      have ha : a ∈ b :: m := p.mem_iff.mp List.mem_cons_self
      have hb : b ∈ a :: l := p.mem_iff.mpr List.mem_cons_self
      rcases List.mem_cons.mp ha with e | ha
      · exact e
      · rcases List.mem_cons.mp hb with e | hb
        · exact e.symm
        · exact Int.le_antisymm (h1.1 b hb) (h2.1 a ha)
    subst hab
    rw [sorted_uniq p.cons_inv h1.2 h2.2]
theorem srtI_eq {l m : List Int} (p : m.Perm l) (h : m.Pairwise (· ≤ ·)) : m = srtI l := sorted_uniq (p.trans (srtI_perm l).symm) h (srtI_sorted l)
theorem ints_data {K : Frg} {H : Hp} {A : List Addr} : ∀ ns : List Int, RepL K H A (ns.map V.int) (ns.map PyData.int)
  | [] => .nil
  | n :: r => .cons (.int n) (ints_data r)
/-- the distinct ones -/
def nubI (l : List Int) : List Int := l.foldl (fun ks a => if ks.contains a then ks else ks ++ [a]) []
theorem nubI_oss (l : List Int) : nubI l = PySem.W.ossOf l := by
  unfold nubI PySem.W.ossOf
  congr 1
  funext ks a
  rw [PySem.W.oss_step]
  by_cases h : a ∈ ks <;> simp [h]
/-- sorted(xs) of ints -/
def dSorted : List D → Option D
  | [.list xs] => (intsOf xs).map fun ns => .list ((srtI ns).map .int)
  | _ => none
theorem dc_sorted : DCallN X (.builtin "sorted") dSorted := by
  refine ⟨_, cr_sortedI, fun H A vs ds d Q ha hv e q => ?_⟩
  unfold dSorted at e
  split at e
  · obtain ⟨ns, h1, h2⟩ := Option.map_eq_some_iff.mp e
    cases h2
    obtain ⟨v, rfl, h⟩ := pair1 hv
    obtain ⟨p, us, rfl, h3, r⟩ := h.lst
    obtain rfl := intsOf_rep r h1
    refine ⟨p, ns, rfl, SqL.of h3, fun ns' n h4 h5 hn => ?_⟩
    obtain rfl := srtI_eq h4 h5
    exact q _ _ (same_upd hn) ⟨n, rfl, hn, orep_lst hn (ints_data _)⟩
  · cases e
theorem fn_callB {id : String} {df : List D → Option D} (hc : DCallN X (.builtin id) df) (hg : Gl X x) (hm : X.mg x = none) (hv : bootBuiltins x = some (.builtin id)) (ha : FAB X W (e :: es) l) (hn : x ≠ "__name__" := by decide) (hdb : (x == ("__debug__" : Str)) = false := by decide)
    (he : starEach (e :: es) X.env = (false, eval e X.env) :: starEach es X.env := by rfl) (hpl : (backTo pos (starEach es X.env)).any (·.1) = false := by rfl) : FN X W false (.Call (.Name x p1) (e :: es) [] pos) (cCall df l) := by
  obtain ⟨r, hr, hs⟩ := hc
  refine impE (pe_callB hr hg hm hv ha hn hdb he hpl) fun σ H Q ⟨H0, A0, A, ρ, o, P⟩ => ?_
  refine ⟨H0, A0, A, ρ, o, P.bind.mono fun ds H1 s1 P1 vs hvs => ?_⟩
  obtain ⟨d, e, P2⟩ := P1.ofO
  refine hs H1 A vs ds d Q (o.same s1).has hvs e fun v H' s hv => P2 H' s v ?_
  obtain ⟨p, e, n, r⟩ := hv
  exact ⟨p, e, s1.free n, r⟩
/-- set(t), t a tuple of ints -/
def rSetT (K : Frg) (w : World) : List V → Hp → VK → Prop := fun xs H Q => ∃ (l : Addr) (ns : List Int), xs = [.ref l] ∧ SqT K H l (ns.map V.int) ∧ ns.length ≤ 1000 ∧
  ∀ p n, H p = none → n ≤ ns.length → Q (.ref p) (upd H p (SetO w p (fun k => decide (k ∈ ns)) n))
theorem cr_setT (hc : X.calm = true) : CallR X (.type "set") (rSetT X.K X.w) := by
  intro pins s σ H xs us Q I r h
  obtain ⟨l, ns, rfl, hq, hl, q⟩ := h
  rw [Vals.ref1 r]
  obtain ⟨its, rv, pt, hz⟩ := I.tuple hq
  have hi : IntsAre its.toArray.toList ns := by simpa using RZ.intsAre_vals rv
  refine call_set_tupI ns (I.ok.hd hc) (show s.heap.IsTuple l its.toArray from pt) hi (by unfold scanBound; omega) fun h' tk c R1 hcn k => ?_
  exact ⟨.ref s.heap.objs.size, _, I.laid k (Nat.le_refl _) (setO_new R1), rfl, q _ c I.fresh hcn⟩
/-- sorted(set(t)) -/
def dSortSet : D → Option D
  | .tuple xs => (intsOf xs).bind fun ns => if ns.length < 64 then some (.list ((srtI (nubI ns)).map .int)) else none
  | _ => none
theorem strict_le {l : List Int} (h : l.Pairwise (· < ·)) : l.Pairwise (· ≤ ·) := h.imp fun h => Int.le_of_lt h
theorem nodup_strict {l : List Int} (h : l.Pairwise (· < ·)) : l.Nodup := h.imp fun h => Int.ne_of_lt h
theorem nubI_mem {l : List Int} {x : Int} : x ∈ nubI l ↔ x ∈ l := by
  rw [nubI_oss]
  exact PySem.W.oss_has
theorem nubI_nodup (l : List Int) : (nubI l).Nodup := by
  unfold nubI
  have : ∀ (l ks : List Int), ks.Nodup → (l.foldl (fun ks a => if ks.contains a then ks else ks ++ [a]) ks).Nodup := by
    intro l
    induction l with
    | nil => exact fun ks h => h
    | cons a l ih =>
      intro ks h
      rw [List.foldl_cons]
      refine ih _ ?_
      split
      · exact h
      · rename_i hn
        refine List.nodup_append.mpr ⟨h, by simp, fun x hx y hy z => ?_⟩
        simp at hy
        subst hy
        subst z
        exact hn (by simpa using hx)
  exact this l [] .nil
theorem perm_nodup {l m : List Int} (h1 : l.Nodup) (h2 : m.Nodup) (h : ∀ x, x ∈ l ↔ x ∈ m) : l.Perm m := (List.perm_ext_iff_of_nodup h1 h2).mpr h
theorem fn_sortset {t : Bool} (hc : X.calm = true) (hg : Gl X "sorted") (hm : X.mg "sorted" = none) (hg2 : Gl X "set") (hm2 : X.mg "set" = none) (ha : FB X W a f) (he : starEach [a] X.env = (false, eval a X.env) :: starEach [] X.env := by rfl)
    (he2 : starEach [.Call (.Name "set" p2) [a] [] q] X.env = (false, eval (.Call (.Name "set" p2) [a] [] q) X.env) :: starEach [] X.env := by rfl) :
    FN X W t (.Call (.Name "sorted" p1) [.Call (.Name "set" p2) [a] [] q] [] pos) (cUn dSortSet f) := by
  refine impE (pe_callB (cr_sortedSet hc) hg hm PyProof.Rows.boot_sorted (pa_cons (pe_callTy (cr_setT hc) hg2 hm2 PyProof.Rows.boot_set (pa_cons ha pa_nil he) (by decide) (by decide) he) pa_nil he2) (by decide) (by decide) he2) fun σ H Q ⟨H0, A0, A, ρ, o, P⟩ => ?_
  refine ⟨H0, A0, A, ρ, o, P.bind.mono fun d H1 s1 P1 v hv => ?_⟩
  obtain ⟨d2, e, P2⟩ := P1.ofO
  unfold dSortSet at e
  split at e
  · obtain ⟨ns, h1, h2⟩ := Option.bind_eq_some_iff.mp e
    split at h2
    · rename_i hl
      cases h2
      obtain ⟨p, us, rfl, h3, r⟩ := hv.tup
      obtain rfl := intsOf_rep r h1
      refine ⟨p, ns, rfl, h3, by omega, fun p' n hn hle => ⟨p', _, n, rfl, upd_same, by omega, fun ns' p'' k1 k2 k3 k4 => ?_⟩⟩
      have e1 : ns' = srtI (nubI ns) := srtI_eq (perm_nodup (nodup_strict k1) (nubI_nodup ns) fun x => by rw [k2 x, decide_eq_true_iff, nubI_mem]) (strict_le k1)
      subst e1
      have sm : Same H1 (upd H1 p' (SetO X.w p' (fun k => decide (k ∈ ns)) n)) := same_upd hn
      exact P2 _ (sm.trans (same_upd k4)) _ ⟨p'', rfl, s1.free (sm.free k4), orep_lst k4 (ints_data _)⟩
    · cases h2
  · cases e
/-- len(set(xs)) -/
def dLenSet : D → Option D
  | .list xs => (intsOf xs).bind fun ns => if ns.length ≤ 1000 then some (.int (nubI ns).length) else none
  | _ => none
theorem fe_lenset (hc : X.calm = true) (hg : Gl X "len") (hm : X.mg "len" = none) (hg2 : Gl X "set") (hm2 : X.mg "set" = none) (ha : FB X W a f) (na : starEach [a] X.env = (false, eval a X.env) :: starEach [] X.env := by rfl) :
    FE X W (.Call (.Name "len" p1) [.Call (.Name "set" p2) [a] [] q] [] pos) (cUn dLenSet f) := by
  refine ⟨fun pins s σ H Q I ⟨H0, A0, A, ρ, o, P⟩ => ?_⟩
  refine Call_ (ld_blt I hg hm PySem.boot_len (PyProof.Rows.callWith_builtin1 (PyProof.Rows.args_cons (Call_ (ld_blt I hg2 hm2 PyProof.Rows.boot_set ?_)) rfl) rfl rfl))
  refine PyProof.Rows.callWith_type1 (PyProof.Rows.args_cons (thn (ha.run pins s σ H (fun x H1 => ∃ l ns, x = V.ref l ∧ SqL X.K H1 l (ns.map V.int) ∧ ns.length ≤ 1000 ∧ Q (.int (nubI ns).length) H1) I ⟨H0, A0, A, ρ, o, P.bind.mono fun d H1 s1 P1 v hv => ?_⟩) fun v s1 ⟨x, H1, I1, r1, q1⟩ => PyProof.Rows.args_nil ?_) na) na rfl
  · obtain ⟨d2, e, P2⟩ := P1.ofO
    unfold dLenSet at e
    split at e
    · obtain ⟨ns, h1, h2⟩ := Option.bind_eq_some_iff.mp e
      split at h2
      · rename_i hl
        cases h2
        obtain ⟨p, us, rfl, h3, r⟩ := hv.lst
        obtain rfl := intsOf_rep r h1
        exact ⟨p, ns, rfl, SqL.of h3, hl, P2 H1 (Same.refl _) _ (.int _)⟩
      · cases h2
    · cases e
  · obtain ⟨p, ns, rfl, hs, hl, q1⟩ := q1
    cases r1
    obtain ⟨its, r, pl, hz⟩ := I1.list hs
    have e1 : its.toArray.size = ns.length := by rw [List.size_toArray, ← r.length, List.length_map]
    refine call_set_list (I1.ok.hd hc) pl.isList (ns := ns) (by simpa using r.ints) (by unfold scanBound; omega) fun h' tk hS hk => ?_
    rw [e1, PySem.W.oss_met, ← nubI_oss] at hS
    refine PyProof.Rows.args_nil ?_
    obtain ⟨o, es, ep, t, ho, hex, hd, _, _, _, hf, hn⟩ := hS
    have I2 : Inv X pins σ H1 { s1 with heap := h', toks := tk } := I1.kept fun b o e => hk b o (Heap.lt_size e) e
    have hb : (nubI ns).length ≤ ns.length := by rw [nubI_oss]; exact PySem.W.oss_len ns
    exact call_len_set ho hex hd hf (by rw [hn]; omega) ⟨.int (nubI ns).length, H1, I2.tok _, ⟨_, by rw [hn]⟩, q1⟩
/-- list(range(n)) -/
def dListRange (o : Option (List D)) : Option D := o.map .list
/-- x.index(y), x a list -/
def idxD (d : D) : List D → Option Nat
  | [] => none
  | z :: r => if PyData.eqv z d = true then some 0 else (idxD d r).map (· + 1)
theorem idxD_some {d : D} : ∀ {ds : List D} {j : Nat}, idxD d ds = some j → ∃ z, ds[j]? = some z ∧ PyData.eqv z d = true ∧ ∀ (m : Nat) (z' : D), m < j → ds[m]? = some z' → PyData.eqv z' d = false
  | [], j, h => by cases h
  | z :: r, j, h => by
    unfold idxD at h
    split at h
    · rename_i hz
      cases h
      exact ⟨z, rfl, hz, fun m z' hm => absurd hm (Nat.not_lt_zero _)⟩
    · rename_i hz
      obtain ⟨i, h1, h2⟩ := Option.map_eq_some_iff.mp h
      subst h2
      obtain ⟨z', h3, h4, h5⟩ := idxD_some h1
      refine ⟨z', by simpa using h3, h4, fun m z2 hm h6 => ?_⟩
      cases m with
      | zero => simp at h6; subst h6; exact Bool.eq_false_iff.mpr hz
      | succ m => exact h5 m z2 (by omega) (by simpa using h6)
def dIndex (ds : List D) (d : D) : Option D := if SeqAt.shaped (.list ds) = true ∧ SeqAt.shaped d = true then (idxD d ds).map fun (j : Nat) => .int j else none
def cIndex (f g : En → R D) : En → R D := fun ρ => (f ρ).bind fun x => match x with
  | .list ds => (g ρ).bind fun d => ofO (dIndex ds d)
  | _ => .no
theorem fe_index {apos cpos : Pos} (hu : X.A.units + 65 < cLine) (ha : FB X W a f) (hb : FE X W b g) (hbase : attributeBase a "index" X.env (eval a X.env) = eval a X.env := by rfl)
    (hfew : ((backTo cpos (starEach (b :: []) X.env)).all (fun x => !x.1) && (backToKw cpos (keywordEach [] X.env)).all (fun x => x.1.isSome)
      && decide ((b :: []).length + ([] : List Keyword).length + (if ([] : List Keyword).isEmpty then 0 else 1) < 30)) = true := by rfl)
    (hline : (apos.endLine == cpos.line) = true := by rfl) (hs : starEach (b :: []) X.env = (false, eval b X.env) :: starEach [] X.env := by rfl) (hplain : (backTo cpos (starEach [] X.env)).any (·.1) = false := by rfl) :
    FE X W (.Call (.Attribute a "index" apos) [b] [] cpos) (cIndex f g) := by
  refine impE (pe_bm PySem.F.plainAttrs_list PySem.F.slot_list_index PySem.F.type_list_index (mt_indexD hu) ha (pa_cons hb pa_nil hs) hbase hfew hline hs hplain) fun σ H Q ⟨H0, A0, A, ρ, o, P⟩ => ?_
  refine ⟨H0, A0, A, ρ, o, P.bind.mono fun d1 H1 s1 P1 x hx => ?_⟩
  split at P1
  · rename_i ds
    obtain ⟨p, vs, rfl, h4, r⟩ := hx.lst
    refine ⟨Or.inl ⟨rfl, vs, SqL.of h4⟩, H0, A0, A, ρ, o.same s1, P1.bind.mono fun d2 H2 s2 P2 y hy => ?_⟩
    obtain ⟨d, e, P3⟩ := P2.ofO
    unfold dIndex at e
    split at e
    · rename_i hsh
      obtain ⟨j, e1, e2⟩ := Option.map_eq_some_iff.mp e
      cases e2
      obtain ⟨z, h1, h2, h3⟩ := idxD_some e1
      exact ⟨p, y, d2, _, j, z, rfl, rfl, (hx.same s2).dp hsh.1, (RepB.of hy).dp hsh.2, hsh.1, hsh.2, h1, h2, h3, P3 H2 (Same.refl _) _ (.int _)⟩
    · cases e
  · exact P1.elim
end
end G

set_option maxHeartbeats 2000000
/-! an own error: super().__init__(at); self.at = at -/
namespace PySem
namespace AeX
open PySem.W PySem.Calls PyProof.Rows PySem.HandSPX
def aA (p1 p2 : Pos) : Arguments := { posonlyargs := [], args := [{ arg := "self", annotation := none, pos := p1 }, { arg := "at", annotation := none, pos := p2 }], vararg := none, kwonlyargs := [], kw_defaults := [], kwarg := none, defaults := [] }
def aB (q0 q1 q2 q3 q4 q5 r1 r2 r3 r4 : Pos) : List Stmt := [.Expr (.Call (.Attribute (.Call (.Name "super" q0) [] [] q1) "__init__" q2) [.Name "at" q3] [] q4) q5, .Assign [.Attribute (.Name "self" r1) "at" r2] (.Name "at" r3) r4]
def aS : Scope := { kind := .function, names := [(PySem.Str.ofString "self", .local), (PySem.Str.ofString "at", .local), (PySem.Str.ofString "__class__", .free), (PySem.Str.ofString "super", .globalImplicit)], isGenerator := false, isCoroutine := false, more := [] }
/-- what the written part says of the error at C, of the base class at D and its __init__ at fI -/
structure Txt (P : Program) (K : Frag) (mg : Str → Option Value) (C D fI : Addr) : Prop where
  cls : ∃ nm q N bs bm sn sub ab col dd k0 k1 k2 k3 k5, K.lookup C = some (excClassObj nm q C N bs bm true sn sub ab col dd k0 k1 k2 k3 k5 "ValueError.__new__") ∧ refsVE bm = true
  sa : findIn K (.ref C) "__setattr__" = some (some (.builtin "object.__setattr__"))
  ga : findIn K (.ref C) "__getattribute__" = some (some (.builtin "BaseException.__getattribute__"))
  gg : findIn K (.ref C) "__getattr__" = some none
  noN : findIn K (.ref C) "at" = some none
  iC : findIn K (.ref C) "__init__" = some (some (.ref fI))
  tC : typeIn K (.ref fI) = some (.type "function")
  kC : keepIn K (.ref C) = true
  exC : subIn K (.ref C) (.type "BaseException") = some true
  tyC : typeIn K (.ref C) = some (.type "type")
  hdC : hasDictIn K C = true
  sup : ks_superIn K C D "__init__" = some (some (.builtin "ValueError.__init__"))
  isD : mroIn K C (.ref D) = some true
  veC : subIn K (.ref C) (.type "ValueError") = some true
  opq : nsIn K cStatics "thirdparty.any" = some none
  clD : ∃ cdD, clsIn K D = some cdD
  nsu : mg "super" = none
  top : (P.main.scope.names.lookup ("super" : Str)).isSome = false
  fn : ∃ (oc : Value) (od : Option Addr) (doc pm : Value) (an : Option Addr) (cda : Addr) (ct : Value) (osl : Array (Option Value)) (cc : Addr) (p1 p2 q0 q1 q2 q3 q4 q5 r1 r2 r3 r4 : Pos),
    K.lookup fI = some ⟨oc, od, .func (ksFn "__init__" "AuctionError.__init__" (aA p1 p2) (aB q0 q1 q2 q3 q4 q5 r1 r2 r3 r4) aS .none .none doc pm an (.ref cda) ct cc), osl⟩ ∧ codeIn K (.ref cda) "AuctionError.__init__" = true ∧
    (∀ env : Env, ∃ pl : Sem Bool, eval (.Call (.Attribute (.Call (.Name "super" q0) [] [] q1) "__init__" q2) [.Name "at" q3] [] q4) env = (do
      let ov ← attributeBase (.Call (.Name "super" q0) [] [] q1) "__init__" env (eval (.Call (.Name "super" q0) [] [] q1) env)
      standAt q2.atName
      let (f, first) ← holding [ov] (getMethod ov "__init__" pl)
      callWith q4 f first (backTo q4 (starEach [.Name "at" q3] env)) [])) ∧
    (∃ (ccl : Value) (cdd : Option Addr) (vs : Array Value) (ccs : Array (Option Value)) (file : Str) (tf : Tok), K.lookup cda = some ⟨ccl, cdd, .fields vs, ccs⟩ ∧ vs[2]? = some (.str file tf) ∧ ((P.main.file : Str) == file) = true) ∧
    ∃ (cl : Value) (cld : Option Addr) (csl : Array (Option Value)), K.lookup cc = some ⟨cl, cld, .cell (some (.ref D)), csl⟩
theorem ldF {M : Model} {A : Around} {E : Value → Shared → Prop} {s : Shared} {name : Str} {scope : Scope} {L a cc : Addr} {cd : Value} {m : Str → Option Value} {x : Str} {pos : Pos} {v : Value} {Q : Value → Shared → Prop} (hn : s.heap.Ns L m) (hv : m x = some v) (h : Q v s)
    (hk : scope.kind = .function := by rfl) (hl : (ksEnv name scope L a cd cc).kindOf x = some .local := by rfl) (hd : (x == ("__debug__" : Str)) = false := by decide) :
    wpAny M A (eval (.Name x pos) (ksEnv name scope L a cd cc)) Q E s := wpAny_Name (wpAny_loadName_local hk hl hn hv h) hd
/-- what __init__ leaves of a fresh error at x -/
structure InitEnd (h h' : Heap) (x C dx : Addr) (v : Value) : Prop where
  keep : ∀ b o, b ≠ x → h.get? b = some o → h'.get? b = some o
  obj : ∃ t1 : Addr, h'.get? x = some { cls := .ref C, dict := some dx, data := .fields #[.ref t1, .none, .none, .none, .bool false, .none] }
  dbig : h.objs.size ≤ dx
  dne : dx ≠ x
  ns : h'.Ns1 dx (fun y => if y = "at" then some v else none)
section
variable {prog : Program} {w : World} {A : Around} {E : Value → Shared → Prop} {R : Result → Shared → Prop} {K : Frag} {mg mb : Str → Option Value} {C D fI : Addr}
variable {nm q : Str} {N : Addr} {bs bm : List Value} {hdct : Bool} {sn : List Str} {sub : List Value} {ab : Bool} {col : Option Bool} {dd : Option Addr} {k0 k1 k2 k3 k5 : Option Value}
/-- the bound ValueError.__init__ is called -/
theorem call_mw {h : Heap} {g : Array GenState} {d : Drawn} {t : Nat} {os : OsState} {u e t0 : Addr} {rest : List Value} {Q : Value → Shared → Prop}
    (hC : h.get? C = some (excClassObj nm q C N bs bm hdct sn sub ab col dd k0 k1 k2 k3 k5 "ValueError.__new__")) (he : h.get? e = some (excO C t0)) (hu : h.get? u = some (kxs_mw "ValueError.__init__" e)) (hrest : rest.length ≤ sizeLine)
    (hq : ∀ h' t1, (∀ b o, b ≠ e → h.get? b = some o → h'.get? b = some o) → h'.get? e = some (excO C t1) → Q .none ⟨h', g, d, t, os⟩) :
    wpAny (model prog w) A (call (.ref u) rest) Q E ⟨h, g, d, t, os⟩ := by
  refine wpAny_call (codeAny_of_tree ?_)
  show wpAny _ A.in1 (callAny (.ref u) ⟨rest, []⟩) _ _ _
  simp only [callAny]
  refine wpAny_bind (wpAny_load hu ?_)
  simp only [kxs_mw, show (Value.type "method-wrapper" == Value.type "method" || Value.type "method-wrapper" == Value.type "builtin_function_or_method" || Value.type "method-wrapper" == Value.type "method-wrapper") = true by decide, if_true]
  refine W.KFB.if_so (by decide) ?_
  refine wpAny_bind (ESX.check_bound F.excBase_ValueError hC he rfl ?_)
  refine wpAny_bind (wpAny_pure (wpAny_pure ?_))
  refine ⟨Code.quiet_builtin _ (by decide +kernel), codeAny_builtin F.excBase_ValueError.initEntry ?_⟩
  rw [Around.under_plainId F.excBase_ValueError.init.plain _]
  wp_walk
  refine hq _ h.objs.size (fun b o hb ho => ?_) ?_
  · rw [Heap.get?_update_other _ _ (Ne.symm hb)]
    exact Heap.get?_push_of_some _ ho
  · rw [Heap.get?_update_self _ (Heap.get?_push_of_some _ he) rfl]
    rfl
theorem ae_init {s : Shared} (T : Txt prog K mg C D fI) {x t0 : Addr} {v : Value} (X : K.In s.heap) (hG : s.heap.Ns mainGlobals mg) (hB : s.heap.Ns builtinsNs mb) (hbb : ∀ x : Str, x ≠ "__name__" → mb x = bootBuiltins x) (hlim : s.heap.NoLimit) (hx : s.heap.get? x = some (excO C t0)) (hnx : K.lookup x = none) (hroom : A.depth < recursionLimit)
    (hq : ∀ h' tk dx, InitEnd s.heap h' x C dx v → R (.ok (.ret .none)) { s with heap := h', toks := tk }) :
    codeAny (model prog w) A (.call (.ref fI) ⟨[.ref x, v], []⟩) R s := by
  obtain ⟨oc, od, doc, pm, an, cda, ct, osl, cc, p1, p2, q0, q1, q2, q3, q4, q5, r1, r2, r3, r4, ho, hcd, hev, ⟨ccl, cdd, vs, ccs, file, tf, hcode, hvs, hfile⟩, ⟨cl, cld, csl, hcell⟩⟩ := T.fn
  obtain ⟨nm, q, N, bs, bm, sn, sub, ab, col, dd, k0, k1, k2, k3, k5, hC, hbm⟩ := T.cls
  obtain ⟨cdD, hD⟩ := T.clD
  have hcl : clsIn K C = some { name := nm, bases := bs, mro := .ref C :: bm, ns := N, qualname := q, hasDict := true, slotNames := sn, subclasses := sub, abstract := ab, collection := col, hasDel := false } := by unfold clsIn; rw [hC] <;> rfl
  refine ks_codeAny_call_defAt (binds := [("self", .ref x), ("at", v)]) hroom (X _ _ ho) rfl hlim (codeRec_of X hcd) rfl (BindsTo.of_eq (by first | rfl | with_unfolding_all rfl)) (show ∀ y ∈ aS.names, y.2 ≠ .cell by decide) (show ∀ y ∈ [(("self" : Str), Value.ref x), ("at", v)], aS.names.lookup y.1 = some .local from fun y hy => ?_) (fun h₁ hn k => ?_) rfl rfl rfl
  · rcases List.mem_cons.mp hy with rfl | hy
    · rfl
    · obtain rfl := List.mem_singleton.mp hy
      rfl
  have hxL : s.heap.objs.size ≠ x := Nat.ne_of_gt (Heap.lt_size hx)
  have X₁ : K.In h₁ := X.keeps k
  have hx₁ := k _ _ hx
  obtain ⟨oD, hD1, hD2⟩ : ∃ oD, h₁.get? D = some oD ∧ oD.data = .cls cdD := by
    unfold clsIn at hD
    split at hD
    · rename_i c d cd' sl ho
      cases hD
      exact ⟨_, X₁ _ _ ho, rfl⟩
    · cases hD
  have I₁ : InstAt h₁ x (excO C t0) C none := ⟨hx₁, rfl, rfl, trivial⟩
  obtain ⟨pl, he⟩ := hev (ksEnv "AuctionError.__init__" aS s.heap.objs.size fI (.ref cda) cc)
  refine ks_wpAt_execs_cons (ks_wpAt_Expr_any (ks_wpAt_MethodCall (pl := pl) ?_ he))
  -- super()
  refine ks_wpAt_super_base (env := ksEnv "AuctionError.__init__" aS s.heap.objs.size fI (.ref cda) cc) rfl rfl (by decide) rfl (X₁ _ _ ho) rfl rfl rfl (X₁ _ _ hcode) rfl hvs hfile T.top ?_
  refine ks_loadName_global rfl rfl (loadGlobal_builtin (env := ksEnv "AuctionError.__init__" aS s.heap.objs.size fI (.ref cda) cc) (hG.keeps k) T.nsu (hB.keeps k) ((hbb _ (by decide +kernel)).trans (by first | rfl | kernel_rfl)) ⟨rfl, ?_⟩)
  refine wpAny_loadName_free rfl rfl rfl ⟨_, X₁ _ _ hcell, rfl⟩ ?_
  refine wpAny_loadName_local rfl rfl hn (show _ = some (Value.ref x) from by first | rfl | with_unfolding_all rfl) ?_
  refine ks_wpAny_isType_cls hD1 hD2 ⟨rfl, ?_⟩
  refine ks_wpAny_call_super hD1 hD2 I₁.at_ I₁.cls (fun c e => ?_) (looks_mroIn X₁ T.isD) (fun h2 e2 k2 => ?_)
  · cases e
  -- .__init__
  have X₂ : K.In h2 := X₁.keeps k2
  have I₂ : InstAt h2 x (excO C t0) C none := ⟨k2 _ _ hx₁, rfl, rfl, trivial⟩
  have hm := T.sup
  unfold ks_superIn at hm
  rw [hcl] at hm
  refine kxs_getMethod kxs_ValueError e2 (looks_opaque X₂ T.opq) (l₀ := .ref C :: bm) ?_ rfl X₂ hm (I₂.type.andThen (looks_subIn X₂ T.veC)) (ks_ne X₂ I₂ hcl) (by decide) ?_
  · exact fun A Q E s k q => wpAny_bind ((looks_clsIn X₂ hcl) A _ E s k (wpAny_pure q))
  -- (at)
  have k3 : ∀ b o, h2.get? b = some o → (h2.push (kxs_mw "ValueError.__init__" x)).get? b = some o := fun b o e => Heap.get?_push_of_some _ e
  have hmw : (h2.push (kxs_mw "ValueError.__init__" x)).get? h2.objs.size = some (kxs_mw "ValueError.__init__" x) := Heap.get?_push_at rfl rfl
  refine kxs_callWith (i := "ValueError.__init__") (x := x) rfl (evalArgs_plain (PyProof.Rows.args_cons (ldF (v := v) ((hn.keeps k2).keeps k3) (by first | rfl | with_unfolding_all rfl) (PyProof.Rows.args_nil ?_)) rfl))
  refine ⟨hmw, ?_⟩
  refine call_mw (k3 _ _ (X₂ _ _ hC)) (k3 _ _ I₂.at_) hmw (by show 1 ≤ sizeLine; rw [sizeLine_eq]; omega) fun h4 t1 k4 hx4 => ?_
  have kk : ∀ b o, b ≠ x → h₁.get? b = some o → h4.get? b = some o := fun b o hb e => k4 b o hb (k3 b o (k2 b o e))
  have X₄ : K.In h4 := fun a o e => kk a o (fun z => by rw [z, hnx] at e; cases e) (X₁ _ _ e)
  have hn4 : h4.Ns s.heap.objs.size (fun y => [(("self" : Str), Value.ref x), ("at", v)].reverse.lookup y) := by
    obtain ⟨o, es, ep, e, r⟩ := hn
    exact ⟨o, es, ep, kk _ _ hxL e, r⟩
  -- self.at = at
  refine wpAt_of_wpAny (wpAny_execs_cons (plainObj_wpAny_Assign_Attribute ?_))
  refine ldF (v := v) hn4 (by first | rfl | with_unfolding_all rfl) (ldF (v := .ref x) hn4 (by first | rfl | with_unfolding_all rfl) ?_)
  refine set_plain X₄ (ox := excO C t1) (od := none) ⟨hx4, rfl, rfl, trivial⟩ T.sa ?_
  refine exc_osa X₄ hx4 hcl (show refsVE (.ref C :: bm) = true from hbm) rfl T.noN (fun h₅ tk₅ dx k₅ dn dne hx₅ hn₅ => ?_)
  have z : s.heap.objs.size < h₁.objs.size := hn.lt
  have z4 : s.heap.objs.size < h4.objs.size := hn4.lt
  exact wpAny_execs_nil (hq h₅ tk₅ dx ⟨fun b o hb e => k₅ b o hb (kk b o hb (k b o e)), ⟨t1, hx₅⟩, Nat.le_of_lt (Nat.lt_of_lt_of_le z4 dn), dne, hn₅⟩)
/-- a made error -/
structure Made (h h' : Heap) (e C d : Addr) (v : Value) : Prop where
  keep : ∀ b o, h.get? b = some o → h'.get? b = some o
  new : h.objs.size ≤ e
  obj : ∃ oe vs, h'.get? e = some oe ∧ oe.cls = .ref C ∧ oe.dict = some d ∧ oe.data = .fields vs ∧ vs[1]? = some .none
  dbig : h.objs.size ≤ d
  dne : d ≠ e
  ns : h'.Ns1 d (fun y => if y = "at" then some v else none)
theorem ae_made {s : Shared} (T : Txt prog K mg C D fI) {v : Value} (X : K.In s.heap) (hG : s.heap.Ns mainGlobals mg) (hB : s.heap.Ns builtinsNs mb) (hbb : ∀ x : Str, x ≠ "__name__" → mb x = bootBuiltins x) (hlim : s.heap.NoLimit) (hroom : A.depth + 1 < recursionLimit)
    (hq : ∀ h' tk e d, Made s.heap h' e C d v → R (.ok (.ret (.ref e))) { s with heap := h', toks := tk }) : codeAny (model prog w) A (.call (.ref C) ⟨[v], []⟩) R s := by
  obtain ⟨nm, q, N, bs, bm, sn, sub, ab, col, dd, k0, k1, k2, k3, k5, hC, hbm⟩ := T.cls
  obtain ⟨hp, g, dr, tk, os⟩ := s
  have k : ∀ b o, hp.get? b = some o → ((hp.push (kdv_tup [v])).push (excO C hp.objs.size)).get? b = some o := fun b o e => Heap.get?_push_of_some _ (Heap.get?_push_of_some _ e)
  have hx : ((hp.push (kdv_tup [v])).push (excO C hp.objs.size)).get? (hp.objs.size + 1) = some (excO C hp.objs.size) := by heap_get
  have hnx : K.lookup (hp.objs.size + 1) = none := by
    cases e : K.lookup (hp.objs.size + 1) with
    | none => rfl
    | some o => exact absurd (Nat.lt_of_succ_lt (Heap.lt_size (show hp.get? (hp.objs.size + 1) = some o from X _ _ e))) (Nat.lt_irrefl _)
  refine call_own F.excBase_ValueError (fun X => refsVE_contains X bm hbm) (X _ _ hC) (looks_findIn X T.iC) (fun self => bind_fn X self T.tC) (by show 1 ≤ sizeLine; rw [sizeLine_eq]; omega) ?_
  refine ae_init (s := ⟨(hp.push (kdv_tup [v])).push (excO C hp.objs.size), g, dr, tk, os⟩) T (X.keeps k) (hG.keeps k) (hB.keeps k) hbb (hlim.keeps k) hx hnx (show A.depth + 1 < recursionLimit from hroom) fun h' tk' dx M => ?_
  have old : ∀ b o, hp.get? b = some o → h'.get? b = some o := fun b o e => M.keep b o (Nat.ne_of_lt (Nat.lt_succ_of_lt (Heap.lt_size e))) (k b o e)
  obtain ⟨t1, ho⟩ := M.obj
  have z : hp.objs.size ≤ dx := by
    have z2 := M.dbig
    simp only [Heap.size_push] at z2
    omega
  exact ⟨rfl, hq h' tk' (hp.objs.size + 1) dx ⟨old, Nat.le_succ _, ⟨_, _, ho, rfl, rfl, rfl, rfl⟩, z, M.dne, M.ns⟩⟩
end
end AeX
end PySem
namespace G
open PySem PySem.Spec PyProof.Rows L2
theorem relO_at {v : V} {v' : Value} (r : RelV v v') (f : Str) : RelO (List.lookup f [(("at" : Str), v)]) (if f = "at" then some v' else none) := by
  by_cases hw : f = "at"
  · subst hw
    rw [if_pos rfl, show List.lookup ("at" : Str) [(("at" : Str), v)] = some v by simp [List.lookup]]
    exact r
  · have qw : (f == ("at" : Str)) = false := by simpa using hw
    rw [if_neg hw, show List.lookup f [(("at" : Str), v)] = none by simp [List.lookup, qw]]
    trivial
/-- the errors that may be raised by their names -/
def ErrG (P : Program) (K : Frg) (mg : MgT) (x : Str) : Prop := ∃ C D fI, mg x = some (.ref C) ∧ PySem.AeX.Txt P K mg C D fI
section
variable {X : Cx} {W : WX} {C D1 fI : Addr} {a : Expr} {ta : TA} {x : Str} {p pos pos2 : Pos} {k : Nat} {f : En → R D}
def tMkE (C : Addr) (ta : TA) : St → Hp → XK → Prop := fun σ H Q => ta σ H fun vs H1 => ∃ v, vs = [v] ∧ ∀ d, H1 d = none → Q (.ref C) (some d) (upd H1 d (.xd [(("at" : Str), v)]))
theorem pmk_err (T : PySem.AeX.Txt X.prog X.K X.mg C D1 fI) (gC : X.mg x = some (.ref C)) (hr : Room k X.A) (ha : PA X [a] ta) (hg : Gl X x) (hdb : (x == ("__debug__" : Str)) = false := by decide)
    (he : starEach (a :: []) X.env = (false, eval a X.env) :: starEach [] X.env := by rfl) (hpl : (backTo pos (starEach [] X.env)).any (·.1) = false := by rfl) :
    PMk X (.Call (.Name x p) [a] [] pos) (tMkE C ta) := by
  intro pins s σ H Q I h
  refine wpAny_Call_Name_kw (ld_glob I hg gC ?_ hdb)
  refine PySem.W.callWith_K (h₀ := X.base) I.ok.mod.kin T.kC (thn (ha.run pos pins s σ H _ I h) fun us s1 ⟨vs, H1, I1, r1, v, ev, q1⟩ => ?_) he hpl
  subst ev
  refine ⟨I1.kIn, ?_⟩
  cases r1 with
  | cons rv rn =>
    rename_i v' us'
    cases rn
    obtain ⟨mb, hb, hbb⟩ := I1.ok.mod.blt
    have hG := I1.ok.mod.glob.keeps I1.bk
    have hB := hb.keeps I1.bk
    have hlim := I1.nolimit
    have hK := I1.kIn
    obtain ⟨hp, g, dr, tk, os⟩ := s1
    refine wpAny_call (PySem.AeX.ae_made T hK hG hB hbb hlim (by have := hr.dp; omega) fun h' tk' e d M => ?_)
    show MkP X pins σ Q (.ref e) ⟨h', g, dr, tk', os⟩
    obtain ⟨oe, fv, hoe, hc, hd, hdat, h1⟩ := M.obj
    obtain ⟨G', g1, g2⟩ := restrict h' fun b => decide (b ≠ e)
    have gk : ∀ b, b ≠ e → G'.get? b = h'.get? b := fun b hb => g1 b (decide_eq_true hb)
    have ge : G'.get? e = none := g2 e (by simp)
    have ob : ObjOk X.prog X.w (upd H1 d (.xd [(("at" : Str), v)])) G' d (.xd [(("at" : Str), v)]) := ⟨_, M.ns.at (fun o q => (gk d M.dne).trans q), fun f => relO_at rv f⟩
    have J : Inv X pins σ (upd H1 d (.xd [(("at" : Str), v)])) ⟨G', g, dr, tk', os⟩ :=
      I1.laid (t' := tk') (fun b o q => (gk b (Nat.ne_of_lt (Nat.lt_of_lt_of_le (Heap.lt_size q) M.new))).trans (M.keep b o q)) M.dbig ob
    refine ⟨e, oe, fv, ⟨G', g, dr, tk', os⟩, _, .ref C, some d, rfl, J, fun b o q => ?_, ge, hoe, ⟨hc, hd⟩, hdat, h1, ?_, rfl, I1.bare, raises_own T.exC T.tyC, q1 d (I1.hok.fresh M.dbig)⟩
    · have q' : G'.get? b = some o := q
      by_cases hb : b = e
      · rw [hb, ge] at q'; cases q'
      · exact (gk b hb).symm.trans q'
    · rw [upd_ne (Ne.symm M.dne)]
      exact I1.hok.fresh M.new
/-- raise c(e), e an int -/
def sRaise (c : String) (f : En → R D) : En → SR := fun ρ => .of (f ρ) ρ fun d => match d with
  | .int n => .ex c n ρ
  | _ => .no
theorem fs_raise {c : String} (hx : x = Str.ofString c) (T : ErrG X.prog X.K X.mg x) (hc : X.calm = true) (hr : Room k X.A) (tk : Takes X W) (hg : Gl X x) (ha : FE X W a f) (hdb : (x == ("__debug__" : Str)) = false := by decide)
    (he : starEach (a :: []) X.env = (false, eval a X.env) :: starEach [] X.env := by rfl) (hpl : (backTo pos (starEach [] X.env)).any (·.1) = false := by rfl) :
    FS X W (.Raise (some (.Call (.Name x p) [a] [] pos)) none pos2) (sRaise c f) := by
  obtain ⟨C, D1, fI, gC, T⟩ := T
  refine impS (ps_raise hc tk (pmk_err T gC hr (pa_cons ha pa_nil he) hg hdb he hpl)) fun E σ H ⟨H0, A0, A, ρ, o, P⟩ => ?_
  refine ⟨H0, A0, A, ρ, o, (P.of o).mono fun d H1 s1 P1 v hv => ⟨v, rfl, fun dd hdd => ?_⟩⟩
  split at P1
  · rename_i n
    obtain rfl := (RepB.of hv).int
    have sm : Same H1 (upd H1 dd (.xd [(("at" : Str), .int n)])) := same_upd hdd
    exact P1 (.ref C) dd σ _ A ((o.same s1).same sm) (Tr.same (s1.trans sm)) (o.ext.free (s1.free hdd)) ⟨by rw [← hx]; exact gC, upd_same⟩
  · exact P1.elim
end
end G

namespace G
open PySem PySem.Spec PyProof.Rows L2

/-! ### several clauses, each with the same name for the error -/
def gone (i : Nat) (D : Ends) : Ends := { nx := fun τ K1 => D.nx (τ.set i none) K1, rt := D.rt, bk := fun τ K1 => D.bk (τ.set i none) K1, ct := fun τ K1 => D.ct (τ.set i none) K1 }
abbrev Cls := Value × (Addr → Value → Option Addr → TS)
def wAll (K : Frg) (i : Nat) (Wo : WX) (D : Ends) : List Cls → WX
  | [] => Wo
  | q :: r => fun cls dx τ K1 => ∃ b, PySem.W.exmOne K cls q.1 = some b ∧ (b = true → ∀ a, K1 a = none → q.2 a cls dx (gone i D) (τ.set i (some (.ref a))) K1) ∧ (b = false → wAll K i Wo D r cls dx τ K1)
inductive HdsAs (X : Cx) (n : Str) : List ExceptHandler → List Cls → Prop
  | nil : HdsAs X n [] []
  | cons {x : Str} {c : Value} {ts : Addr → Value → Option Addr → TS} {st : Stmt} {sts : List Stmt} {np hp : Pos} {hds : List ExceptHandler} {l : List Cls} (named : Names X x c)
      (does : ∀ (a : Addr) (oe : Obj) (cls : Value) (dx : Option Addr) (pn : List (Addr × Obj)), Zc cls dx oe → (∃ vs, oe.data = .fields vs) → PSs (X.suite a ((a, oe) :: pn)) (st :: sts) (ts a cls dx)) (rest : HdsAs X n hds l) :
      HdsAs X n (.ExceptHandler (some (.Name x np)) (some n) (st :: sts) hp :: hds) ((c, ts) :: l)
section
variable {X : Cx} {n : Str} {i : Nat} {body : List Stmt} {hd1 : ExceptHandler} {hds : List ExceptHandler} {l : List Cls} {pos : Pos} {tb : WX → TS} {Wo : WX}
theorem ps_try_all (hst : X.stack = X.env :: X.outer) (hfr0 : X.env.frame = some X.env.locals) (hN : X.N.Nodup) (hi : X.N[i]? = some n) (hln : X.env.kindOf n = some .local) (tk : Takes X Wo)
    (hb : ∀ (W : WX) (pn : List (Addr × Obj)) (xe : Value → Shared → Prop), Takes (X.tr pn xe) W → PassesOwn (model X.prog X.w) X.A X.env xe → PSs (X.tr pn xe) body (tb W))
    (hh : HdsAs X n (hd1 :: hds) l) : PS X (.Try body (hd1 :: hds) [] [] pos) (fun D τ K1 => tb (wAll X.K i Wo D l) D τ K1) := by
  refine ⟨fun pins s τ0 K0 D I h => ?_⟩
  have okX := I.ok
  have hfr : X.A.frames = some (X.env :: X.outer) := okX.frames.trans (by rw [hst])
  have there : Loc X.env.scope n := .inl hln
  refine wpAny_Try_except (wpAny_mono ((hb (wAll X.K i Wo D l) (X.pn ++ pins) _ (fun u s' air => ?_) PassesOwn.looking).run [] s τ0 K0 D (I.toTry _) h) (fun f s1 done => ?_) fun _ _ he => he)
  · obtain ⟨a, B, sI, pins', τ, K1, cls, dx, rfl, J', nb, up, sky, na, os, ag, w⟩ := air
    have J : Inv X pins τ K1 sI := J'.ofTry okX
    refine Sky.land Zc.steady hfr hfr0 (show Sky B (X.env :: X.outer) a (Zc cls dx) X.env.locals s'.heap from hst ▸ sky) fun h3 fl3 up3 => ?_
    have J3 : Inv X pins τ K1 { s' with heap := h3 } := J.landed nb fl3.1 (up.trans up3) os ag
    obtain ⟨oe3, vs3, he3, hz3, hd3⟩ := fl3.there
    have apart : a ∉ frs (X.env :: X.outer) := fun hm => by
      obtain ⟨_, o2, e2, ne2⟩ := fl3.2.2.1.mem hm
      cases he3.symm.trans e2
      exact ne2 _ hd3
    have nL : a ≠ X.env.locals := fun z => apart (List.mem_filterMap.mpr ⟨X.env, List.mem_cons_self, by rw [hfr0, z]⟩)
    have nF : a ∉ X.fs := fun hm => by
      obtain ⟨e, he, q⟩ := List.mem_filterMap.mp hm
      exact apart (List.mem_filterMap.mpr ⟨e, List.mem_cons_of_mem _ he, q⟩)
    have S3 := J3.suite he3 hd3 na nL nF
    have go : ∀ {hs' : List ExceptHandler} {l' : List Cls}, HdsAs X n hs' l' → wAll X.K i Wo D l' cls dx τ K1 → wpAny (model X.prog X.w) X.A (handleBy (.ref a) X.env hs') (SP X pins D) X.xe { s' with heap := h3 } := by
      intro hs' l' hk
      induction hk with
      | nil =>
        intro w
        obtain ⟨_, _, _, oe, vs, T, oT, ts', he, hz, hd, h1, _⟩ := id fl3
        refine wpAny_handleBy_nil ?_
        unfold PySem.passOn
        refine wpAny_bind (wpAny_field he hd h1 ?_)
        rw [if_neg (show ¬ ((Value.ref T == Value.none) = true) from by simp)]
        have fin : wpAny (model X.prog X.w) X.A (setFlight (.ref a) X.env.frame) (fun _ s4 => wpAny (model X.prog X.w) X.A (throw (.ref a) : Sem Flow) (SP X pins D) X.xe s4) X.xe { s' with heap := h3 } :=
          hfr0 ▸ HandSPX.setFlight_upZ fl3 fun h4 hh4 up4 => wpAny_throw (tk _ _ ⟨a, B, sI, pins, τ, K1, cls, dx, rfl, J, nb, (up.trans up3).trans up4, .inr (.inr (hst ▸ hh4)), na, os, ag, w⟩)
        first
          | exact wpAny_bind (wpAny_pure (wpAny_bind fin))
          | exact wpAny_bind fin
      | @cons x c ts st sts np hp hs2 l2 named does rest ih =>
        intro w
        obtain ⟨b, hb1, hyes, hno⟩ := w
        refine wpAny_handleBy_cons (codeAny_handlers_test ?_) (by intro q; cases q)
        have LT : PySem.W.Looks (model X.prog X.w) h3 (typeOf (.ref a)) cls := fun A Q E s k q => wpAny_typeOf_ref (k _ _ he3) (by rw [hz3.1]; exact q)
        have LM := PySem.W.exm_one (M := model X.prog X.w) J3.kIn LT hb1
        have asked : ∀ {Q : Value → Shared → Prop} {E : Value → Shared → Prop}, Q c { s' with heap := h3 } → wpAny (model X.prog X.w) (X.A.mark (some (.ref a))) (eval (.Name x np) X.env) Q E { s' with heap := h3 } := fun {Q E} q => by
          obtain ⟨hg, hdb, hm | ⟨hm, hv, hnn⟩⟩ := named
          · exact ld_glob (X := X.suite a ((a, oe3) :: (X.pn ++ pins))) S3 hg hm q hdb
          · exact ld_blt (X := X.suite a ((a, oe3) :: (X.pn ++ pins))) S3 hg hm hv q hnn hdb
        refine asked (LM.here ?_)
        cases b with
        | false => exact ih (hno rfl)
        | true =>
          refine codeAny_handlers_suite_as (HandSPX.lands_againZ fl3 fun h4 fl4 up4 => ?_)
          have J4 : Inv X pins τ K1 { s' with heap := h4 } := J.landed nb fl4.1 ((up.trans up3).trans up4) os ag
          obtain ⟨oe4, vs4, he4, hz4, hd4⟩ := fl4.there
          refine store_ok (X := X.suite a ((a, oe4) :: (X.pn ++ pins))) (v := .ref a) (J4.suite he4 hd4 na nL nF) hN hi there rfl (fun s5 S5 => ?_) (.inr hln)
          refine wpAny_mono ((does a oe4 cls dx (X.pn ++ pins) hz4 ⟨_, hd4⟩).run [] s5 _ K1 _ S5 (hyes rfl a na)) (fun f s6 hsp => ?_) fun _ _ z => z.elim
          have over : ∀ {τ6 : St} {K6 : Hp} {Q : Shared → Prop}, Inv (X.suite a ((a, oe4) :: (X.pn ++ pins))) [] τ6 K6 s6 → (∀ s7, Inv X pins (τ6.set i none) K6 s7 → Q s7) →
              wpAny (model X.prog X.w) X.A (do bindName X.env n .none; unbindBehindTheSuite X.env n hp) (fun _ s7 => Q s7) X.xe s6 := fun {τ6 K6 Q} S6 hq => gone_ok (S6.unsuite okX) hN hi hln hq
          cases f with
          | next =>
            obtain ⟨τ6, K6, S6, q6⟩ := hsp
            exact over S6 fun s7 J7 => ⟨_, _, J7, q6⟩
          | brk =>
            obtain ⟨τ6, K6, S6, q6⟩ := hsp
            exact over S6 fun s7 J7 => ⟨_, _, J7, q6⟩
          | cont =>
            obtain ⟨τ6, K6, S6, q6⟩ := hsp
            exact over S6 fun s7 J7 => ⟨_, _, J7, q6⟩
          | ret u =>
            obtain ⟨v6, τ6, K6, S6, r6, q6⟩ := hsp
            exact over S6 fun s7 J7 => ⟨_, _, _, J7, r6, q6⟩
    exact go hh w
  · cases f with
    | next =>
      obtain ⟨τ, K1, J, q⟩ := done
      exact wpAny_execs_nil ⟨τ, K1, J.ofTry okX, q⟩
    | brk =>
      obtain ⟨τ, K1, J, q⟩ := done
      exact ⟨τ, K1, J.ofTry okX, q⟩
    | cont =>
      obtain ⟨τ, K1, J, q⟩ := done
      exact ⟨τ, K1, J.ofTry okX, q⟩
    | ret u =>
      obtain ⟨v, τ, K1, J, r, q⟩ := done
      exact ⟨v, τ, K1, J.ofTry okX, r, q⟩
end
/-! ### the error's number -/
def tAtOf (mg : MgT) (P : Program) (K : Frg) (a : Addr) (cls : Value) (dx : Option Addr) (te : TE) : TE := fun τ K0 Q => te τ K0 fun x K1 => x = .ref a ∧ ∃ (C D1 fI dd : Addr) (v : V), cls = .ref C ∧ PySem.AeX.Txt P K mg C D1 fI ∧ dx = some dd ∧ K1 dd = some (.xd [(("at" : Str), v)]) ∧ Q v K1
section
variable {X : Cx} {W : WX} {n : Str} {i : Nat}
theorem pe_at {a : Addr} {oe : Obj} {cls : Value} {dx : Option Addr} {pn : List (Addr × Obj)} {e : Expr} {te : TE} {pos : Pos} (hz : Zc cls dx oe) (hf : ∃ vs, oe.data = .fields vs) (he : PE (X.suite a ((a, oe) :: pn)) e te)
    (hb : attributeBase e "at" X.env (eval e X.env) = eval e X.env := by rfl) : PE (X.suite a ((a, oe) :: pn)) (.Attribute e "at" pos) (tAtOf X.mg X.prog X.K a cls dx te) := by
  refine ⟨fun pins s τ K0 Q I h => attr_of hb (thn (he.run pins s τ K0 _ I h) fun u s1 hh => ?_)⟩
  obtain ⟨x, K1, I1, rx, rfl, C, D1, fI, dd, v, rfl, T, rfl, ea, q⟩ := hh
  obtain rfl : u = Value.ref a := rx
  obtain ⟨vs, hd⟩ := hf
  obtain ⟨ha, _⟩ := I1.pin (a, oe) (List.mem_append_left _ List.mem_cons_self)
  obtain ⟨mA, hns, hr⟩ := (show ObjOk X.prog X.w K1 s1.heap dd (.xd [(("at" : Str), v)]) from I1.hok dd _ ea)
  obtain ⟨od, ho, hl⟩ := lookIn_ns hns
  obtain ⟨u, hu, ru⟩ := RelO.some_of (v := v) (o := mA "at") (by rw [← show List.lookup ("at" : Str) [(("at" : Str), v)] = some v by simp [List.lookup]]; exact hr "at")
  have J : PySem.W.InstAt s1.heap a oe C (some od) := ⟨ha, hz.1, by unfold PySem.W.notCls; rw [hd] <;> rfl, by rw [hz.2]; exact ho⟩
  exact HandSPX.exc_get I1.kIn J T.ga T.gg T.exC (PySem.W.findObj_own T.hdC T.noN rfl (by rw [hl, hu])) (handed_of ru) ⟨v, K1, I1.tok _, ru, q⟩
/-- one error is, or is not, below another -/
def ExM (P : Program) (K : Frg) (mg : MgT) (c x : String) (b : Bool) : Prop := ∃ u v, mg (Str.ofString c) = some u ∧ mg (Str.ofString x) = some v ∧ PySem.W.exmOne K u v = some b ∧ ErrG P K mg (Str.ofString c)
theorem fa0 {α : Type} {P : α → Prop} : ∀ q ∈ ([] : List α), P q := fun q h => absurd h List.not_mem_nil
theorem fa1 {α : Type} {P : α → Prop} {a : α} {l : List α} (h : P a) (t : ∀ q ∈ l, P q) : ∀ q ∈ a :: l, P q := fun q m => by
  rcases List.mem_cons.mp m with rfl | m
  · exact h
  · exact t q m
theorem ErrG.named {P : Program} {K : Frg} {mg : MgT} {x : Str} (h : ErrG P K mg x) : ∃ v, mg x = some v := by
  obtain ⟨C, _, _, e, _⟩ := h
  exact ⟨_, e⟩
inductive HdAt (X : Cx) (n : Str) : List ExceptHandler → List (List (String × Bool) × Str) → Prop
  | nil : HdAt X n [] []
  | cons {x : String} {z : Str} {j k : Nat} {np p2 p3 p4 p5 p6 hp : Pos} {hds : List ExceptHandler} {tab : List (String × Bool)} {l : List (List (String × Bool) × Str)} (hg : Gl X (Str.ofString x)) (hdb : ((Str.ofString x) == ("__debug__" : Str)) = false)
      (hm : ∃ v, X.mg (Str.ofString x) = some v) (ht : ∀ q ∈ tab, ExM X.prog X.K X.mg q.1 x q.2) (rest : HdAt X n hds l) :
      HdAt X n (.ExceptHandler (some (.Name (Str.ofString x) np)) (some n) [.Return (some (.Tuple [.Constant (.str z) j p2, .Attribute (.Name n p3) "at" p4] k p5)) p6] hp :: hds) ((tab, z) :: l)
def tryAt (c : String) (m : Int) (ρ : En) : List (List (String × Bool) × Str) → SR
  | [] => .ex c m ρ
  | (tab, z) :: r => match tab.lookup c with
    | some true => .rt (.tuple [.str z, .int m])
    | some false => tryAt c m ρ r
    | none => .no
def sTryAt (i : Nat) (g : En → SR) (cl : List (List (String × Bool) × Str)) : En → SR := fun ρ => match g ρ with
  | .ex c m ρ1 => if i < ρ1.length then tryAt c m ρ1 cl else .no
  | r => r
def tsAt (X : Cx) (i : Nat) (z : Str) : Addr → Value → Option Addr → TS := fun a cls dx => tRet (tTup (tCons (tC (.str z)) (tCons (tAtOf X.mg X.prog X.K a cls dx (tVar i)) tNil)))
theorem hds_at (hN : X.N[i]? = some n) (hv : Vis X.env.scope n) (hd : (n == ("__debug__" : Str)) = false) (hcd : (n == ("__classdict__" : Str)) = false) (hbase : ∀ p, attributeBase (.Name n p) "at" X.env (eval (.Name n p) X.env) = eval (.Name n p) X.env)
    (hs : ∀ (z : Str) (j : Nat) (p2 p3 p4 : Pos), starEach [.Constant (.str z) j p2, .Attribute (.Name n p3) "at" p4] X.env = (false, eval (.Constant (.str z) j p2) X.env) :: starEach [.Attribute (.Name n p3) "at" p4] X.env)
    (hs2 : ∀ (p3 p4 : Pos), starEach [.Attribute (.Name n p3) "at" p4] X.env = (false, eval (.Attribute (.Name n p3) "at" p4) X.env) :: starEach [] X.env) {hds : List ExceptHandler} {l : List (List (String × Bool) × Str)} (h : HdAt X n hds l) :
    ∃ l' : List Cls, HdsAs X n hds l' ∧ Paired (fun (p : Cls) (q : List (String × Bool) × Str) => p.2 = tsAt X i q.2 ∧ ∀ r ∈ q.1, ∃ u, X.mg (Str.ofString r.1) = some u ∧ PySem.W.exmOne X.K u p.1 = some r.2 ∧ ErrG X.prog X.K X.mg (Str.ofString r.1)) l' l := by
  induction h with
  | nil => exact ⟨[], .nil, .nil⟩
  | @cons x z j k np p2 p3 p4 p5 p6 hp hds tab l hg hdb hm ht rest ih =>
    obtain ⟨v, hm⟩ := hm
    obtain ⟨l', h1, h2⟩ := ih
    refine ⟨(v, tsAt X i z) :: l', .cons ⟨hg, hdb, .inl hm⟩ (fun a oe cls dx pn hz hf => pss_one (ps_ret (pe_tup (pa_cons pe_str (pa_cons (pe_at hz hf (pe_var hN hv hd hcd) (hbase _)) pa_nil (hs2 _ _)) (hs _ _ _ _ _))))) h1, .cons ⟨rfl, fun r hr => ?_⟩ h2⟩
    obtain ⟨u, v', e1, e2, e3, e4⟩ := ht r hr
    cases hm.symm.trans e2
    exact ⟨u, e1, e3, e4⟩
theorem lookup_mem {c : String} {b : Bool} : ∀ {tab : List (String × Bool)}, tab.lookup c = some b → (c, b) ∈ tab
  | [], h => by cases h
  | (c', b') :: r, h => by
    rw [List.lookup_cons] at h
    split at h
    · rename_i e
      cases h
      rw [beq_iff_eq.mp e]
      exact List.mem_cons_self
    · exact List.mem_cons_of_mem _ (lookup_mem h)
theorem try_post {K : Frg} {mg : MgT} {H0 : Hp} {A0 : List Addr} {E : Ends} {Wo : WX} (hK : K = X.K) (hmg : mg = X.mg) {c : String} {m : Int} {ρ1 : En} {σ' : St} {H' : Hp} {A' A : List Addr} {H : Hp} {u : Value} {p : Addr} (o' : Ok K H0 A0 A' ρ1 σ' H') (tr : Tr A H A' H') (hp : H0 p = none) (he : ErrAt mg c m u p H') (hi : i < ρ1.length) :
    ∀ {l' : List Cls} {l : List (List (String × Bool) × Str)}, Paired (fun (p : Cls) (q : List (String × Bool) × Str) => p.2 = tsAt X i q.2 ∧ ∀ r ∈ q.1, ∃ u, X.mg (Str.ofString r.1) = some u ∧ PySem.W.exmOne X.K u p.1 = some r.2 ∧ ErrG X.prog X.K X.mg (Str.ofString r.1)) l' l →
      PostS K mg Wo H0 A0 A H E (tryAt c m ρ1 l) → wAll K i Wo E l' u (some p) σ' H'
  | _, _, .nil, P => P u p σ' H' A' o' tr hp he
  | _, _, .cons (a := q) (b := (tab, z)) ⟨e1, e2⟩ rest, P => by
    unfold tryAt at P
    split at P
    · rename_i hl
      obtain ⟨u', h1, h2, C, D1, fI, h3, T⟩ := e2 _ (lookup_mem hl)
      subst hK
      subst hmg
      cases he.1.symm.trans h1
      cases h1.symm.trans h3
      refine ⟨true, h2, fun _ a ha => ?_, fun z => Bool.noConfusion z⟩
      rw [e1]
      refine ⟨.ref a, by rw [List.getElem?_set_self (by rw [o'.len]; exact hi)], rfl, C, D1, fI, p, .int m, rfl, T, rfl, he.2, (by show 2 ≤ sizeLine; rw [sizeLine_eq]; omega), fun t ht => ?_⟩
      exact P _ _ (o'.ext.trans (same_upd ht)) (rep_tup (fun z => o'.has t (o'.sub t z) ht) ht (.cons (.str z) (.one (.int m))))
    · rename_i hl
      obtain ⟨u', h1, h2, _⟩ := e2 _ (lookup_mem hl)
      subst hK
      subst hmg
      cases he.1.symm.trans h1
      exact ⟨false, h2, fun z => Bool.noConfusion z, fun _ => try_post rfl rfl o' tr hp he hi rest P⟩
    · exact P.elim
theorem fs_tryAt {body : List Stmt} {hd1 : ExceptHandler} {hds : List ExceptHandler} {l : List (List (String × Bool) × Str)} {pos : Pos} {gb : En → SR} (hst : X.stack = X.env :: X.outer) (hfr0 : X.env.frame = some X.env.locals) (hN : X.N.Nodup) (hi : X.N[i]? = some n) (hln : X.env.kindOf n = some .local) (tk : Takes X W)
    (hv : Vis X.env.scope n) (hd : (n == ("__debug__" : Str)) = false) (hcd : (n == ("__classdict__" : Str)) = false) (hbase : ∀ p, attributeBase (.Name n p) "at" X.env (eval (.Name n p) X.env) = eval (.Name n p) X.env)
    (hs : ∀ (z : Str) (j : Nat) (p2 p3 p4 : Pos), starEach [.Constant (.str z) j p2, .Attribute (.Name n p3) "at" p4] X.env = (false, eval (.Constant (.str z) j p2) X.env) :: starEach [.Attribute (.Name n p3) "at" p4] X.env)
    (hs2 : ∀ (p3 p4 : Pos), starEach [.Attribute (.Name n p3) "at" p4] X.env = (false, eval (.Attribute (.Name n p3) "at" p4) X.env) :: starEach [] X.env)
    (hb : ∀ (W' : WX) (pn : List (Addr × Obj)) (xe : Value → Shared → Prop), Takes (X.tr pn xe) W' → PassesOwn (model X.prog X.w) X.A X.env xe → FSs (X.tr pn xe) W' body gb)
    (hh : HdAt X n (hd1 :: hds) l) : FS X W (.Try body (hd1 :: hds) [] [] pos) (sTryAt i gb l) := by
  obtain ⟨l', h1, h2⟩ := hds_at hi hv hd hcd hbase hs hs2 hh
  refine impS (ps_try_all (tb := fun W' => tFS X.K X.mg W' gb) hst hfr0 hN hi hln tk hb h1) fun E σ H ⟨H0, A0, A, ρ, o, P⟩ => ⟨H0, A0, A, ρ, o, ?_⟩
  unfold sTryAt at P
  cases hg : gb ρ with
  | ex c m ρ1 =>
    rw [hg] at P
    have P : PostS X.K X.mg W H0 A0 A H E (if i < ρ1.length then tryAt c m ρ1 l else .no) := P
    split at P
    · rename_i hlt
      exact fun u p σ' H' A' o' tr hp he => try_post rfl rfl o' tr hp he hlt h2 P
    · exact P.elim
  | nx _ => rw [hg] at P; exact P
  | rt _ => rw [hg] at P; exact P
  | bk _ => rw [hg] at P; exact P
  | ct _ => rw [hg] at P; exact P
  | no => rw [hg] at P; exact P
end
end G

namespace G
open PySem PySem.Spec PyProof.Rows L2

/-! ### one of several defs, picked by a number -/
def cPick (g : En → R D) (Fs : List (List D → R D)) (l : En → R (List D)) : En → R D := fun ρ => (g ρ).bind fun d => match (toI d).bind (atI Fs) with
  | some F => (l ρ).bind F
  | none => .no
section
variable {X : Cx} {W : WX} {k : Nat} {a b e : Expr} {es : List Expr} {f g : En → R D} {l : En → R (List D)} {p1 p2 q pos : Pos} {x : Str}
inductive FnList (X : Cx) (k : Nat) : List Expr → List (List D → R D) → Prop
  | nil : FnList X k [] []
  | cons {x : Str} {p : Pos} {es : List Expr} {F : List D → R D} {Fs : List (List D → R D)} (c : CallG X.prog X.w X.K X.mg X.base k x F) (hg : Gl X x) (hdb : (x == ("__debug__" : Str)) = false) (hs : starEach (.Name x p :: es) X.env = (false, eval (.Name x p) X.env) :: starEach es X.env)
      (rest : FnList X k es Fs) : FnList X k (.Name x p :: es) (F :: Fs)
abbrev IsFn (X : Cx) (k : Nat) (v : V) (F : List D → R D) : Prop := ∃ f fd ps, v = V.ref f ∧ FnG X.prog X.w X.K X.mg X.base k f fd ps F ∧ PySem.W.keepIn X.K (.ref f) = true ∧ Binds X.K fd ps []
theorem FnList.pa {Fs : List (List D → R D)} (h : FnList X k es Fs) : ∃ vs, Paired (IsFn X k) vs Fs ∧ PA X es (fun _ H Q => Q vs H) := by
  induction h with
  | nil => exact ⟨[], .nil, pa_nil⟩
  | @cons x p es F Fs c hg hdb hs rest ih =>
    obtain ⟨f, fd, ps, h1, h2, h3, h4⟩ := c
    obtain ⟨vs, h5, h6⟩ := ih
    exact ⟨.ref f :: vs, .cons ⟨f, fd, ps, rfl, h1, h3, h4⟩ h5, pa_cons (pe_glob (v := .ref f) hg h2 rfl hdb) h6 hs⟩
theorem paired_len {α β : Type} {R : α → β → Prop} : ∀ {xs : List α} {ys : List β}, Paired R xs ys → xs.length = ys.length
  | _, _, .nil => rfl
  | _, _, .cons _ t => by rw [List.length_cons, List.length_cons, paired_len t]
theorem paired_get {α β : Type} {R : α → β → Prop} : ∀ {xs : List α} {ys : List β} {i : Nat} {y : β}, Paired R xs ys → ys[i]? = some y → ∃ x, xs[i]? = some x ∧ R x y
  | _, _, _, _, .nil, h => by simp at h
  | _, _, 0, _, .cons a _, h => by simp at h; subst h; exact ⟨_, rfl, a⟩
  | _, _, i + 1, _, .cons _ t, h => by
    obtain ⟨v, h1, h2⟩ := paired_get (i := i) t (by simpa using h)
    exact ⟨v, by simpa using h1, h2⟩
theorem paired_at {α β : Type} {R : α → β → Prop} {xs : List α} {ys : List β} {i : Int} {y : β} (h : Paired R xs ys) (e : atI ys i = some y) : ∃ x, atI xs i = some x ∧ R x y := by
  unfold atI at e ⊢
  obtain ⟨j, h1, h2⟩ := Option.bind_eq_some_iff.mp e
  obtain ⟨x, h3, h4⟩ := paired_get h h2
  exact ⟨x, by rw [paired_len h, h1]; exact h3, h4⟩
theorem fe_pick {fs : List Expr} {Fs : List (List D → R D)} (hf : FnList X k fs Fs) (hr : Room k X.A) (hgd : X.A.guards = some []) (tk : Takes X W) (hi : FE X W b g) (ha : FA X W (e :: es) l) (hl : Fs.length ≤ sizeLine) (hs : PlainIx b)
    (hev : eval (.Call (.Subscript (.List fs p1) b p2) (e :: es) [] pos) X.env = (do callWith pos (← eval (.Subscript (.List fs p1) b p2) X.env) [] (backTo pos (starEach (e :: es) X.env)) (backToKw pos (keywordEach [] X.env))) := by rfl)
    (he : starEach (e :: es) X.env = (false, eval e X.env) :: starEach es X.env := by rfl) (hpl : (backTo pos (starEach es X.env)).any (·.1) = false := by rfl) :
    FE X W (.Call (.Subscript (.List fs p1) b p2) (e :: es) [] pos) (cPick g Fs l) := by
  obtain ⟨vs0, h1, h2⟩ := hf.pa
  refine ⟨fun pins s σ H Q I ⟨H0, A0, A, ρ, o, P⟩ => ?_⟩
  refine Call_ (thn ((pe_ix ix_list (pe_lst h2) hi hs).run pins s σ H (fun v H1 => Same H H1 ∧ ∃ F, IsFn X k v F ∧ Post X.mg W σ H1 (fun d H2 => ∀ v, Rep X.K H2 A v d → Q v H2) ((l ρ).bind F)) I ?_) ?_) hev
  · refine ⟨by rw [paired_len h1]; exact hl, fun p hp => ?_⟩
    have o1 := o.same (same_upd (o := .lst vs0) hp)
    refine ⟨H0, A0, A, ρ, o1, (Post.bind (Post.same (r := cPick g Fs l ρ) P (same_upd hp))).mono fun d H1 s1 P1 y hy => ?_⟩
    split at P1
    · rename_i F hF
      obtain ⟨i, h3, h4⟩ := Option.bind_eq_some_iff.mp hF
      obtain ⟨v, h5, h6⟩ := paired_at h1 h4
      have e : d = .int i := by
        cases d <;> simp [toI] at h3
        rw [h3]
      subst e
      obtain rfl := (RepB.of hy).int
      exact ⟨p, vs0, i, v, rfl, rfl, SqL.of (s1 _ _ upd_same), h5, (same_upd hp).trans s1, F, h6, P1⟩
    · exact P1.elim
  · intro v s1 ⟨x, H1, I1, rx, sm, F, ⟨f, fd, ps, ex, hF, hk, hb⟩, P1⟩
    subst ex
    obtain rfl : v = Value.ref f := rx
    have o1 := o.same sm
    refine PySem.W.callWith_K (h₀ := X.base) I1.ok.mod.kin hk (thn (ha.run pos pins s1 σ H1 (fun vs H2 => Same H1 H2 ∧ ∃ ds, RepL X.K H2 A vs ds ∧ Want X.K X.mg H2 A Q (WE W σ) (F ds)) I1 ⟨H0, A0, A, ρ, o1, P1.bind.mono fun ds H2 s2 P2 vs hv => ⟨s2, ds, hv, P2.want⟩⟩) fun us s2 ⟨vs, H2, I2, r, sm2, ds, rd, q⟩ => ⟨I2.kIn, ?_⟩) he hpl
    exact run_fng hF hr hgd hb tk I2 r rd (o1.same sm2).has q
/-! ### the place of a number in a written tuple -/
def cIdxK (ns : List Int) (g : En → R D) : En → R D := fun ρ => (g ρ).bind fun d => ofO ((toI d).bind fun k => if k ∈ ns then some (.int (ns.idxOf k : Nat)) else none)
def GTupI (K : Frg) (mg : MgT) (x : Str) (ns : List Int) : Prop := ∃ a, mg x = some (.ref a) ∧ TupK K a (ns.map V.int) ∧ ∃ o, K.lookup a = some o ∧ o.cls = .type "tuple" ∧ o.dict = none
theorem mt_tupI : MtR X "tuple.index" (fun x xs H Q => ∃ (p0 : Addr) (ns : List Int) (k : Int), x = .ref p0 ∧ xs = [.int k] ∧ SqT X.K H p0 (ns.map V.int) ∧ k ∈ ns ∧ Q (.int (ns.idxOf k : Nat)) H) := by
  intro pins s σ H x xs v us Q I rx rs h
  obtain ⟨p0, ns, k, rfl, rfl, hq, hk, q⟩ := h
  cases rx
  obtain ⟨u, rfl, t, rfl⟩ := vals1 rs
  obtain ⟨its, r, pl, hz⟩ := I.tuple hq
  exact PySem.SeqAt.tuple_index_ints (show s.heap.IsTuple p0 its.toArray from pl) (RZ.intsAre_vals r) hk ⟨.int _, H, I.tok _, ⟨_, rfl⟩, q⟩
theorem fe_idxK {apos cpos : Pos} {ns : List Int} (h : GTupI X.K X.mg x ns) (hg : Gl X x) (hb : FE X W b g) (hd : (x == ("__debug__" : Str)) = false := by decide)
    (hbase : attributeBase (.Name x q) "index" X.env (eval (.Name x q) X.env) = eval (.Name x q) X.env := by rfl)
    (hfew : ((backTo cpos (starEach (b :: []) X.env)).all (fun x => !x.1) && (backToKw cpos (keywordEach [] X.env)).all (fun x => x.1.isSome)
      && decide ((b :: []).length + ([] : List Keyword).length + (if ([] : List Keyword).isEmpty then 0 else 1) < 30)) = true := by rfl)
    (hline : (apos.endLine == cpos.line) = true := by rfl) (hs : starEach (b :: []) X.env = (false, eval b X.env) :: starEach [] X.env := by rfl) (hplain : (backTo cpos (starEach [] X.env)).any (·.1) = false := by rfl) :
    FE X W (.Call (.Attribute (.Name x q) "index" apos) [b] [] cpos) (cIdxK ns g) := by
  obtain ⟨a, h1, h2, ob, h3, h4, h5⟩ := h
  refine impE (pe_bm PySem.F.plainAttrs_tuple PySem.F.slot_tuple_index PySem.F.type_tuple_index mt_tupI (pe_glob (v := .ref a) hg h1 rfl hd) (pa_cons hb pa_nil hs) hbase hfew hline hs hplain) fun σ H Q ⟨H0, A0, A, ρ, o, P⟩ => ?_
  refine ⟨.inr (.inl ⟨rfl, ob, h3, h4, h5⟩), H0, A0, A, ρ, o, P.bind.mono fun d H1 s1 P1 y hy => ?_⟩
  obtain ⟨d2, e, P2⟩ := P1.ofO
  obtain ⟨k, e1, e2⟩ := Option.bind_eq_some_iff.mp e
  have e3 : d = .int k := by
    cases d <;> simp [toI] at e1
    rw [e1]
  subst e3
  obtain rfl := (RepB.of hy).int
  split at e2
  · rename_i hk
    cases e2
    exact ⟨a, ns, k, rfl, rfl, .inr h2, hk, P2 H1 (Same.refl _) _ (.int _)⟩
  · cases e2

/-! ### repr -/
def dRepr (d : D) : Option D := if d.hasDict = false ∧ d.showable = true ∧ d.depth ≤ 60 ∧ d.shown.length ≤ sizeLine then some (.str d.shown) else none
theorem cr_repr (hgd : X.A.guards = some []) (hu : X.A.units + 65 < cLine) : CallR X (.builtin "repr") (fun xs H Q => ∃ (v : V) (d : D), xs = [v] ∧ Dp X.K H v d ∧ d.hasDict = false ∧ d.showable = true ∧ d.depth ≤ 60 ∧ d.shown.length ≤ sizeLine ∧ Q (.str d.shown) H) := by
  intro pins s σ H xs us Q I r h
  obtain ⟨v, d, rfl, hd, h1, h2, h3, h4, q⟩ := h
  obtain ⟨u, rfl, rx⟩ := vals1 r
  obtain ⟨as, rd⟩ := Dp.reads I d v u hd rx
  have fin : ∀ h' tk t, (∀ b o, s.heap.get? b = some o → h'.get? b = some o) → EP X pins σ Q (.str d.shown t) { s with heap := h', toks := tk } := fun h' tk t k => ⟨.str d.shown, H, I.kept k, ⟨_, rfl⟩, q⟩
  cases hd with
  | non => cases rx; exact PySem.P.repr_of_none (fin _ _ _ fun _ _ e => e)
  | bl b =>
    cases rx
    refine PySem.P.repr_of_bool ?_
    have := fin s.heap (s.toks + 1) s.toks fun _ _ e => e
    cases b <;> exact this
  | int i =>
    obtain ⟨t, rfl⟩ := rx
    exact PySem.P.repr_of_int (by simpa [PyData.showable] using h2) (fin _ _ _ fun _ _ e => e)
  | str z =>
    obtain ⟨t, rfl⟩ := rx
    exact PySem.P.repr_of_str (fin _ _ _ fun _ _ e => e) h4
  | lst a b =>
    cases rx
    exact PySem.repr_of_reads' rd h2 (fun z => by rw [h1] at z; cases z) hgd (by omega) (fun _ _ e => e) (fun h' t tk k => fin h' tk t k) h4
  | tup a b =>
    cases rx
    exact PySem.repr_of_reads' rd h2 (fun z => by rw [h1] at z; cases z) hgd (by omega) (fun _ _ e => e) (fun h' t tk k => fin h' tk t k) h4
theorem fe_repr (hu : X.A.units + 65 < cLine) (hgd : X.A.guards = some []) (hg : Gl X "repr") (hm : X.mg "repr" = none) (ha : FE X W a f) (hs : starEach (a :: []) X.env = (false, eval a X.env) :: starEach [] X.env := by rfl) (hpl : (backTo pos (starEach [] X.env)).any (·.1) = false := by rfl) :
    FE X W (.Call (.Name "repr" p1) [a] [] pos) (cUn dRepr f) := by
  refine impE (pe_callB (cr_repr hgd hu) hg hm PyProof.Rows.boot_repr (pa_cons ha pa_nil hs) (by decide) (by decide) hs hpl) fun σ H Q ⟨H0, A0, A, ρ, o, P⟩ => ?_
  refine ⟨H0, A0, A, ρ, o, P.bind.mono fun d H1 s1 P1 v hv => ?_⟩
  obtain ⟨d2, e, P2⟩ := P1.ofO
  unfold dRepr at e
  split at e
  · rename_i h
    cases e
    exact ⟨v, d, rfl, hv.dp h.1, h.1, h.2.1, h.2.2.1, h.2.2.2, P2 H1 (Same.refl _) _ (.str _)⟩
  · cases e

/-! ### written dicts -/
def mergeD (kds : List (Key × D)) : List (D × D) := kds.foldl (fun ds kd => putD (isK kd.1) (kD kd.1) kd.2 ds) []
def cDict (h : En → R (List (Key × D))) : En → R D := fun ρ => (h ρ).bind fun kds => if kds.length ≤ 15 then .ok (.dict (mergeD kds)) else .no
def cKd (k : Key) (f : En → R D) (h : En → R (List (Key × D))) : En → R (List (Key × D)) := fun ρ => (f ρ).bind fun d => (h ρ).bind fun kds => .ok ((k, d) :: kds)
abbrev PairK (K : Frg) (H : Hp) (A : List Addr) (p : Key × V) (q : Key × D) : Prop := p.1 = q.1 ∧ Rep K H A p.2 q.2
def FDs (X : Cx) (W : WX) (keys : List (Option Expr)) (values : List Expr) (h : En → R (List (Key × D))) : Prop := ∃ trs, (∀ pos, PPs X pos keys values trs) ∧ ∀ σ H Q,
  (∃ H0 A0 A ρ, Ok X.K H0 A0 A ρ σ H ∧ Post X.mg W σ H (fun kds H' => ∀ kvs, Paired (PairK X.K H' A) kvs kds → Q (kvs.map fun kv => (kV kv.1, kv.2)) H') (h ρ)) → tPairs trs σ H Q
theorem fds_nil : FDs X W [] [] (fun _ => .ok []) := ⟨[], fun _ => pps_nil, fun σ H Q ⟨H0, A0, A, ρ, o, P⟩ => Post.at (a := ([] : List (Key × D))) (P := fun kds H' => ∀ kvs, Paired (PairK X.K H' A) kvs kds → Q (kvs.map fun kv => (kV kv.1, kv.2)) H') P [] .nil⟩
theorem paired_same {K : Frg} {H H' : Hp} {A : List Addr} (s : Same H H') : ∀ {kvs : List (Key × V)} {kds : List (Key × D)}, Paired (PairK K H A) kvs kds → Paired (PairK K H' A) kvs kds
  | _, _, .nil => .nil
  | _, _, .cons h t => .cons ⟨h.1, h.2.same s⟩ (paired_same s t)
theorem fds_cons {key : Key} {ke ve : Expr} {keys : List (Option Expr)} {values : List Expr} {h : En → R (List (Key × D))} (hk : PE X ke (tC (kV key))) (hv : FE X W ve f) (hr : FDs X W keys values h) : FDs X W (some ke :: keys) (ve :: values) (cKd key f h) := by
  obtain ⟨trs, h1, h2⟩ := hr
  refine ⟨_, fun pos => pps_cons hk hv (h1 pos), fun σ H Q ⟨H0, A0, A, ρ, o, P⟩ => ?_⟩
  show tPairs ((tC (kV key), tF X.K X.mg W f) :: trs) σ H Q
  refine ⟨H0, A0, A, ρ, o, P.bind.mono fun d H1 s1 P1 v hv => ?_⟩
  refine h2 σ H1 _ ⟨H0, A0, A, ρ, o.same s1, P1.bind.mono fun kds H2 s2 P2 kvs hp => ?_⟩
  exact P2 H2 (Same.refl _) ((key, v) :: kvs) (.cons ⟨rfl, hv.same s2⟩ hp)
theorem fold_rep {K : Frg} {H : Hp} {A : List Addr} : ∀ {kvs : List (Key × V)} {kds : List (Key × D)} {acc : List (Key × V)} {ds : List (D × D)}, Paired (PairK K H A) kvs kds → RepK K H A acc ds →
    RepK K H A (kvs.foldl (fun acc kv => putK acc kv.1 kv.2) acc) (kds.foldl (fun ds kd => putD (isK kd.1) (kD kd.1) kd.2 ds) ds)
  | _, _, _, _, .nil, r => r
  | _, _, _, _, .cons (a := p) (b := q) h t, r => by
    obtain ⟨k, v⟩ := p
    obtain ⟨k', d⟩ := q
    obtain ⟨rfl, h⟩ := h
    rw [List.foldl_cons, List.foldl_cons]
    exact fold_rep t (put_repK h r)
theorem fn_disp {keys : List (Option Expr)} {values : List Expr} {h : En → R (List (Key × D))} (hd : FDs X W keys values h) (hall : keys.all (·.isSome) = true := by rfl) (hl : keys.length = values.length := by rfl) (h0 : keys ≠ [] := by simp) (h15 : keys.length ≤ 15 := by decide) :
    FN X W false (.Dict keys values pos) (cDict h) := by
  obtain ⟨trs, h1, h2⟩ := hd
  refine impE (pe_disp (h1 pos) hall hl h0 h15) fun σ H Q ⟨H0, A0, A, ρ, o, P⟩ => fun p hp => ?_
  have sm : Same H (upd H p (.dK [])) := same_upd hp
  have og : Ok X.K H0 (p :: A0) (p :: A) ρ σ (upd H p (.dK [])) := o.grow sm hp (by rw [upd_same]; intro z; cases z)
  have P1 : Post X.mg W σ H (fun kds H1 => Post X.mg W σ H1 (fun d H' => ∀ v, RepN X.K false H H' A v d → Q v H') (if kds.length ≤ 15 then .ok (.dict (mergeD kds)) else .no)) (h ρ) := P.bind
  refine h2 σ _ _ ⟨H0, p :: A0, p :: A, ρ, og, ?_⟩
  cases hh : h ρ with
  | no => rw [hh] at P1; exact P1.elim
  | ex c m => rw [hh] at P1; exact fun u q H' s' f e => P1 u q H' (sm.trans s') (sm.free f) e
  | ok kds =>
    rw [hh] at P1
    have P2 : Post X.mg W σ H (fun d H' => ∀ v, RepN X.K false H H' A v d → Q v H') (if kds.length ≤ 15 then .ok (.dict (mergeD kds)) else .no) := P1 H (Same.refl _)
    split at P2
    · rename_i hk
      refine fun H2 s2 kvs hpr => ⟨s2 _ _ upd_same, kvs, rfl, by rw [paired_len hpr]; exact hk, ?_⟩
      have u : Tr (p :: A) H2 (p :: A) (upd H2 p (.dK (mergeK [] kvs))) := Tr.write List.mem_cons_self
      refine P2 (upd H2 p (.dK (mergeK [] kvs))) (fun b x e => ?_) _ ⟨p, rfl, hp, .inl ⟨rfl, _, upd_same, (fold_rep hpr .nil).tr u⟩⟩
      rw [upd_ne (ne_of_none e hp)]
      exact s2 _ _ (sm _ _ e)
    · exact P2.elim
theorem fn_dnewK : FN X W false (.Dict [] [] pos) (cK (.dict [])) := impE pe_dnewK fun σ H Q ⟨H0, A0, A, ρ, o, P⟩ => fun p hp => P _ (same_upd hp) _ ⟨p, rfl, hp, .inl ⟨rfl, [], upd_same, .nil⟩⟩
theorem fn_dnewT : FN X W true (.Dict [] [] pos) (cK (.dict [])) := impE pe_dnewT fun σ H Q ⟨H0, A0, A, ρ, o, P⟩ => fun p hp => P _ (same_upd hp) _ ⟨p, rfl, hp, .inr ⟨rfl, [], upd_same, .nil⟩⟩
end
end G

namespace G
open PySem PySem.Spec PyProof.Rows L2

/-! ### zip of three lists -/
def Itz3 (K : Frg) (a b c : Addr) : It :=
  ⟨fun i H => ∃ (xs ys zs : List V) (x y z : V), SqL K H a xs ∧ SqL K H b ys ∧ SqL K H c zs ∧ xs[i]? = some x ∧ ys[i]? = some y ∧ zs[i]? = some z,
   fun i H v H' => ∃ T x y z, v = .ref T ∧ H T = none ∧ H' = upd H T (.tup [x, y, z]) ∧ (∀ l, SqL K H a l → l[i]? = some x) ∧ (∀ l, SqL K H b l → l[i]? = some y) ∧ ∀ l, SqL K H c l → l[i]? = some z,
   fun i H => ∃ xs ys zs : List V, SqL K H a xs ∧ SqL K H b ys ∧ SqL K H c zs ∧ i ≤ xs.length ∧ i ≤ ys.length ∧ i ≤ zs.length ∧ (i = xs.length ∨ i = ys.length ∨ i = zs.length)⟩
abbrev cells3 (N : Nat) : List Addr := [N + 5, N + 3, N + 4, N, N + 1, N + 2]
def At3 (N a b c : Nat) (i : Nat) (h : Heap) : Prop := IsZip h (N + 5) (N + 3) (N + 4) .none ∧ IsTupOf3 h (N + 3) (.ref N) (.ref (N + 1)) (.ref (N + 2)) ∧ (∃ x y z, IsTupOf3 h (N + 4) x y z) ∧ h.IsListIter N a i ∧ h.IsListIter (N + 1) b i ∧ h.IsListIter (N + 2) c i
theorem cells3_of {N x : Nat} (h : x ∈ cells3 N) : x = N + 5 ∨ x = N + 3 ∨ x = N + 4 ∨ x = N ∨ x = N + 1 ∨ x = N + 2 := by simpa [cells3] using h
theorem At3.lt {N a b c i : Nat} {h : Heap} (st : At3 N a b c i h) {x : Nat} (m : x ∈ cells3 N) : x < h.objs.size := by
  obtain ⟨hz, _⟩ := st
  have h5 : N + 5 < h.objs.size := Heap.lt_size hz
  show (x : Nat) < h.objs.size
  rcases cells3_of m with q | q | q | q | q | q <;> (have q : (x : Nat) = _ := q; omega)
theorem turn_zip3 {P : Program} {w : World} {K : Frg} {elts : List Expr} {kk : Nat} {tpos : Pos} {N a b c : Nat} (ha : a < N) (hb : b < N) (hc0 : c < N) : Turn P w K (.Tuple elts kk tpos) (Itz3 K a b c) (cells3 N) (N + 5) (At3 N a b c) where
  mem := by simp
  obj := fun i h st x hx => by
    obtain ⟨hz, hTI, ⟨x1, y1, z1, hTO⟩, ⟨o1, e1, _, d1⟩, ⟨o2, e2, _, d2⟩, ⟨o3, e3, _, d3⟩⟩ := st
    rcases cells3_of hx with q | q | q | q | q | q
    · rw [q]; exact ⟨_, hz, fun v z => nomatch z⟩
    · rw [q]; exact ⟨_, hTI, fun v z => nomatch z⟩
    · rw [q]; exact ⟨_, hTO, fun v z => nomatch z⟩
    · rw [q]; exact ⟨o1, e1, fun v z => by rw [d1] at z; cases z⟩
    · rw [q]; exact ⟨o2, e2, fun v z => by rw [d2] at z; cases z⟩
    · rw [q]; exact ⟨o3, e3, fun v z => by rw [d3] at z; cases z⟩
  keep := fun i h h' st k => by
    obtain ⟨hz, hTI, ⟨x1, y1, z1, hTO⟩, h1, h2, h3⟩ := st
    exact ⟨k _ (by simp) _ hz, k _ (by simp) _ hTI, ⟨x1, y1, z1, k _ (by simp) _ hTO⟩, h1.at fun o q => k N (by simp) o q, h2.at fun o q => k (N + 1) (by simp) o q, h3.at fun o q => k (N + 2) (by simp) o q⟩
  item := by
    intro X hP hw hK hc i pins s σ H E I hf st hg
    subst hP hw hK
    have st0 := st
    obtain ⟨hz, hTI, ⟨x0, y0, z0, hTO⟩, h1, h2, h3⟩ := st
    obtain ⟨xs, ys, zs, x, y, z, q1, q2, q3, g1, g2, g3⟩ := hg
    obtain ⟨its1, r1, p1, _⟩ := I.list q1
    obtain ⟨its2, r2, p2, _⟩ := I.list q2
    obtain ⟨its3, r3, p3, _⟩ := I.list q3
    obtain ⟨u1, k1, ru1⟩ := r1.get g1
    obtain ⟨u2, k2, ru2⟩ := r2.get g2
    obtain ⟨u3, k3, ru3⟩ := r3.get g3
    have hh := I.ok.hd hc
    have l1 : i < its1.length := (List.getElem?_eq_some_iff.mp k1).1
    have l2 : i < its2.length := (List.getElem?_eq_some_iff.mp k2).1
    have l3 : i < its3.length := (List.getElem?_eq_some_iff.mp k3).1
    have S := zip_sep3 (N := N) (fp1 := [a]) (fp2 := [b]) (fp3 := [c]) (by simpa using ha) (by simpa using hb) (by simpa using hc0)
    have a1 : a ≠ N := Nat.ne_of_lt ha
    have a2 : b ≠ N + 1 := Nat.ne_of_lt (Nat.lt_succ_of_lt hb)
    have a3 : c ≠ N + 2 := Nat.ne_of_lt (Nat.lt_succ_of_lt (Nat.lt_succ_of_lt hc0))
    refine wpAny_pyNext_zipD3_item S (Draws.list (A := X.A.in1) hh N a a1 its1.toArray) (Draws.list (A := X.A.in1) hh (N + 1) b a2 its2.toArray) (Draws.list (A := X.A.in1) hh (N + 2) c a3 its3.toArray) hz hTI hTO ⟨h1, p1.isList⟩ ⟨h2, p2.isList⟩ ⟨h3, p3.isList⟩ (by simpa using l1) (by simpa using l2) (by simpa using l3) fun v1 v2 v3 h' tk e1 e2 e3 z' TO' n1 n2 n3 hT hsz hk => ?_
    have f1 : v1 = u1 := Option.some.inj ((by simpa using e1 : its1[i]? = some v1).symm.trans k1)
    have f2 : v2 = u2 := Option.some.inj ((by simpa using e2 : its2[i]? = some v2).symm.trans k2)
    have f3 : v3 = u3 := Option.some.inj ((by simpa using e3 : its3[i]? = some v3).symm.trans k3)
    subst f1 f2 f3
    refine ⟨_, rfl, wpAny_letOwnedTupleGo_zip (s := { s with heap := h', toks := tk }) z' fun h'' z'' sb => ?_⟩
    have nz : s.heap.objs.size ≠ N + 5 := Nat.ne_of_gt (st0.lt (by simp))
    have hT2 : h''.get? s.heap.objs.size = some { cls := .type "tuple", data := .seq #[v1, v2, v3] } := (sb.2 _ nz).trans hT
    have new : ObjOk X.prog X.w (upd H s.heap.objs.size (.tup [x, y, z])) h'' s.heap.objs.size (.tup [x, y, z]) := ⟨by show 3 ≤ sizeLine; decide, [v1, v2, v3], .cons ru1 (.cons ru2 (.cons ru3 .nil)), ⟨_, hT2, rfl, _, rfl⟩⟩
    have I1 : Inv X pins σ (upd H s.heap.objs.size (.tup [x, y, z])) { s with heap := h'', toks := tk } :=
      I.turnedNew (t' := tk) (ch := cells3 N) (fun d o hb q => (sb.2 d (fun q' => hb (by simp [q']))).trans (hk d o (fun q' => hb (by simp [q'])) (fun q' => hb (by simp [q'])) (fun q' => hb (by simp [q'])) (fun q' => hb (by simp [q'])) (fun q' => hb (by simp [q'])) q)) hf (Nat.le_refl _) new
    refine ⟨.ref s.heap.objs.size, _, I1, rfl, ⟨_, x, y, z, rfl, I.hok.fresh (Nat.le_refl _), rfl, fun l hl => by rw [I.list_inj hl q1]; exact g1, fun l hl => by rw [I.list_inj hl q2]; exact g2, fun l hl => by rw [I.list_inj hl q3]; exact g3⟩, ⟨z'', ?_, ⟨v1, v2, v3, ?_⟩, ?_, ?_, ?_⟩, fun d hd => ?_⟩
    · exact (sb.2 _ S.TIz).trans (hk _ _ S.TIz S.TITO S.TIi1 S.TIi2 S.TIi3 hTI)
    · exact (sb.2 _ S.TOz).trans TO'
    · exact n1.1.at fun o q => (sb.2 _ (Ne.symm S.zi1)).trans q
    · exact n2.1.at fun o q => (sb.2 _ (Ne.symm S.zi2)).trans q
    · exact n3.1.at fun o q => (sb.2 _ (Ne.symm S.zi3)).trans q
    · rw [upd_ne (Nat.ne_of_lt (st0.lt hd))]
      exact (hf d hd).1
  done := by
    intro X hP hw hK hc i pins s σ H E I hf st hg
    subst hP hw hK
    obtain ⟨hz, hTI, ⟨x0, y0, z0, hTO⟩, h1, h2, h3⟩ := st
    obtain ⟨xs, ys, zs, q1, q2, q3, m1, m2, m3, hend⟩ := hg
    obtain ⟨its1, r1, p1, _⟩ := I.list q1
    obtain ⟨its2, r2, p2, _⟩ := I.list q2
    obtain ⟨its3, r3, p3, _⟩ := I.list q3
    have hh := I.ok.hd hc
    have S := zip_sep3 (N := N) (fp1 := [a]) (fp2 := [b]) (fp3 := [c]) (by simpa using ha) (by simpa using hb) (by simpa using hc0)
    have a1 : a ≠ N := Nat.ne_of_lt ha
    have a2 : b ≠ N + 1 := Nat.ne_of_lt (Nat.lt_succ_of_lt hb)
    have a3 : c ≠ N + 2 := Nat.ne_of_lt (Nat.lt_succ_of_lt (Nat.lt_succ_of_lt hc0))
    have l1 := r1.length
    have l2 := r2.length
    have l3 := r3.length
    refine wpAny_pyNext_zipD3_end S (Draws.list (A := X.A.in1) hh N a a1 its1.toArray) (Draws.list (A := X.A.in1) hh (N + 1) b a2 its2.toArray) (Draws.list (A := X.A.in1) hh (N + 2) c a3 its3.toArray) hz hTI hTO ⟨h1, p1.isList⟩ ⟨h2, p2.isList⟩ ⟨h3, p3.isList⟩ (by simp; omega) (by simp; omega) (by simp; omega) (by simp; omega) fun h' tk hk => ⟨rfl, ?_⟩
    exact I.turnedL (t' := tk) (ch := cells3 N) (fun d o hb q => hk d o (fun q' => hb (by simp [q'])) (fun q' => hb (by simp [q'])) (fun q' => hb (by simp [q'])) (fun q' => hb (by simp [q'])) (fun q' => hb (by simp [q'])) q) hf
  self := fun A i s Q E st h => wpAny_pyIter_zip st.1 h
def zipL3 : List D → List D → List D → List D
  | x :: xs, y :: ys, z :: zs => .tuple [x, y, z] :: zipL3 xs ys zs
  | _, _, _ => []
def dZip3 : List D → Option (List D)
  | [.list xs, .list ys, .list zs] => some (zipL3 xs ys zs)
  | _ => none
theorem zipL3_len : ∀ xs ys zs : List D, (zipL3 xs ys zs).length ≤ xs.length ∧ (zipL3 xs ys zs).length ≤ ys.length ∧ (zipL3 xs ys zs).length ≤ zs.length ∧ ((zipL3 xs ys zs).length = xs.length ∨ (zipL3 xs ys zs).length = ys.length ∨ (zipL3 xs ys zs).length = zs.length)
  | [], ys, zs => by simp [zipL3]
  | x :: xs, [], zs => by simp [zipL3]
  | x :: xs, y :: ys, [] => by simp [zipL3]
  | x :: xs, y :: ys, z :: zs => by
    have := zipL3_len xs ys zs
    simp only [zipL3, List.length_cons]
    omega
theorem zipL3_get : ∀ {xs ys zs : List D} {i : Nat} {d : D}, (zipL3 xs ys zs)[i]? = some d → ∃ x y z, xs[i]? = some x ∧ ys[i]? = some y ∧ zs[i]? = some z ∧ d = .tuple [x, y, z]
  | [], _, _, _, _, h => by simp [zipL3] at h
  | _ :: _, [], _, _, _, h => by simp [zipL3] at h
  | _ :: _, _ :: _, [], _, _, h => by simp [zipL3] at h
  | x :: xs, y :: ys, z :: zs, 0, d, h => by
    simp [zipL3] at h
    exact ⟨x, y, z, rfl, rfl, rfl, h.symm⟩
  | x :: xs, y :: ys, z :: zs, i + 1, d, h => by
    simp only [zipL3, List.getElem?_cons_succ] at h
    obtain ⟨a, b, c, h1, h2, h3, h4⟩ := zipL3_get h
    exact ⟨a, b, c, by simpa using h1, by simpa using h2, by simpa using h3, h4⟩
theorem walk_itz3 {K : Frg} {A : List Addr} {H : Hp} {a b c : Addr} {xs ys zs : List D} (r1 : Rep K H A (.ref a) (.list xs)) (r2 : Rep K H A (.ref b) (.list ys)) (r3 : Rep K H A (.ref c) (.list zs)) : WalkJ K A (Itz3 K a b c) H (zipL3 xs ys zs) := fun A' H' u hA => by
  obtain ⟨_, v1, e, h1, l1, _⟩ := rep_listAt (H' := H') (A' := A') (r1.tr u)
  cases e
  obtain ⟨_, v2, e, h2, l2, _⟩ := rep_listAt (H' := H') (A' := A') (r2.tr u)
  cases e
  obtain ⟨_, v3, e, h3, l3, _⟩ := rep_listAt (H' := H') (A' := A') (r3.tr u)
  cases e
  refine ⟨fun i d hd => ?_, v1, v2, v3, .of h1, .of h2, .of h3, ?_⟩
  · obtain ⟨x, y, z, g1, g2, g3, rfl⟩ := zipL3_get hd
    obtain ⟨w1, k1, m1⟩ := l1.get g1
    obtain ⟨w2, k2, m2⟩ := l2.get g2
    obtain ⟨w3, k3, m3⟩ := l3.get g3
    refine ⟨⟨v1, v2, v3, w1, w2, w3, .of h1, .of h2, .of h3, k1, k2, k3⟩, fun q H'' ⟨T, x1, x2, x3, e1, n, e2, y1, y2, y3⟩ => ?_⟩
    subst e1 e2
    have j1 := (y1 _ (.of h1)).symm.trans k1
    have j2 := (y2 _ (.of h2)).symm.trans k2
    have j3 := (y3 _ (.of h3)).symm.trans k3
    cases j1
    cases j2
    cases j3
    exact ⟨same_upd n, rep_tup (fun z => hA T z n) n (.cons m1 (.cons m2 (.one m3)))⟩
  · have := zipL3_len xs ys zs
    rw [l1.length, l2.length, l3.length]
    exact this
section
variable {X : Cx} {W : WX} {a b c : Expr} {l : En → R (List D)} {q1 pos : Pos}
theorem fi_zip3 {elts : List Expr} {kk : Nat} {tpos : Pos} (hg : Gl X "zip") (hm : X.mg "zip" = none) (ha : FA X W [a, b, c] l) (hs : starEach [a, b, c] X.env = (false, eval a X.env) :: starEach [b, c] X.env := by rfl) (hpl : (backTo pos (starEach [b, c] X.env)).any (·.1) = false := by rfl) :
    FI X W (.Tuple elts kk tpos) (.Call (.Name "zip" q1) [a, b, c] [] pos) (cIter dZip3 l) := by
  refine ⟨fun pins s σ H R I ⟨H0, A0, A, ρ, o, P⟩ => ?_⟩
  refine Call_ (ld_blt I hg hm PyProof.Rows.boot_zip (PyProof.Rows.callWith_type1 (thn (ha.run pos pins s σ H (fun vs H1 => ∃ x y z xs ys zs, vs = [.ref x, .ref y, .ref z] ∧ SqL X.K H1 x xs ∧ SqL X.K H1 y ys ∧ SqL X.K H1 z zs ∧ R (Itz3 X.K x y z) H1) I ⟨H0, A0, A, ρ, o, P.bind.mono fun ds H1 s1 P1 vs hv => ?_⟩) fun us s1 ⟨vs, H1, I1, r1, q⟩ => ?_) hs hpl))
  · obtain ⟨es, e1, q⟩ := P1.ofO
    unfold dZip3 at e1
    split at e1
    · cases e1
      cases hv with
      | cons h1 hv =>
        obtain ⟨v2, v3, rfl, h2, h3⟩ := repL2 hv
        obtain ⟨x, xs, rfl, m1, _⟩ := rep_listAt (H' := H1) (A' := A) h1
        obtain ⟨y, ys, rfl, m2, _⟩ := rep_listAt (H' := H1) (A' := A) h2
        obtain ⟨z, zs, rfl, m3, _⟩ := rep_listAt (H' := H1) (A' := A) h3
        exact ⟨x, y, z, xs, ys, zs, rfl, .of m1, .of m2, .of m3, q H1 (Same.refl _) _ (walk_itz3 h1 h2 h3)⟩
    · cases e1
  · obtain ⟨x, y, z, xs, ys, zs, rfl, m1, m2, m3, q⟩ := q
    cases r1 with
    | cons r rr =>
      cases rr with
      | cons r' rr =>
        cases rr with
        | cons r'' rr =>
          cases rr
          cases r
          cases r'
          cases r''
          obtain ⟨its1, _, p1, _⟩ := I1.list m1
          obtain ⟨its2, _, p2, _⟩ := I1.list m2
          obtain ⟨its3, _, p3, _⟩ := I1.list m3
          refine zip_begins3 (begins_list x its1.toArray) (begins_list y its2.toArray) (begins_list z its3.toArray) p1.isList p2.isList p3.isList fun h' g1 g2 g3 g4 g5 g6 hsz hk => wpAny_pyIter_zip g1 ?_
          have I2 : Inv X pins σ H1 { s1 with heap := h' } := I1.kept (t' := s1.toks) hk
          refine ⟨s1.heap.objs.size + 5, cells3 s1.heap.objs.size, _, _, H1, rfl, I2, turn_zip3 p1.lt p2.lt p3.lt, ⟨g1, g2, ⟨_, _, _, g3⟩, ⟨_, g4, rfl, rfl⟩, ⟨_, g5, rfl, rfl⟩, ⟨_, g6, rfl, rfl⟩⟩, fun d hd => ?_, q⟩
          have hle : s1.heap.objs.size ≤ d := by
            rcases cells3_of hd with e | e | e | e | e | e <;> (show s1.heap.objs.size ≤ (d : Nat); have e : (d : Nat) = _ := e; omega)
          exact I1.fpOk hle (I1.hok.fresh hle)
end
end G

namespace G
open PySem PySem.Spec PyProof.Rows L2

/-! ### x = [list(r) for r in e]; x[k][j] = v -/
def rowsOf : List D → Option (List (List D))
  | [] => some []
  | .list r :: ds => (rowsOf ds).map fun rs => r :: rs
  | _ => none
theorem rowsOf_some : ∀ {ds : List D} {rs : List (List D)}, rowsOf ds = some rs → ds = rs.map .list
  | [], rs, h => by cases h; rfl
  | .list r :: ds, rs, h => by
    obtain ⟨rs', h1, h2⟩ := Option.map_eq_some_iff.mp (show (rowsOf ds).map _ = some rs from h)
    subst h2
    rw [rowsOf_some h1]
    rfl
  | .none :: _, _, h => by cases h
  | .bool _ :: _, _, h => by cases h
  | .int _ :: _, _, h => by cases h
  | .str _ :: _, _, h => by cases h
  | .tuple _ :: _, _, h => by cases h
  | .dict _ :: _, _, h => by cases h
/-- the lists at bs are new, no other thing holds them but the list at L -/
structure Copied (K : Frg) (H H2 : Hp) (A : List Addr) (L : Addr) (bs : List Addr) (rows : List (List D)) : Prop where
  same : Same H H2
  free : H L = none
  top : H2 L = some (.lst (bs.map V.ref))
  nd : bs.Nodup
  out : L ∉ bs
  new : ∀ b ∈ bs, H b = none
  it : ∀ (i : Nat) (b : Addr), bs[i]? = some b → ∃ r vs, rows[i]? = some r ∧ H2 b = some (.lst vs) ∧ RepL K H2 (L :: (bs ++ A)) vs r
section
variable {K : Frg} {H H2 H3 : Hp} {A : List Addr} {L b : Addr} {bs : List Addr} {rows : List (List D)}
theorem Copied.tr (c : Copied K H H2 A L bs rows) : Tr A H (L :: (bs ++ A)) H2 := ⟨fun b o h _ => c.same b o h, fun a ha => by
  rcases List.mem_cons.mp ha with rfl | ha
  · exact .inr c.free
  · rcases List.mem_append.mp ha with h | h
    · exact .inr (c.new a h)
    · exact .inl h⟩
/-- more of the heap -/
theorem Copied.more (c : Copied K H H2 A L bs rows) (s : Same H2 H3) : Copied K H H3 A L bs rows := ⟨c.same.trans s, c.free, s _ _ c.top, c.nd, c.out, c.new, fun i b h => by
  obtain ⟨r, vs, h1, h2, h3⟩ := c.it i b h
  exact ⟨r, vs, h1, s _ _ h2, h3.same s⟩⟩
/-- one list more -/
theorem Copied.next (c : Copied K H H2 A L bs rows) (hb : H2 b = none) {vs : List V} {r : List D} (rl : RepL K H2 (L :: (bs ++ A)) vs r) :
    Copied K H (upd (upd H2 b (.lst vs)) L (.lst ((bs ++ [b]).map V.ref))) A L (bs ++ [b]) (rows.take bs.length ++ [r]) := by
  have hL : L ≠ b := fun z => by have := c.top; rw [z, hb] at this; cases this
  have hn : b ∉ bs := fun z => by
    obtain ⟨i, hi⟩ := List.getElem?_of_mem z
    obtain ⟨_, _, _, h2, _⟩ := c.it i b hi
    rw [hb] at h2; cases h2
  have hHb : H b = none := c.same.free hb
  have u : Tr (L :: (bs ++ A)) H2 (L :: (bs ++ [b] ++ A)) (upd (upd H2 b (.lst vs)) L (.lst ((bs ++ [b]).map V.ref))) := ⟨fun x o h n => by
    rw [upd_ne (show x ≠ L from fun z => n (by rw [z]; exact List.mem_cons_self)), upd_ne (show x ≠ b from fun z => by rw [z, hb] at h; cases h)]
    exact h, fun x hx => by
    rcases List.mem_cons.mp hx with rfl | hx
    · exact .inl List.mem_cons_self
    · rcases List.mem_append.mp hx with hx | hx
      · rcases List.mem_append.mp hx with hx | hx
        · exact .inl (List.mem_cons_of_mem _ (List.mem_append_left _ hx))
        · simp at hx; subst hx; exact .inr hb
      · exact .inl (List.mem_cons_of_mem _ (List.mem_append_right _ hx))⟩
  refine ⟨fun x o h => ?_, c.free, upd_same, List.nodup_append.mpr ⟨c.nd, by simp, fun x hx y hy z => ?_⟩, fun z => ?_, fun x hx => ?_, fun i x hi => ?_⟩
  · rw [upd_ne (ne_of_none h c.free), upd_ne (ne_of_none h hHb)]
    exact c.same x o h
  · simp at hy; subst hy; subst z; exact hn hx
  · rcases List.mem_append.mp z with z | z
    · exact c.out z
    · simp at z; exact hL z
  · rcases List.mem_append.mp hx with z | z
    · exact c.new x z
    · simp at z; subst z; exact hHb
  · by_cases hlt : i < bs.length
    · rw [List.getElem?_append_left hlt] at hi
      obtain ⟨r', vs', h1, h2, h3⟩ := c.it i x hi
      refine ⟨r', vs', ?_, ?_, h3.tr u⟩
      · rw [List.getElem?_append_left (by rw [List.length_take]; have := (List.getElem?_eq_some_iff.mp h1).1; omega), List.getElem?_take_of_lt hlt]
        exact h1
      · rw [upd_ne (show x ≠ L from fun z => c.out (by rw [← z]; exact List.mem_of_getElem? hi)), upd_ne (show x ≠ b from fun z => hn (by rw [← z]; exact List.mem_of_getElem? hi))]
        exact h2
    · have hi2 : i = bs.length := by
        have := (List.getElem?_eq_some_iff.mp hi).1
        rw [List.length_append, List.length_singleton] at this
        omega
      subst hi2
      rw [List.getElem?_append_right (Nat.le_refl _), Nat.sub_self] at hi
      simp at hi
      subst hi
      refine ⟨r, vs, ?_, ?_, rl.tr u⟩
      · by_cases hr : bs.length ≤ rows.length
        · rw [List.getElem?_append_right (by rw [List.length_take]; omega), List.length_take, Nat.min_eq_left hr, Nat.sub_self]
          rfl
        · exfalso
          cases hl : bs.getLast? with
          | none => rw [List.getLast?_eq_none_iff] at hl; subst hl; simp at hr
          | some z =>
            rw [List.getLast?_eq_getElem?] at hl
            obtain ⟨_, _, h1, _⟩ := c.it _ z hl
            have := (List.getElem?_eq_some_iff.mp h1).1
            omega
      · rw [upd_ne (Ne.symm hL), upd_same]
end
section
variable {X : Cx} {W : WX} {l : En → R (List D)} {r : Nat}
abbrev rListR (X : Cx) : List V → Hp → VK → Prop := fun xs H Q => ∃ p ys, xs = [.ref p] ∧ (SqL X.K H p ys ∨ SqT X.K H p ys) ∧ ∀ l, H l = none → Q (.ref l) (upd H l (.lst ys))
theorem lc_copy {own : List (Str × Nat)} (hix : r ∈ own.map (·.2)) {σ : St} {H : Hp} {Q : VK} {H0 : Hp} {A0 A : List Addr} {ρ : En} (ok : Ok X.K H0 A0 A ρ σ H) (hr : r < ρ.length)
    (P : Post X.mg W σ H (fun ds H1 => ∃ rows, rowsOf ds = some rows ∧ ds.length ≤ sizeLine ∧ ∀ L bs H2, Copied X.K H1 H2 A L bs rows → bs.length = rows.length → Q (.ref L) H2) (l ρ)) :
    tLc (tFI X.K X.mg W l) (tFG X.K [r] (gN r)) (tFT X.K X.mg wNo cTrue) (tCB (rListR X) (tCons (tVar r) tNil)) (own.map (·.2)) σ H Q := by
  refine ⟨H0, A0, A, ρ, ok, P.mono fun ds H1 s1 ⟨rows, e1, hsz, q⟩ J hJ L hL => ?_⟩
  obtain rfl := rowsOf_some e1
  have ok1 := ok.same s1
  have hHL : H L = none := s1.free hL
  rw [List.length_map] at hsz
  refine ⟨fun i m H2 => m = rows.length - i ∧ i ≤ rows.length ∧ ∃ bs, bs.length = i ∧ Copied X.K H1 H2 A L bs (rows.take i), ⟨rows.length, rfl, Nat.zero_le _, [], rfl, ⟨same_upd hL, hL, upd_same, .nil, List.not_mem_nil, fun _ h => absurd h List.not_mem_nil, fun i b h => by simp at h⟩⟩, ?_⟩
  rintro i m H2 ⟨rfl, hile, bs, hbl, c⟩
  have okc : Ok X.K H0 (L :: A0) (L :: A) ρ σ H2 := ok1.grow c.same hL (by rw [c.top]; intro z; cases z)
  have hall : ∀ a ∈ L :: (bs ++ A), H2 a ≠ none := fun a ha z => by
    rcases List.mem_cons.mp ha with rfl | ha
    · rw [c.top] at z; cases z
    · rcases List.mem_append.mp ha with h | h
      · obtain ⟨j, hj⟩ := List.getElem?_of_mem h
        obtain ⟨_, _, _, h2, _⟩ := c.it j a hj
        rw [h2] at z; cases z
      · exact ok1.has a h (c.same.free z)
  obtain ⟨hgo, hst⟩ := hJ (L :: (bs ++ A)) H2 c.tr hall
  by_cases hlt : i < rows.length
  · have hget : (rows.map PyData.list)[i]? = some (.list rows[i]) := by simp [hlt]
    refine .inr ⟨(hgo i _ hget).1, fun H' => ∃ bs, bs.length = i + 1 ∧ Copied X.K H1 H' A L bs (rows.take (i + 1)), fun H' ⟨bs', h1, h2⟩ => ⟨rows.length - (i + 1), by omega, rfl, hlt, bs', h1, h2⟩, fun x H3 hy => ?_⟩
    obtain ⟨sx, rx⟩ := (hgo i _ hget).2 x H3 hy
    -- at the item: its state, all lists made so far kept away
    have oka : Ok X.K H0 (L :: (bs ++ A0)) (L :: (bs ++ A)) ρ σ H2 := by
      refine ⟨ok1.len, ok1.ext.trans c.same, fun a ha => ?_, fun a ha => ?_, hall, fun j s hs => ?_, ok1.dis⟩
      · rcases List.mem_cons.mp ha with rfl | ha
        · exact List.mem_cons_self
        · rcases List.mem_append.mp ha with h | h
          · exact List.mem_cons_of_mem _ (List.mem_append_left _ h)
          · exact List.mem_cons_of_mem _ (List.mem_append_right _ (ok1.sub a h))
      · rcases List.mem_cons.mp ha with rfl | ha
        · exact .inl List.mem_cons_self
        · rcases List.mem_append.mp ha with h | h
          · exact .inl (List.mem_cons_of_mem _ (List.mem_append_left _ h))
          · rcases ok1.new a h with z | z
            · exact .inl (List.mem_cons_of_mem _ (List.mem_append_right _ z))
            · exact .inr z
      · obtain ⟨v, h1, h2⟩ := ok1.slot j s hs
        refine ⟨v, h1, ?_⟩
        cases s with
        | v d => exact Rep.tr c.tr h2
        | er _ _ => exact trivial
        | sc ns =>
          obtain ⟨a, e, h3⟩ := h2
          exact ⟨a, e, h3.tr c.tr⟩
        | own t d =>
          obtain ⟨a, e, ha, n0, h3⟩ := h2
          refine ⟨a, e, List.mem_cons_of_mem _ (List.mem_append_right _ ha), ⟨n0.1, fun z => ?_⟩, h3.tr c.same c.tr⟩
          rcases List.mem_cons.mp z with z | z
          · exact ok1.has a ha (by rw [z]; exact hL)
          · rcases List.mem_append.mp z with z | z
            · exact ok1.has a ha (c.new a z)
            · exact n0.2 z
    have okw := (oka.same sx).wipe (own.map (·.2))
    refine ⟨H0, _, _, wipeE ρ (own.map (·.2)), .list rows[i], _, okw, rx, rfl, fun σ2 o2 ag => ⟨(wipe_agree (fun j hj => by simp at hj; subst hj; exact hix) ag).trans wipe_wipe, H0, _, _, _, o2, ?_⟩⟩
    show ∀ H4, Same H3 H4 → _
    intro H4 s4
    dsimp only
    rw [if_pos rfl]
    obtain ⟨v, hv, rv⟩ := (o2.same s4).slot r (.v (.list rows[i])) (by rw [List.getElem?_set_self (by rw [wipeE_length]; exact hr)])
    obtain ⟨p, us, e, h5, r5⟩ := RepB.lst (.inl rv)
    subst e
    refine ⟨_, hv, p, us, rfl, .inl (SqL.of h5), fun b hb => ?_⟩
    have c4 : Copied X.K H1 H4 A L bs (rows.take i) := (c.more sx).more s4
    have hLb : L ≠ b := fun z => by have := c4.top; rw [z, hb] at this; cases this
    refine ⟨bs.map V.ref, (upd_ne hLb).trans c4.top, by rw [List.length_map, hbl]; omega, bs ++ [b], by rw [List.length_append, hbl]; rfl, ?_⟩
    have c5 := c4.next hb r5
    rw [hbl, List.take_take, Nat.min_self, ← List.take_succ_eq_append_getElem hlt] at c5
    rw [show bs.map V.ref ++ [V.ref b] = (bs ++ [b]).map V.ref by simp]
    exact c5
  · have e : i = rows.length := by omega
    subst e
    rw [List.take_length] at c
    exact .inl ⟨by have := hst; rw [List.length_map] at this; exact this, q L bs H2 c hbl⟩
theorem Post.noXW {mg : MgT} {α : Type} {σ : St} {H : Hp} {P : α → Hp → Prop} {r : R α} {a : α} (h : G.noX r = some a) (q : ∀ H', Same H H' → P a H') : Post mg W σ H P r := by
  cases r with
  | ok b => cases h; exact q
  | ex c n => cases h
  | no => cases h
def setLL (rows : List (List D)) (k j : Int) (v : D) : Option (List (List D)) := (ixN rows.length k).bind fun a => (rows[a]?).bind fun r => (ixN r.length j).map fun b => rows.set a (r.set b v)
def bentBy (fk fj f : En → R D) (rows : List (List D)) (ρ1 : En) : Option (List (List D)) := (noX (f ρ1)).bind fun v => if flatD v = true then (noX (fk ρ1)).bind fun k => (toI k).bind fun k => (noX (fj ρ1)).bind fun j => (toI j).bind fun j => setLL rows k j v else none
def sBent (ix r : Nat) (l : En → R (List D)) (fk fj f : En → R D) : En → SR := fun ρ => if r < ρ.length ∧ ix < ρ.length then (.of (l ρ) ρ fun ds => match rowsOf ds with
  | some rows => if ds.length ≤ sizeLine then (match bentBy fk fj f rows (ρ.set ix (some (.own false (.list ds)))) with
      | some rows' => .nx (ρ.set ix (some (.own false (.list (rows'.map .list)))))
      | none => .no) else .no
  | none => .no) else .no
theorem orep_copied {K : Frg} {H H2 : Hp} {A : List Addr} {L : Addr} {bs : List Addr} {rows : List (List D)} (c : Copied K H H2 A L bs rows) (hl : bs.length = rows.length) (hA : ∀ a ∈ A, H a ≠ none) : ORep K H2 (L :: A) L false (.list (rows.map .list)) := by
  refine ⟨bs.map V.ref, c.top, ?_⟩
  have all : ∀ (xs : List Addr) (rs : List (List D)), xs.length = rs.length → (∀ (i : Nat) (b : Addr), xs[i]? = some b → b ∈ bs ∧ ∃ r vs, rs[i]? = some r ∧ H2 b = some (.lst vs) ∧ RepL K H2 (L :: (bs ++ A)) vs r) → RepL K H2 (L :: A) (xs.map V.ref) (rs.map .list) := by
    intro xs
    induction xs with
    | nil => intro rs hl _; cases rs with
      | nil => exact .nil
      | cons _ _ => simp at hl
    | cons b xs ih =>
      intro rs hl h
      cases rs with
      | nil => simp at hl
      | cons r rs =>
        obtain ⟨hb, r', vs, h1, h2, h3⟩ := h 0 b rfl
        simp at h1
        subst h1
        refine .cons (.lst (fun z => ?_) h2 (h3.sub fun a ha => ?_)) (ih rs (by simpa using hl) fun i x hx => ?_)
        · rcases List.mem_cons.mp z with z | z
          · exact c.out (by rw [← z]; exact hb)
          · exact hA b z (c.new b hb)
        · rcases List.mem_cons.mp ha with rfl | ha
          · exact List.mem_cons_self
          · exact List.mem_cons_of_mem _ (List.mem_append_right _ ha)
        · obtain ⟨h4, r', vs', h5, h6⟩ := h (i + 1) x (by simpa using hx)
          exact ⟨h4, r', vs', by simpa using h5, h6⟩
  exact all bs rows hl fun i b hb => ⟨List.mem_of_getElem? hb, c.it i b hb⟩
/-- one of the lists is changed -/
theorem Copied.set {K : Frg} {H H2 : Hp} {A : List Addr} {L : Addr} {bs : List Addr} {rows : List (List D)} (c : Copied K H H2 A L bs rows) {a : Nat} {b : Addr} {r : List D} {vs : List V} {j : Nat} {w : V} {d : D} (hb : bs[a]? = some b) (hr : rows[a]? = some r) (hv : H2 b = some (.lst vs)) (rl : RepL K H2 (L :: (bs ++ A)) vs r) (hw : Rep K H2 (L :: (bs ++ A)) w d) :
    Copied K H (upd H2 b (.lst (vs.set j w))) A L bs (rows.set a (r.set j d)) := by
  have hm : b ∈ bs := List.mem_of_getElem? hb
  have u : Tr (L :: (bs ++ A)) H2 (L :: (bs ++ A)) (upd H2 b (.lst (vs.set j w))) := Tr.write (List.mem_cons_of_mem _ (List.mem_append_left _ hm))
  refine ⟨fun x o h => ?_, c.free, (upd_ne (show L ≠ b from fun z => c.out (by rw [z]; exact hm))).trans c.top, c.nd, c.out, c.new, fun i x hi => ?_⟩
  · rw [upd_ne (ne_of_none h (c.new b hm))]
    exact c.same x o h
  · by_cases e : i = a
    · subst e
      cases hb.symm.trans hi
      exact ⟨r.set j d, vs.set j w, by rw [List.getElem?_set_self (List.getElem?_eq_some_iff.mp hr).1], upd_same, (RepL.set j rl hw).tr u⟩
    · obtain ⟨r', vs', h1, h2, h3⟩ := c.it i x hi
      refine ⟨r', vs', by rw [List.getElem?_set_ne (Ne.symm e)]; exact h1, ?_, h3.tr u⟩
      rw [upd_ne (show x ≠ b from fun z => ?_)]
      · exact h2
      · subst z
        obtain ⟨l1, e1⟩ := List.getElem?_eq_some_iff.mp hb
        obtain ⟨l2, e2⟩ := List.getElem?_eq_some_iff.mp hi
        have := (List.pairwise_iff_getElem.mp c.nd)
        rcases Nat.lt_or_gt_of_ne e with q | q
        · exact this i a l2 l1 q (by rw [e1, e2])
        · exact this a i l1 l2 q (by rw [e1, e2])
theorem fss_bent {ix : Nat} {x rn : Str} {py spos pos pos2 p1 p2 p3 p4 p5 p6 p7 : Pos} {iter ke je ve : Expr} {scope : Scope} {own : List (Str × Nat)} {rest : List Stmt} {fk fj f : En → R D} {g : En → SR} (hc : X.calm = true) (hN : X.N.Nodup) (hy : X.N[ix]? = some x) (hyl : X.env.scope.names.lookup x = some .local)
    (hsw : swapsWith (.ListComp (.Call (.Name "list" p1) [.Name rn p2] [] p3) [⟨.Name rn p4, iter, [], 0⟩] scope pos) (some (.Name x py)) spos.line X.env = pure true) (hi : FI X W (.Name rn p4) iter l) (okb : BlkOk X.N X.env.scope scope own)
    (hg : ∀ (s : Shared) (H : Hp) (C : Addr) (cl : List (Str × Addr)) (fp : List Addr), FG (X.blk s H scope (compEnvC scope cl C X.env) fp) (.Name rn p4) [r] (gN r)) (hix : r ∈ own.map (·.2))
    (hr : ∀ (s : Shared) (H : Hp) (C : Addr) (cl : List (Str × Addr)) (fp : List Addr), PE (X.blk s H scope (compEnvC scope cl C X.env) fp) (.Name rn p2) (tVar r))
    (hgl : ∀ (s : Shared) (H : Hp) (C : Addr) (cl : List (Str × Addr)) (fp : List Addr), Gl (X.blk s H scope (compEnvC scope cl C X.env) fp) "list") (hm : X.mg "list" = none)
    (hxe : PE X (.Name x p5) (tVar ix)) (hk : FE X W ke fk) (hj : FE X W je fj) (hv : FE X W ve f) (hsl : PlainIx ke) (hrest : FSs X W rest g)
    (hst : ∀ (s : Shared) (H : Hp) (C : Addr) (cl : List (Str × Addr)) (fp : List Addr), starEach [.Name rn p2] (X.blk s H scope (compEnvC scope cl C X.env) fp).env = (false, eval (.Name rn p2) (X.blk s H scope (compEnvC scope cl C X.env) fp).env) :: starEach [] (X.blk s H scope (compEnvC scope cl C X.env) fp).env := by intros; rfl)
    (hpl : ∀ (s : Shared) (H : Hp) (C : Addr) (cl : List (Str × Addr)) (fp : List Addr), (backTo p3 (starEach [] (X.blk s H scope (compEnvC scope cl C X.env) fp).env)).any (·.1) = false := by intros; rfl)
    (hfi : ∀ x, foldedSetIterable iter X.env x = pure x := by intro _; rfl)
    (ha : ∀ v, assign (.Subscript (.Subscript (.Name x p5) ke p6) je p7) X.env v = (do
      let ov ← holding [v] (eval (.Subscript (.Name x p5) ke p6) X.env)
      let iv ← holding [v, ov] (eval je X.env)
      standAt p7
      holding [v, ov, iv] (setItem ov iv v)
      release [v, ov, iv] []) := by intro _; rfl)
    (hs2 : swapsWithSole [.Subscript (.Subscript (.Name x p5) ke p6) je p7] ve pos2.line X.env = pure false := by rfl) (hw2 : swappedStores [.Subscript (.Subscript (.Name x p5) ke p6) je p7] ve X.env = pure none := by rfl)
    (h12 : (assignEach [.Subscript (.Subscript (.Name x p5) ke p6) je p7] X.env).map (·.2) = [assign (.Subscript (.Subscript (.Name x p5) ke p6) je p7) X.env] := by rfl) :
    FSs X W (.Assign [.Name x py] (.ListComp (.Call (.Name "list" p1) [.Name rn p2] [] p3) [⟨.Name rn p4, iter, [], 0⟩] scope pos) spos :: .Assign [.Subscript (.Subscript (.Name x p5) ke p6) je p7] ve pos2 :: rest) (sSeq (sBent ix r l fk fj f) g) := by
  refine impSs (pss_cons (ps_setLc (g := tFG X.K [r] (gN r)) (tt := tFT X.K X.mg wNo cTrue) hc hN hy hyl hsw hi okb hg (fun s H C cl fp => fts_nil) (fun s H C cl fp => pe_callTy (r := rListR X) (call_list_of (X := X.blk s H scope (compEnvC scope cl C X.env) fp)) (hgl s H C cl fp) hm (by rfl) (pa_cons (hr s H C cl fp) pa_nil (hst s H C cl fp)) (by decide) (by decide) (hst s H C cl fp) (hpl s H C cl fp)) hfi)
    (pss_cons (ps_asg hv (pg_sub (pe_ix ix_list hxe hk hsl) hj set_list ha) hs2 hw2 h12) hrest)) fun Ee σ H ⟨H0, A0, A, ρ, ok, P⟩ => ?_
  have P' : PostS X.K X.mg W H0 A0 A H { Ee with nx := tFS X.K X.mg W g Ee } (sBent ix r l fk fj f ρ) := PostS.seq P
  unfold sBent at P'
  split at P'
  rotate_left
  · exact P'.elim
  rename_i hrl
  obtain ⟨hrl, hixl⟩ := hrl
  show tLc (tFI X.K X.mg W l) (tFG X.K [r] (gN r)) (tFT X.K X.mg wNo cTrue) (tCB (rListR X) (tCons (tVar r) tNil)) (own.map (·.2)) σ H (fun u K1 => tSeq (tAsg (tF X.K X.mg W f) (gSub (tOp (rIxL X.K) (tVar ix) (tF X.K X.mg W fk)) (tF X.K X.mg W fj) rSetL)) (tFS X.K X.mg W g) Ee (σ.set ix (some u)) K1)
  refine lc_copy hix ok hrl ((P'.of ok).mono fun ds H1 s1 P1 => ?_)
  split at P1
  rotate_left
  · exact P1.elim
  rename_i rows hrows
  split at P1
  rotate_left
  · exact P1.elim
  rename_i hsz
  split at P1
  rotate_left
  · exact P1.elim
  rename_i rows' hb
  have eds := rowsOf_some hrows
  subst eds
  refine ⟨rows, hrows, hsz, fun L bs H2 c hbl => ?_⟩
  have ok1 := ok.same s1
  unfold bentBy at hb
  obtain ⟨v, e1, hb⟩ := Option.bind_eq_some_iff.mp hb
  split at hb
  rotate_left
  · cases hb
  rename_i hflat
  obtain ⟨kd, e2, hb⟩ := Option.bind_eq_some_iff.mp hb
  obtain ⟨k, e3, hb⟩ := Option.bind_eq_some_iff.mp hb
  obtain ⟨jd, e4, hb⟩ := Option.bind_eq_some_iff.mp hb
  obtain ⟨j, e5, hb⟩ := Option.bind_eq_some_iff.mp hb
  unfold setLL at hb
  obtain ⟨a, e6, hb⟩ := Option.bind_eq_some_iff.mp hb
  obtain ⟨row, e7, hb⟩ := Option.bind_eq_some_iff.mp hb
  obtain ⟨b, e8, e9⟩ := Option.map_eq_some_iff.mp hb
  have hA := ok1.has
  have o2 : Ok X.K H0 A0 (L :: A) (ρ.set ix (some (.own false (.list (rows.map .list))))) (σ.set ix (some (.ref L))) H2 := ok1.setOwn c.same ix c.free (orep_copied c hbl hA)
  -- the value, then the places
  refine ⟨H0, A0, L :: A, _, o2, Post.noXW e1 fun H3 s3 w hw => ?_⟩
  have o3 := o2.same s3
  have hix2 : ix < σ.length := by rw [ok.len]; exact hixl
  refine ⟨.ref L, by rw [List.getElem?_set_self hix2], H0, A0, L :: A, _, o3, Post.noXW e2 fun H4 s4 y hyk => ?_⟩
  have o4 := o3.same s4
  have ek := toI_some e3
  subst ek
  obtain rfl := (RepB.of hyk).int
  have c4 := (c.more s3).more s4
  obtain ⟨hlt, e10⟩ := List.getElem?_eq_some_iff.mp e7
  obtain ⟨ba, hba⟩ : ∃ ba, bs[a]? = some ba := ⟨_, List.getElem?_eq_getElem (show a < bs.length by omega)⟩
  refine ⟨L, bs.map V.ref, k, .ref ba, rfl, rfl, SqL.of c4.top, ?_, H0, A0, L :: A, _, o4, Post.noXW e4 fun H5 s5 z hz => ?_⟩
  · unfold atI
    rw [List.length_map, hbl, e6, Option.bind_some, List.getElem?_map, hba]
    rfl
  have ej := toI_some e5
  subst ej
  obtain rfl := (RepB.of hz).int
  have c5 := c4.more s5
  obtain ⟨r', vs, h1, h2, h3⟩ := c5.it a _ hba
  cases e7.symm.trans h1
  refine ⟨_, vs, j, b, rfl, rfl, h2, by rw [h3.length]; exact e8, ?_⟩
  have hw5 : Rep X.K H5 (L :: (bs ++ A)) w v := flat_rep (hw.same (s4.trans s5)) (by cases v <;> first | rfl | cases hflat)
  have c6 := c5.set (j := b) hba e7 h2 h3 hw5
  subst e9
  have fin := ok1.setOwn c6.same ix c6.free (orep_copied c6 (by rw [List.length_set]; exact hbl) hA)
  refine P1 _ _ _ fin ⟨fun q o h n => c6.same q o (s1 q o h), fun q hq => ?_⟩
  rcases List.mem_cons.mp hq with rfl | hq
  · exact .inr (s1.free c6.free)
  · exact .inl hq
end
end G

namespace G
open PySem PySem.Spec PyProof.Rows L2

/-! ### the law's own head -/
/-- a law def of one script, whose answer is true, called by the claim -/
theorem law_done {P : Program} {w : World} {K : Frg} {mg mb : MgT} {k : Nat} {x : Str} {F : List Int → R D} {s₁ : Shared} {fa a : Addr} {us : List Value} {ns : List Int} (KX : K.In s₁.heap) (hns : s₁.heap.Ns mainGlobals mg) (hb : s₁.heap.Ns builtinsNs mb) (hbb : ∀ z : Str, z ≠ "__name__" → mb z = bootBuiltins z)
    (hlim : s₁.heap.NoLimit) (hgens : s₁.gens = #[]) (hobj : s₁.heap.get? a = some { cls := .type "list", data := .seq us.toArray }) (hints : IntsAre us ns) (hlen : ns.length ≤ sizeLine) (hr : Room k callerA) (hfa : mg x = some (.ref fa))
    (C : ∀ base : Heap, K.In base → base.Ns mainGlobals mg → CallS P w K mg base k x F) (good : F ns = .ok (.bool true)) :
    codeAny (model P w) callerA (.call (.ref fa) ⟨[.ref a], []⟩) (fun r s' => r = .ok (.ret (.bool true)) ∧ OldK s₁.heap s'.heap ∧ s'.os = s₁.os ∧ AllBare s'.gens) s₁ := by
  have vals := vals_ints hints
  have size := hints.length
  -- whatever is tracked of it at the start
  have from_ : ∀ H : Hp, Only H → LRep K H [] a (ns.map V.int) → HOk P w H s₁.heap → (∀ b, H b ≠ none → b = a ∧ K.lookup a = none) →
      codeAny (model P w) callerA (.call (.ref fa) ⟨[.ref a], []⟩) (fun r s' => r = .ok (.ret (.bool true)) ∧ OldK s₁.heap s'.heap ∧ s'.os = s₁.os ∧ AllBare s'.gens) s₁ := by
    intro H only rep ok one
    have untracked : ∀ {b : Addr}, b ≠ a → H b = none := fun {b} n => by
      cases q : H b with
      | none => rfl
      | some u => exact absurd (one b (by rw [q]; simp)).1 n
    have lay : ∀ {b : Addr} {m : Str → Option Value}, s₁.heap.Ns b m → (hidT s₁.heap H).Ns b m := fun {b m} ⟨o, es, ep, e, d, r⟩ => by
      refine ⟨o, es, ep, hidT_get e (untracked fun z => ?_), d, r⟩
      subst z
      rw [hobj] at e
      cases e
      cases (show Data.seq us.toArray _ = Data.dict es ep from d)
    have kin : K.In (hidT s₁.heap H) := fun b o e => hidT_get (KX b o e) (by
      cases q : H b with
      | none => rfl
      | some u =>
        obtain ⟨z1, z2⟩ := one b (by rw [q]; simp)
        rw [z1, z2] at e
        cases e)
    obtain ⟨mc, l1, l2⟩ := hlim
    have e0 : Env0 P w K mg (hidT s₁.heap H) callerA [] s₁ H :=
      ⟨rfl, ⟨kin, lay hns, ⟨mb, lay hb, hbb⟩, ⟨mc, lay l1, l2⟩⟩, fun b o e => of_hidT e, Nat.le_of_eq (hidT_size _ _), trivial, fun b hb => absurd (show b ∈ ([] : List Addr) from hb) (by simp), ok, .of_eq hgens⟩
    obtain ⟨f, fd, p, hF, hm, hkp, hB⟩ := C _ kin (lay hns)
    cases hfa.symm.trans hm
    refine codeAny_mono (hF.run callerA [] s₁ H ⟨[.ref a], []⟩ (.ref a) a ns [] (fun v _ => v = .bl true) (fun _ _ _ => False) hr rfl e0 (by have b := hB s₁ [.ref a] KX rfl; exact b) rfl rep (fun _ z => absurd z List.not_mem_nil) (by rw [good]; exact fun v H' _ r => by cases r; rfl)) fun r s' h => ?_
    cases r with
    | error e =>
      obtain ⟨_, _, _, _, _, _, _, _, _, _, _, _, z⟩ := h
      exact z.elim
    | ok fl =>
      cases fl with
      | next => exact h.elim
      | brk => exact h.elim
      | cont => exact h.elim
      | ret u =>
        obtain ⟨v, H', os, bare, un, ok', rv, q⟩ := h
        obtain rfl : v = .bl true := q
        obtain rfl : u = Value.bool true := rv
        refine ⟨rfl, OldK.of_keep fun b o e => ?_, os, bare⟩
        cases q : H b with
        | none => exact un.keep b o e q (fun z => absurd (show b ∈ ([] : List Addr) from z) (by simp)) (by simp)
        | some u =>
          rcases only b with z | ⟨ob, xs, z⟩
          · rw [q] at z; cases z
          · obtain ⟨g1, _⟩ := ok b _ z
            obtain ⟨g2, _⟩ := ok' b _ (un.frzs b ob _ z)
            cases e.symm.trans g1
            exact g2
  cases hk : K.lookup a with
  | some o =>
    have e := KX a o hk
    rw [hobj] at e
    cases e
    exact from_ (fun _ => none) (fun _ => .inl rfl) (.inr ⟨_, us.toArray, _, hk, rfl, rfl, rfl, by rw [List.size_toArray, size]; exact hlen, by simpa using vals⟩) (fun b u z => by cases (show (none : Option HO) = some u from z)) fun b z => absurd rfl z
  | none =>
    refine from_ (fun b => if b = a then some (.frz { cls := .type "list", data := .seq us.toArray } (.lst (ns.map V.int))) else none) (fun b => ?_) (.inl ⟨List.not_mem_nil, .inr ⟨{ cls := .type "list", data := .seq us.toArray }, if_pos rfl⟩⟩) (fun b u z => ?_) fun b z => ?_
    · by_cases hb : b = a
      · exact .inr ⟨_, _, if_pos hb⟩
      · exact .inl (if_neg hb)
    · by_cases hb : b = a
      · cases (if_pos hb).symm.trans z
        subst hb
        exact ⟨hobj, by rw [List.length_map]; exact hlen, us, _, vals, hobj⟩
      · cases (if_neg hb).symm.trans z
    · by_cases hb : b = a
      · exact ⟨hb, hk⟩
      · exact absurd (if_neg hb) z
theorem walk_g {l : PySem.W.OpenLaw} {n k : Nat} {q : Program} {loose : List Str} {XP : (Str → Option Value) → Heap → Prop} {YP : World → Heap → Prop} {d : DefRec} {K : Params → Frg} {F : List Int → R D}
    (hn : l.most = some n) (hn2 : n ≤ sizeLine) (hdf : d.params.defaults = []) (hr : Room k callerA) (hY : ∀ (w : World) (h : Heap), YP w h → (K w.params).In h)
    (C : ∀ (w : World) (mg : MgT) (h : Heap), (K w.params).In h → h.Ns mainGlobals mg → ∀ base : Heap, (K w.params).In base → base.Ns mainGlobals mg → CallS l.prog w (K w.params) mg base k d.name F)
    (good : ∀ ns : List Int, ns.length ≤ n → F ns = .ok (.bool true)) : PySem.W.WalkO q loose XP YP l.row.toRowW d [] (fun f vs => PySem.call f vs) :=
  Att.attach_call hn hdf fun w s₀ s₁ mg mb fa o pm cd doc a us ns G0 Y ho hd hcd hmg hobj hints hlen hg =>
    law_done (hY w _ Y) G0.T.g G0.T.b G0.T.builtins G0.T.nolimit hg hobj hints (Nat.le_trans hlen hn2) hr hmg (C w mg _ (hY w _ Y) G0.T.g) (good ns hlen)
/-! ### what the top has written -/
section
variable {P : Program} {K : Frg} {mg : MgT} {h : Heap} {x : Str}
theorem mk_def {st : Stmt} {ps : List Str} {f : Addr} {oc : Value} {od an : Option Addr} {osl : Array (Option Value)} {kV doc pm cdv ct : Value} (X : K.In h) (G0 : h.Ns mainGlobals mg) (a : PySem.W.nsIn K mainGlobals x = some (some (.ref f)))
    (l : K.lookup f = some ⟨oc, od, .func (PySem.W.fnOf x x (defArgs st) (defBody st) (defScope st) .none kV doc pm an cdv ct), osl⟩) (c : PySem.W.codeIn K cdv x = true) (k : PySem.W.keepIn K (.ref f) = true)
    (hb : ∀ (kV doc pm : Value) (an : Option Addr) (cdv ct : Value) (us : List Value), us.length = ps.length → bindArgs (PySem.W.fnOf x x (defArgs st) (defBody st) (defScope st) .none kV doc pm an cdv ct) ⟨us, []⟩ = pure (ps.zip us)) : DefG K mg x st ps :=
  ⟨f, _, fun_mk l c k, PySem.W.mg_of X G0 a, (fun_mk l c k).binds hb⟩
theorem mk_none (X : K.In h) (G0 : h.Ns mainGlobals mg) (a : PySem.W.nsIn K mainGlobals x = some none) : mg x = none := PySem.W.mg_none_of X G0 a
theorem mk_int {i : Int} {t : Tok} (X : K.In h) (G0 : h.Ns mainGlobals mg) (a : PySem.W.nsIn K mainGlobals x = some (some (.int i t))) : GInt mg x i := ⟨t, PySem.W.mg_of X G0 a⟩
/-- a written tuple's items -/
inductive ItemsD : List Value → List V → List D → Prop
  | nil : ItemsD [] [] []
  | int {i : Int} {t : Tok} {us : List Value} {vs : List V} {ds : List D} (r : ItemsD us vs ds) : ItemsD (.int i t :: us) (.int i :: vs) (.int i :: ds)
  | str {z : Str} {t : Tok} {us : List Value} {vs : List V} {ds : List D} (r : ItemsD us vs ds) : ItemsD (.str z t :: us) (.str z :: vs) (.str z :: ds)
theorem ItemsD.vals : ∀ {us : List Value} {vs : List V} {ds : List D}, ItemsD us vs ds → Vals vs us
  | _, _, _, .nil => .nil
  | _, _, _, .int r => .cons ⟨_, rfl⟩ r.vals
  | _, _, _, .str r => .cons ⟨_, rfl⟩ r.vals
theorem ItemsD.rep : ∀ {us : List Value} {vs : List V} {ds : List D}, ItemsD us vs ds → ∀ H A, RepL K H A vs ds
  | _, _, _, .nil, _, _ => .nil
  | _, _, _, .int r, H, A => .cons (.int _) (r.rep H A)
  | _, _, _, .str r, H, A => .cons (.str _) (r.rep H A)
theorem mk_tup {a : Addr} {us : List Value} {vs : List V} {ds : List D} {n : Nat} {od : Option Addr} {sl : Array (Option Value)} (X : K.In h) (G0 : h.Ns mainGlobals mg) (e : PySem.W.nsIn K mainGlobals x = some (some (.ref a))) (l : K.lookup a = some ⟨.type "tuple", od, .seq us.toArray n, sl⟩) (it : ItemsD us vs ds) (hz : us.length ≤ sizeLine) : GTup K mg x ds :=
  ⟨a, vs, PySem.W.mg_of X G0 e, ⟨_, us.toArray, n, l, rfl, rfl, by rw [List.size_toArray]; exact hz, by simpa using it.vals⟩, it.rep⟩
theorem ints_items : ∀ {us : List Value} {vs : List V} {ns : List Int}, ItemsD us vs (ns.map .int) → vs = ns.map V.int
  | _, _, [], h => by cases h; rfl
  | _, _, n :: ns, h => by
    rw [List.map_cons] at h
    cases h with
    | int r => rw [ints_items r]; rfl
theorem mk_tupI {a : Addr} {us : List Value} {vs : List V} {ns : List Int} {n : Nat} {sl : Array (Option Value)} (X : K.In h) (G0 : h.Ns mainGlobals mg) (e : PySem.W.nsIn K mainGlobals x = some (some (.ref a))) (l : K.lookup a = some ⟨.type "tuple", none, .seq us.toArray n, sl⟩) (it : ItemsD us vs (ns.map .int)) (hz : us.length ≤ sizeLine) : GTupI K mg x ns := by
  obtain rfl := ints_items it
  exact ⟨a, PySem.W.mg_of X G0 e, ⟨_, us.toArray, n, l, rfl, rfl, by rw [List.size_toArray]; exact hz, by simpa using it.vals⟩, _, l, rfl, rfl⟩
theorem mk_exm {c z : String} {C C2 : Addr} {b : Bool} (X : K.In h) (G0 : h.Ns mainGlobals mg) (a1 : PySem.W.nsIn K mainGlobals (Str.ofString c) = some (some (.ref C))) (a2 : PySem.W.nsIn K mainGlobals (Str.ofString z) = some (some (.ref C2))) (e : PySem.W.exmOne K (.ref C) (.ref C2) = some b) (er : ErrG P K mg (Str.ofString c)) : ExM P K mg c z b :=
  ⟨_, _, PySem.W.mg_of X G0 a1, PySem.W.mg_of X G0 a2, e, er⟩
end
end G
namespace PySem
namespace AeX
open PySem.W PySem.Calls PyProof.Rows PySem.HandSPX
variable {P : Program} {K : Frag} {mg : Str → Option Value} {h : Heap} {x : Str} {C D fI : Addr}
theorem mk_err {nm q : Str} {N : Addr} {bs bm : List Value} {sn : List Str} {sub : List Value} {ab : Bool} {col : Option Bool} {dd : Option Addr} {k0 k1 k2 k3 k5 : Option Value} {cdD : ClassData}
    {oc : Value} {od : Option Addr} {doc pm : Value} {an : Option Addr} {cda : Addr} {ct : Value} {osl : Array (Option Value)} {cc : Addr} {p1 p2 q0 q1 q2 q3 q4 q5 r1 r2 r3 r4 : Pos} {ccl : Value} {cdd : Option Addr} {vs : Array Value} {ccs : Array (Option Value)} {file : Str} {tf : Tok} {cl : Value} {cld : Option Addr} {csl : Array (Option Value)}
    (X : K.In h) (G0 : h.Ns mainGlobals mg) (gC : nsIn K mainGlobals x = some (some (.ref C))) (cls : K.lookup C = some (excClassObj nm q C N bs bm true sn sub ab col dd k0 k1 k2 k3 k5 "ValueError.__new__")) (hbm : refsVE bm = true)
    (sa : findIn K (.ref C) "__setattr__" = some (some (.builtin "object.__setattr__"))) (ga : findIn K (.ref C) "__getattribute__" = some (some (.builtin "BaseException.__getattribute__"))) (gg : findIn K (.ref C) "__getattr__" = some none) (noN : findIn K (.ref C) "at" = some none)
    (iC : findIn K (.ref C) "__init__" = some (some (.ref fI))) (tC : typeIn K (.ref fI) = some (.type "function")) (kC : keepIn K (.ref C) = true) (exC : subIn K (.ref C) (.type "BaseException") = some true) (tyC : typeIn K (.ref C) = some (.type "type")) (hdC : hasDictIn K C = true)
    (sup : ks_superIn K C D "__init__" = some (some (.builtin "ValueError.__init__"))) (isD : mroIn K C (.ref D) = some true) (veC : subIn K (.ref C) (.type "ValueError") = some true) (opq : nsIn K cStatics "thirdparty.any" = some none) (clD : clsIn K D = some cdD)
    (nsu : nsIn K mainGlobals "super" = some none) (top : (P.main.scope.names.lookup ("super" : Str)).isSome = false)
    (fn : K.lookup fI = some ⟨oc, od, .func (ksFn "__init__" "AuctionError.__init__" (aA p1 p2) (aB q0 q1 q2 q3 q4 q5 r1 r2 r3 r4) aS .none .none doc pm an (.ref cda) ct cc), osl⟩) (hcd : codeIn K (.ref cda) "AuctionError.__init__" = true)
    (hev : (∀ env : Env, ∃ pl : Sem Bool, eval (.Call (.Attribute (.Call (.Name "super" q0) [] [] q1) "__init__" q2) [.Name "at" q3] [] q4) env = (do
      let ov ← attributeBase (.Call (.Name "super" q0) [] [] q1) "__init__" env (eval (.Call (.Name "super" q0) [] [] q1) env)
      standAt q2.atName
      let (f, first) ← holding [ov] (getMethod ov "__init__" pl)
      callWith q4 f first (backTo q4 (starEach [.Name "at" q3] env)) [])))
    (code : K.lookup cda = some ⟨ccl, cdd, .fields vs, ccs⟩) (hvs : vs[2]? = some (.str file tf)) (hfile : ((P.main.file : Str) == file) = true) (cell : K.lookup cc = some ⟨cl, cld, .cell (some (.ref D)), csl⟩) : G.ErrG P K mg x :=
  ⟨C, D, fI, mg_of X G0 gC, ⟨⟨nm, q, N, bs, bm, sn, sub, ab, col, dd, k0, k1, k2, k3, k5, cls, hbm⟩, sa, ga, gg, noN, iC, tC, kC, exC, tyC, hdC, sup, isD, veC, opq, ⟨cdD, clD⟩, mg_none_of X G0 nsu, top,
    ⟨oc, od, doc, pm, an, cda, ct, osl, cc, p1, p2, q0, q1, q2, q3, q4, q5, r1, r2, r3, r4, fn, hcd, hev, ⟨ccl, cdd, vs, ccs, file, tf, code, hvs, hfile⟩, ⟨cl, cld, csl, cell⟩⟩⟩⟩
end AeX
end PySem

namespace G
open PySem PySem.Spec PyProof.Rows L2
section
variable {X : Cx} {pos : Pos}
/-- a, b, .. = a list -/
def gTL (t : List D → En → Option En) : TgF := fun d ρ => match d with
  | .list ds => t ds ρ
  | _ => none
theorem fg_unl {es : List Expr} {k n : Nat} {ix : List Nat} {tgs : List D → En → Option En} (hc : X.calm = true) (hg : FGs X es ix tgs) (hl : ∀ ds ρ ρ', tgs ds ρ = some ρ' → ds.length = n)
    (hn : (assignEach es X.env).length = n := by rfl) (hst : (assignEach es X.env).findIdx? (·.1) = none := by rfl) : FG X (.Tuple es k pos) ix (gTL tgs) := impG (pg_lst hc hg hn hst) fun v σ H Q ⟨H0, A0, A, ρ, d, ρ', o, r, e, q⟩ => by
  unfold gTL at e
  split at e
  · obtain ⟨a, vs, rfl, h1, r1⟩ := (RepB.of r).lst
    exact ⟨a, vs, rfl, .of h1, by rw [r1.length]; exact hl _ _ _ e, H0, A0, A, ρ, _, ρ', o, r1, e, q⟩
  · cases e
end
end G

namespace G
open PySem PySem.Spec PyProof.Rows L2
section
variable {X : Cx} {W : WX} {a b : Expr} {f g : En → R D} {dop : D → D → Option D}
/-! ### a list that a sum or a product makes anew -/
def DOpN (X : Cx) (F : Value → Value → Sem Value) (dop : D → D → Option D) : Prop :=
  ∃ r : R2, OpR X F r ∧ ∀ (H : Hp) (A : List Addr) (x y : V) (d1 d2 d : D) (Q : VK), (∀ a ∈ A, H a ≠ none) → RepB X.K H A x d1 → RepB X.K H A y d2 → dop d1 d2 = some d → (∀ v H', Same H H' → RepN X.K false H H' A v d → Q v H') → r x y H Q
theorem fn_op {op : Operator} (ho : DOpN X (binaryOp op) dop) (ha : FB X W a f) (hb : FB X W b g) : FN X W false (.BinOp a op b pos) (cBin dop f g) := by
  obtain ⟨r, hr, hs⟩ := ho
  refine impE (pe_op hr ha hb) fun σ H Q ⟨H0, A0, A, ρ, o, P⟩ => ?_
  refine ⟨H0, A0, A, ρ, o, P.bind.mono fun d1 H1 s1 P1 x hx => ?_⟩
  refine ⟨H0, A0, A, ρ, o.same s1, P1.bind.mono fun d2 H2 s2 P2 y hy => ?_⟩
  obtain ⟨d, e, P3⟩ := P2.ofO
  refine hs H2 A x y d1 d2 d Q ((o.same s1).same s2).has (hx.same s2) hy e fun v H' s3 hv => P3 H' s3 v ?_
  obtain ⟨p, e, n, r⟩ := hv
  exact ⟨p, e, s1.free (s2.free n), r⟩
/-- a list, so many times -/
def dTimes : D → D → Option D
  | .list xs, .int j => if j < 1000000 ∧ xs.length * j.toNat ≤ sizeLine ∧ -1000000 < j then some (.list (List.replicate j.toNat xs).flatten) else none
  | _, _ => none
theorem dn_times : DOpN X (binaryOp .Mult) dTimes := by
  refine ⟨_, OpR.or op_mulW op_rep, fun H A x y d1 d2 d Q ha hx hy e q => ?_⟩
  unfold dTimes at e
  split at e
  · split at e
    · rename_i hl
      cases e
      obtain ⟨a, vs, rfl, h1, r1⟩ := hx.lst
      obtain rfl := hy.int
      obtain ⟨h2, h3, h4⟩ := hl
      exact .inr ⟨a, _, vs, rfl, rfl, h1, by omega, by omega, by rw [r1.length]; exact h3, fun p hp => q _ _ (same_upd hp) ⟨p, rfl, hp, orep_lst hp (r1.flatRep _)⟩⟩
    · cases e
  · cases e
/-- two lists, one behind the other -/
def dJoin : D → D → Option D
  | .list xs, .list ys => if xs.length + ys.length ≤ sizeLine then some (.list (xs ++ ys)) else none
  | _, _ => none
theorem dn_join : DOpN X (binaryOp .Add) dJoin := by
  refine ⟨_, op_cat, fun H A x y d1 d2 d Q ha hx hy e q => ?_⟩
  unfold dJoin at e
  split at e
  · split at e
    · rename_i hl
      cases e
      obtain ⟨a, vs, rfl, h1, r1⟩ := hx.lst
      obtain ⟨b, us, rfl, h2, r2⟩ := hy.lst
      exact ⟨a, b, vs, us, rfl, rfl, h1, h2, by rw [r1.length, r2.length]; exact hl, fun p hp => q _ _ (same_upd hp) ⟨p, rfl, hp, orep_lst hp (r1.append r2)⟩⟩
    · cases e
  · cases e
end
end G

namespace G
open PySem PySem.Spec PyProof.Rows L2
/-! ### the least of rows, rows sorted -/
def notNone : D → Bool
  | .none => false
  | _ => true
def alikeB (xs : List D) : Bool := xs.all fun x => notNone x && xs.all fun y => PySem.W.alike x y
theorem alikeB_all {xs : List D} (h : alikeB xs = true) : PySem.W.AlikeAll xs := by
  unfold alikeB at h
  rw [List.all_eq_true] at h
  refine ⟨fun x hx y hy => ?_, fun x hx z => ?_⟩
  · have := h x hx
    rw [Bool.and_eq_true, List.all_eq_true] at this
    exact this.2 y hy
  · have := h x hx
    subst z
    simp [notNone] at this
theorem repL_get {K : Frg} {H : Hp} {A : List Addr} : ∀ {vs : List V} {ds : List D}, RepL K H A vs ds → ∀ (i : Nat) (v : V), vs[i]? = some v → ∃ d, ds[i]? = some d ∧ Rep K H A v d
  | _, _, .nil, i, v, e => by simp at e
  | _, _, .cons a b, 0, v, e => by simp at e; subst e; exact ⟨_, rfl, a⟩
  | _, _, .cons a b, i + 1, v, e => by
    obtain ⟨d, e2, r⟩ := repL_get b i v (by simpa using e)
    exact ⟨d, by simpa using e2, r⟩
theorem dpAll_get {K : Frg} {H : Hp} : ∀ {vs : List V} {ds : List D}, DpAll K H vs ds → ∀ (i : Nat) (v : V), vs[i]? = some v → ∃ d, ds[i]? = some d ∧ Dp K H v d
  | _, _, .nil, i, v, e => by simp at e
  | _, _, .cons a b, 0, v, e => by simp at e; subst e; exact ⟨_, rfl, a⟩
  | _, _, .cons a b, i + 1, v, e => by
    obtain ⟨d, e2, r⟩ := dpAll_get b i v (by simpa using e)
    exact ⟨d, by simpa using e2, r⟩
theorem vals_get' : ∀ {xs : List V} {us : List Value}, Vals xs us → ∀ (i : Nat) (u : Value), us[i]? = some u → ∃ x, xs[i]? = some x ∧ RelV x u
  | _, _, .nil, i, u, e => by simp at e
  | _, _, .cons a b, 0, u, e => by simp at e; subst e; exact ⟨_, rfl, a⟩
  | _, _, .cons a b, i + 1, u, e => by
    obtain ⟨d, e2, r⟩ := vals_get' b i u (by simpa using e)
    exact ⟨d, by simpa using e2, r⟩
def rMinD (K : Frg) : List V → Hp → VK → Prop := fun vs H Q => ∃ (a : Addr) (xs : List V) (d : D) (ds : List D), vs = [V.ref a] ∧ SqL K H a xs ∧ DpAll K H xs (d :: ds) ∧ alikeB (d :: ds) = true ∧ PyData.depthAll (d :: ds) ≤ 60 ∧
  ∀ (i : Nat) x, xs[i]? = some x → (d :: ds)[i]? = some (PySem.W.minD d ds) → Q x H
section
variable {X : Cx}
theorem cr_minD (hc : X.calm = true) (hu : X.A.units + 65 < cLine) : CallR X (.builtin "min") (rMinD X.K) := by
  intro pins s σ H vs us Q I r h
  obtain ⟨a, xs, d, ds, rfl, hs, hd, hal, hdep, q⟩ := h
  obtain ⟨its, rv, hl, hz⟩ := I.list hs
  rw [Vals.ref1 r]
  obtain ⟨as, rd⟩ := Dp.readsAll I (d :: ds) xs its hd rv
  refine PySem.W.min_list_data (vs := its.toArray) (I.ok.hd hc) hl.isList (by simpa using rd) (alikeB_all hal) (by omega) fun i v h' tk bs hv hr hk => ?_
  obtain ⟨x, hx, rx⟩ := vals_get' rv i v (by simpa using hv)
  obtain ⟨e, he, hde⟩ := dpAll_get hd i x hx
  obtain ⟨as2, rd2⟩ := Dp.reads I e x v hde rx
  obtain ⟨e1, _⟩ := PyProof.Rows.reads_det (fun _ _ e _ => e) hr (PyProof.Rows.Reads.keeps hk rd2)
  exact ⟨x, H, I.kept hk, rx, q i x hx (by rw [he, e1])⟩
def dMinRows : List D → Option D
  | [.list (d :: ds)] => if alikeB (d :: ds) = true ∧ PyData.depthAll (d :: ds) ≤ 60 ∧ PyData.hasDictAll (d :: ds) = false then some (PySem.W.minD d ds) else none
  | _ => none
theorem dc_minRows (hc : X.calm = true) (hu : X.A.units + 65 < cLine) : DCall X (.builtin "min") dMinRows := by
  refine ⟨_, cr_minD hc hu, fun H A vs ds d Q ha hv e q => ?_⟩
  unfold dMinRows at e
  split at e
  · split at e
    · rename_i hl
      cases e
      obtain ⟨v, rfl, h⟩ := pair1 hv
      obtain ⟨p, us, rfl, h1, r⟩ := h.lst
      refine ⟨p, us, _, _, rfl, SqL.of h1, r.dp hl.2.2, hl.1, hl.2.1, fun i x hx he => ?_⟩
      obtain ⟨d2, e2, r2⟩ := repL_get r i x hx
      rw [he] at e2
      cases e2
      exact q x H (Same.refl H) r2
    · cases e
  · cases e
def sortB (xs : List D) : Bool := (xs.all fun d => match d with | .tuple (_ :: _) => true | _ => false) || (xs.all fun d => match d with | .tuple _ => false | .none => false | _ => true)
theorem sortB_of {xs : List D} (h : sortB xs = true) : PySem.W.Sortable xs := by
  unfold sortB at h
  rcases Bool.or_eq_true_iff.mp h with h | h
  · rw [List.all_eq_true] at h
    refine .inl fun d hd => ?_
    have := h d hd
    split at this
    · exact ⟨_, _, rfl⟩
    · cases this
  · rw [List.all_eq_true] at h
    refine .inr fun d hd => ?_
    have := h d hd
    split at this
    · cases this
    · cases this
    · rename_i n1 n2
      exact ⟨fun z => n2 z, fun xs z => n1 xs z⟩
theorem alikeB_pairs {xs : List D} (h : alikeB xs = true) : PySem.W.AllAlike xs := fun x hx y hy => (alikeB_all h).1 x hx y hy
def rowSort (xs : List D) : List D := xs.mergeSort (PySem.W.dataLe false id)
def rSortD (K : Frg) : List V → Hp → VK → Prop := fun vs H Q => ∃ (a : Addr) (xs : List V) (ds : List D), vs = [V.ref a] ∧ SqL K H a xs ∧ DpAll K H xs ds ∧ alikeB ds = true ∧ sortB ds = true ∧ PyData.depthAll ds ≤ 60 ∧
  ∀ (bs : List (V × D)) (p : Addr), bs.Perm (xs.zip ds) → bs.map (·.2) = rowSort ds → H p = none → Q (.ref p) (upd H p (.lst (bs.map (·.1))))
theorem depth_mem : ∀ {xs : List D} {d : D}, d ∈ xs → d.depth ≤ PyData.depthAll xs
  | x :: xs, d, h => by
    rw [PyData.depthAll]
    rcases List.mem_cons.mp h with rfl | h
    · omega
    · have := depth_mem h
      omega
theorem dpAll_len {K : Frg} {H : Hp} : ∀ {vs : List V} {ds : List D}, DpAll K H vs ds → vs.length = ds.length
  | _, _, .nil => rfl
  | _, _, .cons _ b => by simp [dpAll_len b]
theorem each_zip {P : Value → D → Prop} : ∀ {xs : List V} {us : List Value} {ds : List D}, Vals xs us → xs.length = ds.length → (∀ (i : Nat) u d, us[i]? = some u → ds[i]? = some d → P u d) → PySem.W.EachIs (fun u (b : V × D) => RelV b.1 u ∧ P u b.2) us (xs.zip ds)
  | _, _, [], .nil, _, _ => .nil
  | x :: xs, u :: us, d :: ds, .cons a b, h, hp => .cons ⟨a, hp 0 u d rfl rfl⟩ (each_zip b (by simpa using h) fun i u d e1 e2 => hp (i + 1) u d (by simpa using e1) (by simpa using e2))
theorem vals_each : ∀ {us : List Value} {bs : List (V × D)}, PySem.W.EachIs (fun u (b : V × D) => RelV b.1 u) us bs → Vals (bs.map (·.1)) us
  | _, _, .nil => .nil
  | _, _, .cons a b => .cons a (vals_each b)
theorem map_snd_zip {α β : Type} : ∀ {xs : List α} {ds : List β}, xs.length = ds.length → (xs.zip ds).map (·.2) = ds
  | [], [], _ => rfl
  | x :: xs, d :: ds, h => by simp [map_snd_zip (xs := xs) (ds := ds) (by simpa using h)]
theorem cr_sortD (hu : X.A.units + 65 < cLine) : CallR X (.builtin "sorted") (rSortD X.K) := by
  intro pins s σ H vs us Q I r h
  obtain ⟨a, xs, ds, rfl, hs, hd, hal, hso, hdep, q⟩ := h
  obtain ⟨its, rv, hl, hz⟩ := I.list hs
  rw [Vals.ref1 r]
  have hlen := dpAll_len hd
  have hsnd := map_snd_zip hlen
  have he : PySem.W.EachIs (fun u (b : V × D) => RelV b.1 u ∧ ∃ as, Reads s.heap u b.2 as) its (xs.zip ds) := each_zip rv hlen fun i u d e1 e2 => by
    obtain ⟨x, hx, rx⟩ := vals_get' rv i u e1
    obtain ⟨d', e3, hde⟩ := dpAll_get hd i x hx
    rw [e2] at e3
    cases e3
    exact Dp.reads I d x u hde rx
  refine PySem.W.sorted_data (vs := its) (bs := xs.zip ds) (enc := fun b => b.2) (R := fun u b => RelV b.1 u) hl.isList (he.mono fun _ _ z => z.1) (he.mono fun _ _ z => z.2) (by rw [hsnd]; exact alikeB_pairs hal) (by rw [hsnd]; exact sortB_of hso) ?_ (fun b hb => ?_) fun out ho heo => ?_
  · rw [List.length_zip]; omega
  · have : b.2 ∈ ds := by rw [← hsnd]; exact List.mem_map.mpr ⟨b, hb, rfl⟩
    have := depth_mem this
    omega
  · obtain ⟨ep, he'⟩ := PyProof.Rows.sortedAll_at s.heap its (List.toArray out)
    have hvs := vals_each heo
    have hl2 : (((xs.zip ds).mergeSort (PySem.W.dataLe false fun b => b.2)).map (·.1)).length ≤ sizeLine := by
      rw [List.length_map, List.length_mergeSort, List.length_zip]; omega
    refine ⟨.ref _, upd H (s.heap.objs.size + 1) (.lst (((xs.zip ds).mergeSort (PySem.W.dataLe false fun b => b.2)).map (·.1))), I.laid (t' := s.toks) (fun _ _ => PyProof.Rows.sortedAll_old) (Nat.le_succ _) ⟨hl2, (List.toArray out).toList, ep, by simpa using hvs, he'⟩, rfl, q _ _ (List.mergeSort_perm _ _) ?_ (I.hok.fresh (Nat.le_succ _))⟩
    unfold rowSort
    have em := List.map_mergeSort (r := PySem.W.dataLe false fun b : V × D => b.2) (s := PySem.W.dataLe false id) (f := fun b : V × D => b.2) (l := xs.zip ds) (fun _ _ _ _ => rfl)
    rw [hsnd] at em
    exact em
def dSortRows : List D → Option D
  | [.list ds] => if alikeB ds = true ∧ sortB ds = true ∧ PyData.depthAll ds ≤ 60 ∧ PyData.hasDictAll ds = false then some (.list (rowSort ds)) else none
  | _ => none
theorem rep_zip {K : Frg} {H : Hp} {A : List Addr} : ∀ {vs : List V} {ds : List D}, RepL K H A vs ds → ∀ b ∈ vs.zip ds, Rep K H A b.1 b.2
  | _, _, .nil, b, h => by simp at h
  | _, _, .cons x y, b, h => by
    rcases List.mem_cons.mp h with rfl | h
    · exact x
    · exact rep_zip y b h
theorem rep_of_zip {K : Frg} {H : Hp} {A : List Addr} : ∀ {bs : List (V × D)}, (∀ b ∈ bs, Rep K H A b.1 b.2) → RepL K H A (bs.map (·.1)) (bs.map (·.2))
  | [], _ => .nil
  | b :: bs, h => .cons (h b List.mem_cons_self) (rep_of_zip fun a ha => h a (List.mem_cons_of_mem _ ha))
theorem dc_sortRows (hu : X.A.units + 65 < cLine) : DCallN X (.builtin "sorted") dSortRows := by
  refine ⟨_, cr_sortD hu, fun H A vs ds d Q ha hv e q => ?_⟩
  unfold dSortRows at e
  split at e
  · split at e
    · rename_i hl
      cases e
      obtain ⟨v, rfl, h⟩ := pair1 hv
      obtain ⟨p, us, rfl, h1, r⟩ := h.lst
      refine ⟨p, us, _, rfl, SqL.of h1, r.dp hl.2.2.2, hl.1, hl.2.1, hl.2.2.1, fun bs n hp hb hn => q _ _ (same_upd hn) ⟨n, rfl, hn, orep_lst hn ?_⟩⟩
      rw [← hb]
      exact rep_of_zip fun b hm => rep_zip r b (hp.mem_iff.mp hm)
    · cases e
  · cases e
end
end G

namespace G
open PySem PySem.Spec PyProof.Rows L2
open Sem (wp)
/-! ### tuples added up -/
theorem sub_tup_str : isSubtype (.type "tuple") (.type "str") = pure false := by rw [isSubtype_type]; kernel_rfl
theorem sub_tup_bytes : isSubtype (.type "tuple") (.type "bytes") = pure false := by rw [isSubtype_type]; kernel_rfl
theorem sub_tup_bytearray : isSubtype (.type "tuple") (.type "bytearray") = pure false := by rw [isSubtype_type]; kernel_rfl
theorem args_sum2 (a b : Value) : argsOk "sum" ⟨[a, b], []⟩ := by unfold argsOk; kernel_rfl
def catW (ws : List (List Value)) (i : Nat) : List Value := (ws.take i).flatten
theorem catW_succ {ws : List (List Value)} {i : Nat} {w : List Value} (h : ws[i]? = some w) : catW ws (i + 1) = catW ws i ++ w := by
  unfold catW
  rw [List.take_add_one, h]
  simp
section
variable {prog : Program} {w : World} {A : Around} {R : Result → Shared → Prop} {Ia l S t0 : Addr} {H0 : Heap} {bs : List Addr} {ws : List (List Value)}
/-- where a sum's tuple comes from -/
def Src (H0 : Heap) (t0 : Addr) (bs : List Addr) (ws : List (List Value)) (t : Addr) (i : Nat) : Prop := H0.objs.size ≤ t ∨ (t = t0 ∧ catW ws i = []) ∨ ∃ j : Nat, bs[j]? = some t ∧ ws[j]? = some (catW ws i)
theorem catW_le (ws : List (List Value)) (i : Nat) : (catW ws i).length ≤ (catW ws ws.length).length := by
  unfold catW
  rw [List.take_length]
  conv => rhs; rw [← List.take_append_drop i ws]
  rw [List.flatten_append, List.length_append]
  omega
theorem add_any {A : Around} {E : Value → Shared → Prop} {s : Shared} {t b : Addr} {vs us : List Value} {Q : Value → Shared → Prop} (ht : IsTup s.heap t vs.toArray) (hb : IsTup s.heap b us.toArray) (hsz : vs.length + us.length ≤ sizeLine)
    (h : ∀ (h2 : Heap) (r : Addr), (∀ b o, s.heap.get? b = some o → h2.get? b = some o) → IsTup h2 r (vs ++ us).toArray → ((r = t ∧ us = []) ∨ (r = b ∧ vs = []) ∨ (r = s.heap.objs.size ∧ True)) → Q (.ref r) { s with heap := h2 }) : wpAny (model prog w) A (binaryOp .Add (.ref t) (.ref b)) Q E s := by
  by_cases hv : vs = []
  · subst hv
    exact cat_tup0 ht hb (h s.heap b (fun _ _ e => e) hb (.inr (.inl ⟨rfl, rfl⟩)))
  · refine HT.cat_tup ht hb hv (fun hu => ?_) (fun hu => ?_) hsz
    · subst hu
      exact h s.heap t (fun _ _ e => e) (by rw [List.append_nil]; exact ht) (.inl ⟨rfl, rfl⟩)
    · exact h _ _ (fun b o e => Heap.get?_push_of_some _ e) (IsTup.new _ _) (.inr (.inr ⟨rfl, trivial⟩))
theorem sum_loopT (hh : A.in1.handled = none) (hne : l ≠ Ia) (hlen : bs.length = ws.length) (hb : ∀ (j : Nat) (b : Addr) (w : List Value), bs[j]? = some b → ws[j]? = some w → IsTup H0 b w.toArray) (hI : H0.objs.size ≤ Ia) (hS : H0.objs.size ≤ S) (hSI : S ≠ Ia) (hSl : S ≠ l) (hz : (catW ws ws.length).length ≤ sizeLine) :
    ∀ (k i : Nat) (s : Shared) (t : Addr) (c : Nat), bs.length - i = k → i ≤ bs.length → (∀ b o, H0.get? b = some o → s.heap.get? b = some o) → (s.heap.IsListIter Ia l i ∧ s.heap.IsList l (bs.map Value.ref).toArray) →
    s.heap.get? S = some { cls := .type "list", dict := none, data := .seq #[.ref t] c, slots := #[] } → IsTup s.heap t (catW ws i).toArray → Src H0 t0 bs ws t i → t ≠ Ia →
    (∀ h' tk t', (∀ b o, H0.get? b = some o → h'.get? b = some o) → IsTup h' t' (catW ws ws.length).toArray → Src H0 t0 bs ws t' ws.length → R (.ok (.ret (.ref t'))) { s with heap := h', toks := tk }) →
    codeAny (model prog w) A (.builtin "sum.loop" ⟨[.ref Ia, .ref S, rawInt 2, rawInt 0], []⟩) R s := by
  have W := Walks.list (prog := prog) (w := w) (A := A.in1) hh Ia l hne (bs.map Value.ref).toArray
  have hsz : (bs.map Value.ref).toArray.size = bs.length := by simp
  intro k
  induction k with
  | zero =>
    intro i s t c hk hi hkeep hst hSs ht hsrc htI hR
    have hin : i = bs.length := by omega
    refine codeAny_builtin F.entry_sum_loop ?_
    rw [Around.under_plainId F.plain_sum_loop _]
    show wpAny _ A.in1 (seqItems? (.ref S) >>= _) _ _ s
    refine wpAny_bind (wpAny_seqItems hSs rfl ?_)
    show wpAny _ A.in1 (tryCatch (pyNext (.ref Ia)) _ >>= _) _ _ s
    refine wpAny_bind (wpAny_tryCatch (W.done s _ _ (by rw [hsz, ← hin]; exact hst) fun h' tk hk' => ?_))
    have hw : ∀ b o, H0.get? b = some o → b ∉ [Ia] := fun b o e hm => absurd (Heap.lt_size e) (by rw [List.mem_singleton.mp hm]; exact Nat.not_lt.mpr hI)
    have htn : t ∉ [Ia] := by simpa using htI
    refine wpAny_pure (hR h' tk t (fun b o e => hk' b o (hw b o e) (hkeep b o e)) ?_ ?_)
    · rw [← hlen, ← hin]
      obtain ⟨o, ho, hc, n, hd⟩ := ht
      exact ⟨o, hk' t o htn ho, hc, n, hd⟩
    · rw [← hlen, ← hin]; exact hsrc
  | succ k ih =>
    intro i s t c hk hi hkeep hst hSs ht hsrc htI hR
    have hlt : i < bs.length := by omega
    refine codeAny_builtin F.entry_sum_loop ?_
    rw [Around.under_plainId F.plain_sum_loop _]
    show wpAny _ A.in1 (seqItems? (.ref S) >>= _) _ _ s
    refine wpAny_bind (wpAny_seqItems hSs rfl ?_)
    show wpAny _ A.in1 (tryCatch (pyNext (.ref Ia)) _ >>= _) _ _ s
    refine wpAny_bind (wpAny_tryCatch (W.item i s _ _ (by rw [hsz]; exact hlt) hst fun v h' tk hP hst' hk' => ?_))
    have hw : ∀ b o, H0.get? b = some o → b ∉ [Ia] := fun b o e hm => absurd (Heap.lt_size e) (by rw [List.mem_singleton.mp hm]; exact Nat.not_lt.mpr hI)
    have htn : t ∉ [Ia] := by simpa using htI
    have hSn : S ∉ [Ia] := by simpa using hSI
    have hbi : bs[i]? = some bs[i] := List.getElem?_eq_getElem hlt
    obtain rfl : v = Value.ref bs[i] := by
      have : (bs.map Value.ref)[i]? = some v := by simpa using hP
      rw [List.getElem?_map, hbi] at this
      exact (Option.some.inj this).symm
    have hwi : ws[i]? = some (ws[i]'(by omega)) := List.getElem?_eq_getElem (by omega)
    generalize hwe : ws[i]'(by omega) = wi at hwi
    generalize hbe : bs[i] = bi at hbi
    have hkeep' : ∀ b o, H0.get? b = some o → h'.get? b = some o := fun b o e => hk' b o (hw b o e) (hkeep b o e)
    have hSs' := hk' S _ hSn hSs
    have ht' : IsTup h' t (catW ws i).toArray := by
      obtain ⟨o, ho, hc, n, hd⟩ := ht
      exact ⟨o, hk' t o htn ho, hc, n, hd⟩
    have hbt : IsTup h' bi wi.toArray := (hb i bi wi hbi hwi).keeps hkeep'
    have hcat := catW_succ hwi
    have hIlt : Ia < h'.objs.size := by
      obtain ⟨o, ho, _⟩ := hst'.1
      exact Heap.lt_size ho
    have hIlt2 : H0.objs.size ≤ h'.objs.size := Nat.le_trans hI (Nat.le_of_lt hIlt)
    show wpAny _ A.in1 ((holding [Value.ref bi] (binaryOp .Add (.ref t) (.ref bi))).attempt >>= _) _ _ _
    refine wpAny_bind (wpAny_attempt (wpAny_holding (add_any ht' hbt ?_ fun h2 r hk2 hr hsr => ?_)))
    · rw [← List.length_append, ← hcat]
      exact Nat.le_trans (catW_le _ _) hz
    have hS3 := hk2 S _ hSs'
    show wpAny _ A.in1 (updateSeq S (fun _ => #[Value.ref r]) >>= _) _ _ _
    refine wpAny_bind ?_
    refine wpAny_updateSeq hS3 rfl ?_
    have hS2 := Heap.get?_update_self (Obj.mapSeq fun _ => #[Value.ref r]) hS3 rfl
    refine wpAny_bind (wpAny_letGo ?_)
    refine wpAny_bind ?_
    refine wpAny_updateSeq hS2 rfl ?_
    have hup : ∀ b o, b ≠ S → h'.get? b = some o → ((h2.update S (Obj.mapSeq fun _ => #[Value.ref r])).update S (Obj.mapSeq fun _ => #[Value.ref r])).get? b = some o := fun b o hbS e =>
      (Heap.get?_update_other _ _ (Ne.symm hbS)).trans ((Heap.get?_update_other _ _ (Ne.symm hbS)).trans (hk2 b o e))
    have hup2 : ∀ b o, b ≠ S → h2.get? b = some o → ((h2.update S (Obj.mapSeq fun _ => #[Value.ref r])).update S (Obj.mapSeq fun _ => #[Value.ref r])).get? b = some o := fun b o hbS e =>
      (Heap.get?_update_other _ _ (Ne.symm hbS)).trans ((Heap.get?_update_other _ _ (Ne.symm hbS)).trans e)
    have hS0 : ∀ b o, H0.get? b = some o → b ≠ S := fun b o e z => absurd (Heap.lt_size e) (by rw [z]; exact Nat.not_lt.mpr hS)
    have hrS : r ≠ S := by
      rintro rfl
      obtain ⟨o, ho, hc, _⟩ := hr
      rw [hS3] at ho
      cases ho
      injection hc with hc
      exact absurd hc (by decide)
    have hrI : r ≠ Ia := by
      rcases hsr with ⟨rfl, _⟩ | ⟨rfl, _⟩ | ⟨rfl, _⟩
      · exact htI
      · exact fun z => absurd (hb i _ wi hbi hwi).lt (by rw [z]; exact Nat.not_lt.mpr hI)
      · exact fun z => absurd hIlt (by rw [← z]; exact Nat.lt_irrefl _)
    refine wpAny_pure ⟨plainId_quiet F.plain_sum_loop _, ih (i + 1) _ r _ (by omega) (by omega) (fun b o e => hup b o (hS0 b o e) (hkeep' b o e)) ?_ (Heap.get?_update_self _ hS2 rfl) ?_ ?_ hrI fun h3 tk3 t3 k3 a3 s3 => hR h3 tk3 t3 k3 a3 s3⟩
    · refine W.frame _ _ _ hst' fun b hbm o e => hup b o ?_ e
      rcases List.mem_cons.mp hbm with rfl | hbm
      · exact fun z => hSI z.symm
      · have := List.mem_singleton.mp hbm
        rw [this]
        exact fun z => hSl z.symm
    · rw [hcat]
      obtain ⟨o, ho, hc, n, hd⟩ := hr
      exact ⟨o, hup2 r o hrS ho, hc, n, hd⟩
    · rcases hsr with ⟨rfl, hw0⟩ | ⟨rfl, hc0⟩ | ⟨rfl, _⟩
      · rcases hsrc with z | ⟨z1, z2⟩ | ⟨j, z1, z2⟩
        · exact .inl z
        · exact .inr (.inl ⟨z1, by rw [hcat, z2, hw0]; rfl⟩)
        · exact .inr (.inr ⟨j, z1, by rw [hcat, hw0, List.append_nil]; exact z2⟩)
      · exact .inr (.inr ⟨i, hbi, by rw [hcat, hc0, List.nil_append]; exact hwi⟩)
      · exact .inl hIlt2
end
end G

namespace G
open PySem PySem.Spec PyProof.Rows L2
open Sem (wp)
section
variable {prog : Program} {w : World} {A : Around} {E : Value → Shared → Prop} {s : Shared}
theorem call_sumT {l t0 : Addr} {bs : List Addr} {ws : List (List Value)} {Q : Value → Shared → Prop} (hh : A.in1.handled = none) (hl : s.heap.IsList l (bs.map Value.ref).toArray) (ht : IsTup s.heap t0 ([] : List Value).toArray) (hlen : bs.length = ws.length) (hb : ∀ (j : Nat) (b : Addr) (w : List Value), bs[j]? = some b → ws[j]? = some w → IsTup s.heap b w.toArray) (hz : (catW ws ws.length).length ≤ sizeLine)
    (h : ∀ h' tk t', (∀ b o, s.heap.get? b = some o → h'.get? b = some o) → IsTup h' t' (catW ws ws.length).toArray → Src s.heap t0 bs ws t' ws.length → Q (.ref t') { s with heap := h', toks := tk }) :
    wpAny (model prog w) A (call (.builtin "sum") [.ref l, .ref t0]) Q E s := by
  have hll : l < s.heap.objs.size := by obtain ⟨_, e, _⟩ := hl; exact Heap.lt_size e
  refine call_function_tree F.kind_sum F.plain_sum F.entry_sum (args_sum2 _ _) ?_
  unfold Builtin.«sum»
  simp only [List.length_cons, List.length_nil]
  rw [if_neg (by decide)]
  refine wpAny_bind (wpAny_of_eq (show Builtin.Builtins.bindParams "sum" ["start"] 0 ⟨[.ref t0], []⟩ = pure [some (.ref t0)] from rfl) ?_)
  refine wpAny_bind (wpAny_pyIter_list hl ?_)
  refine wpAny_bind (wpAny_pure ?_)
  have ht1 : IsTup (s.heap.push { cls := .type "list_iterator", data := .fields #[.ref l, .int 0 0] }) t0 ([] : List Value).toArray := ht.push _
  simp only [List.forIn_cons, List.forIn_nil]
  refine wpAny_bind (wpAny_bind (wpAny_bind (wpAny_isInstance (T := "tuple") (b := false) ht1.typeIs sub_tup_str ?_)))
  simp only [Bool.false_eq_true, if_false]
  refine wpAny_pure (wpAny_bind (wpAny_bind (wpAny_isInstance (T := "tuple") (b := false) ht1.typeIs sub_tup_bytes ?_)))
  simp only [Bool.false_eq_true, if_false]
  refine wpAny_pure (wpAny_bind (wpAny_bind (wpAny_isInstance (T := "tuple") (b := false) ht1.typeIs sub_tup_bytearray ?_)))
  simp only [Bool.false_eq_true, if_false]
  refine wpAny_pure (wpAny_pure ?_)
  refine wpAny_bind (wpAny_newObj_type ?_)
  have hs1 : (s.heap.push { cls := .type "list_iterator", data := .fields #[.ref l, .int 0 0] }).objs.size = s.heap.objs.size + 1 := by rw [Heap.size_push]
  refine wpAny_pure ⟨plainId_quiet F.plain_sum_loop _, ?_⟩
  refine sum_loopT (H0 := s.heap) (t0 := t0) (bs := bs) (ws := ws) (Ia := s.heap.objs.size) (l := l) (S := (s.heap.push { cls := .type "list_iterator", data := .fields #[.ref l, .int 0 0] }).objs.size) hh (Nat.ne_of_lt hll) hlen hb (Nat.le_refl _) ?_ ?_ ?_ hz bs.length 0 _ t0 0 rfl (Nat.zero_le _) ?_ ?_ (Heap.get?_push_size _ rfl) ?_ (.inr (.inl ⟨rfl, rfl⟩)) ?_ fun h' tk t' a1 a2 a3 => h h' tk t' a1 a2 a3
  · rw [hs1]; exact Nat.le_succ _
  · rw [hs1]; exact Nat.succ_ne_self _
  · rw [hs1]; exact Nat.ne_of_gt (Nat.lt_succ_of_lt hll)
  · exact fun b o e => Heap.get?_push_of_some _ (Heap.get?_push_of_some _ e)
  · refine ⟨?_, (hl.push _).push _⟩
    have h0 : (s.heap.push { cls := .type "list_iterator", data := .fields #[.ref l, .int 0 0] }).IsListIter s.heap.objs.size l 0 := ⟨_, Heap.get?_push_size _ rfl, rfl, rfl⟩
    exact h0.at fun o e => Heap.get?_push_of_some _ e
  · exact (ht1.push _)
  · exact Nat.ne_of_lt ht.lt
end
/-! ### the rule -/
def TupsAt (K : Frg) (H : Hp) : List V → List (List V) → Prop := Paired fun x us => ∃ b, x = V.ref b ∧ SqT K H b us
def rSumTup (K : Frg) : List V → Hp → VK → Prop := fun vs H Q => ∃ (a s0 : Addr) (xs : List V) (uss : List (List V)), vs = [V.ref a, V.ref s0] ∧ SqL K H a xs ∧ SqT K H s0 [] ∧ TupsAt K H xs uss ∧ uss.flatten.length ≤ sizeLine ∧
  (uss.flatten = [] → Q (.ref s0) H) ∧ (∀ (j : Nat) (x : V), xs[j]? = some x → uss[j]? = some uss.flatten → Q x H) ∧ (∀ p, H p = none → Q (.ref p) (upd H p (.tup uss.flatten)))
section
variable {X : Cx}
theorem tups_open {pins : List (Addr × Obj)} {σ : St} {H : Hp} {s : Shared} (I : Inv X pins σ H s) : ∀ {xs : List V} {uss : List (List V)}, TupsAt X.K H xs uss → ∃ (bs : List Addr) (ws : List (List Value)), xs = bs.map V.ref ∧ bs.length = ws.length ∧ (∀ (j : Nat) (b : Addr) (w : List Value), bs[j]? = some b → ws[j]? = some w → IsTup s.heap b w.toArray) ∧ Paired Vals uss ws
  | _, _, .nil => ⟨[], [], rfl, rfl, fun j b w h => by simp at h, .nil⟩
  | _, _, .cons ⟨b, e, h⟩ r => by
    obtain ⟨bs, ws, h1, h2, h3, h4⟩ := tups_open I r
    obtain ⟨its, rv, pt, hz⟩ := I.tuple h
    refine ⟨b :: bs, its :: ws, by rw [e, h1]; rfl, by simp [h2], fun j b' w hb hw => ?_, .cons rv h4⟩
    cases j with
    | zero => simp at hb hw; subst hb hw; exact pt
    | succ j => exact h3 j b' w (by simpa using hb) (by simpa using hw)
theorem paired_flat : ∀ {uss : List (List V)} {ws : List (List Value)}, Paired Vals uss ws → Vals uss.flatten ws.flatten
  | _, _, .nil => .nil
  | _, _, .cons a b => by
    rw [List.flatten_cons, List.flatten_cons]
    exact a.append (paired_flat b)
theorem pair_get {α β : Type} {F : α → β → Prop} : ∀ {xs : List α} {ys : List β}, Paired F xs ys → ∀ (j : Nat) (y : β), ys[j]? = some y → ∃ x, xs[j]? = some x ∧ F x y
  | _, _, .nil, j, y, h => by simp at h
  | _, _, .cons a b, 0, y, h => by simp at h; subst h; exact ⟨_, rfl, a⟩
  | _, _, .cons a b, j + 1, y, h => by
    obtain ⟨x, h1, h2⟩ := pair_get b j y (by simpa using h)
    exact ⟨x, by simpa using h1, h2⟩
theorem vals_refs : ∀ {bs : List Addr} {us : List Value}, Vals (bs.map V.ref) us → us = bs.map Value.ref
  | [], _, .nil => rfl
  | b :: bs, _, .cons r t => by
    have e : _ = Value.ref b := r
    rw [e, vals_refs t]
    rfl
theorem cr_sumTup (hc : X.calm = true) : CallR X (.builtin "sum") (rSumTup X.K) := by
  intro pins s σ H vs us Q I r h
  obtain ⟨a, s0, xs, uss, rfl, hs, ht, hx, hz, q0, q1, q2⟩ := h
  obtain ⟨its, rv, hl, _⟩ := I.list hs
  obtain ⟨its0, rv0, ht0, _⟩ := I.tuple ht
  obtain ⟨bs, ws, e1, e2, e3, e4⟩ := tups_open I hx
  obtain ⟨u1, u2, rfl, ru1, ru2⟩ := vals2 r
  obtain rfl : u1 = Value.ref a := ru1
  obtain rfl : u2 = Value.ref s0 := ru2
  cases rv0
  subst e1
  obtain rfl := vals_refs rv
  have hf := paired_flat e4
  have hcat : catW ws ws.length = ws.flatten := by unfold catW; rw [List.take_length]
  refine call_sumT (I.ok.hd hc) hl.isList ht0 e2 e3 (by rw [hcat, ← hf.length]; exact hz) fun h' tk t' k1 k2 k3 => ?_
  rw [hcat] at k2
  rcases k3 with z | ⟨rfl, z⟩ | ⟨j, z1, z2⟩
  · refine ⟨.ref t', upd H t' (.tup uss.flatten), I.laid k1 z ⟨hz, ws.flatten, hf, k2⟩, rfl, q2 t' (I.hok.fresh z)⟩
  · rw [hcat] at z
    rw [z] at hf
    have : uss.flatten = [] := by cases hh : uss.flatten with
      | nil => rfl
      | cons p q => rw [hh] at hf; cases hf
    exact ⟨.ref t', H, I.kept k1, rfl, q0 this⟩
  · rw [hcat] at z2
    obtain ⟨us, h1, h2⟩ := pair_get e4 j ws.flatten z2
    have : us = uss.flatten := h2.inj hf
    subst this
    exact ⟨.ref t', H, I.kept k1, rfl, q1 j (.ref t') (by rw [List.getElem?_map, z1]; rfl) h1⟩
def tupsOf : List D → Option (List (List D))
  | [] => some []
  | .tuple xs :: r => (tupsOf r).map (xs :: ·)
  | _ :: _ => none
/-- sum(list of tuples, ()) -/
def dSum2 : List D → Option D
  | [.list ds, .tuple []] => (tupsOf ds).bind fun xss => if xss.flatten.length ≤ sizeLine then some (.tuple xss.flatten) else none
  | _ => none
theorem tups_rep {K : Frg} {H : Hp} {A : List Addr} : ∀ {ds : List D} {xss : List (List D)} {vs : List V}, tupsOf ds = some xss → RepL K H A vs ds → ∃ uss : List (List V), TupsAt K H vs uss ∧ RepL K H A uss.flatten xss.flatten ∧ Paired (fun us xs => RepL K H A us xs) uss xss ∧ ds = xss.map PyData.tuple
  | [], _, _, e, .nil => by cases e; exact ⟨[], .nil, .nil, .nil, rfl⟩
  | d :: ds, _, _, e, .cons a b => by
    cases d with
    | tuple xs =>
      obtain ⟨yss, e1, e2⟩ := Option.map_eq_some_iff.mp (show (tupsOf ds).map (xs :: ·) = some _ from e)
      subst e2
      obtain ⟨uss, h1, h2, h3, h4⟩ := tups_rep e1 b
      cases a with
      | tup n hh r =>
        refine ⟨_ :: uss, .cons ⟨_, rfl, .inl (.inl hh)⟩ h1, ?_, .cons r h3, by rw [h4]; rfl⟩
        rw [List.flatten_cons, List.flatten_cons]
        exact r.append h2
    | _ => cases e
theorem flat_one {α : Type} : ∀ {xss : List (List α)} {j : Nat} {y : List α}, xss[j]? = some y → y.length = xss.flatten.length → y = xss.flatten
  | [], j, y, h, _ => by simp at h
  | x :: r, 0, y, h, hl => by
    simp at h
    subst h
    rw [List.flatten_cons, List.length_append] at hl
    have : r.flatten = [] := List.length_eq_zero_iff.mp (by omega)
    rw [List.flatten_cons, this, List.append_nil]
  | x :: r, j + 1, y, h, hl => by
    have h2 : r[j]? = some y := by simpa using h
    rw [List.flatten_cons, List.length_append] at hl
    have h3 : y.length ≤ r.flatten.length := List.Sublist.length_le (List.sublist_flatten_of_mem (List.mem_of_getElem? h2))
    have hx : x = [] := List.length_eq_zero_iff.mp (by omega)
    rw [List.flatten_cons, hx, List.nil_append]
    exact flat_one h2 (by omega)
theorem pair_get' {α β : Type} {F : α → β → Prop} : ∀ {xs : List α} {ys : List β}, Paired F xs ys → ∀ (j : Nat) (x : α), xs[j]? = some x → ∃ y, ys[j]? = some y ∧ F x y
  | _, _, .nil, j, y, h => by simp at h
  | _, _, .cons a b, 0, y, h => by simp at h; subst h; exact ⟨_, rfl, a⟩
  | _, _, .cons a b, j + 1, y, h => by
    obtain ⟨x, h1, h2⟩ := pair_get' b j y (by simpa using h)
    exact ⟨x, by simpa using h1, h2⟩
theorem repL_inj_len {K : Frg} {H : Hp} {A : List Addr} {us : List V} {xs : List D} (h : RepL K H A us xs) : us.length = xs.length := h.length
theorem dc_sum2 (hc : X.calm = true) : DCallE X (.builtin "sum") dSum2 := by
  refine ⟨_, cr_sumTup hc, fun H A vs ds d Q ha hv e q => ?_⟩
  unfold dSum2 at e
  split at e
  · obtain ⟨xss, h1, h2⟩ := Option.bind_eq_some_iff.mp e
    split at h2
    · rename_i hz
      cases h2
      cases hv with
      | cons v1 r1 =>
        cases r1 with
        | cons v2 r2 =>
          cases r2
          cases v1 with
          | lst n1 hh1 rl1 =>
            cases v2 with
            | tup n2 hh2 rl2 =>
              cases rl2
              obtain ⟨uss, t1, t2, t3, t4⟩ := tups_rep h1 rl1
              refine ⟨_, _, _, uss, rfl, SqL.of hh1, .inl (.inl hh2), t1, by rw [t2.length]; exact hz, fun z => ?_, fun j x hx hu => ?_, fun p hp => q _ _ (same_upd hp) (rep_tup (fun z => ha p z hp) hp t2)⟩
              · have : xss.flatten = [] := by
                  have := t2.length
                  rw [z] at this
                  exact List.length_eq_zero_iff.mp this.symm
                rw [this] at q
                exact q _ H (Same.refl H) (.tup n2 hh2 .nil)
              · obtain ⟨xs, a1, a2⟩ := pair_get' t3 j _ hu
                obtain ⟨d, b1, b2⟩ := repL_get rl1 j x hx
                rw [t4, List.getElem?_map, a1] at b1
                cases b1
                have : xs = xss.flatten := flat_one a1 (by rw [← a2.length, t2.length])
                rw [← this] at q
                exact q x H (Same.refl H) b2
    · cases h2
  · cases e
variable {W : WX} {e : Expr} {es : List Expr} {l : En → R (List D)} {x : Str} {id : String} {df : List D → Option D}
theorem fe_callBE (hc : DCallE X (.builtin id) df) (hg : Gl X x) (hm : X.mg x = none) (hv : bootBuiltins x = some (.builtin id)) (ha : FA X W (e :: es) l) (hn : x ≠ "__name__" := by decide) (hdb : (x == ("__debug__" : Str)) = false := by decide)
    (he : starEach (e :: es) X.env = (false, eval e X.env) :: starEach es X.env := by rfl) (hpl : (backTo pos (starEach es X.env)).any (·.1) = false := by rfl) : FE X W (.Call (.Name x p1) (e :: es) [] pos) (cCall df l) := by
  obtain ⟨r, hr, hs⟩ := hc
  refine impE (pe_callB hr hg hm hv ha hn hdb he hpl) fun σ H Q ⟨H0, A0, A, ρ, o, P⟩ => ?_
  refine ⟨H0, A0, A, ρ, o, P.bind.mono fun ds H1 s1 P1 vs hvs => ?_⟩
  obtain ⟨d, e, P2⟩ := P1.ofO
  exact hs H1 A vs ds d Q (o.same s1).has hvs e fun v H' s hv => P2 H' s v hv
end
end G

namespace G
open PySem PySem.Spec PyProof.Rows L2
/-- a def that promises nothing yet -/
theorem DefG.idle {P : Program} {w : World} {K : Frg} {mg : MgT} {base : Heap} {k : Nat} {x : Str} {st : Stmt} {ps : List Str} (h : DefG K mg x st ps) : CallG P w K mg base k x fun _ => .no := by
  obtain ⟨f, fd, F, hm, hb⟩ := h
  exact ⟨f, fd, ps, ⟨fun A outer s H args us vs ds Av Q E hr hg e0 hb r rd ha q => q.elim⟩, hm, F.kp, hb⟩
end G

namespace G
open PySem PySem.Spec PyProof.Rows L2
open Sem (wp)
/-! ### enumerate of a tuple -/
abbrev tupIt (h : Heap) (t : Addr) : Heap := h.push { cls := .type "tuple_iterator", data := .fields #[.ref t, .int 0 0] }
abbrev tupEn (h : Heap) (t : Addr) : Heap := (tupIt h t).push { cls := .type "enumerate", data := .fields #[.none, .bool false, .ref h.objs.size, rawInt 0, .none, .none] }
set_option maxHeartbeats 1000000 in
theorem new_enumT (t : Addr) (ys : Array Value) :
    Meets (Builtin.«enumerate.__new__» ⟨[.type "enumerate", .ref t], []⟩) (fun _ R s => s.heap.IsTuple t ys ∧ R (.ok (.ret (.ref (tupIt s.heap t).objs.size))) { s with heap := tupEn s.heap t }) :=
  .of_wp fun prog w A R s h => by
    obtain ⟨hp, g, d, tk, os⟩ := s
    obtain ⟨ht, h⟩ := h
    have sb := sub_enumerate
    have hT : Heap.IsTuple (Shared.heap ⟨hp, g, d, tk, os⟩) t ys := ht
    wp_walk
    refine wpAny_stack_any fun st => wpAny_pure ?_
    split
    · rename_i c _ _ _ _ _
      cases (c == Value.type "enumerate") <;> wp_walk using wpAny_pyIter_tuple hT <;> exact ⟨_, rfl, h⟩
    · wp_walk using wpAny_pyIter_tuple hT
      exact ⟨_, rfl, h⟩
section
variable {prog : Program} {w : World} {A : Around} {E : Value → Shared → Prop} {s : Shared}
theorem call_enumT {t : Addr} {ys : Array Value} {Q : Value → Shared → Prop} (hT : s.heap.IsTuple t ys)
    (k : ∀ h', IsEnum h' (s.heap.objs.size + 1) s.heap.objs.size 0 .none → h'.IsTupleIter s.heap.objs.size t 0 → (∀ b o, s.heap.get? b = some o → h'.get? b = some o) → Q (.ref (s.heap.objs.size + 1)) { s with heap := h' }) :
    wpAny (model prog w) A (call (.type "enumerate") [.ref t]) Q E s := by
  have z : (tupIt s.heap t).objs.size = s.heap.objs.size + 1 := Heap.size_push ..
  have g2 : (tupEn s.heap t).get? (tupIt s.heap t).objs.size = some { cls := .type "enumerate", data := .fields #[.none, .bool false, .ref s.heap.objs.size, rawInt 0, .none, .none] } := Heap.get?_push_size _ rfl
  have g1 : (tupEn s.heap t).get? s.heap.objs.size = some _ := Heap.get?_push_of_some _ (Heap.get?_push_size _ rfl)
  refine callType_new F.called_enumerate (by decide) (F.typeCall_enumerate_1 _) (F.newCall_enumerate_1 _) (fun obj => F.args_object_init_2 obj _) F.entry_enumerate_new (new_enumT t ys) ⟨hT, ?_⟩
  rw [z] at g2
  show _ ∧ _
  rw [z]
  exact ⟨⟨_, g2, rfl⟩, k _ g2 ⟨_, g1, rfl, rfl⟩ fun b o x => Heap.get?_push_of_some _ (Heap.get?_push_of_some _ x)⟩
theorem next_enumT_end {e it t : Addr} {i : Nat} {ys : Array Value} {old : Value} {Q : Option Value → Shared → Prop} (hh : A.handled = none) (he : IsEnum s.heap e it i old) (hi : s.heap.IsTupleIter it t i) (ht : s.heap.IsTuple t ys) (hx : ys[i]? = none)
    (hQ : ∀ h', Heap.ExtBut it s.heap h' → Q none { s with heap := h' }) : wpAny (model prog w) A (pyNext (.ref e)) Q E s := by
  have hT : s.TypeIs (.ref e) "enumerate" := ⟨_, he, rfl⟩
  unfold pyNext
  refine wpAny_bind (wpAny_attempt (wpAny_callSpecial?_slot (name := Str.ofString "__next__") hT F.slot_enumerate_next (wpAny_call_entry F.slot_enumerate_next hT F.entry_enumerate_next ?_ (F.args_enumerate_next_1 _))))
  show wpAny _ _ (field (.ref e) 2 >>= _) _ _ _
  refine wpAny_bind (wpAny_field he rfl (x := .ref it) rfl ?_)
  refine wpAny_bind (wpAny_nextOf_tuple_end hh hi ht hx fun h' x he' hx' => ?_)
  obtain ⟨o, ho, hc⟩ := hx'
  exact wpAny_bind (wpAny_isInstance (T := "StopIteration") (b := true) ⟨o, ho, hc⟩ isSubtype_stop (wpAny_pure (hQ _ he')))
end
/-- the tuple at a as it stands at each turn, each item in a new pair -/
def IteT (K : PySem.W.Frag) (a : Addr) : It :=
  ⟨fun i H => ∃ (xs : List V) (x : V), SqT K H a xs ∧ xs[i]? = some x, fun i H v H' => ∃ T x, v = .ref T ∧ H T = none ∧ H' = upd H T (.tup [.int (i : Nat), x]) ∧ ∀ xs, SqT K H a xs → xs[i]? = some x, fun i H => ∃ xs : List V, SqT K H a xs ∧ xs.length ≤ i⟩
theorem turn_enumT {P : Program} {w : World} {K : PySem.W.Frag} {elts : List Expr} {kk : Nat} {tpos : Pos} (a e it : Addr) :
    Turn P w K (.Tuple elts kk tpos) (IteT K a) [e, it] e (fun i h => (∃ old, IsEnum h e it ((i : Nat) : Int) old) ∧ h.IsTupleIter it a i ∧ e ≠ it ∧ a ≠ it ∧ a ≠ e) where
  mem := by simp
  obj := fun i h st b hb => by
    obtain ⟨⟨old, he⟩, ⟨o, ho, _, hd⟩, _⟩ := st
    rcases (show b = e ∨ b = it by simpa using hb) with z | z <;> rw [z]
    · exact ⟨_, he, fun v q => nomatch q⟩
    · exact ⟨o, ho, fun v q => by rw [hd] at q; cases q⟩
  keep := fun i h h' st k => let ⟨⟨old, he⟩, hi, hne⟩ := st; ⟨⟨old, k e (by simp) _ he⟩, hi.at fun o q => k it (by simp) o q, hne⟩
  item := by
    intro X hP hw hK hc i pins s σ H E I hf st hg
    subst hP hw hK
    obtain ⟨⟨old, he⟩, hit, hne, hai, hae⟩ := st
    obtain ⟨xs, x, hq, hx⟩ := hg
    obtain ⟨its, rv, p, hz⟩ := I.tuple hq
    obtain ⟨u, hu, ru⟩ := rv.get hx
    have hel : e < s.heap.objs.size := Heap.lt_size he
    have hil : it < s.heap.objs.size := by obtain ⟨_, q, _⟩ := hit; exact Heap.lt_size q
    have hu' : its.toArray[i]? = some u := by simpa using hu
    have hlt : i < its.toArray.size := by
      rcases Nat.lt_or_ge i its.toArray.size with h | h
      · exact h
      · rw [Array.getElem?_eq_none h] at hu'; cases hu'
    refine wpAny_pyNext_enum_itemD (Draws.tuple (A := X.A.in1) (show X.A.in1.handled = none from I.ok.hd hc) it a hai its.toArray) he ⟨hit, p⟩ hlt hne (by simp [hne, Ne.symm hae]) fun y h' tk hy ho st' hT hsz hk => ?_
    obtain rfl : y = u := by rw [hu'] at hy; exact (Option.some.inj hy).symm
    refine ⟨_, rfl, wpAny_letOwnedTupleGo_enum (s := { s with heap := h', toks := tk + 1 }) ho fun h'' he' sb => ?_⟩
    have hT2 : h''.get? s.heap.objs.size = some { cls := .type "tuple", data := .seq #[.int i tk, y] } := (sb.2 _ (Nat.ne_of_gt hel)).trans hT
    have new : ObjOk X.prog X.w (upd H s.heap.objs.size (.tup [.int (i : Nat), x])) h'' s.heap.objs.size (.tup [.int (i : Nat), x]) :=
      ⟨by show 2 ≤ sizeLine; decide, [.int i tk, y], .cons ⟨_, rfl⟩ (.cons ru .nil), ⟨_, hT2, rfl, _, rfl⟩⟩
    have I1 : Inv X pins σ (upd H s.heap.objs.size (.tup [.int (i : Nat), x])) { s with heap := h'', toks := tk + 1 } :=
      I.turnedNew (ch := [e, it]) (fun b ob hb q => (sb.2 b (fun z => hb (by simp [z]))).trans (hk b ob (fun z => hb (by simp [z])) (fun z => hb (by simp [z])) q)) hf (Nat.le_refl _) new
    refine ⟨.ref s.heap.objs.size, _, I1, rfl, ⟨_, x, rfl, I.hok.fresh (Nat.le_refl _), rfl, fun ys hy => by rw [I.tuple_inj hy hq]; exact hx⟩, ⟨⟨y, ?_⟩, st'.1.at fun o q => (sb.2 it (Ne.symm hne)).trans q, hne, hai, hae⟩, fun b hb => ?_⟩
    · rw [show ((i + 1 : Nat) : Int) = (i : Int) + 1 by omega]; exact he'
    · have hb' : b < s.heap.objs.size := by
        rcases (show b = e ∨ b = it by simpa using hb) with z | z <;> rw [z] <;> assumption
      rw [upd_ne (Nat.ne_of_lt hb')]
      exact (hf b hb).1
  done := by
    intro X hP hw hK hc i pins s σ H E I hf st hg
    subst hP hw hK
    obtain ⟨⟨old, he⟩, hit, hne, hai, hae⟩ := st
    obtain ⟨xs, hq, hx⟩ := hg
    obtain ⟨its, rv, p, hz⟩ := I.tuple hq
    obtain ⟨f0, f1, f2, f3, f4, f5⟩ := hf it (by simp)
    have hl := rv.length
    exact next_enumT_end (I.ok.hd hc) he hit p (by simp; omega) fun h' eb => ⟨rfl, I.turned (t' := s.toks) (fun b o hb q => eb b o hb q) f0 f1 f3 f4 f5⟩
  self := fun A i s Q E st h => let ⟨⟨_, he⟩, _⟩ := st; wpAny_pyIter_enum he h
def iEnumT (K : PySem.W.Frag) (ta : TA) : TI := fun σ H R => ta σ H fun vs H1 => ∃ a xs, vs = [.ref a] ∧ SqT K H1 a xs ∧ R (IteT K a) H1
theorem pi_enumT {X : Cx} {e : Expr} {ta : TA} {p pos tpos : Pos} {elts : List Expr} {kk : Nat} (hg : Gl X "enumerate") (hm : X.mg "enumerate" = none) (ha : PA X [e] ta) (hs : starEach [e] X.env = [(false, eval e X.env)] := by rfl) :
    PI X (.Tuple elts kk tpos) (.Call (.Name "enumerate" p) [e] [] pos) (iEnumT X.K ta) := by
  refine ⟨fun pins s σ H R I h => ?_⟩
  refine Call_ (ld_blt I hg hm boot_enumerate (PyProof.Rows.callWith_type1 (thn (ha.run pos pins s σ H _ I h) fun us s1 ⟨vs, H1, I1, r1, q1⟩ => ?_) hs rfl))
  obtain ⟨a, xs, ex, hq, q⟩ := q1
  subst ex
  cases r1 with
  | cons r rr =>
    cases rr
    cases r
    obtain ⟨its, rv, p', hz⟩ := I1.tuple hq
    have hlt : a < s1.heap.objs.size := by obtain ⟨_, q, _⟩ := id p'; exact Heap.lt_size q
    refine call_enumT p' fun h' he hit hk => wpAny_pyIter_enum he ?_
    have I2 : Inv X pins σ H1 { s1 with heap := h' } := I1.kept (t' := s1.toks) hk
    refine ⟨s1.heap.objs.size + 1, [s1.heap.objs.size + 1, s1.heap.objs.size], _, _, H1, rfl, I2, turn_enumT a (s1.heap.objs.size + 1) s1.heap.objs.size, ⟨⟨.none, he⟩, hit, Nat.succ_ne_self _, Nat.ne_of_lt hlt, Nat.ne_of_lt (Nat.lt_succ_of_lt hlt)⟩, fun b hb => ?_, q⟩
    have hle : s1.heap.objs.size ≤ b := by
      rcases (show b = s1.heap.objs.size + 1 ∨ b = s1.heap.objs.size by simpa using hb) with z | z <;> rw [z] <;> omega
    exact I1.fpOk hle (I1.hok.fresh hle)
def dEnumT : List D → Option (List D)
  | [.tuple xs] => some (enumL 0 xs)
  | _ => none
theorem walk_iteT {K : Frg} {A : List Addr} {H : Hp} {a : Addr} {ds : List D} (r : Rep K H A (.ref a) (.tuple ds)) : WalkJ K A (IteT K a) H (enumL 0 ds) := fun A' H' u hA => by
  obtain ⟨b, vs, e, h, rl, _⟩ := rep_tupAt (H' := H') (A' := A') (r.tr u)
  cases e
  refine ⟨fun i d hd => ?_, vs, SqT.of h, by rw [rl.length, enumL_length]; exact Nat.le_refl _⟩
  rw [enumL_get] at hd
  obtain ⟨d1, h1, h2⟩ := Option.map_eq_some_iff.mp hd
  subst h2
  obtain ⟨v, h3, h4⟩ := rl.get h1
  refine ⟨⟨vs, v, SqT.of h, h3⟩, fun x H'' ⟨T, x1, e1, n, e2, y⟩ => ?_⟩
  subst e1
  subst e2
  have := y vs (SqT.of h)
  rw [h3] at this
  cases this
  refine ⟨same_upd n, rep_tup (fun z => hA T z n) n (.cons ?_ (.one h4))⟩
  rw [Nat.zero_add]
  exact .int _
section
variable {X : Cx} {W : WX} {e : Expr} {l : En → R (List D)} {pos q1 : Pos}
theorem fi_enumT {elts : List Expr} {kk : Nat} {tpos : Pos} (hg : Gl X "enumerate") (hm : X.mg "enumerate" = none) (ha : FA X W [e] l) (hs : starEach [e] X.env = [(false, eval e X.env)] := by rfl) :
    FI X W (.Tuple elts kk tpos) (.Call (.Name "enumerate" q1) [e] [] pos) (cIter dEnumT l) := impI (pi_enumT hg hm ha hs) fun σ H Q ⟨H0, A0, A, ρ, ok, P⟩ => by
  refine ⟨H0, A0, A, ρ, ok, P.bind.mono fun ds H1 s1 P1 vs hv => ?_⟩
  obtain ⟨es, e1, q⟩ := P1.ofO
  unfold dEnumT at e1
  split at e1
  · cases e1
    cases hv with
    | cons r t =>
      cases t
      obtain ⟨p, us, rfl, h1, rl, _⟩ := rep_tupAt (H' := H1) (A' := A) r
      exact ⟨p, us, rfl, SqT.of h1, q H1 (Same.refl _) _ (walk_iteT r)⟩
  · cases e1
end
end G

namespace G
open PySem PySem.Spec PyProof.Rows L2
/-- a comprehension over data told by xs -/
theorem lcL_gen {α : Type} {tgt : TgF} {p : En → R Bool} {f : En → R D} {ρ : En} {enc : α → D} (ρ' : α → En) (keep : α → Bool) (val : α → D) : ∀ {xs : List α}, (∀ x ∈ xs, tgt (enc x) ρ = some (ρ' x) ∧ p (ρ' x) = .ok (keep x) ∧ (keep x = true → f (ρ' x) = .ok (val x))) →
    lcL tgt p f ρ (xs.map enc) = some ((xs.filter keep).map val)
  | [], _ => rfl
  | x :: xs, h => by
    obtain ⟨h1, h2, h3⟩ := h x List.mem_cons_self
    have ih := lcL_gen ρ' keep val (xs := xs) fun y hy => h y (List.mem_cons_of_mem _ hy)
    rw [List.map_cons]
    unfold lcL
    rw [h1, Option.bind_some, h2]
    simp only [noX, Option.bind_some]
    cases hk : keep x with
    | false => simp [hk, ih]
    | true => simp [hk, ih, h3 hk]
theorem lcL_map {α : Type} {tgt : TgF} {f : En → R D} {ρ : En} {enc : α → D} (ρ' : α → En) (val : α → D) {xs : List α} (h : ∀ x ∈ xs, tgt (enc x) ρ = some (ρ' x) ∧ f (ρ' x) = .ok (val x)) : lcL tgt cTrue f ρ (xs.map enc) = some (xs.map val) := by
  rw [lcL_gen ρ' (fun _ => true) val fun x hx => ⟨(h x hx).1, rfl, fun _ => (h x hx).2⟩]
  rw [List.filter_eq_self.mpr fun _ _ => rfl]
theorem intsOf_int {α : Type} (f : α → Int) (xs : List α) : intsOf (xs.map fun x => .int (f x)) = some (xs.map f) := by
  have := intsOf_map (xs.map f)
  rw [List.map_map] at this
  exact this
section
variable {c : En → R Bool} {body : En → SR} {n : Nat} {ρ ρ2 : En} {d : D}
theorem whileL_step (h1 : c ρ = .ok true) (h2 : body ρ = .nx ρ2) : whileL c body (n + 1) ρ = whileL c body n ρ2 := by
  conv => lhs; unfold whileL
  rw [h1]
  simp only [SR.of, if_true, h2]
theorem whileL_stop (h1 : c ρ = .ok false) : whileL c body (n + 1) ρ = .nx ρ := by
  unfold whileL
  rw [h1]
  rfl
theorem whileL_ret (h1 : c ρ = .ok true) (h2 : body ρ = .rt d) : whileL c body (n + 1) ρ = .rt d := by
  unfold whileL
  rw [h1]
  simp only [SR.of, if_true, h2]
end
theorem fdiv_nat (a b : Nat) : (a : Int).fdiv (b : Int) = ((a / b : Nat) : Int) := by
  rw [Int.fdiv_eq_ediv_of_nonneg _ (Int.natCast_nonneg b)]
  rfl
theorem fmod_nat (a b : Nat) : (a : Int).fmod (b : Int) = ((a % b : Nat) : Int) := by
  rw [Int.fmod_eq_emod_of_nonneg _ (Int.natCast_nonneg b)]
  rfl
theorem fdiv_pos (a : Int) {b : Int} (h : 0 < b) : a.fdiv b = a / b := Int.fdiv_eq_ediv_of_nonneg _ (Int.le_of_lt h)
theorem fmod_pos (a : Int) {b : Int} (h : 0 < b) : a.fmod b = a % b := Int.fmod_eq_emod_of_nonneg _ (Int.le_of_lt h)
@[simp] theorem dDiv_nat2 (a : Nat) : dDiv (.int (a : Int)) (.int 2) = some (.int ((a / 2 : Nat) : Int)) := by
  show (if (2 : Int) ≠ 0 ∧ (2 : Int).natAbs.log2 < 9000 then some (PyData.int ((a : Int).fdiv 2)) else none) = _
  rw [if_pos (by decide)]
  exact congrArg (fun z => some (PyData.int z)) (fdiv_nat a 2)
@[simp] theorem dMod_nat2 (a : Nat) : dMod (.int (a : Int)) (.int 2) = some (.int ((a % 2 : Nat) : Int)) := by
  show (if (2 : Int) ≠ 0 then some (PyData.int ((a : Int).fmod 2)) else none) = _
  rw [if_pos (by decide)]
  exact congrArg (fun z => some (PyData.int z)) (fmod_nat a 2)
@[simp] theorem dAdd_int (a b : Int) : dAdd (.int a) (.int b) = some (.int (a + b)) := rfl
@[simp] theorem dLt_int (a b : Int) : dLt (.int a) (.int b) = some (.bool (decide (a < b))) := rfl
theorem dMod_pos (a : Int) {b : Int} (h : 0 < b) : dMod (.int a) (.int b) = some (.int (a % b)) := by
  show (if b ≠ 0 then some (PyData.int (a.fmod b)) else none) = _
  rw [if_pos (by omega), fmod_pos a h]
theorem dDiv_pos (a : Int) {b : Int} (h : 0 < b) (h2 : b.natAbs.log2 < 9000) : dDiv (.int a) (.int b) = some (.int (a / b)) := by
  show (if b ≠ 0 ∧ b.natAbs.log2 < 9000 then some (PyData.int (a.fdiv b)) else none) = _
  rw [if_pos ⟨by omega, h2⟩, fdiv_pos a h]
theorem dEq_int (a b : Int) : dEq (.int a) (.int b) = some (.bool (decide (a = b))) := by
  unfold dEq
  rw [if_pos ⟨rfl, rfl⟩]
  simp [PyData.eqv]
  rfl
theorem dNe_int (a b : Int) : dNe (.int a) (.int b) = some (.bool (decide (a ≠ b))) := by
  unfold dNe
  rw [if_pos ⟨rfl, rfl⟩]
  simp [PyData.eqv]
  rfl
end G

namespace C
/-! ### the best share, in plain words -/
/-- a within b, digit by digit; n digits are looked at -/
def subF : Nat → Nat → Nat → Bool
  | 0, _, _ => true
  | n + 1, a, b => if a = 0 then true else if b % 2 < a % 2 then false else subF n (a / 2) (b / 2)
def sub (a b : Nat) : Bool := subF 99 a b
def parts (w : Nat) : List Nat := (List.range (w + 1)).filter fun p => sub p w
theorem subF_zero (n b : Nat) : subF n 0 b = true := by cases n <;> simp [subF]
theorem zero_part (w : Nat) : 0 ∈ parts w := by
  simp [parts, sub, subF_zero]
theorem part_le {p w : Nat} (h : p ∈ parts w) : p ≤ w := by
  have := (List.mem_filter.mp h).1
  rw [List.mem_range] at this
  omega
abbrev Tbl := List Int
def at_ (t : Tbl) (p : Nat) : Int := t.getD p 0
/-- the greatest of a list that is not empty -/
def top (l : List Int) : Int := l.foldl max (l.headD 0)
theorem le_foldl (l : List Int) : ∀ a : Int, a ≤ l.foldl max a ∧ ∀ x ∈ l, x ≤ l.foldl max a := by
  induction l with
  | nil => intro a; exact ⟨Int.le_refl a, fun x h => absurd h List.not_mem_nil⟩
  | cons y l ih =>
    intro a
    rw [List.foldl_cons]
    obtain ⟨h1, h2⟩ := ih (max a y)
    refine ⟨by omega, fun x hx => ?_⟩
    rcases List.mem_cons.mp hx with rfl | hx
    · omega
    · exact h2 x hx
theorem foldl_in (l : List Int) : ∀ a : Int, l.foldl max a = a ∨ l.foldl max a ∈ l := by
  induction l with
  | nil => intro a; exact .inl rfl
  | cons y l ih =>
    intro a
    rw [List.foldl_cons]
    rcases ih (max a y) with h | h
    · rcases Int.le_total a y with q | q
      · right; rw [h, Int.max_eq_right q]; exact List.mem_cons_self
      · left; rw [h, Int.max_eq_left q]
    · exact .inr (List.mem_cons_of_mem _ h)
theorem top_ge {l : List Int} {x : Int} (h : x ∈ l) : x ≤ top l := (le_foldl l _).2 x h
theorem top_mem {l : List Int} (h : l ≠ []) : top l ∈ l := by
  cases l with
  | nil => exact absurd rfl h
  | cons a l =>
    rcases foldl_in (a :: l) a with e | e
    · show (a :: l).foldl max a ∈ _; rw [e]; exact List.mem_cons_self
    · exact e
theorem top_eq {l : List Int} {m : Int} (h1 : m ∈ l) (h2 : ∀ x ∈ l, x ≤ m) : top l = m := by
  have h3 : top l ∈ l := top_mem (by intro z; rw [z] at h1; cases h1)
  have := h2 _ h3
  have := top_ge h1
  omega
/-- the most that tables make of parted goods within w -/
def best : List Tbl → Nat → Int
  | [], _ => 0
  | t :: ts, w => top ((parts w).map fun p => at_ t p + best ts (w - p))
/-- all ways to part goods within w, in the order of numbers -/
def seqs : Nat → Nat → List (List Nat)
  | 0, _ => [[]]
  | n + 1, w => (parts w).flatMap fun p => (seqs n (w - p)).map fun s => p :: s
def sumOf : List Tbl → List Nat → Int
  | t :: ts, p :: s => at_ t p + sumOf ts s
  | _, _ => 0
/-- the first way that makes the most -/
def pick : List Tbl → Nat → List Nat
  | [], _ => []
  | t :: ts, w => match (parts w).find? fun p => at_ t p + best ts (w - p) == best (t :: ts) w with
    | some p => p :: pick ts (w - p)
    | none => []
theorem best_ge {t : Tbl} {ts : List Tbl} {w p : Nat} (h : p ∈ parts w) : at_ t p + best ts (w - p) ≤ best (t :: ts) w := top_ge (List.mem_map.mpr ⟨p, h, rfl⟩)
theorem best_at (t : Tbl) (ts : List Tbl) (w : Nat) : ∃ p ∈ parts w, at_ t p + best ts (w - p) = best (t :: ts) w := by
  have : best (t :: ts) w ∈ (parts w).map fun p => at_ t p + best ts (w - p) := top_mem (by
    intro z
    rw [List.map_eq_nil_iff] at z
    have := zero_part w
    rw [z] at this
    cases this)
  exact List.mem_map.mp this
theorem sum_le : ∀ (ts : List Tbl) (w : Nat) (s : List Nat), s ∈ seqs ts.length w → sumOf ts s ≤ best ts w
  | [], _, s, h => by
    simp [seqs] at h
    subst h
    simp [sumOf, best]
  | t :: ts, w, s, h => by
    simp only [seqs, List.length_cons, List.mem_flatMap, List.mem_map] at h
    obtain ⟨p, hp, r, hr, rfl⟩ := h
    have h1 := sum_le ts (w - p) r hr
    have h2 := best_ge (t := t) (ts := ts) hp
    simp only [sumOf]
    omega
theorem pick_some (t : Tbl) (ts : List Tbl) (w : Nat) : ∃ p ∈ parts w, at_ t p + best ts (w - p) = best (t :: ts) w ∧ pick (t :: ts) w = p :: pick ts (w - p) ∧ (parts w).find? (fun p => at_ t p + best ts (w - p) == best (t :: ts) w) = some p := by
  obtain ⟨p0, h0, e0⟩ := best_at t ts w
  cases hf : (parts w).find? fun p => at_ t p + best ts (w - p) == best (t :: ts) w with
  | none => exact absurd (List.find?_eq_none.mp hf p0 h0) (by simp [e0])
  | some p => exact ⟨p, List.mem_of_find?_eq_some hf, by have := List.find?_some hf; simpa using this, by simp [pick, hf], rfl⟩
theorem pick_in : ∀ (ts : List Tbl) (w : Nat), pick ts w ∈ seqs ts.length w ∧ sumOf ts (pick ts w) = best ts w
  | [], _ => by simp [pick, seqs, sumOf, best]
  | t :: ts, w => by
    obtain ⟨p, hp, e, e2, _⟩ := pick_some t ts w
    obtain ⟨h1, h2⟩ := pick_in ts (w - p)
    rw [e2]
    refine ⟨?_, by simp only [sumOf]; omega⟩
    simp only [seqs, List.length_cons, List.mem_flatMap, List.mem_map]
    exact ⟨p, hp, _, h1, rfl⟩
/-- one list of numbers ahead of another of as many -/
def lexLt : List Nat → List Nat → Bool
  | a :: r, b :: s => decide (a < b) || (decide (a = b) && lexLt r s)
  | _, _ => false
theorem parts_sorted (w : Nat) : (parts w).Pairwise (· < ·) := (List.pairwise_lt_range).filter _
theorem find_first {w : Nat} {f : Nat → Bool} : ∀ {l : List Nat} {p q : Nat}, l.Pairwise (· < ·) → l.find? f = some p → q ∈ l → f q = true → p ≤ q
  | a :: l, p, q, h, hf, hq, hfq => by
    rw [List.pairwise_cons] at h
    rw [List.find?_cons] at hf
    split at hf
    · cases hf
      rcases List.mem_cons.mp hq with rfl | hq
      · exact Nat.le_refl _
      · exact Nat.le_of_lt (h.1 q hq)
    · rename_i hn
      rcases List.mem_cons.mp hq with rfl | hq
      · rw [hfq] at hn; cases hn
      · exact find_first (w := w) h.2 hf hq hfq
/-- any other way that makes the most comes later -/
theorem pick_first : ∀ (ts : List Tbl) (w : Nat) (s : List Nat), s ∈ seqs ts.length w → sumOf ts s = best ts w → s ≠ pick ts w → lexLt (pick ts w) s = true
  | [], _, s, h, _, hn => by
    simp [seqs] at h
    subst h
    exact absurd rfl hn
  | t :: ts, w, s, h, e, hn => by
    simp only [seqs, List.length_cons, List.mem_flatMap, List.mem_map] at h
    obtain ⟨q, hq, r, hr, rfl⟩ := h
    obtain ⟨p, hp, e1, e2, e3⟩ := pick_some t ts w
    have hs := sum_le ts (w - q) r hr
    have hb := best_ge (t := t) (ts := ts) hq
    simp only [sumOf] at e
    have hle : p ≤ q := find_first (w := w) (parts_sorted w) e3 hq (by simp; omega)
    rw [e2] at hn ⊢
    rcases Nat.lt_or_eq_of_le hle with h | h
    · simp [lexLt, h]
    · subst h
      have : r ≠ pick ts (w - p) := fun z => hn (by rw [z])
      have ih := pick_first ts (w - p) r hr (by omega) this
      simp [lexLt, ih]
end C

namespace G
open PySem PySem.Spec PyProof.Rows L2
abbrev nD (n : Nat) : D := .int n
abbrev tD (t : List Int) : D := .list (t.map PyData.int)
theorem rangeD_nat (n : Nat) : rangeD 0 n = (List.range n).map nD := by
  unfold rangeD
  simp
theorem dRange1_nat {n : Nat} (h : n < 2 ^ 62) : dRange1 [.int (n : Int)] = some ((List.range n).map nD) := by
  have e : dRange1 [.int (n : Int)] = (if -(2 ^ 62) ≤ (n : Int) ∧ (n : Int) < 2 ^ 62 then some (rangeD 0 (n : Int).toNat) else none) := by simp only [dRange1]
  rw [e, if_pos (by omega), ← rangeD_nat]
  simp
@[simp] theorem atI_nat {α : Type} (xs : List α) (i : Nat) : atI xs (i : Int) = xs[i]? := by
  unfold atI ixN
  by_cases h : i < xs.length
  · simp [h]
  · simp [h]
@[simp] theorem dIx_nat (xs : List D) (i : Nat) : dIx (.list xs) (.int (i : Int)) = xs[i]? := atI_nat xs i
@[simp] theorem dIxT_nat (xs : List D) (i : Nat) : dIx (.tuple xs) (.int (i : Int)) = xs[i]? := atI_nat xs i
@[simp] theorem dIx_zero (xs : List D) : dIx (.list xs) (.int 0) = xs[0]? := atI_nat xs 0
@[simp] theorem dIxT_zero (xs : List D) : dIx (.tuple xs) (.int 0) = xs[0]? := atI_nat xs 0
@[simp] theorem dIx_one (xs : List D) : dIx (.list xs) (.int 1) = xs[1]? := atI_nat xs 1
@[simp] theorem dIxT_one (xs : List D) : dIx (.tuple xs) (.int 1) = xs[1]? := atI_nat xs 1
@[simp] theorem dIx_last (xs : List D) : dIx (.list xs) (.int (-1)) = xs.getLast? := by
  show atI xs (-1) = _
  unfold atI ixN
  cases xs with
  | nil => simp
  | cons a r =>
    have h1 : ¬ (0 : Int) ≤ -1 := by omega
    have h2 : -(((a :: r).length : Nat) : Int) ≤ -1 := by rw [List.length_cons]; omega
    have h3 : ((-1 : Int) + (((a :: r).length : Nat) : Int)).toNat = r.length := by rw [List.length_cons]; omega
    rw [if_neg h1, if_pos h2, h3, List.getLast?_eq_getElem?]
    simp
theorem getD_tbl {t : List Int} {i : Nat} (h : i < t.length) : t[i]? = some (C.at_ t i) := by
  unfold C.at_
  simp [h]
theorem dMax_top {xs : List Int} (h : xs ≠ []) : dMax [tD xs] = some (.int (C.top xs)) := by
  cases xs with
  | nil => exact absurd rfl h
  | cons a r =>
    show ((intsOf ((a :: r).map PyData.int)).bind maxI).map PyData.int = _
    rw [intsOf_map]
    simp [maxI, C.top]
theorem dLen_list (xs : List D) : dLen [.list xs] = some (.int (xs.length : Nat)) := by rfl
theorem cLc_of {vs : List Nat} {l : En → R (List D)} {tgt : TgF} {p : En → R Bool} {f : En → R D} {ρ : En} {ds ys : List D} (h1 : l ρ = .ok ds) (h2 : lcL tgt p f (wipeE ρ vs) ds = some ys) (h3 : ys.length ≤ sizeLine) : cLc vs l tgt p f ρ = .ok (.list ys) := by
  unfold cLc
  rw [h1]
  show ofO ((lcL tgt p f (wipeE ρ vs) ds).bind fun ys => if ys.length ≤ sizeLine then some (PyData.list ys) else none) = _
  rw [h2, Option.bind_some, if_pos h3]
  rfl
theorem sRet_of {f : En → R D} {ρ : En} {d : D} (h : f (disown ρ) = .ok d) : (sRet f ρ).out = .ok d := by
  unfold sRet
  rw [h]
  rfl
theorem runF_of {n p : Nat} {g : En → SR} {ds : List D} {r : R D} (h0 : ds.length = p) (h : (g (enter n p ds)).out = r) : runF n p g ds = r := by
  unfold runF
  rw [if_pos h0, h]
theorem cCall1_of {df : List D → Option D} {f : En → R D} {ρ : En} {d e : D} (h : f ρ = .ok d) (h2 : df [d] = some e) : cCall df (cCons f cNil) ρ = .ok e := by
  simp only [cCall, cCons, cNil, h, R.bind, h2, ofO]
theorem cCallF_of {F : List D → R D} {l : En → R (List D)} {ρ : En} {ds : List D} {r : R D} (h : l ρ = .ok ds) (h2 : F ds = r) : cCallF F l ρ = r := by
  simp only [cCallF, h, R.bind, h2]
theorem sSeq_nx {g1 g2 : En → SR} {ρ ρ1 : En} {r : SR} (h1 : g1 ρ = .nx ρ1) (h2 : g2 ρ1 = r) : sSeq g1 g2 ρ = r := by
  unfold sSeq
  rw [h1]
  exact h2
theorem sSet_of {i : Nat} {f : En → R D} {ρ : En} {d : D} (h : f ρ = .ok d) : sSet i f ρ = .nx (ρ.set i (some (.v d))) := by
  unfold sSet
  rw [h]
  rfl
theorem sSetN_of {i : Nat} {t : Bool} {f : En → R D} {ρ : En} {d : D} (h : f ρ = .ok d) : sSetN i t f ρ = .nx (ρ.set i (some (.own t d))) := by
  unfold sSetN
  rw [h]
  rfl
theorem sAppend_of {i : Nat} {f : En → R D} {ρ : En} {t : Bool} {ds : List D} {d : D} (ho : ρ[i]? = some (some (.own t (.list ds)))) (h : f ρ = .ok d) (hz : ds.length < sizeLine) : sAppend i f ρ = .nx (ρ.set i (some (.own t (.list (ds ++ [d]))))) := by
  unfold sAppend ownL
  rw [ho]
  show SR.of (f ρ) ρ _ = _
  rw [h]
  show (if ds.length < sizeLine then _ else _) = _
  rw [if_pos hz]
theorem sFor_of {tgt : TgF} {l : En → R (List D)} {body : En → SR} {ρ : En} {ds : List D} {r : SR} (h : l ρ = .ok ds) (h2 : loopL tgt body ds ρ = r) : sFor tgt l body ρ = r := by
  unfold sFor
  rw [h]
  exact h2
theorem loopL_nx {tgt : TgF} {body : En → SR} {d : D} {ds : List D} {ρ ρ1 ρ2 : En} {r : SR} (h1 : tgt d ρ = some ρ1) (h2 : body ρ1 = .nx ρ2) (h3 : loopL tgt body ds ρ2 = r) : loopL tgt body (d :: ds) ρ = r := by
  conv => lhs; unfold loopL
  rw [h1]
  simp only [h2]
  exact h3
theorem loopL_rt {tgt : TgF} {body : En → SR} {d e : D} {ds : List D} {ρ ρ1 : En} (h1 : tgt d ρ = some ρ1) (h2 : body ρ1 = .rt e) : loopL tgt body (d :: ds) ρ = .rt e := by
  conv => lhs; unfold loopL
  rw [h1]
  simp only [h2]
theorem loopL_nil {tgt : TgF} {body : En → SR} {ρ : En} : loopL tgt body [] ρ = .nx ρ := rfl
theorem sIf_true {c : En → R Bool} {g1 g2 : En → SR} {ρ : En} {r : SR} (h : c ρ = .ok true) (h2 : g1 ρ = r) : sIf c g1 g2 ρ = r := by
  unfold sIf
  rw [h]
  simpa [SR.of] using h2
theorem sIf_false {c : En → R Bool} {g1 g2 : En → SR} {ρ : En} {r : SR} (h : c ρ = .ok false) (h2 : g2 ρ = r) : sIf c g1 g2 ρ = r := by
  unfold sIf
  rw [h]
  simpa [SR.of] using h2
theorem cCallF1_of {F : List D → R D} {f : En → R D} {ρ : En} {d : D} {r : R D} (h : f ρ = .ok d) (h2 : F [d] = r) : cCallF F (cCons f cNil) ρ = r := by
  simp only [cCallF, cCons, cNil, h, R.bind, h2]
theorem cItems_of {f : En → R D} {ρ : En} {ds : List D} (h : f ρ = .ok (.list ds)) : cItems f ρ = .ok ds := by
  simp only [cItems, h, R.bind, itemsOf, ofO]
theorem cItemsT_of {f : En → R D} {ρ : En} {ds : List D} (h : f ρ = .ok (.tuple ds)) : cItems f ρ = .ok ds := by
  simp only [cItems, h, R.bind, itemsOf, ofO]
theorem cIter1_of {df : List D → Option (List D)} {f : En → R D} {ρ : En} {d : D} {e : List D} (h : f ρ = .ok d) (h2 : df [d] = some e) : cIter df (cCons f cNil) ρ = .ok e := by
  simp only [cIter, cCons, cNil, h, R.bind, h2, ofO]
theorem cBin_of {dop : D → D → Option D} {f g : En → R D} {ρ : En} {a b e : D} (h1 : f ρ = .ok a) (h2 : g ρ = .ok b) (h : dop a b = some e) : cBin dop f g ρ = .ok e := by
  simp only [cBin, h1, h2, R.bind, h, ofO]
end G

namespace K04
open PySem PySem.Spec PyProof.Rows L2 G
def g_inner : En → SR :=
  (sSeq (sIf (cBinT dEq (cBin dIx (cVarB 0) (cK (.int 0))) (cK (.str "one")))
    (sRet (cTup cNil))
    sNext)
    (sRet (cIf (cBinT dEq (cBin dIx (cVarB 0) (cK (.int 0))) (cK (.str "up"))) (cBin dIx (cVarB 0) (cK (.int 2))) (cBin dIx (cVarB 0) (cK (.int 1))))))
def f_inner : List D → R D := runF 1 1 g_inner
def g_number_of : En → SR :=
  (sRet (cCall dSum (cCons (cLc [1] (cItems (cVar 0)) (gN 1) cTrue (cBin dIx (cK (.tuple [(.int 1), (.int 2), (.int 4), (.int 8), (.int 16), (.int 32), (.int 64)])) (cVar 1))) cNil)))
def f_number_of : List D → R D := runF 2 1 g_number_of
def g_bundle_of : En → SR :=
  (sSeq (sSetN 1 false (cList cNil))
    (sSeq (sSet 2 (cVar 0))
    (sSeq (sSet 3 (cK (.int 0)))
    (sSeq (sWhile 100 (cBinT dGt (cVarB 2) (cK (.int 0)))
    (sSeq (sIf (cBinT dEq (cBin dMod (cVarB 2) (cK (.int 2))) (cK (.int 1)))
    (sAppend 1 (cVar 3))
    sNext)
    (sSeq (sSet 2 (cBin dDiv (cVarB 2) (cK (.int 2))))
    (sSet 3 (cBin dAdd (cVar 3) (cK (.int 1)))))))
    (sRet (cCall dTupOf (cCons (cVar 1) cNil)))))))
def f_bundle_of : List D → R D := runF 4 1 g_bundle_of
def g_within : En → SR :=
  (sSeq (sPar 2 3 (cCons (cVar 0) (cCons (cVar 1) cNil)))
    (sSeq (sWhile 100 (cBinT dGt (cVarB 2) (cK (.int 0)))
    (sSeq (sIf (cBinT dGt (cBin dMod (cVarB 2) (cK (.int 2))) (cBin dMod (cVarB 3) (cK (.int 2))))
    (sRet (cK (.bool false)))
    sNext)
    (sPar 2 3 (cCons (cBin dDiv (cVarB 2) (cK (.int 2))) (cCons (cBin dDiv (cVarB 3) (cK (.int 2))) cNil)))))
    (sRet (cK (.bool true)))))
def f_within : List D → R D := runF 4 2 g_within
def g_most_of : En → SR :=
  (sRet (cLc [1] (cIter dRange1 (cCons (cCall dLen (cCons (cBin dIx (cVarB 0) (cK (.int 0))) cNil)) cNil)) (gN 1) cTrue (cCall dMax (cCons (cLc [2] (cItems (cVar 0)) (gN 2) cTrue (cBin dIx (cVarB 2) (cVar 1))) cNil))))
def f_most_of : List D → R D := runF 3 1 g_most_of
def g_goods_in : En → SR :=
  (sRet (cBin dAdd (cIdxK [2, 4, 8, 16, 32, 64] (cCall dLen (cCons (cVarB 0) cNil))) (cK (.int 1))))
def f_goods_in : List D → R D := runF 1 1 g_goods_in
def g_tree_of : En → SR :=
  (sRet (cTup (cCons (cK (.str "xor")) (cCons (cCall dTupOf (cCons (cLc [1, 2] (cItems (cVar 0)) (gT (gC (gN 1) (gC (gN 2) gE))) cTrue (cTup (cCons (cK (.str "one")) (cCons (cVar 1) (cCons (cVar 2) cNil))))) cNil)) cNil))))
def f_tree_of : List D → R D := runF 3 1 g_tree_of
def g_with_lie : En → SR :=
  (sRet (cList (cStar (cSlice (cVar 0) cPartN (cPart (cVar 1))) (cCons (cVar 2) (cStar (cSlice (cVar 0) (cPart (cBin dAdd (cVar 1) (cK (.int 1)))) cPartN) cNil)))))
def f_with_lie : List D → R D := runF 3 3 g_with_lie
def g_changed : En → SR :=
  (sRet (cList (cStar (cSlice (cVar 0) cPartN (cPart (cVar 1))) (cCons (cTup (cCons (cBin dIx (cBin dIx (cVarB 0) (cVar 1)) (cK (.int 0))) (cCons (cCall dMax2 (cCons (cK (.int 0)) (cCons (cCall dMin2 (cCons (cK (.int 1000000)) (cCons (cVarB 2) cNil))) cNil))) cNil))) (cStar (cSlice (cVar 0) (cPart (cBin dAdd (cVar 1) (cK (.int 1)))) cPartN) cNil)))))
def f_changed : List D → R D := runF 3 3 g_changed
def g_l_draws : En → SR :=
  (sSeq (sSetN 1 false (cList cNil))
    (sSeq (sFor (gN 2) (cIter dRange1 (cCons (cCall dMin2 (cCons (cK (.int 63)) (cCons (cLenS 0) cNil))) cNil))
    (sSeq (sSet 3 (cCall dAbs (cCons (cIxS 0 (cVar 2)) cNil)))
    (sIf (cBinT dGe (cVarB 3) (cBin dPow (cK (.int 10)) (cK (.int 18))))
    (sFor (gN 4) (cIter dRange1 (cCons (cK (.int 60)) cNil))
    (sIf (cBinT dGt (cVarB 3) (cK (.int 0)))
    (sSeq (sAppend 1 (cBin dMod (cCall dInt (cCons (cVarB 3) cNil)) (cK (.int 65536))))
    (sSet 3 (cBin dDiv (cVarB 3) (cK (.int 65536)))))
    sNext))
    (sSeq (sSet 5 (cBin dMod (cCall dInt (cCons (cBin dAdd (cBin dMul (cVarB 3) (cK (.int 48271))) (cBin dMul (cBin dAdd (cVar 2) (cK (.int 1))) (cK (.int 69621)))) cNil)) (cK (.int 2147483647))))
    (sSeq (sSet 5 (cBin dMod (cCall dInt (cCons (cBin dAdd (cBin dAdd (cBin dMul (cVarB 5) (cK (.int 16807))) (cBin dMul (cK (.int 11)) (cVarB 2))) (cK (.int 5))) cNil)) (cK (.int 2147483629))))
    (sSeq (sAppend 1 (cBin dMod (cCall dInt (cCons (cVarB 5) cNil)) (cK (.int 65536))))
    (sAppend 1 (cBin dMod (cCall dInt (cCons (cBin dDiv (cVarB 5) (cK (.int 65536))) cNil)) (cK (.int 32768))))))))))
    (sRet (cVar 1))))
def f_l_draws : List Int → R D := runS 6 g_l_draws
def g_l_mix : En → SR :=
  (sSeq (sSet 3 (cK (.int 0)))
    (sSeq (sIf (cBinT dGt (cCall dLen (cCons (cVarB 0) cNil)) (cK (.int 0)))
    (sSet 3 (cBin dIx (cVarB 0) (cBin dMod (cCall dInt (cCons (cVarB 1) cNil)) (cCall dLen (cCons (cVarB 0) cNil)))))
    sNext)
    (sSeq (sIf (cBinT dLt (cVarB 1) (cCall dLen (cCons (cVarB 0) cNil)))
    (sRet (cBin dMod (cCall dInt (cCons (cVarB 3) cNil)) (cVarB 2)))
    sNext)
    (sRet (cBin dMod (cCall dInt (cCons (cBin dDiv (cCall dInt (cCons (cBin dAdd (cBin dMul (cVarB 3) (cK (.int 7919))) (cBin dMul (cVarB 1) (cK (.int 104729)))) cNil)) (cK (.int 3))) cNil)) (cVarB 2))))))
def f_l_mix : List D → R D := runF 4 3 g_l_mix
def g_l_subsets : En → SR :=
  (sSeq (sSet 1 (cList (cCons (cTup cNil) cNil)))
    (sSeq (sFor (gN 2) (cIter dRange1 (cCons (cVarB 0) cNil))
    (sSet 1 (cBin dAdd (cVar 1) (cLc [3] (cItems (cVar 1)) (gN 3) cTrue (cBin dAdd (cVar 3) (cTup (cCons (cVar 2) cNil)))))))
    (sRet (cVar 1))))
def f_l_subsets : List D → R D := runF 4 1 g_l_subsets
def g_l_at : En → SR :=
  (sRet (cBin dIx (cVarB 0) (cCall dSum (cCons (cLc [2] (cItems (cVar 1)) (gN 2) cTrue (cBin dIx (cList (cCons (cK (.int 1)) (cCons (cK (.int 2)) (cCons (cK (.int 4)) (cCons (cK (.int 8)) (cCons (cK (.int 16)) (cCons (cK (.int 32)) cNil))))))) (cVar 2))) cNil))))
def f_l_at : List D → R D := runF 3 2 g_l_at
def g_l_shares : En → SR :=
  (sSeq (sSet 2 (cList (cCons (cBin dMul (cList (cCons (cTup cNil) cNil)) (cVarB 0)) cNil)))
    (sSeq (sFor (gN 3) (cIter dRange1 (cCons (cVarB 1) cNil))
    (sSeq (sSet 4 (cCall dListOf (cCons (cVarB 2) cNil)))
    (sSeq (sFor (gN 5) (cItems (cVar 2))
    (sSet 4 (cBin dAdd (cVar 4) (cLc [6] (cIter dRange1 (cCons (cVarB 0) cNil)) (gN 6) cTrue (cBin dAdd (cBin dAdd (cSlice (cVar 5) cPartN (cPart (cVar 6))) (cList (cCons (cBin dAdd (cBin dIx (cVarB 5) (cVar 6)) (cTup (cCons (cVar 3) cNil))) cNil))) (cSlice (cVar 5) (cPart (cBin dAdd (cVar 6) (cK (.int 1)))) cPartN))))))
    (sSet 2 (cVar 4)))))
    (sRet (cVar 2))))
def f_l_shares : List D → R D := runF 7 2 g_l_shares
def g_l_numbers : En → SR :=
  (sRet (cLc [1] (cItems (cVar 0)) (gN 1) cTrue (cCall dSum (cCons (cLc [2] (cItems (cVar 1)) (gN 2) cTrue (cBin dIx (cList (cCons (cK (.int 1)) (cCons (cK (.int 2)) (cCons (cK (.int 4)) (cCons (cK (.int 8)) (cCons (cK (.int 16)) (cCons (cK (.int 32)) cNil))))))) (cVar 2))) cNil))))
def f_l_numbers : List D → R D := runF 3 1 g_l_numbers
def g_l_with : En → SR :=
  (sRet (cBin dAdd (cBin dAdd (cSlice (cVar 0) cPartN (cPart (cVar 1))) (cList (cCons (cVar 2) cNil))) (cSlice (cVar 0) (cPart (cBin dAdd (cVar 1) (cK (.int 1)))) cPartN)))
def f_l_with : List D → R D := runF 3 3 g_l_with
def g_parts_of (F_within : List D → R D) : En → SR :=
  (sRet (cLc [1] (cIter dRange1 (cCons (cBin dAdd (cVar 0) (cK (.int 1))) cNil)) (gN 1) (cTest (cCallF F_within (cCons (cVar 1) (cCons (cVar 0) cNil)))) (cVar 1)))
def f_parts_of : List D → R D := runF 2 1 (g_parts_of f_within)
def g_is_table (F_bundle_of : List D → R D) : En → SR :=
  (sSeq (sIf (cOr (cBinT dNotIn (cCall dLen (cCons (cVarB 0) cNil)) (cK (.tuple [(.int 2), (.int 4), (.int 8), (.int 16), (.int 32), (.int 64)]))) (cOr (cBinT dNe (cBin dIx (cVarB 0) (cK (.int 0))) (cK (.int 0))) (cNot (cChainT dLe dLe (cK (.int 0)) (cBin dIx (cVarB 0) (cUn dNeg (cK (.int 1)))) (cK (.int 1000000))))))
    (sRet (cK (.bool false)))
    sNext)
    (sSeq (sFor (gN 1) (cIter dRange1 (cCons (cCall dLen (cCons (cVarB 0) cNil)) cNil))
    (sFor (gN 2) (cItems (cCallF F_bundle_of (cCons (cVar 1) cNil)))
    (sIf (cBinT dGt (cBin dIx (cVarB 0) (cBin dSub (cVarB 1) (cBin dIx (cK (.tuple [(.int 1), (.int 2), (.int 4), (.int 8), (.int 16), (.int 32), (.int 64)])) (cVar 2)))) (cBin dIx (cVarB 0) (cVar 1)))
    (sRet (cK (.bool false)))
    sNext)))
    (sRet (cK (.bool true)))))
def f_is_table : List D → R D := runF 3 1 (g_is_table f_bundle_of)
def g_l_drawn (F_l_subsets : List D → R D) (F_l_mix : List D → R D) : En → SR :=
  (sSeq (sSet 3 (cCallF F_l_subsets (cCons (cVar 2) cNil)))
    (sSeq (sSet 4 (cLc [12] (cIter dRange1 (cCons (cVarB 2) cNil)) (gN 12) cTrue (cCallF F_l_mix (cCons (cVar 0) (cCons (cBin dAdd (cVar 1) (cVar 12)) (cCons (cK (.int 9)) cNil))))))
    (sSeq (sSet 5 (cCallF F_l_mix (cCons (cVar 0) (cCons (cBin dAdd (cVar 1) (cK (.int 7))) (cCons (cK (.int 6)) cNil)))))
    (sSeq (sSet 6 (cLc [12] (cIter dRange1 (cCons (cVarB 2) cNil)) (gN 12) (cBinT dEq (cCallF F_l_mix (cCons (cVar 0) (cCons (cBin dAdd (cBin dAdd (cVar 1) (cK (.int 9))) (cVar 12)) (cCons (cK (.int 2)) cNil)))) (cK (.int 0))) (cVar 12)))
    (sSeq (sSetN 7 true (cK (.dict [])))
    (sSeq (sFor (gN 8) (cIter dRange1 (cCons (cCall dLen (cCons (cVarB 3) cNil)) cNil))
    (sSeq (sSet 9 (cBin dIx (cVarB 3) (cVar 8)))
    (sSeq (sSet 10 (cLc [12] (cItems (cVar 9)) (gN 12) cTrue (cBin dIx (cVarB 7) (cCall dTupOf (cCons (cLc [13] (cItems (cVar 9)) (gN 13) (cBinT dNe (cVarB 13) (cVarB 12)) (cVar 13)) cNil)))))
    (sSeq (sSet 11 (cCallF F_l_mix (cCons (cVar 0) (cCons (cBin dAdd (cBin dAdd (cVar 1) (cK (.int 8))) (cVar 8)) (cCons (cK (.int 14)) cNil)))))
    (sSeq (sIf (cBinT dEq (cVarB 5) (cK (.int 1)))
    (sSet 11 (cCall dSum (cCons (cLc [12] (cItems (cVar 9)) (gN 12) cTrue (cBin dIx (cVarB 4) (cVar 12))) cNil)))
    (sIf (cBinT dEq (cVarB 5) (cK (.int 2)))
    (sSet 11 (cCall dSum (cCons (cSlice (cRev (cCall dSorted (cCons (cLc [12] (cItems (cVar 9)) (gN 12) cTrue (cBin dIx (cVarB 4) (cVar 12))) cNil))) cPartN (cPart (cBin dAdd (cK (.int 1)) (cCallF F_l_mix (cCons (cVar 0) (cCons (cBin dAdd (cVar 1) (cK (.int 8))) (cCons (cK (.int 2)) cNil))))))) cNil)))
    (sIf (cBinT dEq (cVarB 5) (cK (.int 3)))
    (sSet 11 (cBin dSub (cCall dSum (cCons (cLc [12] (cItems (cVar 9)) (gN 12) cTrue (cBin dIx (cVarB 4) (cVar 12))) cNil)) (cBin dDiv (cBin dMul (cCall dLen (cCons (cVarB 9) cNil)) (cBin dSub (cCall dLen (cCons (cVarB 9) cNil)) (cK (.int 1)))) (cK (.int 2)))))
    (sIf (cBinT dEq (cVarB 5) (cK (.int 4)))
    (sSet 11 (cBin dMul (cBin dAdd (cK (.int 1)) (cBin dIx (cVarB 4) (cK (.int 0)))) (cCall dInt (cCons (cBin dEq (cCall dLen (cCons (cLc [12] (cItems (cVar 6)) (gN 12) (cBinT dNotIn (cVar 12) (cVarB 9)) (cVar 12)) cNil)) (cK (.int 0))) cNil))))
    (sIf (cBinT dEq (cVarB 5) (cK (.int 5)))
    (sSet 11 (cBin dMul (cBin dMul (cCallF F_l_mix (cCons (cVar 0) (cCons (cBin dAdd (cVar 1) (cK (.int 8))) (cCons (cK (.int 3)) cNil)))) (cCall dLen (cCons (cVarB 9) cNil))) (cCall dLen (cCons (cVarB 9) cNil))))
    sNext)))))
    (sSetD 7 (cVar 9) (cCall dMax (cCons (cBin dAdd (cBin dAdd (cList (cCons (cK (.int 0)) cNil)) (cVar 10)) (cList (cCons (cBin dMul (cVarB 11) (cCall dInt (cCons (cBin dNe (cVarB 9) (cTup cNil)) cNil))) cNil))) cNil))))))))
    (sRet (cLc [9] (cItems (cVar 3)) (gN 9) cTrue (cBin dIx (cVarB 7) (cVar 9))))))))))
def f_l_drawn : List D → R D := runF 14 3 (g_l_drawn f_l_subsets f_l_mix)
def g_l_sum (F_l_at : List D → R D) : En → SR :=
  (sRet (cCall dSum (cCons (cLc [2] (cIter dRange1 (cCons (cCall dLen (cCons (cVarB 0) cNil)) cNil)) (gN 2) cTrue (cCallF F_l_at (cCons (cBin dIx (cVarB 0) (cVar 2)) (cCons (cBin dIx (cVarB 1) (cVar 2)) cNil)))) cNil)))
def f_l_sum : List D → R D := runF 3 2 (g_l_sum f_l_at)
def g_l_lies (F_l_subsets : List D → R D) (F_l_at : List D → R D) : En → SR :=
  (sSeq (sSet 2 (cCallF F_l_subsets (cCons (cVar 1) cNil)))
    (sSeq (sSetN 3 false (cList cNil))
    (sSeq (sFor (gN 4) (cItems (cSlice (cVar 2) (cPart (cK (.int 1))) cPartN))
    (sIf (cBinT dGt (cCallF F_l_at (cCons (cVar 0) (cCons (cVar 4) cNil))) (cCall dMax (cCons (cLc [11] (cItems (cVar 4)) (gN 11) cTrue (cCallF F_l_at (cCons (cVar 0) (cCons (cCall dTupOf (cCons (cLc [12] (cItems (cVar 4)) (gN 12) (cBinT dNe (cVarB 12) (cVarB 11)) (cVar 12)) cNil)) cNil)))) cNil)))
    (sAppend 3 (cTup (cCons (cVar 4) (cCons (cCallF F_l_at (cCons (cVar 0) (cCons (cVar 4) cNil))) cNil))))
    sNext))
    (sSeq (sSetN 5 false (cList cNil))
    (sSeq (sFor (gN 6) (cIter dRange1 (cCons (cCall dLen (cCons (cVarB 3) cNil)) cNil))
    (sSeq (sSet 7 (cBin dIx (cBin dIx (cVarB 3) (cVar 6)) (cK (.int 1))))
    (sFor (gN 8) (cItems (cList (cCons (cK (.int 0)) (cCons (cBin dDiv (cVarB 7) (cK (.int 2))) (cCons (cBin dSub (cVarB 7) (cK (.int 1))) (cCons (cBin dAdd (cVar 7) (cK (.int 1))) (cCons (cBin dMul (cK (.int 2)) (cVarB 7)) cNil)))))))
    (sSeq (sFrz 3 (sSet 9 (cBin dAdd (cBin dAdd (cSlice (cVar 3) cPartN (cPart (cVar 6))) (cList (cCons (cTup (cCons (cBin dIx (cBin dIx (cVarB 3) (cVar 6)) (cK (.int 0))) (cCons (cCall dMin2 (cCons (cK (.int 1000000)) (cCons (cVarB 8) cNil))) cNil))) cNil))) (cSlice (cVar 3) (cPart (cBin dAdd (cVar 6) (cK (.int 1)))) cPartN))))
    (sSeq (sSetN 10 false (cList cNil))
    (sSeq (sFor (gN 4) (cItems (cVar 2))
    (sAppend 10 (cCall dMax (cCons (cBin dAdd (cList (cCons (cK (.int 0)) cNil)) (cLc [13, 14] (cItems (cVar 9)) (gT (gC (gN 13) (gC (gN 14) gE))) (cBinT dEq (cLc [11] (cItems (cVar 13)) (gN 11) (cBinT dNotIn (cVar 11) (cVarB 4)) (cVar 11)) (cList cNil)) (cVar 14))) cNil))))
    (sFrz 10 (sIf (cAnd (cBinT dNe (cVarB 10) (cVarB 0)) (cBinT dNotIn (cVar 10) (cVarB 5)))
    (sFrz 10 (sAppend 5 (cVar 10)))
    sNext))))))))
    (sRet (cVar 5)))))))
def f_l_lies : List D → R D := runF 15 2 (g_l_lies f_l_subsets f_l_at)
def g_together (F_parts_of : List D → R D) : En → SR :=
  (sRet (cLc [2] (cIter dRange1 (cCons (cCall dLen (cCons (cVarB 0) cNil)) cNil)) (gN 2) cTrue (cCall dMax (cCons (cLc [3] (cItems (cCallF F_parts_of (cCons (cVar 2) cNil))) (gN 3) cTrue (cBin dAdd (cBin dIx (cVarB 0) (cVar 3)) (cBin dIx (cVarB 1) (cBin dSub (cVarB 2) (cVarB 3))))) cNil))))
def f_together : List D → R D := runF 4 2 (g_together f_parts_of)
def g_check_table (F_is_table : List D → R D) : En → SR :=
  (sIf (cNot (cTest (cCallF F_is_table (cCons (cVar 0) cNil))))
    (sRaise "BadTable" (cK (.int 0)))
    sNext)
def f_check_table : List D → R D := runF 1 1 (g_check_table f_is_table)
def g_check_book (F_is_table : List D → R D) : En → SR :=
  (sSeq (sIf (cNot (cChainT dLe dLe (cK (.int 1)) (cCall dLen (cCons (cVarB 0) cNil)) (cK (.int 6))))
    (sRaise "BadBook" (cCall dLen (cCons (cVarB 0) cNil)))
    sNext)
    (sFor (gT (gC (gN 1) (gC (gN 2) gE))) (cIter dEnum (cCons (cVar 0) cNil))
    (sIf (cOr (cNot (cTest (cCallF F_is_table (cCons (cVar 2) cNil)))) (cBinT dNe (cCall dLen (cCons (cVarB 2) cNil)) (cCall dLen (cCons (cBin dIx (cVarB 0) (cK (.int 0))) cNil))))
    (sRaise "BadTable" (cVar 1))
    sNext)))
def f_check_book : List D → R D := runF 3 1 (g_check_book f_is_table)
def g_most_at (F_parts_of : List D → R D) : En → SR :=
  (sRet (cCall dMax (cCons (cLc [3] (cItems (cCallF F_parts_of (cCons (cVar 2) cNil))) (gN 3) cTrue (cBin dAdd (cBin dIx (cVarB 0) (cVar 3)) (cBin dIx (cVarB 1) (cBin dSub (cVarB 2) (cVarB 3))))) cNil)))
def f_most_at : List D → R D := runF 4 3 (g_most_at f_parts_of)
def g_l_book (F_l_mix : List D → R D) (F_l_drawn : List D → R D) : En → SR :=
  (sRet (cLc [4] (cIter dRange1 (cCons (cBin dAdd (cK (.int 1)) (cCallF F_l_mix (cCons (cVar 0) (cCons (cBin dAdd (cVar 1) (cK (.int 400))) (cCons (cVar 2) cNil))))) cNil)) (gN 4) cTrue (cCallF F_l_drawn (cCons (cVar 0) (cCons (cBin dAdd (cVar 1) (cBin dMul (cK (.int 50)) (cVarB 4))) (cCons (cVar 3) cNil))))))
def f_l_book : List D → R D := runF 5 4 (g_l_book f_l_mix f_l_drawn)
def g_l_best (F_l_shares : List D → R D) (F_l_sum : List D → R D) (F_l_numbers : List D → R D) : En → SR :=
  (sSeq (sIf (cBinT dEq (cVarB 0) (cList cNil))
    (sRet (cTup (cCons (cList cNil) (cCons (cK (.int 0)) cNil))))
    sNext)
    (sSeq (sSet 2 (cK .none))
    (sSeq (sFor (gN 3) (cItems (cCallF F_l_shares (cCons (cCall dLen (cCons (cVarB 0) cNil)) (cCons (cVar 1) cNil))))
    (sSeq (sSet 4 (cTup (cCons (cUn dNeg (cCallF F_l_sum (cCons (cVar 0) (cCons (cVar 3) cNil)))) (cCons (cCallF F_l_numbers (cCons (cVar 3) cNil)) cNil))))
    (sIf (cOr (cBinT dIs (cVarB 2) (cK .none)) (cBinT dLt (cVarB 4) (cBin dIx (cVarB 2) (cK (.int 0)))))
    (sSet 2 (cTup (cCons (cVar 4) (cCons (cVar 3) cNil))))
    sNext)))
    (sRet (cTup (cCons (cBin dIx (cVarB 2) (cK (.int 1))) (cCons (cUn dNeg (cBin dIx (cBin dIx (cVarB 2) (cK (.int 0))) (cK (.int 0)))) cNil)))))))
def f_l_best : List D → R D := runF 5 2 (g_l_best f_l_shares f_l_sum f_l_numbers)
def g_up_to (F_together : List D → R D) (F_most_of : List D → R D) : En → SR :=
  (sSeq (sSet 2 (cList (cCons (cBin dMul (cList (cCons (cK (.int 0)) cNil)) (cCall dLen (cCons (cBin dIx (cVarB 0) (cK (.int 0))) cNil))) cNil)))
    (sSeq (sFor (gN 3) (cItems (cVar 0))
    (sSeq (sSetN 4 false (cList (cCons (cCall dListOf (cCons (cBin dIx (cVarB 2) (cK (.int 0))) cNil)) cNil)))
    (sSeq (sFor (gN 5) (cIter dRange2 (cCons (cK (.int 1)) (cCons (cBin dAdd (cCall dMin2 (cCons (cVarB 1) (cCons (cCall dLen (cCons (cVarB 2) cNil)) cNil))) (cK (.int 1))) cNil)))
    (sSeq (sSet 6 (cCallF F_together (cCons (cBin dIx (cVarB 2) (cBin dSub (cVarB 5) (cK (.int 1)))) (cCons (cVar 3) cNil))))
    (sAppend 4 (cIf (cBinT dLt (cVarB 5) (cCall dLen (cCons (cVarB 2) cNil))) (cCallF F_most_of (cCons (cList (cCons (cBin dIx (cVarB 2) (cVar 5)) (cCons (cVar 6) cNil))) cNil)) (cVar 6)))))
    (sFrz 4 (sSet 2 (cVar 4))))))
    (sRet (cCallF F_most_of (cCons (cVar 2) cNil)))))
def f_up_to : List D → R D := runF 7 2 (g_up_to f_together f_most_of)
def g_normal (F_check_table : List D → R D) (F_bundle_of : List D → R D) : En → SR :=
  (sSeq (sExpr (cCallF F_check_table (cCons (cVar 0) cNil)))
    (sSeq (sSetN 1 false (cList cNil))
    (sSeq (sFor (gN 2) (cIter dRange2 (cCons (cK (.int 1)) (cCons (cCall dLen (cCons (cVarB 0) cNil)) cNil)))
    (sSeq (sSet 3 (cCallF F_bundle_of (cCons (cVar 2) cNil)))
    (sIf (cBinT dGt (cBin dIx (cVarB 0) (cVar 2)) (cCall dMax (cCons (cLc [4] (cItems (cVar 3)) (gN 4) cTrue (cBin dIx (cVarB 0) (cBin dSub (cVarB 2) (cBin dIx (cK (.tuple [(.int 1), (.int 2), (.int 4), (.int 8), (.int 16), (.int 32), (.int 64)])) (cVar 4))))) cNil)))
    (sAppend 1 (cTup (cCons (cVar 3) (cCons (cBin dIx (cVarB 0) (cVar 2)) cNil))))
    sNext)))
    (sRet (cVar 1)))))
def f_normal : List D → R D := runF 5 1 (g_normal f_check_table f_bundle_of)
def g_rests (F_most_at : List D → R D) : En → SR :=
  (sSeq (sSetN 1 false (cList (cCons (cBin dMul (cList (cCons (cK (.int 0)) cNil)) (cCall dLen (cCons (cBin dIx (cVarB 0) (cK (.int 0))) cNil))) cNil)))
    (sSeq (sFor (gN 2) (cItems (cRev (cVarB 0)))
    (sSeq (sSet 3 (cBin dIx (cVarB 1) (cUn dNeg (cK (.int 1)))))
    (sAppend 1 (cLc [4] (cIter dRange1 (cCons (cCall dLen (cCons (cVarB 2) cNil)) cNil)) (gN 4) cTrue (cCallF F_most_at (cCons (cVar 2) (cCons (cVar 3) (cCons (cVar 4) cNil))))))))
    (sRet (cRev (cVarB 1)))))
def f_rests : List D → R D := runF 5 1 (g_rests f_most_at)
def g_check_word (F_check_book : List D → R D) : En → SR :=
  (sSeq (sExpr (cCallF F_check_book (cCons (cVar 0) cNil)))
    (sIf (cBinT dNotIn (cVar 1) (cK (.tuple [(.str "fair"), (.str "bid"), (.str "none")])))
    (sRaise "BadWord" (cK (.int 0)))
    sNext))
def f_check_word : List D → R D := runF 2 2 (g_check_word f_check_book)
def g_l_paid (F_l_best : List D → R D) (F_l_at : List D → R D) : En → SR :=
  (sSeq (sAsg (gT (gC (gN 5) (gC (gN 6) gE))) (cCallF F_l_best (cCons (cVar 0) (cCons (cVar 1) cNil))))
    (sSeq (sSetN 3 false (cList cNil))
    (sSeq (sFor (gN 4) (cIter dRange1 (cCons (cCall dLen (cCons (cVarB 0) cNil)) cNil))
    (sSeq (sSet 7 (cCallF F_l_at (cCons (cBin dIx (cVarB 0) (cVar 4)) (cCons (cBin dIx (cVarB 5) (cVar 4)) cNil))))
    (sSeq (sSet 8 (cK (.int 0)))
    (sSeq (sIf (cBinT dEq (cVarB 2) (cK (.str "fair")))
    (sSet 8 (cBin dAdd (cBin dSub (cBin dIx (cCallF F_l_best (cCons (cBin dAdd (cSlice (cVar 0) cPartN (cPart (cVar 4))) (cSlice (cVar 0) (cPart (cBin dAdd (cVar 4) (cK (.int 1)))) cPartN)) (cCons (cVar 1) cNil))) (cK (.int 1))) (cVarB 6)) (cVar 7)))
    sNext)
    (sAppend 3 (cBin dIx (cDict (cKd (.inr "fair") (cVar 8) (cKd (.inr "bid") (cVar 7) (cKd (.inr "none") (cK (.int 0)) (fun _ => .ok []))))) (cVar 2)))))))
    (sRet (cVar 3)))))
def f_l_paid : List D → R D := runF 9 3 (g_l_paid f_l_best f_l_at)
def g_best_of (F_rests : List D → R D) (F_parts_of : List D → R D) (F_bundle_of : List D → R D) : En → SR :=
  (sSeq (sSet 1 (cCallF F_rests (cCons (cVar 0) cNil)))
    (sSeq (sSet 2 (cBin dSub (cCall dLen (cCons (cBin dIx (cVarB 0) (cK (.int 0))) cNil)) (cK (.int 1))))
    (sSeq (sSetN 3 false (cList cNil))
    (sSeq (sFor (gT (gC (gN 4) (gC (gN 5) gE))) (cIter dEnum (cCons (cVar 0) cNil))
    (sSeq (sSet 6 (cLc [7] (cItems (cCallF F_parts_of (cCons (cVar 2) cNil))) (gN 7) (cBinT dEq (cBin dAdd (cBin dIx (cVarB 5) (cVar 7)) (cBin dIx (cBin dIx (cVarB 1) (cBin dAdd (cVar 4) (cK (.int 1)))) (cBin dSub (cVarB 2) (cVarB 7)))) (cBin dIx (cBin dIx (cVarB 1) (cVar 4)) (cVar 2))) (cVar 7)))
    (sSeq (sAppend 3 (cCallF F_bundle_of (cCons (cBin dIx (cVarB 6) (cK (.int 0))) cNil)))
    (sSet 2 (cBin dSub (cVarB 2) (cBin dIx (cVarB 6) (cK (.int 0))))))))
    (sRet (cTup (cCons (cVar 3) (cCons (cBin dIx (cBin dIx (cVarB 1) (cK (.int 0))) (cUn dNeg (cK (.int 1)))) cNil))))))))
def f_best_of : List D → R D := runF 8 1 (g_best_of f_rests f_parts_of f_bundle_of)
def g_check_lies (F_check_word : List D → R D) (F_is_table : List D → R D) : En → SR :=
  (sSeq (sExpr (cCallF F_check_word (cCons (cVar 0) (cCons (cVar 2) cNil))))
    (sSeq (sIf (cNot (cChainT dLe dLt (cK (.int 0)) (cVarB 1) (cCall dLen (cCons (cVarB 0) cNil))))
    (sRaise "BadBidder" (cVar 1))
    sNext)
    (sFor (gT (gC (gN 4) (gC (gN 5) gE))) (cIter dEnum (cCons (cVar 3) cNil))
    (sIf (cOr (cNot (cTest (cCallF F_is_table (cCons (cVar 5) cNil)))) (cBinT dNe (cCall dLen (cCons (cVarB 5) cNil)) (cCall dLen (cCons (cBin dIx (cVarB 0) (cK (.int 0))) cNil))))
    (sRaise "BadTable" (cVar 4))
    sNext))))
def f_check_lies : List D → R D := runF 6 4 (g_check_lies f_check_word f_is_table)
def g_l_gain (F_l_at : List D → R D) (F_l_best : List D → R D) (F_l_paid : List D → R D) : En → SR :=
  (sRet (cBin dSub (cCallF F_l_at (cCons (cVar 1) (cCons (cBin dIx (cBin dIx (cCallF F_l_best (cCons (cVar 0) (cCons (cVar 2) cNil))) (cK (.int 0))) (cVar 3)) cNil))) (cBin dIx (cCallF F_l_paid (cCons (cVar 0) (cCons (cVar 2) (cCons (cVar 4) cNil)))) (cVar 3))))
def f_l_gain : List D → R D := runF 5 5 (g_l_gain f_l_at f_l_best f_l_paid)
def g_best (F_check_book : List D → R D) (F_best_of : List D → R D) : En → SR :=
  (sSeq (sExpr (cCallF F_check_book (cCons (cVar 0) cNil)))
    (sRet (cCallF F_best_of (cCons (cVar 0) cNil))))
def f_best : List D → R D := runF 1 1 (g_best f_check_book f_best_of)
def g_sum_without (F_best_of : List D → R D) : En → SR :=
  (sSeq (sSet 2 (cBin dAdd (cSlice (cVar 0) cPartN (cPart (cVar 1))) (cSlice (cVar 0) (cPart (cBin dAdd (cVar 1) (cK (.int 1)))) cPartN)))
    (sRet (cIf (cBinT dGt (cCall dLen (cCons (cVarB 2) cNil)) (cK (.int 0))) (cBin dIx (cCallF F_best_of (cCons (cVar 2) cNil)) (cK (.int 1))) (cK (.int 0)))))
def f_sum_without : List D → R D := runF 3 2 (g_sum_without f_best_of)
def g_paid_by (F_number_of : List D → R D) (F_sum_without : List D → R D) : En → SR :=
  (sSeq (sSet 5 (cBin dIx (cBin dIx (cVarB 0) (cVar 3)) (cCallF F_number_of (cCons (cBin dIx (cVarB 1) (cVar 3)) cNil))))
    (sSeq (sIf (cBinT dEq (cVarB 4) (cK (.str "fair")))
    (sRet (cBin dSub (cCallF F_sum_without (cCons (cVar 0) (cCons (cVar 3) cNil))) (cBin dSub (cVarB 2) (cVarB 5))))
    sNext)
    (sRet (cIf (cBinT dEq (cVarB 4) (cK (.str "bid"))) (cVar 5) (cK (.int 0))))))
def f_paid_by : List D → R D := runF 6 5 (g_paid_by f_number_of f_sum_without)
def g_all_paid (F_best_of : List D → R D) (F_paid_by : List D → R D) : En → SR :=
  (sSeq (sAsg (gT (gC (gN 2) (gC (gN 3) gE))) (cCallF F_best_of (cCons (cVar 0) cNil)))
    (sRet (cLc [4] (cIter dRange1 (cCons (cCall dLen (cCons (cVarB 0) cNil)) cNil)) (gN 4) cTrue (cCallF F_paid_by (cCons (cVar 0) (cCons (cVar 2) (cCons (cVar 3) (cCons (cVar 4) (cCons (cVar 1) cNil)))))))))
def f_all_paid : List D → R D := runF 5 2 (g_all_paid f_best_of f_paid_by)
def g_gain_of (F_best_of : List D → R D) (F_number_of : List D → R D) (F_paid_by : List D → R D) : En → SR :=
  (sSeq (sAsg (gT (gC (gN 4) (gC (gN 5) gE))) (cCallF F_best_of (cCons (cVar 0) cNil)))
    (sRet (cBin dSub (cBin dIx (cVarB 1) (cCallF F_number_of (cCons (cBin dIx (cVarB 4) (cVar 2)) cNil))) (cCallF F_paid_by (cCons (cVar 0) (cCons (cVar 4) (cCons (cVar 5) (cCons (cVar 2) (cCons (cVar 3) cNil)))))))))
def f_gain_of : List D → R D := runF 6 4 (g_gain_of f_best_of f_number_of f_paid_by)
def g_payments (F_check_word : List D → R D) (F_all_paid : List D → R D) : En → SR :=
  (sSeq (sExpr (cCallF F_check_word (cCons (cVar 0) (cCons (cVar 1) cNil))))
    (sRet (cCallF F_all_paid (cCons (cVar 0) (cCons (cVar 1) cNil)))))
def f_payments : List D → R D := runF 2 2 (g_payments f_check_word f_all_paid)
def g_gain (F_check_lies : List D → R D) (F_gain_of : List D → R D) (F_with_lie : List D → R D) : En → SR :=
  (sSeq (sExpr (cCallF F_check_lies (cCons (cVar 0) (cCons (cVar 1) (cCons (cVar 2) (cCons (cList (cCons (cVar 3) cNil)) cNil))))))
    (sRet (cCallF F_gain_of (cCons (cCallF F_with_lie (cCons (cVar 0) (cCons (cVar 1) (cCons (cVar 3) cNil)))) (cCons (cBin dIx (cVarB 0) (cVar 1)) (cCons (cVar 1) (cCons (cVar 2) cNil)))))))
def f_gain : List D → R D := runF 4 4 (g_gain f_check_lies f_gain_of f_with_lie)
def g_gains (F_check_word : List D → R D) (F_gain_of : List D → R D) : En → SR :=
  (sSeq (sExpr (cCallF F_check_word (cCons (cVar 0) (cCons (cVar 1) cNil))))
    (sRet (cLc [2, 3] (cIter dEnum (cCons (cVar 0) cNil)) (gT (gC (gN 2) (gC (gN 3) gE))) cTrue (cCallF F_gain_of (cCons (cVar 0) (cCons (cVar 3) (cCons (cVar 2) (cCons (cVar 1) cNil))))))))
def f_gains : List D → R D := runF 4 2 (g_gains f_check_word f_gain_of)
def g_first_lie (F_check_lies : List D → R D) (F_gain_of : List D → R D) (F_with_lie : List D → R D) : En → SR :=
  (sSeq (sExpr (cCallF F_check_lies (cCons (cVar 0) (cCons (cVar 1) (cCons (cVar 2) (cCons (cVar 3) cNil))))))
    (sSeq (sSet 4 (cCallF F_gain_of (cCons (cVar 0) (cCons (cBin dIx (cVarB 0) (cVar 1)) (cCons (cVar 1) (cCons (cVar 2) cNil))))))
    (sSeq (sFor (gT (gC (gN 5) (gC (gN 6) gE))) (cIter dEnum (cCons (cVar 3) cNil))
    (sSeq (sSet 7 (cBin dSub (cCallF F_gain_of (cCons (cCallF F_with_lie (cCons (cVar 0) (cCons (cVar 1) (cCons (cVar 6) cNil)))) (cCons (cBin dIx (cVarB 0) (cVar 1)) (cCons (cVar 1) (cCons (cVar 2) cNil))))) (cVarB 4)))
    (sIf (cBinT dGt (cVarB 7) (cK (.int 0)))
    (sRet (cTup (cCons (cVar 5) (cCons (cVar 7) cNil))))
    sNext)))
    (sRet (cK .none)))))
def f_first_lie : List D → R D := runF 8 4 (g_first_lie f_check_lies f_gain_of f_with_lie)
def g_together_gain (F_check_word : List D → R D) (F_is_table : List D → R D) (F_with_lie : List D → R D) (F_gain_of : List D → R D) : En → SR :=
  (sSeq (sExpr (cCallF F_check_word (cCons (cVar 0) (cCons (cVar 3) cNil))))
    (sSeq (sIf (cNot (cChainT dLe dLt (cK (.int 0)) (cVarB 1) (cCall dLen (cCons (cVarB 0) cNil))))
    (sRaise "BadBidder" (cVar 1))
    sNext)
    (sSeq (sIf (cOr (cNot (cChainT dLe dLt (cK (.int 0)) (cVarB 2) (cCall dLen (cCons (cVarB 0) cNil)))) (cBinT dEq (cVarB 1) (cVarB 2)))
    (sRaise "BadBidder" (cVar 2))
    sNext)
    (sSeq (sFor (gT (gC (gN 8) (gC (gN 9) gE))) (cIter dEnumT (cCons (cTup (cCons (cVar 4) (cCons (cVar 5) cNil))) cNil))
    (sIf (cOr (cNot (cTest (cCallF F_is_table (cCons (cVar 9) cNil)))) (cBinT dNe (cCall dLen (cCons (cVarB 9) cNil)) (cCall dLen (cCons (cBin dIx (cVarB 0) (cK (.int 0))) cNil))))
    (sRaise "BadTable" (cVar 8))
    sNext))
    (sSeq (sSet 6 (cCallF F_with_lie (cCons (cCallF F_with_lie (cCons (cVar 0) (cCons (cVar 1) (cCons (cVar 4) cNil)))) (cCons (cVar 2) (cCons (cVar 5) cNil)))))
    (sSeq (sSet 7 (cBin dAdd (cCallF F_gain_of (cCons (cVar 0) (cCons (cBin dIx (cVarB 0) (cVar 1)) (cCons (cVar 1) (cCons (cVar 3) cNil))))) (cCallF F_gain_of (cCons (cVar 0) (cCons (cBin dIx (cVarB 0) (cVar 2)) (cCons (cVar 2) (cCons (cVar 3) cNil)))))))
    (sRet (cBin dSub (cBin dAdd (cCallF F_gain_of (cCons (cVar 6) (cCons (cBin dIx (cVarB 0) (cVar 1)) (cCons (cVar 1) (cCons (cVar 3) cNil))))) (cCallF F_gain_of (cCons (cVar 6) (cCons (cBin dIx (cVarB 0) (cVar 2)) (cCons (cVar 2) (cCons (cVar 3) cNil)))))) (cVarB 7)))))))))
def f_together_gain : List D → R D := runF 10 6 (g_together_gain f_check_word f_is_table f_with_lie f_gain_of)
def g_income (F_payments : List D → R D) : En → SR :=
  (sRet (cCall dSum (cCons (cCallF F_payments (cCons (cVar 0) (cCons (cVar 1) cNil))) cNil)))
def f_income : List D → R D := runF 2 2 (g_income f_payments)
def g_l_shown (F_first_lie : List D → R D) (F_gains : List D → R D) (F_payments : List D → R D) (F_together_gain : List D → R D) : En → SR :=
  (sSeq (sSet 0 (cList (cCons (cList (cCons (cK (.int 0)) (cCons (cK (.int 10)) cNil))) (cCons (cList (cCons (cK (.int 0)) (cCons (cK (.int 4)) cNil))) cNil))))
    (sSeq (sIf (cOr (cBinT dNe (cCallF F_first_lie (cCons (cVar 0) (cCons (cK (.int 0)) (cCons (cK (.str "bid")) (cCons (cList (cCons (cList (cCons (cK (.int 0)) (cCons (cK (.int 10)) cNil))) (cCons (cList (cCons (cK (.int 0)) (cCons (cK (.int 5)) cNil))) cNil))) cNil))))) (cTup (cCons (cK (.int 1)) (cCons (cK (.int 5)) cNil)))) (cBinT dIsNot (cCallF F_first_lie (cCons (cVar 0) (cCons (cK (.int 0)) (cCons (cK (.str "fair")) (cCons (cList (cCons (cList (cCons (cK (.int 0)) (cCons (cK (.int 10)) cNil))) (cCons (cList (cCons (cK (.int 0)) (cCons (cK (.int 5)) cNil))) (cCons (cList (cCons (cK (.int 0)) (cCons (cK (.int 3)) cNil))) (cCons (cList (cCons (cK (.int 0)) (cCons (cK (.int 99)) cNil))) cNil))))) cNil))))) (cK .none)))
    (sRet (cK (.bool false)))
    sNext)
    (sSeq (sSet 1 (cList (cCons (cList (cCons (cK (.int 0)) (cCons (cK (.int 0)) (cCons (cK (.int 0)) (cCons (cK (.int 10)) cNil))))) (cCons (cList (cCons (cK (.int 0)) (cCons (cK (.int 2)) (cCons (cK (.int 0)) (cCons (cK (.int 2)) cNil))))) (cCons (cList (cCons (cK (.int 0)) (cCons (cK (.int 0)) (cCons (cK (.int 2)) (cCons (cK (.int 2)) cNil))))) cNil)))))
    (sSeq (sIf (cOr (cBinT dNe (cCallF F_gains (cCons (cVar 1) (cCons (cK (.str "fair")) cNil))) (cList (cCons (cK (.int 6)) (cCons (cK (.int 0)) (cCons (cK (.int 0)) cNil))))) (cBinT dNe (cCallF F_payments (cCons (cVar 1) (cCons (cK (.str "fair")) cNil))) (cList (cCons (cK (.int 4)) (cCons (cK (.int 0)) (cCons (cK (.int 0)) cNil))))))
    (sRet (cK (.bool false)))
    sNext)
    (sRet (cBin dEq (cCallF F_together_gain (cCons (cVar 1) (cCons (cK (.int 1)) (cCons (cK (.int 2)) (cCons (cK (.str "fair")) (cCons (cList (cCons (cK (.int 0)) (cCons (cK (.int 10)) (cCons (cK (.int 0)) (cCons (cK (.int 10)) cNil))))) (cCons (cList (cCons (cK (.int 0)) (cCons (cK (.int 0)) (cCons (cK (.int 10)) (cCons (cK (.int 10)) cNil))))) cNil))))))) (cK (.int 4))))))))
def f_l_shown : List D → R D := runF 2 0 (g_l_shown f_first_lie f_gains f_payments f_together_gain)
def g_worths (F_number_of : List D → R D) (F_within : List D → R D) (F_inner : List D → R D) (F_worths : List D → R D) (F_most_of : List D → R D) (F_up_to : List D → R D) : En → SR :=
  (sSeq (sIf (cBinT dEq (cBin dIx (cVarB 0) (cK (.int 0))) (cK (.str "one")))
    (sSeq (sSet 3 (cCallF F_number_of (cCons (cBin dIx (cVarB 0) (cK (.int 1))) cNil)))
    (sRet (cLc [5] (cIter dRange1 (cCons (cBin dIx (cK (.tuple [(.int 1), (.int 2), (.int 4), (.int 8), (.int 16), (.int 32), (.int 64)])) (cVar 1)) cNil)) (gN 5) cTrue (cIf (cTest (cCallF F_within (cCons (cVar 3) (cCons (cVar 5) cNil)))) (cBin dIx (cVarB 0) (cK (.int 2))) (cK (.int 0))))))
    sNext)
    (sSeq (sSet 2 (cLc [4] (cItems (cCallF F_inner (cCons (cVar 0) cNil))) (gN 4) cTrue (cCallF F_worths (cCons (cVar 4) (cCons (cVar 1) cNil)))))
    (sSeq (sIf (cBinT dEq (cBin dIx (cVarB 0) (cK (.int 0))) (cK (.str "xor")))
    (sRet (cCallF F_most_of (cCons (cVar 2) cNil)))
    sNext)
    (sRet (cCallF F_up_to (cCons (cVar 2) (cCons (cIf (cBinT dEq (cBin dIx (cVarB 0) (cK (.int 0))) (cK (.str "up"))) (cBin dIx (cVarB 0) (cK (.int 1))) (cCall dLen (cCons (cVarB 2) cNil))) cNil)))))))
def f_worths_n : Nat → List D → R D
  | 0 => fun _ => .no
  | n + 1 => runF 6 2 (g_worths f_number_of f_within f_inner (f_worths_n n) f_most_of f_up_to)
def f_worths : List D → R D := f_worths_n 8
def g_lies_about (F_check_table : List D → R D) (F_normal : List D → R D) (F_worths : List D → R D) (F_tree_of : List D → R D) (F_changed : List D → R D) (F_goods_in : List D → R D) : En → SR :=
  (sSeq (sExpr (cCallF F_check_table (cCons (cVar 0) cNil)))
    (sSeq (sSet 1 (cCallF F_normal (cCons (cVar 0) cNil)))
    (sSeq (sSetN 2 false (cList cNil))
    (sSeq (sFor (gT (gC (gN 3) (gC (gT (gC (gN 5) (gC (gN 6) gE))) gE))) (cIter dEnum (cCons (cVar 1) cNil))
    (sFor (gN 4) (cItems (cTup (cCons (cK (.int 0)) (cCons (cBin dDiv (cVarB 6) (cK (.int 2))) (cCons (cBin dSub (cVarB 6) (cK (.int 1))) (cCons (cBin dAdd (cVar 6) (cK (.int 1))) (cCons (cBin dMul (cK (.int 2)) (cVarB 6)) cNil)))))))
    (sSeq (sSet 7 (cCallF F_worths (cCons (cCallF F_tree_of (cCons (cCallF F_changed (cCons (cVar 1) (cCons (cVar 3) (cCons (cVar 4) cNil)))) cNil)) (cCons (cCallF F_goods_in (cCons (cVar 0) cNil)) cNil))))
    (sIf (cAnd (cBinT dNe (cVarB 7) (cVarB 0)) (cBinT dNotIn (cVar 7) (cVarB 2)))
    (sAppend 2 (cVar 7))
    sNext))))
    (sRet (cVar 2))))))
def f_lies_about : List D → R D := runF 8 1 (g_lies_about f_check_table f_normal f_worths f_tree_of f_changed f_goods_in)
def g_l_fault (F_payments : List D → R D) (F_gains : List D → R D) (F_income : List D → R D) (F_gain : List D → R D) (F_first_lie : List D → R D) (F_together_gain : List D → R D) (F_lies_about : List D → R D) : En → SR :=
  (sSeq (sTryAt 5 (sIf (cBinT dEq (cVarB 0) (cK (.int 0)))
    (sExpr (cCallF F_payments (cCons (cVar 1) (cCons (cVar 2) cNil))))
    (sIf (cBinT dEq (cVarB 0) (cK (.int 1)))
    (sExpr (cCallF F_gains (cCons (cVar 1) (cCons (cVar 2) cNil))))
    (sIf (cBinT dEq (cVarB 0) (cK (.int 2)))
    (sExpr (cCallF F_income (cCons (cVar 1) (cCons (cVar 2) cNil))))
    (sIf (cBinT dEq (cVarB 0) (cK (.int 3)))
    (sExpr (cCallF F_gain (cCons (cVar 1) (cCons (cVar 3) (cCons (cVar 2) (cCons (cVar 4) cNil))))))
    (sIf (cBinT dEq (cVarB 0) (cK (.int 4)))
    (sExpr (cCallF F_first_lie (cCons (cVar 1) (cCons (cVar 3) (cCons (cVar 2) (cCons (cList (cCons (cVar 4) cNil)) cNil))))))
    (sIf (cBinT dEq (cVarB 0) (cK (.int 5)))
    (sExpr (cCallF F_together_gain (cCons (cVar 1) (cCons (cVar 3) (cCons (cK (.int 0)) (cCons (cVar 2) (cCons (cVar 4) (cCons (cVar 4) cNil))))))))
    (sExpr (cCallF F_lies_about (cCons (cVar 4) cNil))))))))) [([("BadTable", false), ("BadBook", true), ("BadBidder", false), ("BadWord", false)], "book"), ([("BadTable", true), ("BadBook", false), ("BadBidder", false), ("BadWord", false)], "table"), ([("BadTable", false), ("BadBook", false), ("BadBidder", false), ("BadWord", true)], "word"), ([("BadTable", false), ("BadBook", false), ("BadBidder", true), ("BadWord", false)], "bidder")])
    (sRet (cTup (cCons (cK (.str "")) (cCons (cK (.int 0)) cNil)))))
def f_l_fault : List D → R D := runF 6 5 (g_l_fault f_payments f_gains f_income f_gain f_first_lie f_together_gain f_lies_about)
def g_l_faults (F_l_fault : List D → R D) : En → SR :=
  (sSeq (sSet 0 (cList (cCons (cK (.int 0)) (cCons (cK (.int 1)) cNil))))
    (sSeq (sFor (gN 1) (cIter dRange1 (cCons (cK (.int 6)) cNil))
    (sSeq (sIf (cOr (cBinT dNe (cCallF F_l_fault (cCons (cVar 1) (cCons (cList cNil) (cCons (cK (.str "x")) (cCons (cK (.int 9)) (cCons (cList cNil) cNil)))))) (cTup (cCons (cK (.str "book")) (cCons (cK (.int 0)) cNil)))) (cOr (cBinT dNe (cCallF F_l_fault (cCons (cVar 1) (cCons (cList (cCons (cVar 0) (cCons (cList (cCons (cK (.int 0)) (cCons (cK (.int 1)) (cCons (cK (.int 1)) (cCons (cK (.int 1)) cNil))))) cNil))) (cCons (cK (.str "x")) (cCons (cK (.int 9)) (cCons (cList cNil) cNil)))))) (cTup (cCons (cK (.str "table")) (cCons (cK (.int 1)) cNil)))) (cBinT dNe (cCallF F_l_fault (cCons (cVar 1) (cCons (cList (cCons (cVar 0) (cCons (cVar 0) cNil))) (cCons (cK (.str "x")) (cCons (cK (.int 9)) (cCons (cList cNil) cNil)))))) (cTup (cCons (cK (.str "word")) (cCons (cK (.int 0)) cNil))))))
    (sRet (cK (.bool false)))
    sNext)
    (sIf (cBinT dGt (cVarB 1) (cK (.int 2)))
    (sSeq (sFor (gN 2) (cItems (cList (cCons (cK (.int 2)) (cCons (cUn dNeg (cK (.int 1))) cNil))))
    (sIf (cBinT dNe (cCallF F_l_fault (cCons (cVar 1) (cCons (cList (cCons (cVar 0) (cCons (cVar 0) cNil))) (cCons (cK (.str "fair")) (cCons (cVar 2) (cCons (cList cNil) cNil)))))) (cTup (cCons (cK (.str "bidder")) (cCons (cVar 2) cNil))))
    (sRet (cK (.bool false)))
    sNext))
    (sIf (cOr (cBinT dNe (cCallF F_l_fault (cCons (cVar 1) (cCons (cList (cCons (cVar 0) (cCons (cVar 0) cNil))) (cCons (cK (.str "fair")) (cCons (cK (.int 1)) (cCons (cList (cCons (cK (.int 0)) (cCons (cK (.int 1)) (cCons (cK (.int 1)) (cCons (cK (.int 1)) cNil))))) cNil)))))) (cTup (cCons (cK (.str "table")) (cCons (cK (.int 0)) cNil)))) (cBinT dNe (cCallF F_l_fault (cCons (cVar 1) (cCons (cList (cCons (cVar 0) (cCons (cVar 0) cNil))) (cCons (cK (.str "bid")) (cCons (cK (.int 1)) (cCons (cList (cCons (cK (.int 1)) (cCons (cK (.int 1)) cNil))) cNil)))))) (cTup (cCons (cK (.str "table")) (cCons (cK (.int 0)) cNil)))))
    (sRet (cK (.bool false)))
    sNext))
    sNext)))
    (sRet (cAndV (cBin dEq (cCallF F_l_fault (cCons (cK (.int 5)) (cCons (cList (cCons (cVar 0) (cCons (cVar 0) cNil))) (cCons (cK (.str "fair")) (cCons (cK (.int 0)) (cCons (cVar 0) cNil)))))) (cTup (cCons (cK (.str "bidder")) (cCons (cK (.int 0)) cNil)))) (cBin dEq (cCallF F_l_fault (cCons (cK (.int 6)) (cCons (cList cNil) (cCons (cK (.str "")) (cCons (cK (.int 0)) (cCons (cList (cCons (cK (.int 0)) cNil)) cNil)))))) (cTup (cCons (cK (.str "table")) (cCons (cK (.int 0)) cNil))))))))
def f_l_faults : List D → R D := runF 3 0 (g_l_faults f_l_fault)
def g_law (F_l_draws : List Int → R D) (F_l_mix : List D → R D) (F_l_book : List D → R D) (F_l_best : List D → R D) (F_l_paid : List D → R D) (F_l_at : List D → R D) (F_payments : List D → R D) (F_gains : List D → R D) (F_income : List D → R D) (F_l_lies : List D → R D) (F_l_drawn : List D → R D) (F_l_gain : List D → R D) (F_l_with : List D → R D) (F_gain : List D → R D) (F_lies_about : List D → R D) (F_first_lie : List D → R D) (F_together_gain : List D → R D) (F_best : List D → R D) (F_l_shown : List D → R D) (F_l_faults : List D → R D) : En → SR :=
  (sSeq (sSet 1 (cCallS 0 F_l_draws))
    (sSeq (sSet 2 (cBin dAdd (cK (.int 1)) (cCallF F_l_mix (cCons (cVar 1) (cCons (cK (.int 0)) (cCons (cK (.int 3)) cNil))))))
    (sSeq (sSet 3 (cCallF F_l_book (cCons (cVar 1) (cCons (cK (.int 10)) (cCons (cK (.int 4)) (cCons (cVar 2) cNil))))))
    (sSeq (sSet 4 (cUn dRepr (cVar 3)))
    (sSeq (sAsg (gT (gC (gN 6) (gC (gN 7) gE))) (cCallF F_l_best (cCons (cVar 3) (cCons (cVar 2) cNil))))
    (sSeq (sFor (gN 5) (cItems (cList (cCons (cK (.str "fair")) (cCons (cK (.str "bid")) (cCons (cK (.str "none")) cNil)))))
    (sSeq (sSet 8 (cCallF F_l_paid (cCons (cVar 3) (cCons (cVar 2) (cCons (cVar 5) cNil)))))
    (sSeq (sSet 9 (cLc [10] (cIter dRange1 (cCons (cCall dLen (cCons (cVarB 3) cNil)) cNil)) (gN 10) cTrue (cBin dSub (cCallF F_l_at (cCons (cBin dIx (cVarB 3) (cVar 10)) (cCons (cBin dIx (cVarB 6) (cVar 10)) cNil))) (cBin dIx (cVarB 8) (cVar 10)))))
    (sSeq (sIf (cOr (cBinT dNe (cCallF F_payments (cCons (cVar 3) (cCons (cVar 5) cNil))) (cVarB 8)) (cOr (cBinT dNe (cCallF F_gains (cCons (cVar 3) (cCons (cVar 5) cNil))) (cVarB 9)) (cBinT dNe (cCallF F_income (cCons (cVar 3) (cCons (cVar 5) cNil))) (cCall dSum (cCons (cVarB 8) cNil)))))
    (sRet (cK (.bool false)))
    sNext)
    (sSeq (sIf (cBinT dNe (cLc [10] (cIter dRange1 (cCons (cCall dLen (cCons (cVarB 3) cNil)) cNil)) (gN 10) (cNot (cChainT dLe dLe (cK (.int 0)) (cBin dIx (cVarB 8) (cVar 10)) (cCallF F_l_at (cCons (cBin dIx (cVarB 3) (cVar 10)) (cCons (cBin dIx (cVarB 6) (cVar 10)) cNil))))) (cVar 10)) (cList cNil))
    (sRet (cK (.bool false)))
    sNext)
    (sSeq (sSet 10 (cCallF F_l_mix (cCons (cVar 1) (cCons (cK (.int 1)) (cCons (cCall dLen (cCons (cVarB 3) cNil)) cNil)))))
    (sSeq (sSet 11 (cCallF F_l_lies (cCons (cBin dIx (cVarB 3) (cVar 10)) (cCons (cVar 2) cNil))))
    (sSeq (sSet 12 (cBin dAdd (cLc [19] (cIter dRange1 (cCons (cK (.int 3)) cNil)) (gN 19) cTrue (cCallF F_l_drawn (cCons (cVar 1) (cCons (cBin dAdd (cK (.int 420)) (cBin dMul (cK (.int 40)) (cVarB 19))) (cCons (cVar 2) cNil))))) (cSlice (cVar 11) cPartN (cPart (cK (.int 6))))))
    (sSeq (sSet 13 (cLc [18] (cItems (cVar 12)) (gN 18) cTrue (cBin dSub (cCallF F_l_gain (cCons (cCallF F_l_with (cCons (cVar 3) (cCons (cVar 10) (cCons (cVar 18) cNil)))) (cCons (cBin dIx (cVarB 3) (cVar 10)) (cCons (cVar 2) (cCons (cVar 10) (cCons (cVar 5) cNil)))))) (cBin dIx (cVarB 9) (cVar 10)))))
    (sSeq (sIf (cOr (cBinT dNe (cLc [18] (cItems (cVar 12)) (gN 18) cTrue (cCallF F_gain (cCons (cVar 3) (cCons (cVar 10) (cCons (cVar 5) (cCons (cVar 18) cNil)))))) (cLc [20] (cItems (cVar 13)) (gN 20) cTrue (cBin dAdd (cVar 20) (cBin dIx (cVarB 9) (cVar 10))))) (cBinT dNe (cCallF F_lies_about (cCons (cBin dIx (cVarB 3) (cVar 10)) cNil)) (cVarB 11)))
    (sRet (cK (.bool false)))
    sNext)
    (sSeq (sIf (cAnd (cBinT dEq (cVarB 5) (cK (.str "fair"))) (cBinT dGt (cCall dMax (cCons (cBin dAdd (cList (cCons (cK (.int 0)) cNil)) (cVar 13)) cNil)) (cK (.int 0))))
    (sRet (cK (.bool false)))
    sNext)
    (sSeq (sSet 14 (cLc [15] (cIter dRange1 (cCons (cCall dLen (cCons (cVarB 12) cNil)) cNil)) (gN 15) (cBinT dGt (cBin dIx (cVarB 13) (cVar 15)) (cK (.int 0))) (cTup (cCons (cVar 15) (cCons (cBin dIx (cVarB 13) (cVar 15)) cNil)))))
    (sSeq (sIf (cBinT dNe (cUn dRepr (cCallF F_first_lie (cCons (cVar 3) (cCons (cVar 10) (cCons (cVar 5) (cCons (cVar 12) cNil)))))) (cUn dRepr (cBin dIx (cBin dAdd (cVar 14) (cList (cCons (cK .none) cNil))) (cK (.int 0)))))
    (sRet (cK (.bool false)))
    sNext)
    (sSeq (sIf (cAnd (cBinT dEq (cVarB 5) (cK (.str "fair"))) (cBinT dIsNot (cCallF F_first_lie (cCons (cVar 3) (cCons (cVar 10) (cCons (cVar 5) (cCons (cCallF F_lies_about (cCons (cBin dIx (cVarB 3) (cVar 10)) cNil)) cNil))))) (cK .none)))
    (sRet (cK (.bool false)))
    sNext)
    (sIf (cBinT dGt (cCall dLen (cCons (cVarB 3) cNil)) (cK (.int 1)))
    (sSeq (sSet 15 (cBin dMod (cCall dInt (cCons (cBin dAdd (cVar 10) (cK (.int 1))) cNil)) (cCall dLen (cCons (cVarB 3) cNil))))
    (sSeq (sSet 16 (cCallF F_l_with (cCons (cCallF F_l_with (cCons (cVar 3) (cCons (cVar 10) (cCons (cBin dIx (cVarB 12) (cK (.int 0))) cNil)))) (cCons (cVar 15) (cCons (cBin dIx (cVarB 12) (cK (.int 1))) cNil)))))
    (sSeq (sSet 17 (cBin dSub (cBin dSub (cBin dAdd (cCallF F_l_gain (cCons (cVar 16) (cCons (cBin dIx (cVarB 3) (cVar 10)) (cCons (cVar 2) (cCons (cVar 10) (cCons (cVar 5) cNil)))))) (cCallF F_l_gain (cCons (cVar 16) (cCons (cBin dIx (cVarB 3) (cVar 15)) (cCons (cVar 2) (cCons (cVar 15) (cCons (cVar 5) cNil))))))) (cBin dIx (cVarB 9) (cVar 10))) (cBin dIx (cVarB 9) (cVar 15))))
    (sIf (cBinT dNe (cCallF F_together_gain (cCons (cVar 3) (cCons (cVar 10) (cCons (cVar 15) (cCons (cVar 5) (cCons (cBin dIx (cVarB 12) (cK (.int 0))) (cCons (cBin dIx (cVarB 12) (cK (.int 1))) cNil))))))) (cVarB 17))
    (sRet (cK (.bool false)))
    sNext))))
    sNext)))))))))))))))
    (sRet (cAndV (cBin dEq (cCallF F_best (cCons (cVar 3) cNil)) (cTup (cCons (cVar 6) (cCons (cVar 7) cNil)))) (cAndV (cBin dEq (cUn dRepr (cVar 3)) (cVarB 4)) (cAndV (cCallF F_l_shown fun _ => .ok []) (cCallF F_l_faults fun _ => .ok [])))))))))))
def f_law : List Int → R D := runS 21 (g_law f_l_draws f_l_mix f_l_book f_l_best f_l_paid f_l_at f_payments f_gains f_income f_l_lies f_l_drawn f_l_gain f_l_with f_gain f_lies_about f_first_lie f_together_gain f_best f_l_shown f_l_faults)
end K04


namespace K04
open PySem PySem.Spec PyProof.Rows L2 G

abbrev w_c : En → R Bool := cBinT dGt (cVarB 2) (cK (.int 0))
abbrev w_b : En → SR := sSeq (sIf (cBinT dGt (cBin dMod (cVarB 2) (cK (.int 2))) (cBin dMod (cVarB 3) (cK (.int 2)))) (sRet (cK (.bool false))) sNext)
      (sPar 2 3 (cCons (cBin dDiv (cVarB 2) (cK (.int 2))) (cCons (cBin dDiv (cVarB 3) (cK (.int 2))) cNil)))
theorem within_loop (x y : Option Sl) : ∀ (n a b : Nat), a < 2 ^ n → ∃ a' b' : Nat, whileL w_c w_b (n + 1) [x, y, some (.v (nD a)), some (.v (nD b))] =
    if C.subF n a b = true then .nx [x, y, some (.v (nD a')), some (.v (nD b'))] else .rt (.bool false)
  | 0, a, b, h => by
    have : a = 0 := by simp at h; exact h
    subst this
    exact ⟨0, b, whileL_stop (by simp [cVar, cVarB, cK, cBin, cBinT, cCons, cNil, sNext, sSeq, sRet, sIf, sSet, sPar, SR.of, SR.out, enter, runF, ofO, toI, toB, disown, G.letGo, dSub, dNeg, dLe, dGt, dGe, R.bind])⟩
  | n + 1, a, b, h => by
    by_cases ha : a = 0
    · subst ha
      exact ⟨0, b, whileL_stop (by simp [cVar, cVarB, cK, cBin, cBinT, cCons, cNil, sNext, sSeq, sRet, sIf, sSet, sPar, SR.of, SR.out, enter, runF, ofO, toI, toB, disown, G.letGo, dSub, dNeg, dLe, dGt, dGe, R.bind])⟩
    · have hc : w_c [x, y, some (.v (nD a)), some (.v (nD b))] = .ok true := by simp [cVar, cVarB, cK, cBin, cBinT, cCons, cNil, sNext, sSeq, sRet, sIf, sSet, sPar, SR.of, SR.out, enter, runF, ofO, toI, toB, disown, G.letGo, dSub, dNeg, dLe, dGt, dGe, R.bind]; omega
      by_cases hb : b % 2 < a % 2
      · refine ⟨0, 0, (whileL_ret (d := .bool false) hc ?_).trans ?_⟩
        · simp [cVar, cVarB, cK, cBin, cBinT, cCons, cNil, sNext, sSeq, sRet, sIf, sSet, sPar, SR.of, SR.out, enter, runF, ofO, toI, toB, disown, G.letGo, dSub, dNeg, dLe, dGt, dGe, R.bind]
          rw [if_pos (by omega)]
        · simp [C.subF, ha, hb]
      · obtain ⟨a', b', ih⟩ := within_loop x y n (a / 2) (b / 2) (by rw [Nat.pow_succ] at h; omega)
        refine ⟨a', b', (whileL_step (ρ2 := [x, y, some (.v (nD (a / 2))), some (.v (nD (b / 2)))]) hc ?_).trans ?_⟩
        · simp [cVar, cVarB, cK, cBin, cBinT, cCons, cNil, sNext, sSeq, sRet, sIf, sSet, sPar, SR.of, SR.out, enter, runF, ofO, toI, toB, disown, G.letGo, dSub, dNeg, dLe, dGt, dGe, R.bind]
          rw [if_neg (by omega)]
          simp
        · rw [ih]
          simp [C.subF, ha, hb]
theorem within_eq (a b : Nat) (h : a < 2 ^ 99) : f_within [nD a, nD b] = .ok (.bool (C.sub a b)) := by
  obtain ⟨a', b', e⟩ := within_loop (some (.v (nD a))) (some (.v (nD b))) 99 a b h
  unfold f_within
  simp [g_within, sWhile, e, cVar, cVarB, cK, cBin, cBinT, cCons, cNil, sNext, sSeq, sRet, sIf, sSet, sPar, SR.of, SR.out, enter, runF, ofO, toI, toB, disown, G.letGo, dSub, dNeg, dLe, dGt, dGe, R.bind]
  unfold C.sub
  cases C.subF 99 a b <;> rfl
end K04

namespace K04
open PySem PySem.Spec PyProof.Rows L2 G
theorem parts_len (w : Nat) : (C.parts w).length ≤ w + 1 := by
  have := List.length_filter_le (fun p => C.sub p w) (List.range (w + 1))
  simpa [C.parts] using this
theorem range1 (w : Nat) (h : w < 2 ^ 20) : dRange1 [.int ((w : Int) + 1)] = some ((List.range (w + 1)).map nD) := dRange1_nat (n := w + 1) (by omega)
theorem parts_lc (w : Nat) (h : w < 2 ^ 20) : lcL (gN 1) (cTest (cCallF f_within (cCons (cVar 1) (cCons (cVar 0) cNil)))) (cVar 1) [some (.v (nD w)), none] ((List.range (w + 1)).map nD) = some ((C.parts w).map nD) := 
  lcL_gen (enc := nD) (fun p => [some (.v (nD w)), some (.v (nD p))]) (fun p => C.sub p w) nD fun p hp => ⟨rfl, by
    rw [List.mem_range] at hp
    have := within_eq p w (by omega)
    show ((f_within [nD p, nD w]).bind fun d => ofO (toB d)) = _
    rw [this]
    rfl, fun _ => rfl⟩
theorem parts_sz (w : Nat) (h : w < 2 ^ 20) : ((C.parts w).map nD).length ≤ sizeLine := by rw [List.length_map]; have := parts_len w; unfold sizeLine; omega
theorem parts_eq (w : Nat) (h : w < 2 ^ 20) : f_parts_of [nD w] = .ok (.list ((C.parts w).map nD)) := by
  unfold f_parts_of g_parts_of
  refine runF_of rfl (sRet_of (ρ := [some (.v (nD w)), none]) ?_)
  refine cLc_of (cIter1_of (d := .int ((w : Int) + 1)) ?_ (range1 w h)) (parts_lc w h) (parts_sz w h)
  exact cBin_of rfl rfl rfl
theorem parts_ne (w : Nat) : C.parts w ≠ [] := by
  intro z
  have := C.zero_part w
  rw [z] at this
  cases this
/-- one wish's table and what the others make -/
theorem most_at_eq (t o : List Int) (w : Nat) (h : w < 2 ^ 20) (h1 : w < t.length) (h2 : w < o.length) :
    f_most_at [tD t, tD o, nD w] = .ok (.int (C.top ((C.parts w).map fun p => C.at_ t p + C.at_ o (w - p)))) := by
  have e := lcL_map (tgt := gN 3) (f := cBin dAdd (cBin dIx (cVarB 0) (cVar 3)) (cBin dIx (cVarB 1) (cBin dSub (cVarB 2) (cVarB 3)))) (ρ := [some (.v (tD t)), some (.v (tD o)), some (.v (nD w)), none]) (enc := nD) (fun p => [some (.v (tD t)), some (.v (tD o)), some (.v (nD w)), some (.v (nD p))]) (fun p => .int (C.at_ t p + C.at_ o (w - p))) (xs := C.parts w) fun p hp => ⟨rfl, by
    have hp := C.part_le hp
    have e1 : dIx (tD t) (nD p) = some (.int (C.at_ t p)) := by rw [dIx_nat, List.getElem?_map, getD_tbl (by omega)]; rfl
    have e2 : dIx (tD o) (.int ((w : Int) - p)) = some (.int (C.at_ o (w - p))) := by
      rw [show (w : Int) - p = ((w - p : Nat) : Int) by omega, dIx_nat, List.getElem?_map, getD_tbl (by omega)]; rfl
    exact cBin_of (cBin_of rfl rfl e1) (cBin_of rfl (cBin_of rfl rfl rfl) e2) rfl⟩
  unfold f_most_at g_most_at
  refine runF_of rfl (sRet_of (ρ := [some (.v (tD t)), some (.v (tD o)), some (.v (nD w)), none]) ?_)
  refine cCall1_of (cLc_of (cItems_of (cCallF1_of (d := nD w) rfl (parts_eq w h))) e ?_) ?_
  · rw [List.length_map, ← List.length_map (f := nD)]; exact parts_sz w h
  · rw [← dMax_top (by simpa using parts_ne w), tD, List.map_map]
    rfl
/-! ### the rows of rests -/
/-- what the tables make of each whole, of g goods -/
def row (n : Nat) (b : List (List Int)) : List Int := (List.range n).map fun w => C.best b w
def rows (n : Nat) : List (List Int) → List (List Int)
  | [] => [row n []]
  | t :: ts => row n (t :: ts) :: rows n ts
theorem row_len (n : Nat) (b : List (List Int)) : (row n b).length = n := by simp [row]
theorem row_at {n w : Nat} (b : List (List Int)) (h : w < n) : C.at_ (row n b) w = C.best b w := by
  simp [C.at_, row, h]
theorem row_cons (n : Nat) (t : List Int) (ts : List (List Int)) : row n (t :: ts) = (List.range n).map fun w => C.top ((C.parts w).map fun p => C.at_ t p + C.at_ (row n ts) (w - p)) := by
  refine List.map_congr_left fun w hw => ?_
  rw [List.mem_range] at hw
  show C.top _ = _
  refine congrArg C.top (List.map_congr_left fun p hp => ?_)
  rw [row_at ts (by omega)]
abbrev bD (b : List (List Int)) : D := .list (b.map tD)
theorem rests_step (n : Nat) (hn : n < 2 ^ 19) (b : D) (t : List Int) (ts : List (List Int)) (x : Option Sl) (f : Bool) (done : List D) (ht : t.length = n) (hd : done.length < 2 ^ 20) :
    (sSeq (sSet 3 (cBin dIx (cVarB 1) (cUn dNeg (cK (.int 1)))))
      (sAppend 1 (cLc [4] (cIter dRange1 (cCons (cCall dLen (cCons (cVarB 2) cNil)) cNil)) (gN 4) cTrue (cCallF f_most_at (cCons (cVar 2) (cCons (cVar 3) (cCons (cVar 4) cNil))))))) [some (.v b), some (.own f (.list (done ++ [tD (row n ts)]))), some (.v (tD t)), x, none] =
    .nx [some (.v b), some (.own f (.list (done ++ [tD (row n ts)] ++ [tD (row n (t :: ts))]))), some (.v (tD t)), some (.v (tD (row n ts))), none] := by
  have e := lcL_map (tgt := gN 4) (f := cCallF f_most_at (cCons (cVar 2) (cCons (cVar 3) (cCons (cVar 4) cNil)))) (ρ := [some (.v b), some (.own f (.list (done ++ [tD (row n ts)]))), some (.v (tD t)), some (.v (tD (row n ts))), none]) (enc := nD)
    (fun w => [some (.v b), some (.own f (.list (done ++ [tD (row n ts)]))), some (.v (tD t)), some (.v (tD (row n ts))), some (.v (nD w))]) (fun w => .int (C.top ((C.parts w).map fun p => C.at_ t p + C.at_ (row n ts) (w - p)))) (xs := List.range n) fun w hw => ⟨rfl, by
      rw [List.mem_range] at hw
      exact cCallF_of (ds := [tD t, tD (row n ts), nD w]) rfl (most_at_eq t (row n ts) w (by omega) (by omega) (by rw [row_len]; exact hw))⟩
  refine sSeq_nx (sSet_of (d := tD (row n ts)) ?_) ((sAppend_of (d := tD (row n (t :: ts))) rfl (cLc_of (cIter1_of (d := nD n) ?_ (dRange1_nat (by omega))) (by rw [row_cons, List.map_map]; exact e) ?_) ?_).trans ?_)
  · exact cBin_of rfl rfl (by rw [dIx_last]; simp)
  · exact cCall1_of (d := tD t) rfl (by rw [dLen_list, List.length_map, ht])
  · rw [List.length_map, row_len]; unfold sizeLine; omega
  · simp; unfold sizeLine; omega
  · simp
theorem rows_head (n : Nat) (ts : List (List Int)) : ∃ r, rows n ts = row n ts :: r ∧ r.length = ts.length := by
  induction ts with
  | nil => exact ⟨[], rfl, rfl⟩
  | cons t ts ih => obtain ⟨r, e, l⟩ := ih; exact ⟨rows n ts, rfl, by rw [e]; simp [l]⟩
abbrev rests_b : En → SR := (sSeq (sSet 3 (cBin dIx (cVarB 1) (cUn dNeg (cK (.int 1)))))
      (sAppend 1 (cLc [4] (cIter dRange1 (cCons (cCall dLen (cCons (cVarB 2) cNil)) cNil)) (gN 4) cTrue (cCallF f_most_at (cCons (cVar 2) (cCons (cVar 3) (cCons (cVar 4) cNil)))))))
theorem rests_loop (n : Nat) (hn : n < 2 ^ 19) (b : D) (f : Bool) : ∀ (l ts : List (List Int)) (x y : Option Sl), (∀ t ∈ l, t.length = n) → ts.length + l.length < 2 ^ 19 → ∃ x' y', loopL (gN 2) rests_b (l.map tD) [some (.v b), some (.own f (.list ((rows n ts).reverse.map tD))), x, y, none] = .nx [some (.v b), some (.own f (.list ((rows n (l.reverse ++ ts)).reverse.map tD))), x', y', none]
  | [], ts, x, y, _, _ => ⟨x, y, rfl⟩
  | t :: l, ts, x, y, hl, hz => by
    obtain ⟨r, er, lr⟩ := rows_head n ts
    obtain ⟨x', y', ih⟩ := rests_loop n hn b f l (t :: ts) (some (.v (tD t))) (some (.v (tD (row n ts)))) (fun a h => hl a (List.mem_cons_of_mem _ h)) (by simp at hz ⊢; omega)
    refine ⟨x', y', loopL_nx (ρ1 := [some (.v b), some (.own f (.list (r.reverse.map tD ++ [tD (row n ts)]))), some (.v (tD t)), y, none]) ?_ (rests_step n hn b t ts y f (r.reverse.map tD) (hl t List.mem_cons_self) ?_) ?_⟩
    · rw [er]; simp [gN]
    · rw [List.length_map, List.length_reverse, lr]; omega
    · have e : ((rows n (t :: ts)).reverse.map tD) = r.reverse.map tD ++ [tD (row n ts)] ++ [tD (row n (t :: ts))] := by
        show ((row n (t :: ts) :: rows n ts).reverse.map tD) = _
        rw [er]; simp
      rw [← e]
      rw [show (t :: l).reverse ++ ts = l.reverse ++ (t :: ts) by simp]
      exact ih
theorem row_nil (n : Nat) : row n [] = List.replicate n 0 := List.eq_replicate_iff.mpr ⟨by simp [row], fun x hx => by
  simp [row, C.best] at hx
  exact hx.2.symm⟩
theorem rests_eq (n : Nat) (hn : n < 2 ^ 19) (t : List Int) (ts : List (List Int)) (hl : ∀ a ∈ t :: ts, a.length = n) (hz : (t :: ts).length < 2 ^ 19) : f_rests [bD (t :: ts)] = .ok (.list ((rows n (t :: ts)).map tD)) := by
  obtain ⟨x', y', e⟩ := rests_loop n hn (bD (t :: ts)) false (t :: ts).reverse [] none none (fun a h => hl a (List.mem_reverse.mp h)) (by simpa using hz)
  unfold f_rests g_rests
  have hn2 : t.length = n := hl t List.mem_cons_self
  have e1 : dMul (.list [.int 0]) (nD n) = some (tD (row n [])) := by
    have : dMul (.list [.int 0]) (nD n) = if (n : Int) < 1000000 ∧ [PyData.int 0].length * (n : Int).toNat ≤ sizeLine ∧ -1000000 < (n : Int) then some (PyData.list (List.replicate (n : Int).toNat [PyData.int 0]).flatten) else none := by simp only [dMul]
    rw [this, if_pos ⟨by omega, by simp; unfold sizeLine; omega, by omega⟩]
    rw [row_nil, tD, List.map_replicate, List.flatten_replicate_singleton]
    simp
  have e0 : cList (cCons (cBin dMul (cList (cCons (cK (.int 0)) cNil)) (cCall dLen (cCons (cBin dIx (cVarB 0) (cK (.int 0))) cNil))) cNil) [some (.v (bD (t :: ts))), none, none, none, none] = .ok (.list ((rows n []).reverse.map tD)) := by
    have h1 : cBin dIx (cVarB 0) (cK (.int 0)) [some (.v (bD (t :: ts))), none, none, none, none] = .ok (tD t) := cBin_of rfl rfl (by rw [dIx_zero]; rfl)
    have h2 : cBin dMul (cList (cCons (cK (.int 0)) cNil)) (cCall dLen (cCons (cBin dIx (cVarB 0) (cK (.int 0))) cNil)) [some (.v (bD (t :: ts))), none, none, none, none] = .ok (tD (row n [])) :=
      cBin_of rfl (cCall1_of h1 (by rw [dLen_list, List.length_map, hn2])) e1
    simp only [cList, cCons, cNil, h2, R.bind]
    rfl
  refine runF_of (r := .ok (.list ((rows n (t :: ts)).map tD))) rfl ?_
  have e2 := sSeq_nx (g2 := sSeq (sFor (gN 2) (cItems (cRev (cVarB 0))) rests_b) (sRet (cRev (cVarB 1)))) (sSetN_of (i := 1) (t := false) e0) (sSeq_nx (sFor_of (cItems_of (ds := (t :: ts).reverse.map tD) ?_) e) rfl)
  · refine (congrArg SR.out e2).trans (sRet_of ?_)
    simp [cRev, dRev, disown, G.letGo, cVar, cVarB, ofO, R.bind]
  · simp [cRev, dRev, cVar, cVarB, ofO, R.bind]
end K04

namespace K04
open PySem PySem.Spec PyProof.Rows L2 G
def bun (p : Nat) : List Nat := (List.range 6).filter fun g => p / 2 ^ g % 2 == 1
abbrev bunD (p : Nat) : D := .tuple ((bun p).map nD)
theorem bundle_eq : ∀ p : Nat, p < 64 → f_bundle_of [nD p] = .ok (bunD p)
  | 0, _ => by kernel_rfl
  | 1, _ => by kernel_rfl
  | 2, _ => by kernel_rfl
  | 3, _ => by kernel_rfl
  | 4, _ => by kernel_rfl
  | 5, _ => by kernel_rfl
  | 6, _ => by kernel_rfl
  | 7, _ => by kernel_rfl
  | 8, _ => by kernel_rfl
  | 9, _ => by kernel_rfl
  | 10, _ => by kernel_rfl
  | 11, _ => by kernel_rfl
  | 12, _ => by kernel_rfl
  | 13, _ => by kernel_rfl
  | 14, _ => by kernel_rfl
  | 15, _ => by kernel_rfl
  | 16, _ => by kernel_rfl
  | 17, _ => by kernel_rfl
  | 18, _ => by kernel_rfl
  | 19, _ => by kernel_rfl
  | 20, _ => by kernel_rfl
  | 21, _ => by kernel_rfl
  | 22, _ => by kernel_rfl
  | 23, _ => by kernel_rfl
  | 24, _ => by kernel_rfl
  | 25, _ => by kernel_rfl
  | 26, _ => by kernel_rfl
  | 27, _ => by kernel_rfl
  | 28, _ => by kernel_rfl
  | 29, _ => by kernel_rfl
  | 30, _ => by kernel_rfl
  | 31, _ => by kernel_rfl
  | 32, _ => by kernel_rfl
  | 33, _ => by kernel_rfl
  | 34, _ => by kernel_rfl
  | 35, _ => by kernel_rfl
  | 36, _ => by kernel_rfl
  | 37, _ => by kernel_rfl
  | 38, _ => by kernel_rfl
  | 39, _ => by kernel_rfl
  | 40, _ => by kernel_rfl
  | 41, _ => by kernel_rfl
  | 42, _ => by kernel_rfl
  | 43, _ => by kernel_rfl
  | 44, _ => by kernel_rfl
  | 45, _ => by kernel_rfl
  | 46, _ => by kernel_rfl
  | 47, _ => by kernel_rfl
  | 48, _ => by kernel_rfl
  | 49, _ => by kernel_rfl
  | 50, _ => by kernel_rfl
  | 51, _ => by kernel_rfl
  | 52, _ => by kernel_rfl
  | 53, _ => by kernel_rfl
  | 54, _ => by kernel_rfl
  | 55, _ => by kernel_rfl
  | 56, _ => by kernel_rfl
  | 57, _ => by kernel_rfl
  | 58, _ => by kernel_rfl
  | 59, _ => by kernel_rfl
  | 60, _ => by kernel_rfl
  | 61, _ => by kernel_rfl
  | 62, _ => by kernel_rfl
  | 63, _ => by kernel_rfl
  | n + 64, h => absurd h (by omega)
theorem number_eq : ∀ p : Nat, p < 64 → f_number_of [bunD p] = .ok (nD p)
  | 0, _ => by kernel_rfl
  | 1, _ => by kernel_rfl
  | 2, _ => by kernel_rfl
  | 3, _ => by kernel_rfl
  | 4, _ => by kernel_rfl
  | 5, _ => by kernel_rfl
  | 6, _ => by kernel_rfl
  | 7, _ => by kernel_rfl
  | 8, _ => by kernel_rfl
  | 9, _ => by kernel_rfl
  | 10, _ => by kernel_rfl
  | 11, _ => by kernel_rfl
  | 12, _ => by kernel_rfl
  | 13, _ => by kernel_rfl
  | 14, _ => by kernel_rfl
  | 15, _ => by kernel_rfl
  | 16, _ => by kernel_rfl
  | 17, _ => by kernel_rfl
  | 18, _ => by kernel_rfl
  | 19, _ => by kernel_rfl
  | 20, _ => by kernel_rfl
  | 21, _ => by kernel_rfl
  | 22, _ => by kernel_rfl
  | 23, _ => by kernel_rfl
  | 24, _ => by kernel_rfl
  | 25, _ => by kernel_rfl
  | 26, _ => by kernel_rfl
  | 27, _ => by kernel_rfl
  | 28, _ => by kernel_rfl
  | 29, _ => by kernel_rfl
  | 30, _ => by kernel_rfl
  | 31, _ => by kernel_rfl
  | 32, _ => by kernel_rfl
  | 33, _ => by kernel_rfl
  | 34, _ => by kernel_rfl
  | 35, _ => by kernel_rfl
  | 36, _ => by kernel_rfl
  | 37, _ => by kernel_rfl
  | 38, _ => by kernel_rfl
  | 39, _ => by kernel_rfl
  | 40, _ => by kernel_rfl
  | 41, _ => by kernel_rfl
  | 42, _ => by kernel_rfl
  | 43, _ => by kernel_rfl
  | 44, _ => by kernel_rfl
  | 45, _ => by kernel_rfl
  | 46, _ => by kernel_rfl
  | 47, _ => by kernel_rfl
  | 48, _ => by kernel_rfl
  | 49, _ => by kernel_rfl
  | 50, _ => by kernel_rfl
  | 51, _ => by kernel_rfl
  | 52, _ => by kernel_rfl
  | 53, _ => by kernel_rfl
  | 54, _ => by kernel_rfl
  | 55, _ => by kernel_rfl
  | 56, _ => by kernel_rfl
  | 57, _ => by kernel_rfl
  | 58, _ => by kernel_rfl
  | 59, _ => by kernel_rfl
  | 60, _ => by kernel_rfl
  | 61, _ => by kernel_rfl
  | 62, _ => by kernel_rfl
  | 63, _ => by kernel_rfl
  | n + 64, h => absurd h (by omega)
theorem at_ix (t : D) : ∀ p : Nat, p < 64 → (cCall dSum (cCons (cLc [2] (cItems (cVar 1)) (gN 2) cTrue (cBin dIx (cList (cCons (cK (.int 1)) (cCons (cK (.int 2)) (cCons (cK (.int 4)) (cCons (cK (.int 8)) (cCons (cK (.int 16)) (cCons (cK (.int 32)) cNil))))))) (cVar 2))) cNil)) [some (.v t), some (.v (bunD p)), none] = .ok (nD p)
  | 0, _ => by kernel_rfl
  | 1, _ => by kernel_rfl
  | 2, _ => by kernel_rfl
  | 3, _ => by kernel_rfl
  | 4, _ => by kernel_rfl
  | 5, _ => by kernel_rfl
  | 6, _ => by kernel_rfl
  | 7, _ => by kernel_rfl
  | 8, _ => by kernel_rfl
  | 9, _ => by kernel_rfl
  | 10, _ => by kernel_rfl
  | 11, _ => by kernel_rfl
  | 12, _ => by kernel_rfl
  | 13, _ => by kernel_rfl
  | 14, _ => by kernel_rfl
  | 15, _ => by kernel_rfl
  | 16, _ => by kernel_rfl
  | 17, _ => by kernel_rfl
  | 18, _ => by kernel_rfl
  | 19, _ => by kernel_rfl
  | 20, _ => by kernel_rfl
  | 21, _ => by kernel_rfl
  | 22, _ => by kernel_rfl
  | 23, _ => by kernel_rfl
  | 24, _ => by kernel_rfl
  | 25, _ => by kernel_rfl
  | 26, _ => by kernel_rfl
  | 27, _ => by kernel_rfl
  | 28, _ => by kernel_rfl
  | 29, _ => by kernel_rfl
  | 30, _ => by kernel_rfl
  | 31, _ => by kernel_rfl
  | 32, _ => by kernel_rfl
  | 33, _ => by kernel_rfl
  | 34, _ => by kernel_rfl
  | 35, _ => by kernel_rfl
  | 36, _ => by kernel_rfl
  | 37, _ => by kernel_rfl
  | 38, _ => by kernel_rfl
  | 39, _ => by kernel_rfl
  | 40, _ => by kernel_rfl
  | 41, _ => by kernel_rfl
  | 42, _ => by kernel_rfl
  | 43, _ => by kernel_rfl
  | 44, _ => by kernel_rfl
  | 45, _ => by kernel_rfl
  | 46, _ => by kernel_rfl
  | 47, _ => by kernel_rfl
  | 48, _ => by kernel_rfl
  | 49, _ => by kernel_rfl
  | 50, _ => by kernel_rfl
  | 51, _ => by kernel_rfl
  | 52, _ => by kernel_rfl
  | 53, _ => by kernel_rfl
  | 54, _ => by kernel_rfl
  | 55, _ => by kernel_rfl
  | 56, _ => by kernel_rfl
  | 57, _ => by kernel_rfl
  | 58, _ => by kernel_rfl
  | 59, _ => by kernel_rfl
  | 60, _ => by kernel_rfl
  | 61, _ => by kernel_rfl
  | 62, _ => by kernel_rfl
  | 63, _ => by kernel_rfl
  | n + 64, h => absurd h (by omega)
theorem at_eq (t : List Int) (p : Nat) (h : p < t.length) (h2 : p < 64) : f_l_at [tD t, bunD p] = .ok (.int (C.at_ t p)) := by
  unfold f_l_at g_l_at
  refine runF_of rfl (sRet_of (ρ := [some (.v (tD t)), some (.v (bunD p)), none]) ?_)
  exact cBin_of rfl (at_ix (tD t) p h2) (by rw [dIx_nat, List.getElem?_map, getD_tbl h]; rfl)
end K04

namespace K04
open PySem PySem.Spec PyProof.Rows L2 G
theorem rows_get (n : Nat) : ∀ (b : List (List Int)) (k : Nat), k ≤ b.length → (rows n b)[k]? = some (row n (b.drop k))
  | [], k, h => by
    obtain rfl : k = 0 := by simpa using h
    rfl
  | t :: ts, 0, h => rfl
  | t :: ts, k + 1, h => by
    show (rows n ts)[k]? = _
    rw [rows_get n ts k (by simpa using h)]
    rfl
abbrev best_b : En → SR := (sSeq (sSet 6 (cLc [7] (cItems (cCallF f_parts_of (cCons (cVar 2) cNil))) (gN 7) (cBinT dEq (cBin dAdd (cBin dIx (cVarB 5) (cVar 7)) (cBin dIx (cBin dIx (cVarB 1) (cBin dAdd (cVar 4) (cK (.int 1)))) (cBin dSub (cVarB 2) (cVarB 7)))) (cBin dIx (cBin dIx (cVarB 1) (cVar 4)) (cVar 2))) (cVar 7)))
    (sSeq (sAppend 3 (cCallF f_bundle_of (cCons (cBin dIx (cVarB 6) (cK (.int 0))) cNil)))
    (sSet 2 (cBin dSub (cVarB 2) (cBin dIx (cVarB 6) (cK (.int 0)))))))
theorem cBinT_of {dop : D → D → Option D} {f g : En → R D} {ρ : En} {a b : D} {e : Bool} (h1 : f ρ = .ok a) (h2 : g ρ = .ok b) (h : dop a b = some (.bool e)) : cBinT dop f g ρ = .ok e := by
  simp only [cBinT, cBin, h1, h2, R.bind, h, ofO, cTest]
  rfl
theorem tbl_ix (t : List Int) (w : Nat) (h : w < t.length) : dIx (tD t) (nD w) = some (.int (C.at_ t w)) := by
  rw [dIx_nat, List.getElem?_map, getD_tbl h]
  rfl
theorem best_step (n : Nat) (hn : n ≤ 64) (full : List (List Int)) (k left : Nat) (t : List Int) (ts : List (List Int)) (b : D) (f : Bool) (sh : List D) (x : Option Sl) (hd : full.drop k = t :: ts) (ht : t.length = n) (hleft : left < n) (hsh : sh.length < 2 ^ 20) :
    ∃ p g, C.pick (t :: ts) left = p :: C.pick ts (left - p) ∧ p ≤ left ∧ best_b [some (.v b), some (.v (.list ((rows n full).map tD))), some (.v (nD left)), some (.own f (.list sh)), some (.v (nD k)), some (.v (tD t)), x, none] =
      .nx [some (.v b), some (.v (.list ((rows n full).map tD))), some (.v (nD (left - p))), some (.own f (.list (sh ++ [bunD p]))), some (.v (nD k)), some (.v (tD t)), g, none] := by
  obtain ⟨p, hp, ep, e1, e2⟩ := C.pick_some t ts left
  have hk : k < full.length := by
    rcases Nat.lt_or_ge k full.length with h | h
    · exact h
    · rw [List.drop_eq_nil_of_le h] at hd; cases hd
  have hd2 : full.drop (k + 1) = ts := by
    rw [show k + 1 = k + 1 from rfl, ← List.drop_drop, hd]
    rfl
  have r1 : ((rows n full).map tD)[k]? = some (tD (row n (t :: ts))) := by rw [List.getElem?_map, rows_get n full k (by omega), hd]; rfl
  have r2 : ((rows n full).map tD)[k + 1]? = some (tD (row n ts)) := by rw [List.getElem?_map, rows_get n full (k + 1) (by omega), hd2]; rfl
  have l := lcL_gen (tgt := gN 7) (p := cBinT dEq (cBin dAdd (cBin dIx (cVarB 5) (cVar 7)) (cBin dIx (cBin dIx (cVarB 1) (cBin dAdd (cVar 4) (cK (.int 1)))) (cBin dSub (cVarB 2) (cVarB 7)))) (cBin dIx (cBin dIx (cVarB 1) (cVar 4)) (cVar 2))) (f := cVar 7)
    (ρ := [some (.v b), some (.v (.list ((rows n full).map tD))), some (.v (nD left)), some (.own f (.list sh)), some (.v (nD k)), some (.v (tD t)), x, none]) (enc := nD)
    (fun q => [some (.v b), some (.v (.list ((rows n full).map tD))), some (.v (nD left)), some (.own f (.list sh)), some (.v (nD k)), some (.v (tD t)), x, some (.v (nD q))]) (fun q => C.at_ t q + C.best ts (left - q) == C.best (t :: ts) left) nD (xs := C.parts left) fun q hq => ⟨rfl, by
      have hq := C.part_le hq
      refine cBinT_of (a := .int (C.at_ t q + C.best ts (left - q))) (b := .int (C.best (t :: ts) left)) (cBin_of (cBin_of rfl rfl (tbl_ix t q (by omega))) (cBin_of (b := nD (left - q)) (cBin_of rfl (b := nD (k + 1)) (cBin_of rfl rfl rfl) (by rw [dIx_nat]; exact r2)) (cBin_of (a := nD left) (b := nD q) rfl rfl (by show some (PyData.int ((left : Int) - q)) = _; rw [show (left : Int) - q = ((left - q : Nat) : Int) by omega])) (tbl_ix (row n ts) (left - q) (by rw [row_len]; omega))) ?_) (cBin_of (cBin_of rfl rfl (by rw [dIx_nat]; exact r1)) rfl (by rw [tbl_ix (row n (t :: ts)) left (by rw [row_len]; omega), row_at (t :: ts) hleft])) ?_
      · rw [row_at ts (by omega)]; rfl
      · rw [dEq_int]; rfl, fun _ => rfl⟩
  have hple := C.part_le hp
  let gs := ((C.parts left).filter fun q => C.at_ t q + C.best ts (left - q) == C.best (t :: ts) left).map nD
  have hg : gs[0]? = some (nD p) := by
    show (((C.parts left).filter fun q => C.at_ t q + C.best ts (left - q) == C.best (t :: ts) left).map nD)[0]? = _
    rw [List.getElem?_map, ← List.head?_eq_getElem?, List.head?_filter, e2]
    rfl
  have hz : gs.length ≤ sizeLine := by
    show (((C.parts left).filter fun q => C.at_ t q + C.best ts (left - q) == C.best (t :: ts) left).map nD).length ≤ _
    rw [List.length_map]
    have h1 := List.length_filter_le (fun q => C.at_ t q + C.best ts (left - q) == C.best (t :: ts) left) (C.parts left)
    have h2 := parts_len left
    unfold sizeLine
    omega
  refine ⟨p, some (.v (.list gs)), e1, hple, ?_⟩
  refine sSeq_nx (sSet_of (d := .list gs) (cLc_of (cItems_of (cCallF1_of (d := nD left) rfl (parts_eq left (by omega)))) l hz)) (sSeq_nx (sAppend_of (d := bunD p) (t := f) (ds := sh) rfl (cCallF1_of (d := nD p) (cBin_of rfl rfl (by rw [dIx_zero]; exact hg)) (bundle_eq p (by omega))) (by unfold sizeLine; omega)) ((sSet_of (d := nD (left - p)) (cBin_of (a := nD left) (b := nD p) rfl (cBin_of rfl rfl (by rw [dIx_zero]; exact hg)) ?_)).trans rfl))
  show some (PyData.int ((left : Int) - p)) = _
  rw [show (left : Int) - p = ((left - p : Nat) : Int) by omega]
abbrev shD (s : List Nat) : D := .list (s.map bunD)
theorem best_loop (n : Nat) (hn : n ≤ 64) (full : List (List Int)) (b : D) (f : Bool) : ∀ (ts : List (List Int)) (k left : Nat) (sh : List D) (x y z : Option Sl), full.drop k = ts → (∀ t ∈ ts, t.length = n) → left < n → sh.length + ts.length < 2 ^ 20 →
    ∃ w x' y' z', loopL (gT (gC (gN 4) (gC (gN 5) gE))) best_b (enumL k (ts.map tD)) [some (.v b), some (.v (.list ((rows n full).map tD))), some (.v (nD left)), some (.own f (.list sh)), x, y, z, none] =
      .nx [some (.v b), some (.v (.list ((rows n full).map tD))), w, some (.own f (.list (sh ++ (C.pick ts left).map bunD))), x', y', z', none]
  | [], k, left, sh, x, y, z, _, _, _, _ => ⟨some (.v (nD left)), x, y, z, by show SR.nx _ = _; simp [C.pick]⟩
  | t :: ts, k, left, sh, x, y, z, hd, hl, hleft, hz => by
    obtain ⟨p, g, e1, e2, e3⟩ := best_step n hn full k left t ts b f sh z hd (hl t List.mem_cons_self) hleft (by omega)
    have hd2 : full.drop (k + 1) = ts := by
      rw [show k + 1 = k + 1 from rfl, ← List.drop_drop, hd]
      rfl
    obtain ⟨w, x', y', z', e⟩ := best_loop n hn full b f ts (k + 1) (left - p) (sh ++ [bunD p]) (some (.v (nD k))) (some (.v (tD t))) g hd2 (fun a h => hl a (List.mem_cons_of_mem _ h)) (by omega) (by simp at hz ⊢; omega)
    refine ⟨w, x', y', z', loopL_nx (ρ1 := [some (.v b), some (.v (.list ((rows n full).map tD))), some (.v (nD left)), some (.own f (.list sh)), some (.v (nD k)), some (.v (tD t)), z, none]) rfl e3 ?_⟩
    rw [e, e1]
    simp
theorem best_of_eq (n : Nat) (hn : n ≤ 64) (t : List Int) (ts : List (List Int)) (hl : ∀ a ∈ t :: ts, a.length = n) (hn0 : 0 < n) (hz : (t :: ts).length < 2 ^ 19) : f_best_of [bD (t :: ts)] = .ok (.tuple [shD (C.pick (t :: ts) (n - 1)), .int (C.best (t :: ts) (n - 1))]) := by
  obtain ⟨w, x', y', z', e⟩ := best_loop n hn (t :: ts) (bD (t :: ts)) false (t :: ts) 0 (n - 1) [] none none none rfl hl (by omega) (by simp at hz ⊢; omega)
  have hr := rests_eq n (by omega) t ts hl hz
  have hn2 : t.length = n := hl t List.mem_cons_self
  unfold f_best_of g_best_of
  refine runF_of rfl ?_
  have h1 : cBin dIx (cVarB 0) (cK (.int 0)) [some (.v (bD (t :: ts))), some (.v (.list ((rows n (t :: ts)).map tD))), none, none, none, none, none, none] = .ok (tD t) := cBin_of rfl rfl (by rw [dIx_zero]; rfl)
  have h2 : cBin dSub (cCall dLen (cCons (cBin dIx (cVarB 0) (cK (.int 0))) cNil)) (cK (.int 1)) [some (.v (bD (t :: ts))), some (.v (.list ((rows n (t :: ts)).map tD))), none, none, none, none, none, none] = .ok (nD (n - 1)) :=
    cBin_of (cCall1_of h1 (by rw [dLen_list, List.length_map, hn2])) rfl (by show some (PyData.int ((n : Int) - 1)) = _; rw [show (n : Int) - 1 = ((n - 1 : Nat) : Int) by omega])
  obtain ⟨r, er, _⟩ := rows_head n (t :: ts)
  have e9 := sSeq_nx (g2 := sSeq (sSet 2 (cBin dSub (cCall dLen (cCons (cBin dIx (cVarB 0) (cK (.int 0))) cNil)) (cK (.int 1)))) (sSeq (sSetN 3 false (cList cNil)) (sSeq (sFor (gT (gC (gN 4) (gC (gN 5) gE))) (cIter dEnum (cCons (cVar 0) cNil)) best_b) (sRet (cTup (cCons (cVar 3) (cCons (cBin dIx (cBin dIx (cVarB 1) (cK (.int 0))) (cUn dNeg (cK (.int 1)))) cNil)))))))
    (ρ := enter 8 1 [bD (t :: ts)]) (sSet_of (i := 1) (cCallF1_of (f := cVar 0) (d := bD (t :: ts)) rfl hr)) (sSeq_nx (sSet_of h2) (sSeq_nx (sSetN_of (t := false) (d := .list []) rfl) (sSeq_nx (sFor_of (cIter1_of (df := dEnum) (d := bD (t :: ts)) rfl rfl) e) rfl)))
  refine (congrArg SR.out e9).trans (sRet_of ?_)
  have h3 : cBin dIx (cBin dIx (cVarB 1) (cK (.int 0))) (cUn dNeg (cK (.int 1))) (disown [some (.v (bD (t :: ts))), some (.v (.list ((rows n (t :: ts)).map tD))), w, some (.own false (.list ([] ++ (C.pick (t :: ts) (n - 1)).map bunD))), x', y', z', none]) = .ok (.int (C.best (t :: ts) (n - 1))) := by
    refine cBin_of (cBin_of rfl rfl (b := .int 0) (e := tD (row n (t :: ts))) (by rw [dIx_zero, er]; rfl)) (b := .int (-1)) rfl ?_
    rw [dIx_last, List.getLast?_map, List.getLast?_eq_getElem?, row_len, getD_tbl (by rw [row_len]; omega), row_at _ (by omega)]
    rfl
  simp only [cTup, cCons, cNil, h3, R.bind]
  rfl
end K04

namespace K04
open PySem PySem.Spec PyProof.Rows L2 G
theorem cut_to (xs : List D) (k : Nat) : cutL xs none (some (k : Int)) = xs.take k := by
  unfold cutL
  rw [HT.sIx_nat, HT.sIx_none]
  simp
theorem cut_from (xs : List D) (k : Nat) : cutL xs (some (k : Int)) none = xs.drop k := by
  unfold cutL
  rw [HT.sIx_nat, HT.sIx_none]
  rcases Nat.lt_or_ge k xs.length with h | h
  · rw [Nat.min_eq_left (by omega), List.take_of_length_le (by simp)]
  · rw [Nat.min_eq_right (by omega), List.drop_of_length_le (Nat.le_refl _), List.drop_of_length_le h]; simp
theorem cSlice_to {f g : En → R D} {ρ : En} {xs : List D} {k : Nat} (h : f ρ = .ok (.list xs)) (h2 : g ρ = .ok (nD k)) : cSlice f cPartN (cPart g) ρ = .ok (.list (xs.take k)) := by
  have : cPart g ρ = .ok (some (k : Int)) := by
    simp only [cPart, h2, R.bind, toI, ofO]
  simp only [cSlice, h, this, R.bind, cPartN]
  show ofO (some (PyData.list (cutL xs none (some (k : Int))))) = _
  rw [cut_to]
  rfl
theorem cSlice_from {f g : En → R D} {ρ : En} {xs : List D} {k : Nat} (h : f ρ = .ok (.list xs)) (h2 : g ρ = .ok (nD k)) : cSlice f (cPart g) cPartN ρ = .ok (.list (xs.drop k)) := by
  have : cPart g ρ = .ok (some (k : Int)) := by
    simp only [cPart, h2, R.bind, toI, ofO]
  simp only [cSlice, h, this, R.bind, cPartN]
  show ofO (some (PyData.list (cutL xs (some (k : Int)) none))) = _
  rw [cut_from]
  rfl
theorem dAdd_list {xs ys : List D} (h : xs.length + ys.length ≤ sizeLine) : dAdd (.list xs) (.list ys) = some (.list (xs ++ ys)) := by
  show (if xs.length + ys.length ≤ sizeLine then _ else _) = _
  rw [if_pos h]
def others (b : List (List Int)) (k : Nat) : List (List Int) := b.take k ++ b.drop (k + 1)
/-- a book of tables of one length -/
structure Book (n : Nat) (b : List (List Int)) : Prop where
  len : ∀ t ∈ b, t.length = n
  few : b.length < 1000
theorem Book.others {n : Nat} {b : List (List Int)} (h : Book n b) (k : Nat) : Book n (others b k) := ⟨fun t m => by
  rcases List.mem_append.mp m with m | m
  · exact h.len t (List.mem_of_mem_take m)
  · exact h.len t (List.mem_of_mem_drop m), by
  have := h.few
  simp [K04.others]
  omega⟩
theorem Book.best {n : Nat} (hn : n ≤ 64) (hn0 : 0 < n) {b : List (List Int)} (h : Book n b) (h0 : b ≠ []) : f_best_of [bD b] = .ok (.tuple [shD (C.pick b (n - 1)), .int (C.best b (n - 1))]) := by
  cases b with
  | nil => exact absurd rfl h0
  | cons t ts => exact best_of_eq n hn t ts h.len hn0 (by have := h.few; omega)
theorem without_cut {n : Nat} {b : List (List Int)} (h : Book n b) (k : Nat) (x : Option Sl) (r : List (Option Sl)) : cBin dAdd (cSlice (cVar 0) cPartN (cPart (cVar 1))) (cSlice (cVar 0) (cPart (cBin dAdd (cVar 1) (cK (.int 1)))) cPartN) (some (.v (bD b)) :: some (.v (nD k)) :: r) = .ok (bD (others b k)) := by
  refine cBin_of (cSlice_to (xs := b.map tD) (k := k) rfl rfl) (cSlice_from (xs := b.map tD) (k := k + 1) rfl (cBin_of rfl rfl rfl)) ?_
  rw [dAdd_list (by have := h.few; simp; unfold sizeLine; omega)]
  simp [others]
theorem sum_without_eq {n : Nat} (hn : n ≤ 64) (hn0 : 0 < n) {b : List (List Int)} (h : Book n b) (k : Nat) : f_sum_without [bD b, nD k] = .ok (.int (C.best (others b k) (n - 1))) := by
  unfold f_sum_without g_sum_without
  refine runF_of rfl ?_
  refine (congrArg SR.out (sSeq_nx (sSet_of (without_cut h k none [none])) rfl)).trans (sRet_of ?_)
  show cIf _ _ _ [some (.v (bD b)), some (.v (nD k)), some (.v (bD (others b k)))] = _
  by_cases h0 : others b k = []
  · rw [h0]
    rfl
  · have e : cBinT dGt (cCall dLen (cCons (cVarB 2) cNil)) (cK (.int 0)) [some (.v (bD b)), some (.v (nD k)), some (.v (bD (others b k)))] = .ok true := by
      refine cBinT_of (cCall1_of rfl (dLen_list _)) rfl ?_
      have : 0 < (others b k).length := List.length_pos_iff.mpr h0
      show some (PyData.bool (decide _)) = _
      rw [decide_eq_true]
      simpa using this
    have e2 : cBin dIx (cCallF f_best_of (cCons (cVar 2) cNil)) (cK (.int 1)) [some (.v (bD b)), some (.v (nD k)), some (.v (bD (others b k)))] = .ok (.int (C.best (others b k) (n - 1))) := cBin_of (cCallF1_of rfl ((h.others k).best hn hn0 h0)) rfl (by rw [dIxT_one]; rfl)
    simp only [cIf, e, R.bind, if_true, e2]
end K04

namespace K04
open PySem PySem.Spec PyProof.Rows L2 G
inductive Wd | fair | bid | non
  deriving DecidableEq
def Wd.d : Wd → D
  | .fair => .str "fair"
  | .bid => .str "bid"
  | .non => .str "none"
theorem word_fair (w : Wd) : dEq w.d (.str "fair") = some (.bool (decide (w = .fair))) := by cases w <;> kernel_rfl
theorem word_bid (w : Wd) : dEq w.d (.str "bid") = some (.bool (decide (w = .bid))) := by cases w <;> kernel_rfl
def own (n : Nat) (b : List (List Int)) (k : Nat) : Int := C.at_ (b.getD k []) ((C.pick b (n - 1)).getD k 0)
def pay (n : Nat) (b : List (List Int)) (k : Nat) : Wd → Int
  | .fair => C.best (others b k) (n - 1) - (C.best b (n - 1) - own n b k)
  | .bid => own n b k
  | .non => 0
theorem pick_len : ∀ (b : List (List Int)) (w : Nat), (C.pick b w).length = b.length
  | [], _ => rfl
  | t :: ts, w => by
    obtain ⟨p, _, _, e, _⟩ := C.pick_some t ts w
    rw [e, List.length_cons, List.length_cons, pick_len ts]
theorem pick_le : ∀ (b : List (List Int)) (w : Nat), ∀ p ∈ C.pick b w, p ≤ w
  | [], _, p, h => by cases h
  | t :: ts, w, p, h => by
    obtain ⟨q, hq, _, e, _⟩ := C.pick_some t ts w
    rw [e] at h
    have := C.part_le hq
    rcases List.mem_cons.mp h with rfl | h
    · exact this
    · have := pick_le ts (w - q) p h
      omega
theorem book_at {b : List (List Int)} {k : Nat} (h : k < b.length) : dIx (bD b) (nD k) = some (tD (b.getD k [])) := by
  rw [dIx_nat, List.getElem?_map, List.getD_eq_getElem?_getD, List.getElem?_eq_getElem h]
  rfl
theorem share_at {s : List Nat} {k : Nat} (h : k < s.length) : dIx (shD s) (nD k) = some (bunD (s.getD k 0)) := by
  rw [dIx_nat, List.getElem?_map, List.getD_eq_getElem?_getD, List.getElem?_eq_getElem h]
  rfl
theorem getD_mem {α : Type} {l : List α} {k : Nat} {z : α} (h : k < l.length) : l.getD k z ∈ l := by
  rw [List.getD_eq_getElem?_getD, List.getElem?_eq_getElem h]
  exact List.getElem_mem h
section
variable {n : Nat} (hn : n ≤ 64) (hn0 : 0 < n) {b : List (List Int)} (h : Book n b) {k : Nat} (hk : k < b.length) (w : Wd)
theorem pick_at (hn0 : 0 < n) (hk : k < b.length) : (C.pick b (n - 1)).getD k 0 < n := by
  have := pick_le b (n - 1) _ (getD_mem (l := C.pick b (n - 1)) (k := k) (z := 0) (by rw [pick_len]; exact hk))
  omega
include hn hn0 h hk in
theorem paid_by_eq : f_paid_by [bD b, shD (C.pick b (n - 1)), .int (C.best b (n - 1)), nD k, w.d] = .ok (.int (pay n b k w)) := by
  have hp := pick_at (b := b) hn0 hk
  have hs : k < (C.pick b (n - 1)).length := by rw [pick_len]; exact hk
  have ht : (b.getD k []).length = n := h.len _ (getD_mem hk)
  unfold f_paid_by g_paid_by
  refine runF_of rfl ?_
  have e1 : cBin dIx (cBin dIx (cVarB 0) (cVar 3)) (cCallF f_number_of (cCons (cBin dIx (cVarB 1) (cVar 3)) cNil)) [some (.v (bD b)), some (.v (shD (C.pick b (n - 1)))), some (.v (.int (C.best b (n - 1)))), some (.v (nD k)), some (.v w.d), none] = .ok (.int (own n b k)) :=
    cBin_of (cBin_of rfl rfl (book_at hk)) (cCallF1_of (cBin_of rfl rfl (share_at hs)) (number_eq _ (by omega))) (tbl_ix _ _ (by rw [ht]; exact hp))
  by_cases hw : w = .fair
  · subst hw
    refine (congrArg SR.out (sSeq_nx (sSet_of e1) (show sSeq (sIf (cBinT dEq (cVarB 4) (cK (.str "fair"))) (sRet (cBin dSub (cCallF f_sum_without (cCons (cVar 0) (cCons (cVar 3) cNil))) (cBin dSub (cVarB 2) (cVarB 5)))) sNext) _ _ = .rt (.int (pay n b k .fair)) from ?_))).trans rfl
    have e2 : sIf (cBinT dEq (cVarB 4) (cK (.str "fair"))) (sRet (cBin dSub (cCallF f_sum_without (cCons (cVar 0) (cCons (cVar 3) cNil))) (cBin dSub (cVarB 2) (cVarB 5)))) sNext [some (.v (bD b)), some (.v (shD (C.pick b (n - 1)))), some (.v (.int (C.best b (n - 1)))), some (.v (nD k)), some (.v (Wd.d .fair)), some (.v (.int (own n b k)))] = .rt (.int (pay n b k .fair)) := by
      refine sIf_true (cBinT_of rfl rfl (word_fair .fair)) ?_
      have e3 : cBin dSub (cCallF f_sum_without (cCons (cVar 0) (cCons (cVar 3) cNil))) (cBin dSub (cVarB 2) (cVarB 5)) [some (.v (bD b)), some (.v (shD (C.pick b (n - 1)))), some (.v (.int (C.best b (n - 1)))), some (.v (nD k)), some (.v (Wd.d .fair)), some (.v (.int (own n b k)))] = .ok (.int (pay n b k .fair)) :=
        cBin_of (cCallF_of (ds := [bD b, nD k]) rfl (sum_without_eq hn hn0 h k)) (cBin_of rfl rfl rfl) rfl
      show SR.of _ _ SR.rt = _
      rw [show disown [some (Sl.v (bD b)), some (.v (shD (C.pick b (n - 1)))), some (.v (.int (C.best b (n - 1)))), some (.v (nD k)), some (.v (Wd.d .fair)), some (.v (.int (own n b k)))] = [some (Sl.v (bD b)), some (.v (shD (C.pick b (n - 1)))), some (.v (.int (C.best b (n - 1)))), some (.v (nD k)), some (.v (Wd.d .fair)), some (.v (.int (own n b k)))] from rfl, e3]
      rfl
    unfold sSeq
    show (match sIf _ _ _ [some (Sl.v (bD b)), some (.v (shD (C.pick b (n - 1)))), some (.v (.int (C.best b (n - 1)))), some (.v (nD k)), some (.v (Wd.d .fair)), some (.v (.int (own n b k)))] with | .nx ρ' => _ | r => r) = _
    rw [e2]
  · refine (congrArg SR.out (sSeq_nx (sSet_of e1) (sSeq_nx (sIf_false (cBinT_of rfl rfl ((word_fair w).trans (by rw [decide_eq_false hw]))) rfl) rfl))).trans (sRet_of ?_)
    show cIf (cBinT dEq (cVarB 4) (cK (.str "bid"))) (cVar 5) (cK (.int 0)) [some (.v (bD b)), some (.v (shD (C.pick b (n - 1)))), some (.v (.int (C.best b (n - 1)))), some (.v (nD k)), some (.v w.d), some (.v (.int (own n b k)))] = _
    have e2 := cBinT_of (ρ := [some (.v (bD b)), some (.v (shD (C.pick b (n - 1)))), some (.v (.int (C.best b (n - 1)))), some (.v (nD k)), some (.v w.d), some (.v (.int (own n b k)))]) (f := cVarB 4) (g := cK (.str "bid")) rfl rfl (word_bid w)
    simp only [cIf, e2, R.bind]
    cases w with
    | fair => exact absurd rfl hw
    | bid => rfl
    | non => rfl
end
end K04

namespace K04
open PySem PySem.Spec PyProof.Rows L2 G
theorem lay_ints {α : Type} (f : α → Int) (s : List α) : PyData.canLayAll0 (s.map fun x => PyData.int (f x)) = true ∧ PyData.depthAll (s.map fun x => PyData.int (f x)) ≤ 1 := by
  induction s with
  | nil => simp [PyData.canLayAll0, PyData.depthAll]
  | cons a r ih => simp [PyData.canLayAll0, PyData.depthAll, PyData.canLay0, PyData.depth, ih.1, ih.2]
abbrev rowD (a : Int) (s : List Nat) : D := .tuple [.int a, .list (s.map nD)]
theorem lay_row (a : Int) (s : List Nat) : SeqAt.shaped (rowD a s) = true ∧ (rowD a s).depth ≤ 64 := by
  obtain ⟨h1, h2⟩ : PyData.canLayAll0 (s.map nD) = true ∧ PyData.depthAll (s.map nD) ≤ 1 := lay_ints (fun n : Nat => (n : Int)) s
  unfold SeqAt.shaped
  simp [PyData.canLayAll0, PyData.depthAll, PyData.canLay0, PyData.depth, h1]
  omega
theorem alike_ints : ∀ (s t : List Nat), PySem.W.alikeAll (s.map nD) (t.map nD) = true
  | [], _ => by simp [PySem.W.alikeAll]
  | a :: s, [] => by simp [PySem.W.alikeAll]
  | a :: s, b :: t => by simp [PySem.W.alikeAll, PySem.W.alike, alike_ints s t]
theorem eqv_ints : ∀ (s t : List Nat), PyData.eqvAll (s.map nD) (t.map nD) = decide (s = t)
  | [], [] => by simp [PyData.eqvAll]
  | [], b :: t => by simp [PyData.eqvAll]
  | a :: s, [] => by simp [PyData.eqvAll]
  | a :: s, b :: t => by
    have : ((a : Int) == (b : Int)) = decide (a = b) := by
      by_cases h : a = b
      · simp [h]
      · simp [h]; omega
    simp [PyData.eqvAll, PyData.eqv, eqv_ints s t, this]
theorem lt_ints : ∀ (s t : List Nat), s.length = t.length → PySem.W.rowLt (s.map nD) (t.map nD) = C.lexLt s t
  | [], [], _ => by
    have := PySem.W.dataLt_ints [] []
    simpa [C.lexLt] using this
  | a :: s, b :: t, h => by
    have ih := lt_ints s t (by simpa using h)
    have e := PySem.W.dataLt_cons (x := nD a) (y := nD b) (by simp [PySem.W.alike]) (s.map nD) (t.map nD)
    refine Eq.trans (b := if PyData.eqv (nD a) (nD b) = true then PySem.W.rowLt (s.map nD) (t.map nD) else PySem.W.dataLt (nD a) (nD b)) e ?_
    rw [PySem.W.dataLt_int]
    by_cases q : a = b
    · subst q
      rw [if_pos (by simp [PyData.eqv])]
      simp only [C.lexLt, Nat.lt_irrefl, decide_false, Bool.false_or, decide_true, Bool.true_and]
      exact ih
    · rw [if_neg (by simp [PyData.eqv]; omega)]
      simp [C.lexLt, q]
/-- one row ahead of another -/
def ahead (a : Int) (s : List Nat) (b : Int) (t : List Nat) : Bool := if a = b then (if s = t then false else C.lexLt s t) else decide (a < b)
theorem dLt_row (a b : Int) (s t : List Nat) (h : s.length = t.length) : dLt (rowD a s) (rowD b t) = some (.bool (ahead a s b t)) := by
  have e : PySem.W.dataLt (rowD a s) (rowD b t) = ahead a s b t := by
    rw [PySem.W.dataLt_pair (by simp [PySem.W.alike]) (by simp [PySem.W.alike, alike_ints]), PySem.W.dataLt_int, PySem.W.dataLt_list]
    unfold ahead
    by_cases h1 : a = b
    · subst h1
      rw [if_pos (by simp [PyData.eqv]), if_pos rfl]
      by_cases h2 : s = t
      · subst h2
        rw [if_pos (by simp [PyData.eqv, eqv_ints]), if_pos rfl]
      · rw [if_neg (by simp [PyData.eqv, eqv_ints, h2]), if_neg h2]
        exact lt_ints s t h
    · rw [if_neg (by simp [PyData.eqv, h1]), if_neg h1]
  have e2 : PySem.W.alike (rowD a s) (rowD b t) = true := by simp [PySem.W.alike, PySem.W.alikeAll, alike_ints]
  show (if PySem.W.alike (rowD a s) (rowD b t) = true ∧ (rowD a s).depth ≤ 64 ∧ SeqAt.shaped (rowD a s) = true ∧ SeqAt.shaped (rowD b t) = true ∧ PyData.eqv (rowD a s) .none = false then some (PyData.bool (PySem.W.dataLt (rowD a s) (rowD b t))) else none) = _
  rw [if_pos ⟨e2, (lay_row a s).2, (lay_row a s).1, (lay_row b t).1, rfl⟩, e]
/-! ### the law's own best share -/
def shares (m : Nat) : Nat → List (List Nat)
  | 0 => [List.replicate m 0]
  | g + 1 => shares m g ++ (shares m g).flatMap fun s => (List.range m).map fun k => s.set k (s.getD k 0 + 2 ^ g)
theorem lexLt_asymm : ∀ s t : List Nat, C.lexLt s t = true → C.lexLt t s = false
  | [], t, h => by simp [C.lexLt] at h
  | a :: s, [], h => by simp [C.lexLt] at h
  | a :: s, b :: t, h => by
    simp only [C.lexLt, Bool.or_eq_true, decide_eq_true_eq, Bool.and_eq_true] at h
    rcases h with h | ⟨h, h2⟩
    · simp [C.lexLt]; omega
    · subst h
      simp [C.lexLt, lexLt_asymm s t h2]
section
variable {b : List (List Int)} {w : Nat} {s : List Nat}
theorem pick_wins (h : s ∈ C.seqs b.length w) (hn : s ≠ C.pick b w) : ahead (-C.sumOf b (C.pick b w)) (C.pick b w) (-C.sumOf b s) s = true := by
  have h1 := C.sum_le b w s h
  have h2 := (C.pick_in b w).2
  unfold ahead
  by_cases e : C.sumOf b s = C.best b w
  · rw [if_pos (by omega), if_neg (fun z => hn z.symm)]
    exact C.pick_first b w s h e hn
  · rw [if_neg (by omega), decide_eq_true]
    omega
theorem pick_stays (h : s ∈ C.seqs b.length w) : ahead (-C.sumOf b s) s (-C.sumOf b (C.pick b w)) (C.pick b w) = false := by
  have h1 := C.sum_le b w s h
  have h2 := (C.pick_in b w).2
  unfold ahead
  by_cases e : C.sumOf b s = C.best b w
  · rw [if_pos (by omega)]
    by_cases hn : s = C.pick b w
    · rw [if_pos hn]
    · rw [if_neg hn]
      exact lexLt_asymm _ _ (C.pick_first b w s h e hn)
  · rw [if_neg (by omega), decide_eq_false]
    omega
end
end K04

namespace K04
open PySem PySem.Spec PyProof.Rows L2 G
theorem seqs_len : ∀ (m w : Nat) (s : List Nat), s ∈ C.seqs m w → s.length = m ∧ ∀ p ∈ s, p ≤ w
  | 0, _, s, h => by
    simp [C.seqs] at h
    subst h
    exact ⟨rfl, fun p h => by cases h⟩
  | m + 1, w, s, h => by
    simp only [C.seqs, List.mem_flatMap, List.mem_map] at h
    obtain ⟨p, hp, r, hr, rfl⟩ := h
    obtain ⟨h1, h2⟩ := seqs_len m (w - p) r hr
    have := C.part_le hp
    refine ⟨by simp [h1], fun q hq => ?_⟩
    rcases List.mem_cons.mp hq with rfl | hq
    · exact this
    · have := h2 q hq
      omega
theorem sumOf_range : ∀ (b : List (List Int)) (s : List Nat), s.length = b.length → ((List.range b.length).map fun k => C.at_ (b.getD k []) (s.getD k 0)).sum = C.sumOf b s
  | [], [], _ => rfl
  | t :: b, p :: s, h => by
    have ih := sumOf_range b s (by simpa using h)
    rw [List.length_cons, List.range_succ_eq_map, List.map_cons, List.sum_cons, List.map_map]
    show C.at_ t p + _ = C.at_ t p + C.sumOf b s
    rw [← ih]
    rfl
theorem cTup2_of {f g : En → R D} {ρ : En} {a b : D} (h1 : f ρ = .ok a) (h2 : g ρ = .ok b) : cTup (cCons f (cCons g cNil)) ρ = .ok (.tuple [a, b]) := by
  simp only [cTup, cCons, cNil, h1, h2, R.bind]
  rw [if_pos (by simp; unfold sizeLine; omega)]
theorem cUn_of {dop : D → Option D} {f : En → R D} {ρ : En} {a e : D} (h1 : f ρ = .ok a) (h : dop a = some e) : cUn dop f ρ = .ok e := by
  simp only [cUn, h1, R.bind, h, ofO]
section
variable {n : Nat} {b : List (List Int)} {s : List Nat}
theorem law_sum_eq (hn : n ≤ 64) (hb : Book n b) (h1 : s.length = b.length) (h2 : ∀ p ∈ s, p < n) : f_l_sum [bD b, shD s] = .ok (.int (C.sumOf b s)) := by
  have e := lcL_map (tgt := gN 2) (f := cCallF f_l_at (cCons (cBin dIx (cVarB 0) (cVar 2)) (cCons (cBin dIx (cVarB 1) (cVar 2)) cNil))) (ρ := [some (.v (bD b)), some (.v (shD s)), none]) (enc := nD) (fun k => [some (.v (bD b)), some (.v (shD s)), some (.v (nD k))]) (fun k => .int (C.at_ (b.getD k []) (s.getD k 0))) (xs := List.range b.length) fun k hk => ⟨rfl, by
    rw [List.mem_range] at hk
    have ht : (b.getD k []).length = n := hb.len _ (getD_mem hk)
    have hp : s.getD k 0 < n := h2 _ (getD_mem (by omega))
    refine cCallF_of (ds := [tD (b.getD k []), bunD (s.getD k 0)]) ?_ (at_eq _ _ (by omega) (by omega))
    have e1 : cBin dIx (cVarB 0) (cVar 2) [some (.v (bD b)), some (.v (shD s)), some (.v (nD k))] = .ok (tD (b.getD k [])) := cBin_of rfl rfl (book_at hk)
    have e2 : cBin dIx (cVarB 1) (cVar 2) [some (.v (bD b)), some (.v (shD s)), some (.v (nD k))] = .ok (bunD (s.getD k 0)) := cBin_of rfl rfl (share_at (by omega))
    simp only [cCons, e1, e2, R.bind, cNil]⟩
  have hf := hb.few
  unfold f_l_sum g_l_sum
  refine runF_of rfl (sRet_of (ρ := [some (.v (bD b)), some (.v (shD s)), none]) ?_)
  refine cCall1_of (cLc_of (cIter1_of (d := nD b.length) (cCall1_of (d := bD b) rfl (by rw [dLen_list, List.length_map])) (dRange1_nat (by omega))) e ?_) ?_
  · rw [List.length_map, List.length_range]; unfold sizeLine; omega
  · rw [← sumOf_range b s h1]
    show (intsOf _).map _ = _
    rw [intsOf_int]
    rfl
theorem law_numbers_eq (hz : s.length < 1000) (h2 : ∀ p ∈ s, p < 64) : f_l_numbers [shD s] = .ok (.list (s.map nD)) := by
  have e := lcL_map (tgt := gN 1) (f := cCall dSum (cCons (cLc [2] (cItems (cVar 1)) (gN 2) cTrue (cBin dIx (cList (cCons (cK (.int 1)) (cCons (cK (.int 2)) (cCons (cK (.int 4)) (cCons (cK (.int 8)) (cCons (cK (.int 16)) (cCons (cK (.int 32)) cNil))))))) (cVar 2))) cNil)) (ρ := [some (.v (shD s)), none, none]) (enc := bunD) (fun p => [some (.v (shD s)), some (.v (bunD p)), none]) nD (xs := s) fun p hp => ⟨rfl, at_ix (shD s) p (h2 p hp)⟩
  unfold f_l_numbers g_l_numbers
  refine runF_of rfl (sRet_of (ρ := [some (.v (shD s)), none, none]) ?_)
  refine cLc_of (cItems_of rfl) e ?_
  rw [List.length_map]; unfold sizeLine; omega
end
def firstD (b : List (List Int)) : Option (List Nat) → D
  | none => .none
  | some c => .tuple [rowD (-C.sumOf b c) c, shD c]
def stepC (b : List (List Int)) (s : List Nat) : Option (List Nat) → Option (List Nat)
  | none => some s
  | some c' => if ahead (-C.sumOf b s) s (-C.sumOf b c') c' = true then some s else some c'
abbrev lb_c : En → R Bool := cOr (cBinT dIs (cVarB 2) (cK .none)) (cBinT dLt (cVarB 4) (cBin dIx (cVarB 2) (cK (.int 0))))
abbrev lb_b : En → SR := (sSeq (sSet 4 (cTup (cCons (cUn dNeg (cCallF f_l_sum (cCons (cVar 0) (cCons (cVar 3) cNil)))) (cCons (cCallF f_l_numbers (cCons (cVar 3) cNil)) cNil))))
    (sIf lb_c (sSet 2 (cTup (cCons (cVar 4) (cCons (cVar 3) cNil)))) sNext))
section
variable {n : Nat} (hn : n ≤ 64) (hn0 : 0 < n) {b : List (List Int)} (hb : Book n b) (g : D)
include hn hn0 hb in
theorem lb_step (s : List Nat) (hs : s ∈ C.seqs b.length (n - 1)) (c : Option (List Nat)) (hc : ∀ c', c = some c' → c' ∈ C.seqs b.length (n - 1)) (x : Option Sl) :
    lb_b [some (.v (bD b)), some (.v g), some (.v (firstD b c)), some (.v (shD s)), x] = .nx [some (.v (bD b)), some (.v g), some (.v (firstD b (stepC b s c))), some (.v (shD s)), some (.v (rowD (-C.sumOf b s) s))] := by
  obtain ⟨l1, l2⟩ := seqs_len _ _ s hs
  have hf := hb.few
  have e1 := law_sum_eq hn hb l1 (fun p hp => by have := l2 p hp; omega)
  have e2 := law_numbers_eq (s := s) (by omega) (fun p hp => by have := l2 p hp; omega)
  have e3 : cTup (cCons (cUn dNeg (cCallF f_l_sum (cCons (cVar 0) (cCons (cVar 3) cNil)))) (cCons (cCallF f_l_numbers (cCons (cVar 3) cNil)) cNil)) [some (.v (bD b)), some (.v g), some (.v (firstD b c)), some (.v (shD s)), x] = .ok (rowD (-C.sumOf b s) s) := by
    have a1 : cCallF f_l_sum (cCons (cVar 0) (cCons (cVar 3) cNil)) [some (.v (bD b)), some (.v g), some (.v (firstD b c)), some (.v (shD s)), x] = .ok (.int (C.sumOf b s)) := cCallF_of (ds := [bD b, shD s]) rfl e1
    have a2 : cCallF f_l_numbers (cCons (cVar 3) cNil) [some (.v (bD b)), some (.v g), some (.v (firstD b c)), some (.v (shD s)), x] = .ok (.list (s.map nD)) := cCallF1_of rfl e2
    exact cTup2_of (cUn_of a1 rfl) a2
  refine sSeq_nx (sSet_of e3) ?_
  cases c with
  | none =>
    refine sIf_true ?_ ((sSet_of (cTup2_of (a := rowD (-C.sumOf b s) s) (b := shD s) rfl rfl)).trans rfl)
    have q1 : cBinT dIs (cVarB 2) (cK .none) [some (.v (bD b)), some (.v g), some (.v (firstD b none)), some (.v (shD s)), some (.v (rowD (-C.sumOf b s) s))] = .ok true := cBinT_of rfl rfl rfl
    show cOr _ _ [some (.v (bD b)), some (.v g), some (.v (firstD b none)), some (.v (shD s)), some (.v (rowD (-C.sumOf b s) s))] = _
    simp only [cOr, q1, R.bind, if_true]
  | some c' =>
    obtain ⟨m1, m2⟩ := seqs_len _ _ c' (hc c' rfl)
    have q : lb_c [some (.v (bD b)), some (.v g), some (.v (firstD b (some c'))), some (.v (shD s)), some (.v (rowD (-C.sumOf b s) s))] = .ok (ahead (-C.sumOf b s) s (-C.sumOf b c') c') := by
      have q1 : cBinT dIs (cVarB 2) (cK .none) [some (.v (bD b)), some (.v g), some (.v (firstD b (some c'))), some (.v (shD s)), some (.v (rowD (-C.sumOf b s) s))] = .ok false := cBinT_of (a := .tuple [rowD (-C.sumOf b c') c', shD c']) rfl rfl rfl
      have q2 : cBinT dLt (cVarB 4) (cBin dIx (cVarB 2) (cK (.int 0))) [some (.v (bD b)), some (.v g), some (.v (firstD b (some c'))), some (.v (shD s)), some (.v (rowD (-C.sumOf b s) s))] = .ok (ahead (-C.sumOf b s) s (-C.sumOf b c') c') :=
        cBinT_of rfl (cBin_of rfl rfl (by show dIx (.tuple [rowD (-C.sumOf b c') c', shD c']) _ = _; rw [dIxT_zero]; rfl)) (dLt_row _ _ s c' (by omega))
      simp only [cOr, q1, R.bind]
      exact q2
    cases z : ahead (-C.sumOf b s) s (-C.sumOf b c') c' with
    | true =>
      rw [show stepC b s (some c') = some s by simp [stepC, z]]
      exact sIf_true (q.trans (by rw [z])) ((sSet_of (cTup2_of (a := rowD (-C.sumOf b s) s) (b := shD s) rfl rfl)).trans rfl)
    | false =>
      rw [show stepC b s (some c') = some c' by simp [stepC, z]]
      exact sIf_false (q.trans (by rw [z])) rfl
include hn hn0 hb in
theorem lb_loop : ∀ (l : List (List Nat)) (c : Option (List Nat)) (x y : Option Sl), (∀ s ∈ l, s ∈ C.seqs b.length (n - 1)) → (∀ c', c = some c' → c' ∈ C.seqs b.length (n - 1)) → (c = some (C.pick b (n - 1)) ∨ C.pick b (n - 1) ∈ l) →
    ∃ x' y', loopL (gN 3) lb_b (l.map shD) [some (.v (bD b)), some (.v g), some (.v (firstD b c)), x, y] = .nx [some (.v (bD b)), some (.v g), some (.v (firstD b (some (C.pick b (n - 1))))), x', y']
  | [], c, x, y, _, _, h => by
    rcases h with rfl | h
    · exact ⟨x, y, rfl⟩
    · cases h
  | s :: l, c, x, y, hl, hc, h => by
    have hs := hl s List.mem_cons_self
    have e := lb_step hn hn0 hb g s hs c hc y
    have next : ∀ c2, (∀ c', c2 = some c' → c' ∈ C.seqs b.length (n - 1)) → (c2 = some (C.pick b (n - 1)) ∨ C.pick b (n - 1) ∈ l) → stepC b s c = c2 →
        ∃ x' y', loopL (gN 3) lb_b ((s :: l).map shD) [some (.v (bD b)), some (.v g), some (.v (firstD b c)), x, y] = .nx [some (.v (bD b)), some (.v g), some (.v (firstD b (some (C.pick b (n - 1))))), x', y'] := by
      intro c2 h1 h2 h3
      obtain ⟨x', y', ih⟩ := lb_loop l c2 (some (.v (shD s))) (some (.v (rowD (-C.sumOf b s) s))) (fun a ha => hl a (List.mem_cons_of_mem _ ha)) h1 h2
      rw [h3] at e
      exact ⟨x', y', loopL_nx (ρ1 := [some (.v (bD b)), some (.v g), some (.v (firstD b c)), some (.v (shD s)), y]) rfl e ih⟩
    by_cases hp : s = C.pick b (n - 1)
    · cases c with
      | none => exact next (some s) (fun c' z => by cases z; exact hs) (.inl (by rw [hp])) rfl
      | some c' =>
        by_cases hq : c' = C.pick b (n - 1)
        · refine next (some c') (fun c' z => hc c' z) (.inl (by rw [hq])) ?_
          have := pick_stays (b := b) (w := n - 1) hs
          rw [← hq] at this
          simp [stepC, this]
        · refine next (some s) (fun c' z => by cases z; exact hs) (.inl (by rw [hp])) ?_
          have := pick_wins (b := b) (w := n - 1) (hc c' rfl) hq
          rw [← hp] at this
          simp [stepC, this]
    · have hm : c = some (C.pick b (n - 1)) ∨ C.pick b (n - 1) ∈ l := by
        rcases h with h | h
        · exact .inl h
        · rcases List.mem_cons.mp h with h | h
          · exact absurd h.symm hp
          · exact .inr h
      cases c with
      | none =>
        refine next (some s) (fun c' z => by cases z; exact hs) (.inr ?_) rfl
        rcases hm with z | z
        · cases z
        · exact z
      | some c' =>
        by_cases hq : c' = C.pick b (n - 1)
        · refine next (some c') (fun c' z => hc c' z) (.inl (by rw [hq])) ?_
          have := pick_stays (b := b) (w := n - 1) hs
          rw [← hq] at this
          simp [stepC, this]
        · have hm2 : C.pick b (n - 1) ∈ l := by
            rcases hm with z | z
            · cases z; exact absurd rfl hq
            · exact z
          cases z : ahead (-C.sumOf b s) s (-C.sumOf b c') c' with
          | true => exact next (some s) (fun c' z => by cases z; exact hs) (.inr hm2) (by simp [stepC, z])
          | false => exact next (some c') (fun c' z => hc c' z) (.inr hm2) (by simp [stepC, z])
end
end K04

namespace K04
open PySem PySem.Spec PyProof.Rows L2 G
/-- how many bidders and goods the laws draw -/
def Few (m g : Nat) : Prop := (1 ≤ m ∧ m ≤ 4) ∧ (1 ≤ g ∧ g ≤ 4) ∧ m + g ≤ 7
theorem Few.le {m g : Nat} (h : Few m g) : 2 ^ g ≤ 64 := by
  obtain ⟨_, h2, _⟩ := h
  obtain rfl | rfl | rfl | rfl : g = 1 ∨ g = 2 ∨ g = 3 ∨ g = 4 := by omega
  all_goals decide
theorem Few.cases {P : Nat → Nat → Prop} (h11 : P 1 1) (h12 : P 1 2) (h13 : P 1 3) (h14 : P 1 4) (h21 : P 2 1) (h22 : P 2 2) (h23 : P 2 3) (h24 : P 2 4) (h31 : P 3 1) (h32 : P 3 2) (h33 : P 3 3) (h34 : P 3 4) (h41 : P 4 1) (h42 : P 4 2) (h43 : P 4 3) {m g : Nat} (h : Few m g) : P m g := by
  obtain ⟨h1, h2, h3⟩ := h
  obtain rfl | rfl | rfl | rfl : m = 1 ∨ m = 2 ∨ m = 3 ∨ m = 4 := by omega
  all_goals obtain rfl | rfl | rfl | rfl : g = 1 ∨ g = 2 ∨ g = 3 ∨ g = 4 := by omega
  all_goals first | assumption | exact absurd h3 (by decide)
theorem shares_eq {m g : Nat} (h : Few m g) : f_l_shares [nD m, nD g] = .ok (.list ((shares m g).map shD)) := by
  refine Few.cases (P := fun m g => f_l_shares [nD m, nD g] = .ok (.list ((shares m g).map shD))) ?_ ?_ ?_ ?_ ?_ ?_ ?_ ?_ ?_ ?_ ?_ ?_ ?_ ?_ ?_ h <;> kernel_rfl
theorem shares_in {m g : Nat} (h : Few m g) : ∀ s ∈ shares m g, s ∈ C.seqs m (2 ^ g - 1) := by
  refine Few.cases (P := fun m g => ∀ s ∈ shares m g, s ∈ C.seqs m (2 ^ g - 1)) ?_ ?_ ?_ ?_ ?_ ?_ ?_ ?_ ?_ ?_ ?_ ?_ ?_ ?_ ?_ h <;> decide +kernel
theorem shares_all {m g : Nat} (h : Few m g) : ∀ s ∈ C.seqs m (2 ^ g - 1), s ∈ shares m g := by
  refine Few.cases (P := fun m g => ∀ s ∈ C.seqs m (2 ^ g - 1), s ∈ shares m g) ?_ ?_ ?_ ?_ ?_ ?_ ?_ ?_ ?_ ?_ ?_ ?_ ?_ ?_ ?_ h <;> decide +kernel
theorem lay_book (b : List (List Int)) : PyData.canLayAll0 (b.map tD) = true ∧ PyData.depthAll (b.map tD) ≤ 2 := by
  induction b with
  | nil => simp [PyData.canLayAll0, PyData.depthAll]
  | cons a r ih =>
    obtain ⟨h1, h2⟩ : PyData.canLayAll0 (a.map PyData.int) = true ∧ PyData.depthAll (a.map PyData.int) ≤ 1 := lay_ints (fun i => i) a
    simp [PyData.canLayAll0, PyData.depthAll, PyData.canLay0, PyData.depth, ih.1, h1]
    have := ih.2
    omega
theorem book_empty {b : List (List Int)} (h : b ≠ []) : dEq (bD b) (.list []) = some (.bool false) := by
  obtain ⟨h1, h2⟩ := lay_book b
  unfold dEq
  rw [if_pos ⟨by unfold SeqAt.shaped; simp [PyData.canLay0, PyData.depth, h1]; omega, by kernel_rfl⟩]
  cases b with
  | nil => exact absurd rfl h
  | cons a r => simp [PyData.eqv, PyData.eqvAll]
theorem law_best_eq {g : Nat} {b : List (List Int)} (hb : Book (2 ^ g) b) (hm : Few b.length g) : f_l_best [bD b, nD g] = .ok (.tuple [shD (C.pick b (2 ^ g - 1)), .int (C.best b (2 ^ g - 1))]) := by
  have hn : 2 ^ g ≤ 64 := hm.le
  have hn0 : 0 < 2 ^ g := Nat.pow_pos (by decide)
  have h0 : b ≠ [] := by rintro rfl; obtain ⟨h, _⟩ := hm; simp at h
  obtain ⟨p1, p2⟩ := C.pick_in b (2 ^ g - 1)
  obtain ⟨x', y', e⟩ := lb_loop hn hn0 hb (nD g) (shares b.length g) none none none (shares_in hm) (fun c' z => by cases z) (.inr (shares_all hm _ p1))
  unfold f_l_best g_l_best
  refine runF_of rfl ?_
  have e9 := sSeq_nx (g2 := sSeq (sSet 2 (cK .none)) (sSeq (sFor (gN 3) (cItems (cCallF f_l_shares (cCons (cCall dLen (cCons (cVarB 0) cNil)) (cCons (cVar 1) cNil)))) lb_b) (sRet (cTup (cCons (cBin dIx (cVarB 2) (cK (.int 1))) (cCons (cUn dNeg (cBin dIx (cBin dIx (cVarB 2) (cK (.int 0))) (cK (.int 0)))) cNil))))))
    (ρ := enter 5 2 [bD b, nD g]) (sIf_false (c := cBinT dEq (cVarB 0) (cList cNil)) (g1 := sRet (cTup (cCons (cList cNil) (cCons (cK (.int 0)) cNil)))) (g2 := sNext) (cBinT_of rfl rfl (book_empty h0)) rfl) (sSeq_nx (sSet_of rfl) (sSeq_nx (sFor_of (cItems_of (cCallF_of (ds := [nD b.length, nD g]) ?_ (shares_eq hm))) e) rfl))
  · refine (congrArg SR.out e9).trans (sRet_of ?_)
    refine cTup2_of (cBin_of (a := firstD b (some (C.pick b (2 ^ g - 1)))) (b := .int 1) rfl rfl (by show dIx (.tuple _) _ = _; rw [dIxT_one]; rfl)) (cUn_of (a := .int (-C.sumOf b (C.pick b (2 ^ g - 1)))) (cBin_of (b := .int 0) (cBin_of (a := firstD b (some (C.pick b (2 ^ g - 1)))) (b := .int 0) rfl rfl (by show dIx (.tuple _) _ = _; rw [dIxT_zero]; rfl)) rfl (by show dIx (.tuple _) _ = _; rw [dIxT_zero]; rfl)) ?_)
    show some (PyData.int (- -C.sumOf b (C.pick b (2 ^ g - 1)))) = _
    rw [p2, Int.neg_neg]
  · have q1 : cCall dLen (cCons (cVarB 0) cNil) [some (.v (bD b)), some (.v (nD g)), some (.v .none), none, none] = .ok (nD b.length) := cCall1_of rfl (by rw [dLen_list, List.length_map])
    show cCons (cCall dLen (cCons (cVarB 0) cNil)) (cCons (cVar 1) cNil) [some (.v (bD b)), some (.v (nD g)), some (.v .none), none, none] = _
    simp only [cCons, q1, R.bind, cVar, cNil]
    rfl
end K04

namespace K04
open PySem PySem.Spec PyProof.Rows L2 G
theorem cCons_of {f : En → R D} {l : En → R (List D)} {ρ : En} {d : D} {ds : List D} (h : f ρ = .ok d) (h2 : l ρ = .ok ds) : cCons f l ρ = .ok (d :: ds) := by
  simp only [cCons, h, h2, R.bind]
theorem sAsg_of {t : TgF} {f : En → R D} {ρ ρ1 : En} {d : D} (h : f ρ = .ok d) (h2 : t d ρ = some ρ1) : sAsg t f ρ = .nx ρ1 := by
  unfold sAsg
  rw [h]
  simp only [SR.of, h2]
def pays (n : Nat) (b : List (List Int)) (w : Wd) : List Int := (List.range b.length).map fun k => pay n b k w
section
variable {n : Nat} (hn : n ≤ 64) (hn0 : 0 < n) {b : List (List Int)} (hb : Book n b) (h0 : b ≠ []) (w : Wd)
include hn hn0 hb h0 in
theorem all_paid_eq : f_all_paid [bD b, w.d] = .ok (tD (pays n b w)) := by
  have hf := hb.few
  have e := lcL_map (tgt := gN 4) (f := cCallF f_paid_by (cCons (cVar 0) (cCons (cVar 2) (cCons (cVar 3) (cCons (cVar 4) (cCons (cVar 1) cNil)))))) (ρ := [some (.v (bD b)), some (.v w.d), some (.v (shD (C.pick b (n - 1)))), some (.v (.int (C.best b (n - 1)))), none]) (enc := nD) (fun k => [some (.v (bD b)), some (.v w.d), some (.v (shD (C.pick b (n - 1)))), some (.v (.int (C.best b (n - 1)))), some (.v (nD k))]) (fun k => .int (pay n b k w)) (xs := List.range b.length) fun k hk => ⟨rfl, by
    rw [List.mem_range] at hk
    exact cCallF_of (ds := [bD b, shD (C.pick b (n - 1)), .int (C.best b (n - 1)), nD k, w.d]) rfl (paid_by_eq hn hn0 hb hk w)⟩
  unfold f_all_paid g_all_paid
  refine runF_of rfl ?_
  refine (congrArg SR.out (sSeq_nx (sAsg_of (ρ1 := [some (.v (bD b)), some (.v w.d), some (.v (shD (C.pick b (n - 1)))), some (.v (.int (C.best b (n - 1)))), none]) (cCallF1_of (f := cVar 0) (d := bD b) rfl (hb.best hn hn0 h0)) rfl) rfl)).trans (sRet_of ?_)
  rw [show tD (pays n b w) = .list ((List.range b.length).map fun k => .int (pay n b k w)) by simp [pays]]
  refine cLc_of (cIter1_of (d := nD b.length) (cCall1_of (d := bD b) rfl (by rw [dLen_list, List.length_map])) (dRange1_nat (by omega))) e ?_
  rw [List.length_map, List.length_range]; unfold sizeLine; omega
/-- what a bidder with that truth gains -/
def gain (n : Nat) (b : List (List Int)) (truth : List Int) (k : Nat) (w : Wd) : Int := C.at_ truth ((C.pick b (n - 1)).getD k 0) - pay n b k w
include hn hn0 hb h0 in
theorem gain_of_eq {truth : List Int} (ht : truth.length = n) {k : Nat} (hk : k < b.length) : f_gain_of [bD b, tD truth, nD k, w.d] = .ok (.int (gain n b truth k w)) := by
  have hp := pick_at (b := b) hn0 hk
  have hs : k < (C.pick b (n - 1)).length := by rw [pick_len]; exact hk
  unfold f_gain_of g_gain_of
  refine runF_of rfl ?_
  refine (congrArg SR.out (sSeq_nx (sAsg_of (ρ1 := [some (.v (bD b)), some (.v (tD truth)), some (.v (nD k)), some (.v w.d), some (.v (shD (C.pick b (n - 1)))), some (.v (.int (C.best b (n - 1))))]) (cCallF1_of (f := cVar 0) (d := bD b) rfl (hb.best hn hn0 h0)) rfl) rfl)).trans (sRet_of ?_)
  refine cBin_of (cBin_of (a := tD truth) rfl (cCallF1_of (d := bunD ((C.pick b (n - 1)).getD k 0)) (cBin_of (a := shD (C.pick b (n - 1))) (b := nD k) rfl rfl (share_at hs)) (number_eq _ (by omega))) (tbl_ix _ _ (by rw [ht]; exact hp))) (cCallF_of (ds := [bD b, shD (C.pick b (n - 1)), .int (C.best b (n - 1)), nD k, w.d]) rfl (paid_by_eq hn hn0 hb hk w)) rfl
end
/-! ### the law's payments -/
theorem without_cutI {n : Nat} {b : List (List Int)} {i j : Nat} {ρ : En} (h : Book n b) (k : Nat) (h1 : cVar i ρ = .ok (bD b)) (h2 : cVar j ρ = .ok (nD k)) : cBin dAdd (cSlice (cVar i) cPartN (cPart (cVar j))) (cSlice (cVar i) (cPart (cBin dAdd (cVar j) (cK (.int 1)))) cPartN) ρ = .ok (bD (others b k)) := by
  refine cBin_of (cSlice_to (xs := b.map tD) (k := k) h1 h2) (cSlice_from (xs := b.map tD) (k := k + 1) h1 (cBin_of h2 rfl rfl)) ?_
  rw [dAdd_list (by have := h.few; simp; unfold sizeLine; omega)]
  simp [others]
theorem law_best_none (g : Nat) : f_l_best [.list [], nD g] = .ok (.tuple [.list [], .int 0]) := by
  unfold f_l_best g_l_best
  refine runF_of rfl ?_
  have q : cBinT dEq (cVarB 0) (cList cNil) (enter 5 2 [.list [], nD g]) = .ok true := cBinT_of (a := .list []) (b := .list []) rfl rfl (by kernel_rfl)
  have : sIf (cBinT dEq (cVarB 0) (cList cNil)) (sRet (cTup (cCons (cList cNil) (cCons (cK (.int 0)) cNil)))) sNext (enter 5 2 [.list [], nD g]) = .rt (.tuple [.list [], .int 0]) := sIf_true q (by rfl)
  unfold sSeq
  rw [this]
  rfl
section
variable {g : Nat} {b : List (List Int)} (hb : Book (2 ^ g) b) (hm : Few b.length g) (w : Wd) {k : Nat} (hk : k < b.length)
include hb hm hk in
theorem law_without : ∃ x, f_l_best [bD (others b k), nD g] = .ok (.tuple [x, .int (C.best (others b k) (2 ^ g - 1))]) := by
  by_cases h0 : others b k = []
  · rw [h0]
    exact ⟨.list [], law_best_none g⟩
  · have h1 : (others b k).length ≠ 0 := fun z => h0 (List.length_eq_zero_iff.mp z)
    have h2 : (others b k).length = b.length - 1 := by simp [others]; omega
    obtain ⟨m1, m2, m3⟩ := hm
    exact ⟨_, law_best_eq (hb.others k) ⟨by omega, m2, by omega⟩⟩
abbrev lp_b : En → SR := (sSeq (sSet 7 (cCallF f_l_at (cCons (cBin dIx (cVarB 0) (cVar 4)) (cCons (cBin dIx (cVarB 5) (cVar 4)) cNil))))
    (sSeq (sSet 8 (cK (.int 0)))
    (sSeq (sIf (cBinT dEq (cVarB 2) (cK (.str "fair")))
    (sSet 8 (cBin dAdd (cBin dSub (cBin dIx (cCallF f_l_best (cCons (cBin dAdd (cSlice (cVar 0) cPartN (cPart (cVar 4))) (cSlice (cVar 0) (cPart (cBin dAdd (cVar 4) (cK (.int 1)))) cPartN)) (cCons (cVar 1) cNil))) (cK (.int 1))) (cVarB 6)) (cVar 7)))
    sNext)
    (sAppend 3 (cBin dIx (cDict (cKd (.inr "fair") (cVar 8) (cKd (.inr "bid") (cVar 7) (cKd (.inr "none") (cK (.int 0)) (fun _ => .ok []))))) (cVar 2))))))
def wsel (a c : Int) : Wd → Int
  | .fair => a
  | .bid => c
  | .non => 0
theorem dict_word (a c : Int) (w : Wd) : dIx (.dict [(.str "fair", .int a), (.str "bid", .int c), (.str "none", .int 0)]) w.d = some (.int (wsel a c w)) := by
  cases w <;> kernel_rfl
include hb hm hk in
theorem lp_step (f : Bool) (acc : List D) (hacc : acc.length < 1000) (x y z : Option Sl) : ∃ y' z', lp_b [some (.v (bD b)), some (.v (nD g)), some (.v w.d), some (.own f (.list acc)), some (.v (nD k)), some (.v (shD (C.pick b (2 ^ g - 1)))), some (.v (.int (C.best b (2 ^ g - 1)))), y, z] =
    .nx [some (.v (bD b)), some (.v (nD g)), some (.v w.d), some (.own f (.list (acc ++ [.int (pay (2 ^ g) b k w)]))), some (.v (nD k)), some (.v (shD (C.pick b (2 ^ g - 1)))), some (.v (.int (C.best b (2 ^ g - 1)))), y', z'] := by
  have hn : 2 ^ g ≤ 64 := hm.le
  have hn0 : 0 < 2 ^ g := Nat.pow_pos (by decide)
  have hp := pick_at (b := b) hn0 hk
  have hs : k < (C.pick b (2 ^ g - 1)).length := by rw [pick_len]; exact hk
  have ht : (b.getD k []).length = 2 ^ g := hb.len _ (getD_mem hk)
  have hf := hb.few
  have e1 : cCallF f_l_at (cCons (cBin dIx (cVarB 0) (cVar 4)) (cCons (cBin dIx (cVarB 5) (cVar 4)) cNil)) [some (.v (bD b)), some (.v (nD g)), some (.v w.d), some (.own f (.list acc)), some (.v (nD k)), some (.v (shD (C.pick b (2 ^ g - 1)))), some (.v (.int (C.best b (2 ^ g - 1)))), y, z] = .ok (.int (own (2 ^ g) b k)) := by
    refine cCallF_of (ds := [tD (b.getD k []), bunD ((C.pick b (2 ^ g - 1)).getD k 0)]) ?_ (at_eq _ _ (by omega) (by omega))
    have q1 : cBin dIx (cVarB 0) (cVar 4) [some (.v (bD b)), some (.v (nD g)), some (.v w.d), some (.own f (.list acc)), some (.v (nD k)), some (.v (shD (C.pick b (2 ^ g - 1)))), some (.v (.int (C.best b (2 ^ g - 1)))), y, z] = .ok (tD (b.getD k [])) := cBin_of rfl rfl (book_at hk)
    have q2 : cBin dIx (cVarB 5) (cVar 4) [some (.v (bD b)), some (.v (nD g)), some (.v w.d), some (.own f (.list acc)), some (.v (nD k)), some (.v (shD (C.pick b (2 ^ g - 1)))), some (.v (.int (C.best b (2 ^ g - 1)))), y, z] = .ok (bunD ((C.pick b (2 ^ g - 1)).getD k 0)) := cBin_of rfl rfl (share_at hs)
    simp only [cCons, q1, q2, R.bind, cNil]
  have fin : ∀ q : Int, wsel q (own (2 ^ g) b k) w = pay (2 ^ g) b k w → sAppend 3 (cBin dIx (cDict (cKd (.inr "fair") (cVar 8) (cKd (.inr "bid") (cVar 7) (cKd (.inr "none") (cK (.int 0)) (fun _ => .ok []))))) (cVar 2)) [some (.v (bD b)), some (.v (nD g)), some (.v w.d), some (.own f (.list acc)), some (.v (nD k)), some (.v (shD (C.pick b (2 ^ g - 1)))), some (.v (.int (C.best b (2 ^ g - 1)))), some (.v (.int (own (2 ^ g) b k))), some (.v (.int q))] =
      .nx [some (.v (bD b)), some (.v (nD g)), some (.v w.d), some (.own f (.list (acc ++ [.int (pay (2 ^ g) b k w)]))), some (.v (nD k)), some (.v (shD (C.pick b (2 ^ g - 1)))), some (.v (.int (C.best b (2 ^ g - 1)))), some (.v (.int (own (2 ^ g) b k))), some (.v (.int q))] := by
    intro q hq
    refine (sAppend_of (t := f) (ds := acc) (d := .int (pay (2 ^ g) b k w)) rfl (cBin_of (a := .dict [(.str "fair", .int q), (.str "bid", .int (own (2 ^ g) b k)), (.str "none", .int 0)]) (by kernel_rfl) rfl ?_) (by unfold sizeLine; omega)).trans rfl
    rw [← hq]
    exact dict_word q (own (2 ^ g) b k) w
  by_cases hw : w = .fair
  · obtain ⟨x1, e2⟩ := law_without hb hm hk
    refine ⟨_, _, sSeq_nx (sSet_of e1) (sSeq_nx (sSet_of (d := .int 0) rfl) (sSeq_nx (sIf_true (cBinT_of (a := w.d) rfl rfl ((word_fair w).trans (by rw [decide_eq_true hw]))) (sSet_of (d := .int (C.best (others b k) (2 ^ g - 1) - C.best b (2 ^ g - 1) + own (2 ^ g) b k)) ?_)) (fin (C.best (others b k) (2 ^ g - 1) - C.best b (2 ^ g - 1) + own (2 ^ g) b k) ?_)))⟩
    · refine cBin_of (cBin_of (cBin_of (cCallF_of (ds := [bD (others b k), nD g]) ?_ e2) rfl (by rw [dIxT_one]; rfl)) rfl rfl) rfl rfl
      have q := without_cutI (i := 0) (j := 4) (ρ := ([some (.v (bD b)), some (.v (nD g)), some (.v w.d), some (.own f (.list acc)), some (.v (nD k)), some (.v (shD (C.pick b (2 ^ g - 1)))), some (.v (.int (C.best b (2 ^ g - 1)))), some (.v (.int (own (2 ^ g) b k))), some (.v (.int 0))])) hb k rfl rfl
      show cCons _ (cCons (cVar 1) cNil) [some (.v (bD b)), some (.v (nD g)), some (.v w.d), some (.own f (.list acc)), some (.v (nD k)), some (.v (shD (C.pick b (2 ^ g - 1)))), some (.v (.int (C.best b (2 ^ g - 1)))), some (.v (.int (own (2 ^ g) b k))), some (.v (.int 0))] = _
      simp only [cCons, q, R.bind, cVar, cNil]
      rfl
    · subst hw
      simp only [pay, wsel]
      omega
  · refine ⟨_, _, sSeq_nx (sSet_of e1) (sSeq_nx (sSet_of (d := .int 0) rfl) (sSeq_nx (sIf_false (cBinT_of (a := w.d) rfl rfl ((word_fair w).trans (by rw [decide_eq_false hw]))) rfl) (fin 0 ?_)))⟩
    cases w with
    | fair => exact absurd rfl hw
    | bid => rfl
    | non => rfl
include hb hm in
theorem lp_loop : ∀ (l : List Nat) (acc : List D) (f : Bool) (x y z : Option Sl), (∀ k ∈ l, k < b.length) → acc.length + l.length < 1000 → ∃ x' y' z', loopL (gN 4) lp_b (l.map nD) [some (.v (bD b)), some (.v (nD g)), some (.v w.d), some (.own f (.list acc)), x, some (.v (shD (C.pick b (2 ^ g - 1)))), some (.v (.int (C.best b (2 ^ g - 1)))), y, z] =
    .nx [some (.v (bD b)), some (.v (nD g)), some (.v w.d), some (.own f (.list (acc ++ l.map fun k => .int (pay (2 ^ g) b k w)))), x', some (.v (shD (C.pick b (2 ^ g - 1)))), some (.v (.int (C.best b (2 ^ g - 1)))), y', z']
  | [], acc, f, x, y, z, _, _ => ⟨x, y, z, by show SR.nx _ = _; simp⟩
  | k :: l, acc, f, x, y, z, hl, hz => by
    obtain ⟨y1, z1, e⟩ := lp_step hb hm w (hl k List.mem_cons_self) f acc (by omega) x y z
    obtain ⟨x', y', z', ih⟩ := lp_loop l (acc ++ [.int (pay (2 ^ g) b k w)]) f (some (.v (nD k))) y1 z1 (fun a h => hl a (List.mem_cons_of_mem _ h)) (by simp at hz ⊢; omega)
    refine ⟨x', y', z', loopL_nx (ρ1 := [some (.v (bD b)), some (.v (nD g)), some (.v w.d), some (.own f (.list acc)), some (.v (nD k)), some (.v (shD (C.pick b (2 ^ g - 1)))), some (.v (.int (C.best b (2 ^ g - 1)))), y, z]) rfl e (ih.trans ?_)⟩
    simp
include hb hm in
theorem law_paid_eq : f_l_paid [bD b, nD g, w.d] = .ok (tD (pays (2 ^ g) b w)) := by
  have hf := hb.few
  obtain ⟨x', y', z', e⟩ := lp_loop hb hm w (List.range b.length) [] false none none none (fun k h => List.mem_range.mp h) (by simp; omega)
  unfold f_l_paid g_l_paid
  refine runF_of rfl ?_
  have e9 := sSeq_nx (g2 := sSeq (sSetN 3 false (cList cNil)) (sSeq (sFor (gN 4) (cIter dRange1 (cCons (cCall dLen (cCons (cVarB 0) cNil)) cNil)) lp_b) (sRet (cVar 3)))) (ρ := enter 9 3 [bD b, nD g, w.d]) (sAsg_of (t := gT (gC (gN 5) (gC (gN 6) gE))) (cCallF_of (l := cCons (cVar 0) (cCons (cVar 1) cNil)) (ds := [bD b, nD g]) rfl (law_best_eq hb hm)) rfl) (sSeq_nx (sSetN_of (t := false) (d := .list []) rfl) (sSeq_nx (sFor_of (cIter1_of (d := nD b.length) (cCall1_of (d := bD b) rfl (by rw [dLen_list, List.length_map])) (dRange1_nat (by omega))) e) rfl))
  refine (congrArg SR.out e9).trans (sRet_of ?_)
  show R.ok (PyData.list _) = _
  simp [pays]
include hb hm hk in
theorem law_gain_eq {truth : List Int} (ht : truth.length = 2 ^ g) : f_l_gain [bD b, tD truth, nD g, nD k, w.d] = .ok (.int (gain (2 ^ g) b truth k w)) := by
  have hn : 2 ^ g ≤ 64 := hm.le
  have hn0 : 0 < 2 ^ g := Nat.pow_pos (by decide)
  have hp := pick_at (b := b) hn0 hk
  have hs : k < (C.pick b (2 ^ g - 1)).length := by rw [pick_len]; exact hk
  unfold f_l_gain g_l_gain
  refine runF_of rfl (sRet_of (ρ := [some (.v (bD b)), some (.v (tD truth)), some (.v (nD g)), some (.v (nD k)), some (.v w.d)]) ?_)
  have q0 : cCallF f_l_best (cCons (cVar 0) (cCons (cVar 2) cNil)) [some (.v (bD b)), some (.v (tD truth)), some (.v (nD g)), some (.v (nD k)), some (.v w.d)] = .ok (.tuple [shD (C.pick b (2 ^ g - 1)), .int (C.best b (2 ^ g - 1))]) := cCallF_of (ds := [bD b, nD g]) rfl (law_best_eq hb hm)
  have q1 : cBin dIx (cBin dIx (cCallF f_l_best (cCons (cVar 0) (cCons (cVar 2) cNil))) (cK (.int 0))) (cVar 3) [some (.v (bD b)), some (.v (tD truth)), some (.v (nD g)), some (.v (nD k)), some (.v w.d)] = .ok (bunD ((C.pick b (2 ^ g - 1)).getD k 0)) :=
    cBin_of (cBin_of (b := .int 0) q0 rfl (by rw [dIxT_zero]; rfl)) (b := nD k) rfl (share_at hs)
  refine cBin_of (a := .int (C.at_ truth ((C.pick b (2 ^ g - 1)).getD k 0))) (b := .int (pay (2 ^ g) b k w)) (cCallF_of (ds := [tD truth, bunD ((C.pick b (2 ^ g - 1)).getD k 0)]) ?_ (at_eq _ _ (by omega) (by omega))) (cBin_of (a := tD (pays (2 ^ g) b w)) (b := nD k) (cCallF_of (ds := [bD b, nD g, w.d]) rfl (law_paid_eq hb hm w)) rfl ?_) rfl
  · exact cCons_of rfl (cCons_of q1 rfl)
  · rw [dIx_nat]
    simp [pays, hk]
end
end K04

namespace K04
open PySem PySem.Spec PyProof.Rows L2 G
def Big (i : Int) : Prop := i.natAbs < 2 ^ 200
theorem Big.log {i : Int} (h : Big i) : i.natAbs.log2 ≤ 200 := by
  by_cases h0 : i.natAbs = 0
  · rw [h0]; decide
  · exact Nat.le_of_lt ((Nat.log2_lt h0).mpr h)
theorem dMul_ok {a b : Int} (ha : Big a) (hb : Big b) : dMul (.int a) (.int b) = some (.int (a * b)) := by
  have h1 := ha.log
  have h2 := hb.log
  have : dMul (.int a) (.int b) = if a.natAbs.log2 + b.natAbs.log2 < 1000000 then some (.int (a * b)) else none := by simp only [dMul]
  rw [this, if_pos (by omega)]
theorem div_ok (a : Int) {k : Nat} (h : 0 < k) (h2 : k < 2 ^ 60) : dDiv (.int a) (nD k) = some (.int (a / k)) := dDiv_pos a (by omega) (by
  have : (k : Int).natAbs = k := rfl
  rw [this]
  have := (Nat.log2_lt (n := k) (k := 60) (by omega)).mpr h2
  omega)
end K04

namespace K04
open PySem PySem.Spec PyProof.Rows L2 G
theorem loopL_inv {P : En → Prop} {tgt : TgF} {body : En → SR} : ∀ {ds : List D} {ρ : En}, (∀ d ∈ ds, ∀ ρ, P ρ → ∃ ρ1 ρ2, tgt d ρ = some ρ1 ∧ body ρ1 = .nx ρ2 ∧ P ρ2) → P ρ → ∃ ρ2, loopL tgt body ds ρ = .nx ρ2 ∧ P ρ2
  | [], ρ, _, h => ⟨ρ, rfl, h⟩
  | d :: ds, ρ, hd, h => by
    obtain ⟨ρ1, ρ2, e1, e2, h2⟩ := hd d List.mem_cons_self ρ h
    obtain ⟨ρ3, e3, h3⟩ := loopL_inv (P := P) (fun a ha => hd a (List.mem_cons_of_mem _ ha)) h2
    exact ⟨ρ3, loopL_nx e1 e2 e3, h3⟩
theorem cOr_ff {p q : En → R Bool} {ρ : En} (h1 : p ρ = .ok false) (h2 : q ρ = .ok false) : cOr p q ρ = .ok false := by
  simp only [cOr, h1, R.bind, h2]
  rfl
theorem cNot_of {p : En → R Bool} {ρ : En} {b : Bool} (h : p ρ = .ok b) : cNot p ρ = .ok (!b) := by
  simp only [cNot, h, R.bind]
theorem cChainT_of {f g h : En → R D} {ρ : En} {a b c : Int} (h1 : f ρ = .ok (.int a)) (h2 : g ρ = .ok (.int b)) (h3 : h ρ = .ok (.int c)) (l1 : a ≤ b) (l2 : b ≤ c) : cChainT dLe dLe f g h ρ = .ok true := by
  simp only [cChainT, h1, h2, h3, R.bind, dLe, decide_eq_true l1, decide_eq_true l2]
  rfl
theorem cChain_of {f g h : En → R D} {ρ : En} {a b c : Int} (h1 : f ρ = .ok (.int a)) (h2 : g ρ = .ok (.int b)) (h3 : h ρ = .ok (.int c)) (l1 : a ≤ b) (l2 : b ≤ c) : cChain dLe dLe f g h ρ = .ok (.bool true) := by
  simp only [cChain, h1, h2, h3, R.bind, dLe, decide_eq_true l1, decide_eq_true l2]
  rfl
theorem cAndV_tt {f g : En → R D} {ρ : En} {r : R D} (h1 : f ρ = .ok (.bool true)) (h2 : g ρ = r) : cAndV f g ρ = r := by
  simp only [cAndV, cTest, h1, R.bind, toB, ofO]
  exact h2
end K04

namespace K04
open PySem PySem.Spec PyProof.Rows L2 G
/-- a true table -/
structure TblOk (n : Nat) (t : List Int) : Prop where
  len : t.length = n
  size : n = 2 ∨ n = 4 ∨ n = 8 ∨ n = 16
  zero : C.at_ t 0 = 0
  low : 0 ≤ C.at_ t (n - 1)
  high : C.at_ t (n - 1) ≤ 1000000
  all : ∀ p, p < n → 0 ≤ C.at_ t p ∧ C.at_ t p ≤ 1000000
  mono : ∀ p, p < n → ∀ g ∈ bun p, 2 ^ g ≤ p ∧ C.at_ t (p - 2 ^ g) ≤ C.at_ t p
theorem pow_ix : ∀ g : Nat, g < 6 → dIx (.tuple [(.int 1), (.int 2), (.int 4), (.int 8), (.int 16), (.int 32), (.int 64)]) (nD g) = some (nD (2 ^ g))
  | 0, _ => by kernel_rfl
  | 1, _ => by kernel_rfl
  | 2, _ => by kernel_rfl
  | 3, _ => by kernel_rfl
  | 4, _ => by kernel_rfl
  | 5, _ => by kernel_rfl
  | g + 6, h => absurd h (by omega)
theorem is_table_eq {n : Nat} {t : List Int} (h : TblOk n t) : f_is_table [tD t] = .ok (.bool true) := by
  have hn : n ≤ 16 := by have := h.size; omega
  have hn0 : 0 < n := by have := h.size; omega
  unfold f_is_table g_is_table
  refine runF_of rfl ?_
  have q1 : cBinT dNotIn (cCall dLen (cCons (cVarB 0) cNil)) (cK (.tuple [(.int 2), (.int 4), (.int 8), (.int 16), (.int 32), (.int 64)])) (enter 3 1 [tD t]) = .ok false := by
    refine cBinT_of (a := nD n) (cCall1_of (d := tD t) rfl (by rw [dLen_list, List.length_map, h.len])) rfl ?_
    rcases h.size with rfl | rfl | rfl | rfl <;> kernel_rfl
  have q2 : cBinT dNe (cBin dIx (cVarB 0) (cK (.int 0))) (cK (.int 0)) (enter 3 1 [tD t]) = .ok false := by
    refine cBinT_of (a := .int 0) (cBin_of (a := tD t) (b := nD 0) rfl rfl (by rw [tbl_ix t 0 (by rw [h.len]; exact hn0), h.zero])) rfl (by kernel_rfl)
  have q3 : cNot (cChainT dLe dLe (cK (.int 0)) (cBin dIx (cVarB 0) (cUn dNeg (cK (.int 1)))) (cK (.int 1000000))) (enter 3 1 [tD t]) = .ok false := by
    refine cNot_of (b := true) (cChainT_of rfl (cBin_of (a := tD t) (b := .int (-1)) rfl rfl ?_) rfl h.low h.high)
    rw [dIx_last, List.getLast?_map, List.getLast?_eq_getElem?, h.len, getD_tbl (by rw [h.len]; omega)]
    rfl
  have hin : ∀ d ∈ (List.range n).map nD, ∀ ρ : En, (∃ x y, ρ = [some (.v (tD t)), x, y]) → ∃ ρ1 ρ2, gN 1 d ρ = some ρ1 ∧ (sFor (gN 2) (cItems (cCallF f_bundle_of (cCons (cVar 1) cNil)))
    (sIf (cBinT dGt (cBin dIx (cVarB 0) (cBin dSub (cVarB 1) (cBin dIx (cK (.tuple [(.int 1), (.int 2), (.int 4), (.int 8), (.int 16), (.int 32), (.int 64)])) (cVar 2)))) (cBin dIx (cVarB 0) (cVar 1)))
    (sRet (cK (.bool false)))
    sNext)) ρ1 = .nx ρ2 ∧ (∃ x y, ρ2 = [some (.v (tD t)), x, y]) := by
    intro d hd ρ hρ
    obtain ⟨p, hp, rfl⟩ := List.mem_map.mp hd
    rw [List.mem_range] at hp
    obtain ⟨x, y, rfl⟩ := hρ
    obtain ⟨ρ3, e3, x3, h3⟩ := loopL_inv (P := fun ρ => ∃ y, ρ = [some (.v (tD t)), some (.v (nD p)), y]) (tgt := gN 2) (body := sIf (cBinT dGt (cBin dIx (cVarB 0) (cBin dSub (cVarB 1) (cBin dIx (cK (.tuple [(.int 1), (.int 2), (.int 4), (.int 8), (.int 16), (.int 32), (.int 64)])) (cVar 2)))) (cBin dIx (cVarB 0) (cVar 1))) (sRet (cK (.bool false))) sNext) (ds := (bun p).map nD) (ρ := [some (.v (tD t)), some (.v (nD p)), y]) (fun d hd ρ hρ => by
      obtain ⟨g, hg, rfl⟩ := List.mem_map.mp hd
      obtain ⟨y, rfl⟩ := hρ
      obtain ⟨m1, m2⟩ := h.mono p hp g hg
      have g6 : g < 6 := List.mem_range.mp (List.mem_filter.mp hg).1
      refine ⟨_, [some (.v (tD t)), some (.v (nD p)), some (.v (nD g))], rfl, sIf_false (cBinT_of (a := .int (C.at_ t (p - 2 ^ g))) (b := .int (C.at_ t p)) (cBin_of (a := tD t) (b := nD (p - 2 ^ g)) rfl (cBin_of (a := nD p) (b := nD (2 ^ g)) rfl (cBin_of rfl rfl (pow_ix g g6)) ?_) (tbl_ix t _ (by rw [h.len]; exact Nat.lt_of_le_of_lt (Nat.sub_le _ _) hp))) (cBin_of (a := tD t) (b := nD p) rfl rfl (tbl_ix t _ (by rw [h.len]; omega))) ?_) rfl, _, rfl⟩
      · show some (PyData.int ((p : Int) - (2 ^ g : Nat))) = some (PyData.int ((p - 2 ^ g : Nat) : Int))
        rw [show ((p - 2 ^ g : Nat) : Int) = (p : Int) - (2 ^ g : Nat) by omega]
      · show some (PyData.bool (decide (C.at_ t p < C.at_ t (p - 2 ^ g)))) = _
        rw [decide_eq_false (by omega)]) ⟨y, rfl⟩
    exact ⟨_, ρ3, rfl, sFor_of (cItemsT_of (cCallF1_of (d := nD p) rfl (bundle_eq p (by omega)))) e3, _, _, h3⟩
  obtain ⟨ρ2, e2, x2, y2, h2⟩ := loopL_inv hin (ρ := [some (.v (tD t)), none, none]) ⟨_, _, rfl⟩
  have e9 := sSeq_nx (ρ := enter 3 1 [tD t]) (sIf_false (g1 := sRet (cK (.bool false))) (g2 := sNext) (cOr_ff q1 (cOr_ff q2 q3)) rfl) (sSeq_nx (g2 := sRet (cK (.bool true))) (sFor_of (l := cIter dRange1 (cCons (cCall dLen (cCons (cVarB 0) cNil)) cNil)) (cIter1_of (d := nD n) (cCall1_of (d := tD t) rfl (by rw [dLen_list, List.length_map, h.len])) (dRange1_nat (by omega))) e2) rfl)
  exact (congrArg SR.out e9).trans (sRet_of rfl)
end K04

namespace K04
open PySem PySem.Spec PyProof.Rows L2 G
/-- a book of true tables -/
structure BkOk (n m : Nat) (b : List (List Int)) : Prop where
  len : b.length = m
  tbl : ∀ t ∈ b, TblOk n t
theorem BkOk.book {n m : Nat} {b : List (List Int)} (h : BkOk n m b) (hm : m ≤ 6) : Book n b := ⟨fun t ht => (h.tbl t ht).len, by have := h.len; omega⟩
theorem best_bound {n : Nat} : ∀ (b : List (List Int)) (w : Nat), (∀ t ∈ b, TblOk n t) → w < n → 0 ≤ C.best b w ∧ C.best b w ≤ 1000000 * b.length
  | [], w, _, _ => by simp [C.best]
  | t :: ts, w, h, hw => by
    obtain ⟨p, hp, e⟩ := C.best_at t ts w
    have hp := C.part_le hp
    have h1 := (h t List.mem_cons_self).all p (by omega)
    have h2 := best_bound ts (w - p) (fun a ha => h a (List.mem_cons_of_mem _ ha)) (by omega)
    rw [List.length_cons]
    omega
theorem small_big {i : Int} (h1 : -10 ^ 12 ≤ i) (h2 : i ≤ 10 ^ 12) : Big i := by
  have e : (10 : Int) ^ 12 = 1000000000000 := by decide
  unfold Big
  have : (1000000000000 : Nat) < 2 ^ 200 := by decide
  omega
theorem own_bound {n m : Nat} {b : List (List Int)} (h : BkOk n m b) (hn0 : 0 < n) {k : Nat} (hk : k < b.length) : 0 ≤ own n b k ∧ own n b k ≤ 1000000 :=
  (h.tbl _ (getD_mem hk)).all _ (pick_at hn0 hk)
theorem others_ok {n m : Nat} {b : List (List Int)} (h : BkOk n m b) (k : Nat) : ∀ t ∈ others b k, TblOk n t := fun t ht => by
  rcases List.mem_append.mp ht with ht | ht
  · exact h.tbl t (List.mem_of_mem_take ht)
  · exact h.tbl t (List.mem_of_mem_drop ht)
theorem others_len (b : List (List Int)) (k : Nat) : (others b k).length ≤ b.length := by
  simp [others]
  omega
theorem pay_bound {n m : Nat} {b : List (List Int)} (h : BkOk n m b) (hm : m ≤ 6) (hn0 : 0 < n) {k : Nat} (hk : k < b.length) (w : Wd) : -10000000 ≤ pay n b k w ∧ pay n b k w ≤ 10000000 := by
  have h1 := own_bound h hn0 hk
  have h2 := best_bound b (n - 1) h.tbl (by omega)
  have h3 := best_bound (others b k) (n - 1) (others_ok h k) (by omega)
  have h4 := others_len b k
  have h5 := h.len
  cases w with
  | fair => simp only [pay]; omega
  | bid => simp only [pay]; omega
  | non => simp [pay]
theorem sum_bound {l : List Int} {c : Int} (h : ∀ x ∈ l, -c ≤ x ∧ x ≤ c) : -(c * l.length) ≤ l.sum ∧ l.sum ≤ c * l.length := by
  induction l with
  | nil => simp
  | cons a r ih =>
    have h1 := h a List.mem_cons_self
    have h2 := ih fun x hx => h x (List.mem_cons_of_mem _ hx)
    rw [List.sum_cons, List.length_cons]
    have : c * ((r.length + 1 : Nat) : Int) = c * r.length + c := by rw [Int.natCast_add, Int.mul_add]; simp
    rw [this]
    omega
theorem pays_big {n m : Nat} {b : List (List Int)} (h : BkOk n m b) (hm : m ≤ 6) (hn0 : 0 < n) (w : Wd) : Big (pays n b w).sum := by
  have h5 := h.len
  have := sum_bound (l := pays n b w) (c := 10000000) fun x hx => by
    obtain ⟨k, hk, rfl⟩ := List.mem_map.mp hx
    exact pay_bound h hm hn0 (List.mem_range.mp hk) w
  have hl : (pays n b w).length = b.length := by simp [pays]
  rw [hl] at this
  exact small_big (by omega) (by omega)
theorem gain_big {n m : Nat} {b : List (List Int)} (h : BkOk n m b) (hm : m ≤ 6) (hn0 : 0 < n) {truth : List Int} (ht : TblOk n truth) {k : Nat} (hk : k < b.length) (w : Wd) : Big (gain n b truth k w) := by
  have h1 := ht.all _ (pick_at (b := b) hn0 hk)
  have h2 := pay_bound h hm hn0 hk w
  unfold gain
  exact small_big (by omega) (by omega)
/-! ### rows of a Good -/
end K04

namespace K04
open PySem PySem.Spec PyProof.Rows L2 G
theorem sExpr_of {f : En → R D} {ρ : En} {d : D} (h : f ρ = .ok d) : sExpr f ρ = .nx ρ := by
  unfold sExpr
  rw [h]
  rfl
section
end
end K04

namespace K04
open PySem PySem.Spec PyProof.Rows L2 G
theorem cList_of {l : En → R (List D)} {ρ : En} {ds : List D} (h : l ρ = .ok ds) (hz : ds.length ≤ sizeLine) : cList l ρ = .ok (.list ds) := by
  unfold cList
  rw [h]
  show (if ds.length ≤ sizeLine then R.ok (PyData.list ds) else R.no) = _
  rw [if_pos hz]
section
end
end K04

namespace K04
open PySem PySem.Spec PyProof.Rows L2 G
theorem sSeq_rt {g1 g2 : En → SR} {ρ : En} {d : D} (h1 : g1 ρ = .rt d) : sSeq g1 g2 ρ = .rt d := by
  unfold sSeq
  rw [h1]
theorem sRetK {d : D} {ρ : En} : sRet (cK d) ρ = .rt d := rfl
section
theorem out_rt {d : D} : SR.out (.rt d) = .ok d := rfl
end
end K04

namespace K04
open PySem PySem.Spec PyProof.Rows L2 G
/-! ### no lie pays under 'fair' -/
theorem sumOf_set : ∀ (b : List (List Int)) (s : List Nat) (k : Nat) (t : List Int), s.length = b.length → k < b.length → C.sumOf (b.set k t) s = C.sumOf b s - C.at_ (b.getD k []) (s.getD k 0) + C.at_ t (s.getD k 0)
  | [], s, k, t, _, hk => absurd hk (by simp)
  | a :: b, [], k, t, h, _ => by simp at h
  | a :: b, p :: s, 0, t, h, _ => by simp [C.sumOf]; omega
  | a :: b, p :: s, k + 1, t, h, hk => by
    have ih := sumOf_set b s k t (by simpa using h) (by simpa using hk)
    simp only [List.set_cons_succ, C.sumOf, List.getD_cons_succ]
    rw [ih]
    omega
theorem others_set (b : List (List Int)) (k : Nat) (t : List Int) : others (b.set k t) k = others b k := by
  unfold others
  rw [List.take_set_of_le (Nat.le_refl k), List.drop_set_of_lt (by omega)]
theorem no_gain (n : Nat) (b : List (List Int)) (truth told : List Int) (k : Nat) (hk : k < b.length) : gain n (b.set k told) truth k .fair ≤ gain n (b.set k truth) truth k .fair := by
  obtain ⟨p1, p2⟩ := C.pick_in (b.set k told) (n - 1)
  obtain ⟨q1, q2⟩ := C.pick_in (b.set k truth) (n - 1)
  rw [List.length_set] at p1 q1
  have l1 := (seqs_len _ _ _ p1).1
  have l2 := (seqs_len _ _ _ q1).1
  have g1 : (b.set k told).getD k [] = told := by simp [List.getD_eq_getElem?_getD, hk]
  have g2 : (b.set k truth).getD k [] = truth := by simp [List.getD_eq_getElem?_getD, hk]
  have s1 := sumOf_set b (C.pick (b.set k told) (n - 1)) k told l1 hk
  have s2 := sumOf_set b (C.pick (b.set k told) (n - 1)) k truth l1 hk
  have m := C.sum_le (b.set k truth) (n - 1) (C.pick (b.set k told) (n - 1)) (by rw [List.length_set]; exact p1)
  unfold gain
  simp only [pay, own, others_set, g1, g2]
  omega
end K04

namespace K04
open PySem PySem.Spec PyProof.Rows L2 G
theorem loopL_cnt {P : Nat → En → Prop} {tgt : TgF} {body : En → SR} {q : Nat} : ∀ {ds : List D} {c : Nat} {ρ : En}, (∀ d ∈ ds, ∀ c' ρ, c' ≤ c + q * ds.length → P c' ρ → ∃ ρ1 ρ2, tgt d ρ = some ρ1 ∧ body ρ1 = .nx ρ2 ∧ P (c' + q) ρ2) → P c ρ → ∃ ρ2, loopL tgt body ds ρ = .nx ρ2 ∧ P (c + q * ds.length) ρ2
  | [], c, ρ, _, h => ⟨ρ, rfl, by simpa using h⟩
  | d :: ds, c, ρ, hd, h => by
    obtain ⟨ρ1, ρ2, e1, e2, h2⟩ := hd d List.mem_cons_self c ρ (by omega) h
    have hq : q * (d :: ds).length = q + q * ds.length := by rw [List.length_cons, Nat.mul_succ]; omega
    obtain ⟨ρ3, e3, h3⟩ := loopL_cnt (P := P) (q := q) (c := c + q) (fun a ha c' ρ hc => hd a (List.mem_cons_of_mem _ ha) c' ρ (by omega)) h2
    exact ⟨ρ3, loopL_nx e1 e2 e3, by rw [hq, ← Nat.add_assoc]; exact h3⟩
theorem mod_nat (a m : Nat) (hm : 0 < m) : dMod (nD a) (.int (m : Int)) = some (nD (a % m)) := by
  rw [dMod_pos _ (by omega)]
  simp
theorem div_nat (a m : Nat) (hm : 0 < m) (h : m < 2 ^ 60) : dDiv (nD a) (.int (m : Int)) = some (nD (a / m)) := by
  rw [div_ok (a : Int) hm h]
  simp
theorem big_nat {a : Nat} (h : a < 2 ^ 190) : Big (a : Int) := by
  unfold Big
  have : (2 : Nat) ^ 190 < 2 ^ 200 := by decide
  show a < _
  omega
theorem mul_nat (a b : Nat) (ha : a < 2 ^ 190) (hb : b < 2 ^ 190) : dMul (nD a) (nD b) = some (nD (a * b)) := by
  rw [dMul_ok (big_nat ha) (big_nat hb)]
  simp
theorem add_nat (a b : Nat) : dAdd (nD a) (nD b) = some (nD (a + b)) := by
  show some (PyData.int ((a : Int) + b)) = _
  simp
theorem lt_app {ds : List Nat} {b q : Nat} (h : ∀ d ∈ ds, d < q) (hb : b < q) : ∀ d ∈ ds ++ [b], d < q := fun d hd => by
  rcases List.mem_append.mp hd with hd | hd
  · exact h d hd
  · simp at hd
    subst hd
    exact hb
/-- the draws so far -/
def Dr (ns : List Int) (c : Nat) (ρ : En) : Prop := ∃ (ds : List Nat) (x y z u : Option Sl), (ds.length ≤ c ∧ ∀ d ∈ ds, d < 65536) ∧ ρ = [some (.sc ns), some (.own false (.list (ds.map nD))), x, y, z, u]
def DrR (ns : List Int) (K : D) (c : Nat) (ρ : En) : Prop := ∃ (ds : List Nat) (r : Nat) (z u : Option Sl), (ds.length ≤ c ∧ ∀ d ∈ ds, d < 65536) ∧ ρ = [some (.sc ns), some (.own false (.list (ds.map nD))), some (.v K), some (.v (nD r)), z, u]
abbrev dr_i : En → SR := (sIf (cBinT dGt (cVarB 3) (cK (.int 0)))
    (sSeq (sAppend 1 (cBin dMod (cCall dInt (cCons (cVarB 3) cNil)) (cK (.int 65536))))
    (sSet 3 (cBin dDiv (cVarB 3) (cK (.int 65536)))))
    sNext)
theorem dr_turns (ns : List Int) (K : D) {c : Nat} (hc : c ≤ 10000) {ρ : En} (h : DrR ns K c ρ) : ∃ ρ2, sFor (gN 4) (cIter dRange1 (cCons (cK (.int 60)) cNil)) dr_i ρ = .nx ρ2 ∧ DrR ns K (c + 60) ρ2 := by
  obtain ⟨ρ2, e, h2⟩ := loopL_cnt (P := DrR ns K) (q := 1) (tgt := gN 4) (body := dr_i) (ds := (List.range 60).map nD) (c := c) (ρ := ρ) (fun d hd c' ρ hc' hρ => by
    obtain ⟨ds, r, z, u, hl, rfl⟩ := hρ
    rw [List.length_map, List.length_range] at hc'
    by_cases hr : 0 < r
    · refine ⟨_, _, rfl, sIf_true (cBinT_of (a := nD r) (b := .int 0) rfl rfl (by show some (PyData.bool (decide ((0 : Int) < r))) = _; rw [decide_eq_true (by omega)])) (sSeq_nx (sAppend_of (t := false) (ds := ds.map nD) (d := nD (r % 65536)) rfl (cBin_of (a := nD r) (cCall1_of (d := nD r) rfl rfl) rfl (mod_nat r 65536 (by omega))) (by rw [List.length_map]; unfold sizeLine; omega)) (sSet_of (d := nD (r / 65536)) (cBin_of (a := nD r) rfl rfl (div_nat r 65536 (by omega) (by omega))))), ?_⟩
      exact ⟨ds ++ [r % 65536], r / 65536, _, _, ⟨by simp; omega, lt_app hl.2 (Nat.mod_lt _ (by omega))⟩, by rw [List.map_append]; rfl⟩
    · refine ⟨_, _, rfl, sIf_false (cBinT_of (a := nD r) (b := .int 0) rfl rfl (by show some (PyData.bool (decide ((0 : Int) < r))) = _; rw [decide_eq_false (by omega)])) rfl, ?_⟩
      exact ⟨ds, r, _, _, ⟨by omega, hl.2⟩, rfl⟩) h
  rw [List.length_map, List.length_range] at h2
  exact ⟨ρ2, sFor_of (cIter1_of (d := nD 60) rfl (dRange1_nat (by omega))) e, by simpa using h2⟩
abbrev dr_s : En → SR := (sSeq (sSet 5 (cBin dMod (cCall dInt (cCons (cBin dAdd (cBin dMul (cVarB 3) (cK (.int 48271))) (cBin dMul (cBin dAdd (cVar 2) (cK (.int 1))) (cK (.int 69621)))) cNil)) (cK (.int 2147483647))))
    (sSeq (sSet 5 (cBin dMod (cCall dInt (cCons (cBin dAdd (cBin dAdd (cBin dMul (cVarB 5) (cK (.int 16807))) (cBin dMul (cK (.int 11)) (cVarB 2))) (cK (.int 5))) cNil)) (cK (.int 2147483629))))
    (sSeq (sAppend 1 (cBin dMod (cCall dInt (cCons (cVarB 5) cNil)) (cK (.int 65536))))
    (sAppend 1 (cBin dMod (cCall dInt (cCons (cBin dDiv (cVarB 5) (cK (.int 65536))) cNil)) (cK (.int 32768)))))))
theorem dr_stir (ns : List Int) {c k : Nat} (hc : c ≤ 10000) (hk : k < 100) {ds : List Nat} {r : Nat} (hr : r < 10 ^ 18) {z u : Option Sl} (hl : ds.length ≤ c ∧ ∀ d ∈ ds, d < 65536) : ∃ ρ2, dr_s [some (.sc ns), some (.own false (.list (ds.map nD))), some (.v (nD k)), some (.v (nD r)), z, u] = .nx ρ2 ∧ Dr ns (c + 60) ρ2 := by
  have p18 : (10 : Nat) ^ 18 < 2 ^ 60 := by decide
  have p60 : (2 : Nat) ^ 60 < 2 ^ 190 := by decide
  have m31 : (2147483647 : Nat) < 2 ^ 60 := by decide
  let a := (r * 48271 + (k + 1) * 69621) % 2147483647
  let b := (a * 16807 + 11 * k + 5) % 2147483629
  have ha : a < 2147483647 := Nat.mod_lt _ (by omega)
  refine ⟨_, sSeq_nx (sSet_of (d := nD a) (cBin_of (a := nD (r * 48271 + (k + 1) * 69621)) (cCall1_of (d := nD (r * 48271 + (k + 1) * 69621)) (cBin_of (cBin_of (a := nD r) (b := nD 48271) rfl rfl (mul_nat _ _ (by omega) (by omega))) (cBin_of (a := nD (k + 1)) (b := nD 69621) (cBin_of (a := nD k) (b := nD 1) rfl rfl (add_nat _ _)) rfl (mul_nat _ _ (by omega) (by omega))) (add_nat _ _)) rfl) rfl (mod_nat _ 2147483647 (by omega))))
    (sSeq_nx (sSet_of (d := nD b) (cBin_of (a := nD (a * 16807 + 11 * k + 5)) (cCall1_of (d := nD (a * 16807 + 11 * k + 5)) (cBin_of (a := nD (a * 16807 + 11 * k)) (b := nD 5) (cBin_of (cBin_of (a := nD a) (b := nD 16807) rfl rfl (mul_nat _ _ (by omega) (by omega))) (cBin_of (a := nD 11) (b := nD k) rfl rfl (mul_nat _ _ (by omega) (by omega))) (add_nat _ _)) rfl (add_nat _ _)) rfl) rfl (mod_nat _ 2147483629 (by omega))))
    (sSeq_nx (sAppend_of (t := false) (ds := ds.map nD) (d := nD (b % 65536)) rfl (cBin_of (a := nD b) (cCall1_of (d := nD b) rfl rfl) rfl (mod_nat _ 65536 (by omega))) (by rw [List.length_map]; unfold sizeLine; omega))
    (sAppend_of (t := false) (ds := ds.map nD ++ [nD (b % 65536)]) (d := nD (b / 65536 % 32768)) rfl (cBin_of (a := nD (b / 65536)) (cCall1_of (d := nD (b / 65536)) (cBin_of (a := nD b) rfl rfl (div_nat _ 65536 (by omega) (by omega))) rfl) rfl (mod_nat _ 32768 (by omega))) (by rw [List.length_append, List.length_map]; unfold sizeLine; simp; omega)))), ?_⟩
  exact ⟨ds ++ [b % 65536] ++ [b / 65536 % 32768], _, _, _, _, ⟨by simp; omega, lt_app (lt_app hl.2 (Nat.mod_lt _ (by omega))) (Nat.lt_trans (Nat.mod_lt _ (by omega)) (by omega))⟩, by rw [List.map_append, List.map_append]; rfl⟩
end K04

namespace K04
open PySem PySem.Spec PyProof.Rows L2 G
theorem pow18 : dPow (.int 10) (.int 18) = some (nD (10 ^ 18)) := by kernel_rfl
abbrev dr_o : En → SR := (sSeq (sSet 3 (cCall dAbs (cCons (cIxS 0 (cVar 2)) cNil)))
    (sIf (cBinT dGe (cVarB 3) (cBin dPow (cK (.int 10)) (cK (.int 18))))
    (sFor (gN 4) (cIter dRange1 (cCons (cK (.int 60)) cNil)) dr_i)
    dr_s))
theorem dr_step (ns : List Int) {c k : Nat} (hc : c ≤ 10000) (hk : k < ns.length) (hn : ns.length ≤ 63) {ρ : En} (h : Dr ns c ρ) : ∃ ρ1 ρ2, gN 2 (nD k) ρ = some ρ1 ∧ dr_o ρ1 = .nx ρ2 ∧ Dr ns (c + 60) ρ2 := by
  obtain ⟨ds, x, y, z, u, hl, rfl⟩ := h
  have q : cCall dAbs (cCons (cIxS 0 (cVar 2)) cNil) [some (.sc ns), some (.own false (.list (ds.map nD))), some (.v (nD k)), y, z, u] = .ok (nD (ns.getD k 0).natAbs) := by
    refine cCall1_of (d := .int (ns.getD k 0)) ?_ rfl
    show ofO ((atI ns (k : Int)).map PyData.int) = _
    rw [G.atI_nat, List.getD_eq_getElem?_getD, List.getElem?_eq_getElem hk]
    rfl
  by_cases hb : (10 : Nat) ^ 18 ≤ (ns.getD k 0).natAbs
  · obtain ⟨ρ2, e, ds2, r2, z2, u2, h2, rfl⟩ := dr_turns ns (nD k) hc (ρ := [some (.sc ns), some (.own false (.list (ds.map nD))), some (.v (nD k)), some (.v (nD (ns.getD k 0).natAbs)), z, u]) ⟨ds, _, _, _, hl, rfl⟩
    refine ⟨_, _, rfl, sSeq_nx (sSet_of q) (sIf_true (cBinT_of (a := nD (ns.getD k 0).natAbs) rfl (cBin_of rfl rfl pow18) ?_) e), ds2, _, _, _, _, h2, rfl⟩
    show some (PyData.bool (decide (((10 ^ 18 : Nat) : Int) ≤ ((ns.getD k 0).natAbs : Int)))) = _
    rw [decide_eq_true (Int.ofNat_le.mpr hb)]
  · obtain ⟨ρ2, e, h2⟩ := dr_stir ns (c := c) (k := k) hc (by omega) (ds := ds) (r := (ns.getD k 0).natAbs) (by omega) (z := z) (u := u) hl
    refine ⟨_, ρ2, rfl, sSeq_nx (sSet_of q) (sIf_false (cBinT_of (a := nD (ns.getD k 0).natAbs) rfl (cBin_of rfl rfl pow18) ?_) e), h2⟩
    show some (PyData.bool (decide (((10 ^ 18 : Nat) : Int) ≤ ((ns.getD k 0).natAbs : Int)))) = _
    rw [decide_eq_false (fun z => hb (Int.ofNat_le.mp z))]
theorem draws_eq (ns : List Int) (hn : ns.length ≤ 63) : ∃ ds : List Nat, (ds.length ≤ 10000 ∧ ∀ d ∈ ds, d < 65536) ∧ f_l_draws ns = .ok (.list (ds.map nD)) := by
  obtain ⟨ρ2, e, h⟩ := loopL_cnt (P := Dr ns) (q := 60) (tgt := gN 2) (body := dr_o) (ds := (List.range ns.length).map nD) (c := 0) (ρ := [some (.sc ns), some (.own false (.list (([] : List Nat).map nD))), none, none, none, none]) (fun d hd c' ρ hc hρ => by
    obtain ⟨k, hk, rfl⟩ := List.mem_map.mp hd
    rw [List.mem_range] at hk
    rw [List.length_map, List.length_range] at hc
    exact dr_step ns (by omega) hk hn hρ) ⟨[], _, _, _, _, by simp, rfl⟩
  rw [List.length_map, List.length_range] at h
  obtain ⟨ds, x, y, z, u, hl, rfl⟩ := h
  refine ⟨ds, ⟨by omega, hl.2⟩, ?_⟩
  unfold f_l_draws g_l_draws runS
  have q : cIter dRange1 (cCons (cCall dMin2 (cCons (cK (.int 63)) (cCons (cLenS 0) cNil))) cNil) [some (.sc ns), some (.own false (.list [])), none, none, none, none] = .ok ((List.range ns.length).map nD) := by
    refine cIter1_of (d := nD ns.length) ?_ (dRange1_nat (by omega))
    show ofO (some (PyData.int (min (63 : Int) (ns.length : Nat)))) = _
    rw [Int.min_eq_right (by omega)]
    rfl
  have e9 := sSeq_nx (g2 := sSeq (sFor (gN 2) (cIter dRange1 (cCons (cCall dMin2 (cCons (cK (.int 63)) (cCons (cLenS 0) cNil))) cNil)) dr_o) (sRet (cVar 1))) (ρ := some (.sc ns) :: List.replicate 5 none) (sSetN_of (i := 1) (t := false) (f := cList cNil) (d := .list []) rfl) (sSeq_nx (sFor_of q e) rfl)
  exact (congrArg SR.out e9).trans (sRet_of rfl)
end K04

namespace K04
open PySem PySem.Spec PyProof.Rows L2 G
structure Draws (ds : List Nat) : Prop where
  few : ds.length ≤ 10000
  low : ∀ d ∈ ds, d < 65536
def cellOf (ds : List Nat) (k : Nat) : Nat := ds.getD (k % ds.length) 0
def mixOf (ds : List Nat) (k m : Nat) : Nat := if k < ds.length then cellOf ds k % m else (cellOf ds k * 7919 + k * 104729) / 3 % m
theorem mix_lt (ds : List Nat) (k : Nat) {m : Nat} (hm : 0 < m) : mixOf ds k m < m := by
  unfold mixOf
  split <;> exact Nat.mod_lt _ hm
theorem cell_lt {ds : List Nat} (h : Draws ds) (k : Nat) : cellOf ds k < 65536 := by
  unfold cellOf
  by_cases h0 : ds.length = 0
  · rw [List.length_eq_zero_iff.mp h0]; simp
  · exact h.low _ (getD_mem (Nat.mod_lt _ (by omega)))
theorem mix_eq {ds : List Nat} (h : Draws ds) {k m : Nat} (hk : k < 100000) (hm : 0 < m) : f_l_mix [.list (ds.map nD), nD k, nD m] = .ok (nD (mixOf ds k m)) := by
  have hc := cell_lt h k
  have p : (10000000000 : Nat) < 2 ^ 190 := by decide
  have ql : ∀ x, cCall dLen (cCons (cVarB 0) cNil) [some (.v (.list (ds.map nD))), some (.v (nD k)), some (.v (nD m)), x] = .ok (nD ds.length) := fun x => cCall1_of (d := .list (ds.map nD)) rfl (by rw [dLen_list, List.length_map])
  have e1 : sIf (cBinT dGt (cCall dLen (cCons (cVarB 0) cNil)) (cK (.int 0))) (sSet 3 (cBin dIx (cVarB 0) (cBin dMod (cCall dInt (cCons (cVarB 1) cNil)) (cCall dLen (cCons (cVarB 0) cNil))))) sNext [some (.v (.list (ds.map nD))), some (.v (nD k)), some (.v (nD m)), some (.v (.int 0))] = .nx [some (.v (.list (ds.map nD))), some (.v (nD k)), some (.v (nD m)), some (.v (nD (cellOf ds k)))] := by
    by_cases h0 : 0 < ds.length
    · refine sIf_true (cBinT_of (ql _) rfl (by show some (PyData.bool (decide ((0 : Int) < ds.length))) = _; rw [decide_eq_true (by omega)])) ((sSet_of (d := nD (cellOf ds k)) (cBin_of (a := .list (ds.map nD)) (b := nD (k % ds.length)) rfl (cBin_of (a := nD k) (cCall1_of (d := nD k) rfl rfl) (ql _) (mod_nat k ds.length h0)) ?_)).trans rfl)
      rw [dIx_nat, List.getElem?_map]
      unfold cellOf
      rw [List.getD_eq_getElem?_getD, List.getElem?_eq_getElem (Nat.mod_lt _ h0)]
      rfl
    · have hz : ds = [] := List.length_eq_zero_iff.mp (by omega)
      subst hz
      exact sIf_false (cBinT_of (ql _) rfl (by rfl)) (by simp [cellOf, sNext])
  unfold f_l_mix g_l_mix
  refine runF_of rfl ?_
  by_cases hl : k < ds.length
  · have e2 : sIf (cBinT dLt (cVarB 1) (cCall dLen (cCons (cVarB 0) cNil))) (sRet (cBin dMod (cCall dInt (cCons (cVarB 3) cNil)) (cVarB 2))) sNext [some (.v (.list (ds.map nD))), some (.v (nD k)), some (.v (nD m)), some (.v (nD (cellOf ds k)))] = .rt (nD (cellOf ds k % m)) := by
      refine sIf_true (cBinT_of (a := nD k) rfl (ql _) (by show some (PyData.bool (decide ((k : Int) < ds.length))) = _; rw [decide_eq_true (by omega)])) ?_
      have q : cBin dMod (cCall dInt (cCons (cVarB 3) cNil)) (cVarB 2) (disown [some (.v (.list (ds.map nD))), some (.v (nD k)), some (.v (nD m)), some (.v (nD (cellOf ds k)))]) = .ok (nD (cellOf ds k % m)) := cBin_of (a := nD (cellOf ds k)) (b := nD m) (cCall1_of (d := nD (cellOf ds k)) rfl rfl) rfl (mod_nat _ m hm)
      unfold sRet
      rw [q]
      rfl
    refine (congrArg SR.out (sSeq_nx (sSet_of (d := .int 0) rfl) (sSeq_nx e1 (sSeq_rt e2)))).trans ?_
    rw [out_rt, mixOf, if_pos hl]
  · have e2 : sIf (cBinT dLt (cVarB 1) (cCall dLen (cCons (cVarB 0) cNil))) (sRet (cBin dMod (cCall dInt (cCons (cVarB 3) cNil)) (cVarB 2))) sNext [some (.v (.list (ds.map nD))), some (.v (nD k)), some (.v (nD m)), some (.v (nD (cellOf ds k)))] = .nx [some (.v (.list (ds.map nD))), some (.v (nD k)), some (.v (nD m)), some (.v (nD (cellOf ds k)))] :=
      sIf_false (cBinT_of (a := nD k) rfl (ql _) (by show some (PyData.bool (decide ((k : Int) < ds.length))) = _; rw [decide_eq_false (by omega)])) rfl
    refine (congrArg SR.out (sSeq_nx (sSet_of (d := .int 0) rfl) (sSeq_nx e1 (sSeq_nx e2 rfl)))).trans (sRet_of ?_)
    rw [mixOf, if_neg hl]
    refine cBin_of (a := nD ((cellOf ds k * 7919 + k * 104729) / 3)) (b := nD m) (cCall1_of (d := nD ((cellOf ds k * 7919 + k * 104729) / 3)) (cBin_of (a := nD (cellOf ds k * 7919 + k * 104729)) (cCall1_of (d := nD (cellOf ds k * 7919 + k * 104729)) (cBin_of (cBin_of (a := nD (cellOf ds k)) (b := nD 7919) rfl rfl (mul_nat _ _ (by omega) (by omega))) (cBin_of (a := nD k) (b := nD 104729) rfl rfl (mul_nat _ _ (by omega) (by omega))) (add_nat _ _)) rfl) rfl (div_nat _ 3 (by omega) (by omega))) rfl) rfl (mod_nat _ m hm)
end K04

namespace K04
open PySem PySem.Spec PyProof.Rows L2 G
theorem bun_len (p : Nat) : (bun p).length ≤ 6 := by
  have := List.length_filter_le (fun g => p / 2 ^ g % 2 == 1) (List.range 6)
  simpa [bun] using this
/-- the law's room while it draws one wish -/
abbrev dwE (ds sg told : List Nat) (kvs : List (D × D)) (sub below worth : D) (k g kind j p : Nat) : En :=
  [some (.v (.list (ds.map nD))), some (.v (nD k)), some (.v (nD g)), some (.v sub), some (.v (.list (sg.map nD))), some (.v (nD kind)), some (.v (.list (told.map nD))), some (.own true (.dict kvs)), some (.v (nD j)), some (.v (bunD p)), some (.v below), some (.v worth), none, none]
section
variable {ds sg told : List Nat} {kvs : List (D × D)} {sub below worth : D} {k g kind j p : Nat}
def valsOf (sg : List Nat) (p : Nat) : List Nat := (bun p).map fun q => sg.getD q 0
theorem nat_ix {l : List Nat} {i : Nat} (h : i < l.length) : dIx (.list (l.map nD)) (nD i) = some (nD (l.getD i 0)) := by
  rw [dIx_nat, List.getElem?_map, List.getD_eq_getElem?_getD, List.getElem?_eq_getElem h]
  rfl
theorem lc_single (hs : ∀ q ∈ bun p, q < sg.length) : cLc [12] (cItems (cVar 9)) (gN 12) cTrue (cBin dIx (cVarB 4) (cVar 12)) (dwE ds sg told kvs sub below worth k g kind j p) = .ok (.list ((valsOf sg p).map nD)) := by
  have e := lcL_map (tgt := gN 12) (f := cBin dIx (cVarB 4) (cVar 12)) (ρ := dwE ds sg told kvs sub below worth k g kind j p) (enc := nD) (fun q => (dwE ds sg told kvs sub below worth k g kind j p).set 12 (some (.v (nD q)))) (fun q => nD (sg.getD q 0)) (xs := bun p) fun q hq => ⟨rfl, cBin_of (a := .list (sg.map nD)) (b := nD q) rfl rfl (nat_ix (hs q hq))⟩
  have : (valsOf sg p).map nD = (bun p).map fun q => nD (sg.getD q 0) := by simp [valsOf]
  rw [this]
  refine cLc_of (cItemsT_of rfl) e ?_
  have := bun_len p
  rw [List.length_map]; unfold sizeLine; omega
theorem vals_low (hs : ∀ x ∈ sg, x < 9) : ∀ x ∈ valsOf sg p, x < 9 := fun x hx => by
  obtain ⟨q, _, rfl⟩ := List.mem_map.mp hx
  by_cases h : q < sg.length
  · exact hs _ (getD_mem h)
  · rw [List.getD_eq_getElem?_getD, List.getElem?_eq_none (by omega)]; simp
theorem sum_nat (l : List Nat) : dSum [.list (l.map nD)] = some (.int (l.map fun (n : Nat) => (n : Int)).sum) := by
  show (intsOf _).map _ = _
  rw [intsOf_int]
  rfl
theorem vals_sum (hs : ∀ x ∈ sg, x < 9) : 0 ≤ ((valsOf sg p).map fun (n : Nat) => (n : Int)).sum ∧ ((valsOf sg p).map fun (n : Nat) => (n : Int)).sum ≤ 100 := by
  have hl : (valsOf sg p).length ≤ 6 := by have := bun_len p; simpa [valsOf] using this
  have h0 : ∀ l : List Nat, 0 ≤ (l.map fun (n : Nat) => (n : Int)).sum := fun l => by
    induction l with
    | nil => simp
    | cons a r ih => rw [List.map_cons, List.sum_cons]; omega
  have := sum_bound (l := (valsOf sg p).map fun (n : Nat) => (n : Int)) (c := 9) fun x hx => by
    obtain ⟨q, hq, rfl⟩ := List.mem_map.mp hx
    have := vals_low hs q hq
    omega
  rw [List.length_map] at this
  exact ⟨h0 _, by omega⟩
end
end K04

namespace K04
open PySem PySem.Spec PyProof.Rows L2 G
def Small (v : Int) : Prop := -1000 ≤ v ∧ v ≤ 1000
section
variable {ds sg told : List Nat} {kvs : List (D × D)} {sub below worth : D} {k g kind j p : Nat}
theorem srt_mem {l : List Int} {x : Int} (h : x ∈ srtI l) : x ∈ l := by
  have := srtI_perm l
  exact this.mem_iff.mp h
theorem k1 (hs : ∀ q ∈ bun p, q < sg.length) (h9 : ∀ x ∈ sg, x < 9) : ∃ v, Small v ∧ cCall dSum (cCons (cLc [12] (cItems (cVar 9)) (gN 12) cTrue (cBin dIx (cVarB 4) (cVar 12))) cNil) (dwE ds sg told kvs sub below worth k g kind j p) = .ok (.int v) :=
  ⟨_, by have := vals_sum (p := p) h9; unfold Small; omega, cCall1_of (lc_single hs) (sum_nat _)⟩
theorem len_b : cCall dLen (cCons (cVarB 9) cNil) (dwE ds sg told kvs sub below worth k g kind j p) = .ok (nD (bun p).length) := by
  refine cCall1_of (d := bunD p) rfl ?_
  show some (PyData.int (((bun p).map nD).length : Nat)) = _
  rw [List.length_map]
theorem k3 (hs : ∀ q ∈ bun p, q < sg.length) (h9 : ∀ x ∈ sg, x < 9) : ∃ v, Small v ∧ cBin dSub (cCall dSum (cCons (cLc [12] (cItems (cVar 9)) (gN 12) cTrue (cBin dIx (cVarB 4) (cVar 12))) cNil)) (cBin dDiv (cBin dMul (cCall dLen (cCons (cVarB 9) cNil)) (cBin dSub (cCall dLen (cCons (cVarB 9) cNil)) (cK (.int 1)))) (cK (.int 2))) (dwE ds sg told kvs sub below worth k g kind j p) = .ok (.int v) := by
  have hl := bun_len p
  have hv := vals_sum (p := p) h9
  refine ⟨_, ?_, cBin_of (cCall1_of (lc_single hs) (sum_nat _)) (cBin_of (cBin_of len_b (cBin_of len_b rfl rfl) (dMul_ok ?_ ?_)) rfl (dDiv_pos _ (by omega) (by decide))) rfl⟩
  · have e : ∀ m : Nat, m ≤ 6 → -100 ≤ (m : Int) * ((m : Int) - 1) / 2 ∧ (m : Int) * ((m : Int) - 1) / 2 ≤ 100 := by decide
    have := e _ hl
    unfold Small
    omega
  · exact small_big (by have : (10 : Int) ^ 12 = 1000000000000 := by decide
                        omega) (by have : (10 : Int) ^ 12 = 1000000000000 := by decide
                                   omega)
  · exact small_big (by have : (10 : Int) ^ 12 = 1000000000000 := by decide
                        omega) (by have : (10 : Int) ^ 12 = 1000000000000 := by decide
                                   omega)
end
end K04

namespace K04
open PySem PySem.Spec PyProof.Rows L2 G
section
variable {ds sg told : List Nat} {kvs : List (D × D)} {sub below worth : D} {k g kind j p : Nat}
theorem mix_in (h : Draws ds) (hk : k < 90000) {m : Nat} (hm : 0 < m) {f : En → R D} {ρ : En} (c : Nat) (hc : c < 10000) (h0 : cVar 0 ρ = .ok (.list (ds.map nD))) (h1 : f ρ = .ok (nD (k + c))) (l : En → R D) (hl : l ρ = .ok (nD m)) : cCallF f_l_mix (cCons (cVar 0) (cCons f (cCons l cNil))) ρ = .ok (nD (mixOf ds (k + c) m)) :=
  cCallF_of (cCons_of h0 (cCons_of h1 (cCons_of hl rfl))) (mix_eq h (by omega) hm)
theorem k5 (h : Draws ds) (hk : k < 90000) : ∃ v, Small v ∧ cBin dMul (cBin dMul (cCallF f_l_mix (cCons (cVar 0) (cCons (cBin dAdd (cVar 1) (cK (.int 8))) (cCons (cK (.int 3)) cNil)))) (cCall dLen (cCons (cVarB 9) cNil))) (cCall dLen (cCons (cVarB 9) cNil)) (dwE ds sg told kvs sub below worth k g kind j p) = .ok (.int v) := by
  have hl := bun_len p
  have hm := mix_lt ds (k + 8) (m := 3) (by omega)
  have p190 : (1000 : Nat) < 2 ^ 190 := by decide
  have b1 : mixOf ds (k + 8) 3 * (bun p).length ≤ 2 * 6 := Nat.mul_le_mul (by omega) hl
  have b2 : mixOf ds (k + 8) 3 * (bun p).length * (bun p).length ≤ 12 * 6 := Nat.mul_le_mul b1 hl
  refine ⟨((mixOf ds (k + 8) 3 * (bun p).length * (bun p).length : Nat) : Int), ?_, cBin_of (cBin_of (mix_in h hk (m := 3) (by omega) 8 (by omega) rfl (cBin_of rfl rfl rfl) _ rfl) len_b (mul_nat _ _ (by omega) (by omega))) len_b (mul_nat _ _ (by omega) (by omega))⟩
  unfold Small
  omega
theorem k2 (h : Draws ds) (hk : k < 90000) (hs : ∀ q ∈ bun p, q < sg.length) (h9 : ∀ x ∈ sg, x < 9) : ∃ v, Small v ∧ cCall dSum (cCons (cSlice (cRev (cCall dSorted (cCons (cLc [12] (cItems (cVar 9)) (gN 12) cTrue (cBin dIx (cVarB 4) (cVar 12))) cNil))) cPartN (cPart (cBin dAdd (cK (.int 1)) (cCallF f_l_mix (cCons (cVar 0) (cCons (cBin dAdd (cVar 1) (cK (.int 8))) (cCons (cK (.int 2)) cNil))))))) cNil) (dwE ds sg told kvs sub below worth k g kind j p) = .ok (.int v) := by
  have q1 : cCall dSorted (cCons (cLc [12] (cItems (cVar 9)) (gN 12) cTrue (cBin dIx (cVarB 4) (cVar 12))) cNil) (dwE ds sg told kvs sub below worth k g kind j p) = .ok (.list ((srtI ((valsOf sg p).map fun (n : Nat) => (n : Int))).map .int)) := by
    refine cCall1_of (lc_single hs) ?_
    show (intsOf _).map _ = _
    rw [intsOf_int]
    rfl
  have q2 : cRev (cCall dSorted (cCons (cLc [12] (cItems (cVar 9)) (gN 12) cTrue (cBin dIx (cVarB 4) (cVar 12))) cNil)) (dwE ds sg told kvs sub below worth k g kind j p) = .ok (.list ((srtI ((valsOf sg p).map fun (n : Nat) => (n : Int))).reverse.map .int)) := by
    simp only [cRev, q1, R.bind, dRev, ofO, List.map_reverse]
  have q3 : cBin dAdd (cK (.int 1)) (cCallF f_l_mix (cCons (cVar 0) (cCons (cBin dAdd (cVar 1) (cK (.int 8))) (cCons (cK (.int 2)) cNil)))) (dwE ds sg told kvs sub below worth k g kind j p) = .ok (nD (1 + mixOf ds (k + 8) 2)) :=
    cBin_of (a := nD 1) rfl (mix_in h hk (m := 2) (by omega) 8 (by omega) rfl (cBin_of rfl rfl rfl) _ rfl) (add_nat _ _)
  let t := (srtI ((valsOf sg p).map fun (n : Nat) => (n : Int))).reverse.take (1 + mixOf ds (k + 8) 2)
  have hb := sum_bound (l := t) (c := 9) fun x hx => by
    have h1 := srt_mem (List.mem_reverse.mp (List.mem_of_mem_take hx))
    obtain ⟨q, hq, rfl⟩ := List.mem_map.mp h1
    have := vals_low h9 q hq
    omega
  have hl : t.length ≤ 2 := by
    have := List.length_take_le (1 + mixOf ds (k + 8) 2) (srtI ((valsOf sg p).map fun (n : Nat) => (n : Int))).reverse
    have := mix_lt ds (k + 8) (m := 2) (by omega)
    show (List.take _ _).length ≤ 2
    omega
  refine ⟨t.sum, by unfold Small; omega, cCall1_of (cSlice_to q2 q3) ?_⟩
  show (intsOf _).map _ = _
  rw [← List.map_take, intsOf_map]
  rfl
end
end K04

namespace K04
open PySem PySem.Spec PyProof.Rows L2 G
section
variable {ds sg told : List Nat} {kvs : List (D × D)} {sub below worth : D} {k g kind j p : Nat}
theorem flat_nats (l : List Nat) : (l.map nD).all flatB1 = true := by
  induction l with
  | nil => rfl
  | cons a r ih => rw [List.map_cons, List.all_cons, ih]; rfl
theorem notin_nat (x : Nat) (l : List Nat) : dNotIn (nD x) (.tuple (l.map nD)) = some (.bool (!((l.map nD).any fun z => PyData.eqv z (nD x)))) := by
  have : inB (nD x) (.tuple (l.map nD)) = if flatB1 (nD x) = true ∧ (l.map nD).all flatB1 = true then some ((l.map nD).any fun z => PyData.eqv z (nD x)) else none := by simp only [inB]
  unfold dNotIn
  rw [this, if_pos ⟨rfl, flat_nats l⟩]
  rfl
theorem k4 (h9 : ∀ x ∈ sg, x < 9) (h0 : 0 < sg.length) (ht : told.length < 1000) : ∃ v, Small v ∧ cBin dMul (cBin dAdd (cK (.int 1)) (cBin dIx (cVarB 4) (cK (.int 0)))) (cCall dInt (cCons (cBin dEq (cCall dLen (cCons (cLc [12] (cItems (cVar 6)) (gN 12) (cBinT dNotIn (cVar 12) (cVarB 9)) (cVar 12)) cNil)) (cK (.int 0))) cNil)) (dwE ds sg told kvs sub below worth k g kind j p) = .ok (.int v) := by
  have e := lcL_gen (tgt := gN 12) (p := cBinT dNotIn (cVar 12) (cVarB 9)) (f := cVar 12) (ρ := dwE ds sg told kvs sub below worth k g kind j p) (enc := nD) (fun x => (dwE ds sg told kvs sub below worth k g kind j p).set 12 (some (.v (nD x)))) (fun x => !(((bun p).map nD).any fun z => PyData.eqv z (nD x))) nD (xs := told) fun x hx => ⟨rfl, cBinT_of rfl rfl (notin_nat x (bun p)), fun _ => rfl⟩
  let ys := (told.filter fun x => !(((bun p).map nD).any fun z => PyData.eqv z (nD x)))
  have hz : (ys.map nD).length ≤ sizeLine := by
    have := List.length_filter_le (fun x => !(((bun p).map nD).any fun z => PyData.eqv z (nD x))) told
    show (List.map nD (List.filter _ _)).length ≤ _
    rw [List.length_map]; unfold sizeLine; omega
  have q1 : cCall dLen (cCons (cLc [12] (cItems (cVar 6)) (gN 12) (cBinT dNotIn (cVar 12) (cVarB 9)) (cVar 12)) cNil) (dwE ds sg told kvs sub below worth k g kind j p) = .ok (.int ((ys.map nD).length : Nat)) := cCall1_of (cLc_of (cItems_of rfl) e hz) (dLen_list _)
  have q2 := cBin_of (dop := dEq) q1 (g := cK (.int 0)) rfl (dEq_int _ _)
  have q3 : cCall dInt (cCons (cBin dEq (cCall dLen (cCons (cLc [12] (cItems (cVar 6)) (gN 12) (cBinT dNotIn (cVar 12) (cVarB 9)) (cVar 12)) cNil)) (cK (.int 0))) cNil) (dwE ds sg told kvs sub below worth k g kind j p) = .ok (.int (if decide ((((ys.map nD).length : Nat) : Int) = 0) then 1 else 0)) := cCall1_of q2 rfl
  have q4 : cBin dIx (cVarB 4) (cK (.int 0)) (dwE ds sg told kvs sub below worth k g kind j p) = .ok (nD (sg.getD 0 0)) := cBin_of (a := .list (sg.map nD)) (b := nD 0) rfl rfl (nat_ix h0)
  have h1 := h9 _ (getD_mem (l := sg) (k := 0) (z := 0) h0)
  have p12 : (10 : Int) ^ 12 = 1000000000000 := by decide
  have hb : ∀ b : Bool, 0 ≤ (if b = true then (1 : Int) else 0) ∧ (if b = true then (1 : Int) else 0) ≤ 1 := by decide
  have hc := hb (decide ((((ys.map nD).length : Nat) : Int) = 0))
  refine ⟨(1 + (sg.getD 0 0 : Int)) * (if decide ((((ys.map nD).length : Nat) : Int) = 0) = true then 1 else 0), ?_, cBin_of (cBin_of rfl q4 rfl) q3 (dMul_ok (small_big (by omega) (by omega)) (small_big (by omega) (by omega)))⟩
  unfold Small
  generalize (if decide ((((ys.map nD).length : Nat) : Int) = 0) = true then (1 : Int) else 0) = c at *
  have : c = 0 ∨ c = 1 := by omega
  rcases this with rfl | rfl <;> omega
end
end K04

namespace K04
open PySem PySem.Spec PyProof.Rows L2 G
abbrev dw_1 : En → R D := cCall dSum (cCons (cLc [12] (cItems (cVar 9)) (gN 12) cTrue (cBin dIx (cVarB 4) (cVar 12))) cNil)
abbrev dw_2 : En → R D := cCall dSum (cCons (cSlice (cRev (cCall dSorted (cCons (cLc [12] (cItems (cVar 9)) (gN 12) cTrue (cBin dIx (cVarB 4) (cVar 12))) cNil))) cPartN (cPart (cBin dAdd (cK (.int 1)) (cCallF f_l_mix (cCons (cVar 0) (cCons (cBin dAdd (cVar 1) (cK (.int 8))) (cCons (cK (.int 2)) cNil))))))) cNil)
abbrev dw_3 : En → R D := cBin dSub (cCall dSum (cCons (cLc [12] (cItems (cVar 9)) (gN 12) cTrue (cBin dIx (cVarB 4) (cVar 12))) cNil)) (cBin dDiv (cBin dMul (cCall dLen (cCons (cVarB 9) cNil)) (cBin dSub (cCall dLen (cCons (cVarB 9) cNil)) (cK (.int 1)))) (cK (.int 2)))
abbrev dw_4 : En → R D := cBin dMul (cBin dAdd (cK (.int 1)) (cBin dIx (cVarB 4) (cK (.int 0)))) (cCall dInt (cCons (cBin dEq (cCall dLen (cCons (cLc [12] (cItems (cVar 6)) (gN 12) (cBinT dNotIn (cVar 12) (cVarB 9)) (cVar 12)) cNil)) (cK (.int 0))) cNil))
abbrev dw_5 : En → R D := cBin dMul (cBin dMul (cCallF f_l_mix (cCons (cVar 0) (cCons (cBin dAdd (cVar 1) (cK (.int 8))) (cCons (cK (.int 3)) cNil)))) (cCall dLen (cCons (cVarB 9) cNil))) (cCall dLen (cCons (cVarB 9) cNil))
abbrev kindIs (i : Int) : En → R Bool := cBinT dEq (cVarB 5) (cK (.int i))
abbrev dw_c : En → SR := (sIf (kindIs 1) (sSet 11 dw_1) (sIf (kindIs 2) (sSet 11 dw_2) (sIf (kindIs 3) (sSet 11 dw_3) (sIf (kindIs 4) (sSet 11 dw_4) (sIf (kindIs 5) (sSet 11 dw_5) sNext)))))
section
variable {ds sg told : List Nat} {kvs : List (D × D)} {sub below : D} {k g kind j p : Nat}
theorem kind_of (i : Int) (worth : D) : kindIs i (dwE ds sg told kvs sub below worth k g kind j p) = .ok (decide ((kind : Int) = i)) := cBinT_of rfl rfl (dEq_int _ _)
theorem worth_eq (h : Draws ds) (hk : k < 90000) (hs : ∀ q ∈ bun p, q < sg.length) (h9 : ∀ x ∈ sg, x < 9) (h0 : 0 < sg.length) (ht : told.length < 1000) {w0 : Nat} (hw : w0 < 14) : ∃ v, Small v ∧ dw_c (dwE ds sg told kvs sub below (nD w0) k g kind j p) = .nx (dwE ds sg told kvs sub below (.int v) k g kind j p) := by
  by_cases c1 : (kind : Int) = 1
  · obtain ⟨v, hv, e⟩ := k1 (ds := ds) (told := told) (kvs := kvs) (sub := sub) (below := below) (worth := nD w0) (k := k) (g := g) (kind := kind) (j := j) hs h9
    exact ⟨v, hv, sIf_true ((kind_of 1 _).trans (by rw [decide_eq_true c1])) ((sSet_of e).trans rfl)⟩
  by_cases c2 : (kind : Int) = 2
  · obtain ⟨v, hv, e⟩ := k2 (told := told) (kvs := kvs) (sub := sub) (below := below) (worth := nD w0) (g := g) (kind := kind) (j := j) h hk hs h9
    exact ⟨v, hv, sIf_false ((kind_of 1 _).trans (by rw [decide_eq_false c1])) (sIf_true ((kind_of 2 _).trans (by rw [decide_eq_true c2])) ((sSet_of e).trans rfl))⟩
  by_cases c3 : (kind : Int) = 3
  · obtain ⟨v, hv, e⟩ := k3 (ds := ds) (told := told) (kvs := kvs) (sub := sub) (below := below) (worth := nD w0) (k := k) (g := g) (kind := kind) (j := j) hs h9
    exact ⟨v, hv, sIf_false ((kind_of 1 _).trans (by rw [decide_eq_false c1])) (sIf_false ((kind_of 2 _).trans (by rw [decide_eq_false c2])) (sIf_true ((kind_of 3 _).trans (by rw [decide_eq_true c3])) ((sSet_of e).trans rfl)))⟩
  by_cases c4 : (kind : Int) = 4
  · obtain ⟨v, hv, e⟩ := k4 (ds := ds) (kvs := kvs) (sub := sub) (below := below) (worth := nD w0) (k := k) (g := g) (kind := kind) (j := j) (p := p) h9 h0 ht
    exact ⟨v, hv, sIf_false ((kind_of 1 _).trans (by rw [decide_eq_false c1])) (sIf_false ((kind_of 2 _).trans (by rw [decide_eq_false c2])) (sIf_false ((kind_of 3 _).trans (by rw [decide_eq_false c3])) (sIf_true ((kind_of 4 _).trans (by rw [decide_eq_true c4])) ((sSet_of e).trans rfl))))⟩
  by_cases c5 : (kind : Int) = 5
  · obtain ⟨v, hv, e⟩ := k5 (sg := sg) (told := told) (kvs := kvs) (sub := sub) (below := below) (worth := nD w0) (g := g) (kind := kind) (j := j) (p := p) h hk
    exact ⟨v, hv, sIf_false ((kind_of 1 _).trans (by rw [decide_eq_false c1])) (sIf_false ((kind_of 2 _).trans (by rw [decide_eq_false c2])) (sIf_false ((kind_of 3 _).trans (by rw [decide_eq_false c3])) (sIf_false ((kind_of 4 _).trans (by rw [decide_eq_false c4])) (sIf_true ((kind_of 5 _).trans (by rw [decide_eq_true c5])) ((sSet_of e).trans rfl)))))⟩
  refine ⟨w0, by unfold Small; omega, sIf_false ((kind_of 1 _).trans (by rw [decide_eq_false c1])) (sIf_false ((kind_of 2 _).trans (by rw [decide_eq_false c2])) (sIf_false ((kind_of 3 _).trans (by rw [decide_eq_false c3])) (sIf_false ((kind_of 4 _).trans (by rw [decide_eq_false c4])) (sIf_false ((kind_of 5 _).trans (by rw [decide_eq_false c5])) rfl))))⟩
end
end K04

namespace K04
open PySem PySem.Spec PyProof.Rows L2 G
abbrev dw_below : En → R D := (cLc [12] (cItems (cVar 9)) (gN 12) cTrue (cBin dIx (cVarB 7) (cCall dTupOf (cCons (cLc [13] (cItems (cVar 9)) (gN 13) (cBinT dNe (cVarB 13) (cVarB 12)) (cVar 13)) cNil))))
abbrev dw_mix : En → R D := (cCallF f_l_mix (cCons (cVar 0) (cCons (cBin dAdd (cBin dAdd (cVar 1) (cK (.int 8))) (cVar 8)) (cCons (cK (.int 14)) cNil))))
abbrev dw_top : En → R D := (cCall dMax (cCons (cBin dAdd (cBin dAdd (cList (cCons (cK (.int 0)) cNil)) (cVar 10)) (cList (cCons (cBin dMul (cVarB 11) (cCall dInt (cCons (cBin dNe (cVarB 9) (cTup cNil)) cNil))) cNil))) cNil))
abbrev dw_b : En → SR := (sSeq (sSet 9 (cBin dIx (cVarB 3) (cVar 8))) (sSeq (sSet 10 dw_below) (sSeq (sSet 11 dw_mix) (sSeq dw_c (sSetD 7 (cVar 9) dw_top)))))
/-- before a step -/
abbrev dwR (ds sg told : List Nat) (kvs : List (D × D)) (sub : D) (k g kind : Nat) (x y z u : Option Sl) : En :=
  [some (.v (.list (ds.map nD))), some (.v (nD k)), some (.v (nD g)), some (.v sub), some (.v (.list (sg.map nD))), some (.v (nD kind)), some (.v (.list (told.map nD))), some (.own true (.dict kvs)), x, y, z, u, none, none]
theorem sSetD_of {i : Nat} {fi f : En → R D} {ρ : En} {t : Bool} {kvs q : List (D × D)} {k v : D} (ho : ρ[i]? = some (some (.own t (.dict kvs)))) (h : f ρ = .ok v) (hk : fi ρ = .ok k) (hp : dPut t kvs k v = some q) : sSetD i fi f ρ = .nx (ρ.set i (some (.own t (.dict q)))) := by
  unfold sSetD ownD
  rw [ho]
  simp only [h, hk, R.bind, hp, ofO, SR.of]
def flagOf (p : Nat) : Int := if p = 0 then 0 else 1
theorem flag_eq {p : Nat} (hp : p < 16) : (dNe (bunD p) (.tuple [])).bind (fun d => dInt [d]) = some (.int (flagOf p)) := by
  obtain rfl | rfl | rfl | rfl | rfl | rfl | rfl | rfl | rfl | rfl | rfl | rfl | rfl | rfl | rfl | rfl : p = 0 ∨ p = 1 ∨ p = 2 ∨ p = 3 ∨ p = 4 ∨ p = 5 ∨ p = 6 ∨ p = 7 ∨ p = 8 ∨ p = 9 ∨ p = 10 ∨ p = 11 ∨ p = 12 ∨ p = 13 ∨ p = 14 ∨ p = 15 := by omega
  all_goals kernel_rfl
section
variable {ds sg told : List Nat} {kvs q : List (D × D)} {sub : D} {k g kind p : Nat}
theorem dw_step (h : Draws ds) (hk : k < 80000) (hs : ∀ q ∈ bun p, q < sg.length) (h9 : ∀ x ∈ sg, x < 9) (h0 : 0 < sg.length) (ht : told.length < 1000) (hp : p < 16) (hsub : dIx sub (nD p) = some (bunD p)) (bl : List Int) (hbl : bl.length < 10)
    (hb : ∀ x y, dw_below [some (.v (.list (ds.map nD))), some (.v (nD k)), some (.v (nD g)), some (.v sub), some (.v (.list (sg.map nD))), some (.v (nD kind)), some (.v (.list (told.map nD))), some (.own true (.dict kvs)), some (.v (nD p)), some (.v (bunD p)), x, y, none, none] = .ok (tD bl))
    (x y z u : Option Sl) : ∃ w : Int, Small w ∧ ∀ q, dPut true kvs (bunD p) (.int (C.top (0 :: (bl ++ [w * flagOf p])))) = some q → ∃ y' z' u', dw_b (dwR ds sg told kvs sub k g kind (some (.v (nD p))) y z u) = .nx (dwR ds sg told q sub k g kind (some (.v (nD p))) y' z' u') := by
  obtain ⟨w, hw, e⟩ := worth_eq (kvs := kvs) (sub := sub) (below := tD bl) (k := k) (g := g) (kind := kind) (j := p) (p := p) (told := told) h (by omega) hs h9 h0 ht (mix_lt ds (k + 8 + p) (m := 14) (by omega))
  refine ⟨w, hw, fun q hq => ⟨some (.v (bunD p)), some (.v (tD bl)), some (.v (.int w)), ?_⟩⟩
  have e1 : dw_mix [some (.v (.list (ds.map nD))), some (.v (nD k)), some (.v (nD g)), some (.v sub), some (.v (.list (sg.map nD))), some (.v (nD kind)), some (.v (.list (told.map nD))), some (.own true (.dict kvs)), some (.v (nD p)), some (.v (bunD p)), some (.v (tD bl)), u, none, none] = .ok (nD (mixOf ds (k + 8 + p) 14)) :=
    cCallF_of (ds := [.list (ds.map nD), nD (k + 8 + p), nD 14]) (cCons_of rfl (cCons_of (cBin_of (cBin_of (a := nD k) (b := nD 8) rfl rfl (add_nat _ _)) (b := nD p) rfl (add_nat _ _)) (cCons_of rfl rfl))) (mix_eq h (by omega) (by omega))
  have p12 : (10 : Int) ^ 12 = 1000000000000 := by decide
  have hf : 0 ≤ flagOf p ∧ flagOf p ≤ 1 := by unfold flagOf; split <;> omega
  have e2 : dw_top (dwE ds sg told kvs sub (tD bl) (.int w) k g kind p p) = .ok (.int (C.top (0 :: (bl ++ [w * flagOf p])))) := by
    have f1 : cCall dInt (cCons (cBin dNe (cVarB 9) (cTup cNil)) cNil) (dwE ds sg told kvs sub (tD bl) (.int w) k g kind p p) = .ok (.int (flagOf p)) := by
      obtain ⟨d, d1, d2⟩ := Option.bind_eq_some_iff.mp (flag_eq hp)
      exact cCall1_of (cBin_of (a := bunD p) (b := .tuple []) rfl (by kernel_rfl) d1) d2
    have f2 : cList (cCons (cBin dMul (cVarB 11) (cCall dInt (cCons (cBin dNe (cVarB 9) (cTup cNil)) cNil))) cNil) (dwE ds sg told kvs sub (tD bl) (.int w) k g kind p p) = .ok (.list [.int (w * flagOf p)]) :=
      cList_of (cCons_of (cBin_of (a := .int w) rfl f1 (dMul_ok (small_big (by unfold Small at hw; omega) (by unfold Small at hw; omega)) (small_big (by omega) (by omega)))) rfl) (by simp; unfold sizeLine; omega)
    have f3 : cBin dAdd (cList (cCons (cK (.int 0)) cNil)) (cVar 10) (dwE ds sg told kvs sub (tD bl) (.int w) k g kind p p) = .ok (.list ([.int 0] ++ bl.map .int)) := cBin_of (a := .list [.int 0]) (b := tD bl) (by kernel_rfl) rfl (dAdd_list (by simp; unfold sizeLine; omega))
    refine cCall1_of (cBin_of f3 f2 (dAdd_list (by simp; unfold sizeLine; omega))) ?_
    rw [← dMax_top (by simp)]
    simp [tD]
  refine sSeq_nx (sSet_of (cBin_of (a := sub) (b := nD p) rfl rfl hsub)) (sSeq_nx (sSet_of (hb z u)) (sSeq_nx (sSet_of e1) (sSeq_nx e ((sSetD_of (t := true) (kvs := kvs) rfl e2 rfl hq).trans rfl))))
end
end K04

namespace K04
open PySem PySem.Spec PyProof.Rows L2 G
theorem subs_eq {g : Nat} (hg : 1 ≤ g ∧ g ≤ 4) : f_l_subsets [nD g] = .ok (.list ((List.range (2 ^ g)).map bunD)) := by
  obtain rfl | rfl | rfl | rfl : g = 1 ∨ g = 2 ∨ g = 3 ∨ g = 4 := by omega
  all_goals kernel_rfl
theorem bun_low {p q : Nat} (h : q ∈ bun p) : 2 ^ q ≤ p := by
  have h2 := (List.mem_filter.mp h).2
  refine Nat.le_of_not_lt fun z => ?_
  simp [Nat.div_eq_of_lt z] at h2
theorem bun_lt {p q g : Nat} (h : q ∈ bun p) (hp : p < 2 ^ g) : q < g := (Nat.pow_lt_pow_iff_right (by decide)).mp (Nat.lt_of_le_of_lt (bun_low h) hp)
/-- a table while it grows -/
structure Grow (T : List Int) : Prop where
  all : ∀ p, p < T.length → 0 ≤ C.at_ T p ∧ C.at_ T p ≤ 1000
  zero : 0 < T.length → C.at_ T 0 = 0
  mono : ∀ p, p < T.length → ∀ q ∈ bun p, C.at_ T (p - 2 ^ q) ≤ C.at_ T p
theorem at_app {T : List Int} {v : Int} {p : Nat} (h : p < T.length) : C.at_ (T ++ [v]) p = C.at_ T p := by
  unfold C.at_
  rw [List.getD_eq_getElem?_getD, List.getD_eq_getElem?_getD, List.getElem?_append_left h]
theorem at_new {T : List Int} {v : Int} : C.at_ (T ++ [v]) T.length = v := by
  unfold C.at_
  rw [List.getD_eq_getElem?_getD, List.getElem?_append_right (Nat.le_refl _)]
  simp
def belowOf (T : List Int) (p : Nat) : List Int := (bun p).map fun q => C.at_ T (p - 2 ^ q)
theorem top_bound {l : List Int} {w : Int} (hl : ∀ x ∈ l, 0 ≤ x ∧ x ≤ 1000) (hw : Small w) : 0 ≤ C.top (0 :: (l ++ [w])) ∧ C.top (0 :: (l ++ [w])) ≤ 1000 := by
  refine ⟨C.top_ge List.mem_cons_self, ?_⟩
  have := C.top_mem (l := 0 :: (l ++ [w])) (by simp)
  rcases List.mem_cons.mp this with h | h
  · omega
  rcases List.mem_append.mp h with h | h
  · exact (hl _ h).2
  · simp at h
    unfold Small at hw
    omega
theorem top_in {l : List Int} {w x : Int} (h : x ∈ l) : x ≤ C.top (0 :: (l ++ [w])) := C.top_ge (List.mem_cons_of_mem _ (List.mem_append_left _ h))
theorem small_flag {w : Int} {p : Nat} (h : Small w) : Small (w * flagOf p) := by
  unfold Small at *
  unfold flagOf
  split <;> omega
theorem Grow.step {T : List Int} (h : Grow T) {w : Int} (hw : Small w) : Grow (T ++ [C.top (0 :: (belowOf T T.length ++ [w * flagOf T.length]))]) := by
  have hb : ∀ x ∈ belowOf T T.length, 0 ≤ x ∧ x ≤ 1000 := fun x hx => by
    obtain ⟨q, hq, rfl⟩ := List.mem_map.mp hx
    have h1 := bun_low hq
    have h2 : 0 < 2 ^ q := Nat.pow_pos (by decide)
    exact h.all _ (by omega)
  have hv := top_bound hb (small_flag (p := T.length) hw)
  refine ⟨fun p hp => ?_, fun _ => ?_, fun p hp q hq => ?_⟩
  · rw [List.length_append] at hp
    simp at hp
    rcases Nat.lt_or_ge p T.length with z | z
    · rw [at_app z]; exact h.all p z
    · obtain rfl : p = T.length := by omega
      rw [at_new]; exact hv
  · rcases Nat.eq_zero_or_pos T.length with z | z
    · obtain rfl := List.length_eq_zero_iff.mp z
      show C.top (0 :: ([] ++ [w * flagOf 0])) = 0
      have : w * flagOf 0 = 0 := by simp [flagOf]
      rw [this]; decide
    · rw [at_app z]; exact h.zero z
  · rw [List.length_append] at hp
    simp at hp
    have h1 := bun_low hq
    have h2 : 0 < 2 ^ q := Nat.pow_pos (by decide)
    rcases Nat.lt_or_ge p T.length with z | z
    · rw [at_app z, at_app (by omega)]; exact h.mono p z q hq
    · obtain rfl : p = T.length := by omega
      rw [at_new, at_app (by omega)]
      exact top_in (List.mem_map.mpr ⟨q, hq, rfl⟩)
theorem Grow.tbl {T : List Int} {g : Nat} (h : Grow T) (hg : 1 ≤ g ∧ g ≤ 4) (hl : T.length = 2 ^ g) : TblOk (2 ^ g) T := by
  have h0 : 0 < 2 ^ g := Nat.pow_pos (by decide)
  refine ⟨hl, ?_, h.zero (by omega), (h.all _ (by omega)).1, ?_, fun p hp => ?_, fun p hp q hq => ⟨bun_low hq, h.mono p (by omega) q hq⟩⟩
  · obtain rfl | rfl | rfl | rfl : g = 1 ∨ g = 2 ∨ g = 3 ∨ g = 4 := by omega
    all_goals decide
  · have := (h.all (2 ^ g - 1) (by omega)).2
    omega
  · have := h.all p (by omega)
    omega
def kvsOf (T : List Int) : List (D × D) := T.zipIdx.map fun q => (bunD q.2, .int q.1)
section
variable {ds sg told : List Nat} {sub : D} {k g kind : Nat}
theorem below_at (x0 x y : Option Sl) : ∀ T : List Int, T.length < 16 → dw_below [some (.v (.list (ds.map nD))), some (.v (nD k)), some (.v (nD g)), some (.v sub), some (.v (.list (sg.map nD))), some (.v (nD kind)), some (.v (.list (told.map nD))), some (.own true (.dict (kvsOf T))), x0, some (.v (bunD T.length)), x, y, none, none] = .ok (tD (belowOf T T.length))
  | [], _ => by kernel_rfl
  | [_], _ => by kernel_rfl
  | [_, _], _ => by kernel_rfl
  | [_, _, _], _ => by kernel_rfl
  | [_, _, _, _], _ => by kernel_rfl
  | [_, _, _, _, _], _ => by kernel_rfl
  | [_, _, _, _, _, _], _ => by kernel_rfl
  | [_, _, _, _, _, _, _], _ => by kernel_rfl
  | [_, _, _, _, _, _, _, _], _ => by kernel_rfl
  | [_, _, _, _, _, _, _, _, _], _ => by kernel_rfl
  | [_, _, _, _, _, _, _, _, _, _], _ => by kernel_rfl
  | [_, _, _, _, _, _, _, _, _, _, _], _ => by kernel_rfl
  | [_, _, _, _, _, _, _, _, _, _, _, _], _ => by kernel_rfl
  | [_, _, _, _, _, _, _, _, _, _, _, _, _], _ => by kernel_rfl
  | [_, _, _, _, _, _, _, _, _, _, _, _, _, _], _ => by kernel_rfl
  | [_, _, _, _, _, _, _, _, _, _, _, _, _, _, _], _ => by kernel_rfl
  | _ :: _ :: _ :: _ :: _ :: _ :: _ :: _ :: _ :: _ :: _ :: _ :: _ :: _ :: _ :: _ :: _, h => absurd h (by simp)
theorem put_at (v : Int) : ∀ T : List Int, T.length < 16 → dPut true (kvsOf T) (bunD T.length) (.int v) = some (kvsOf (T ++ [v]))
  | [], _ => by kernel_rfl
  | [_], _ => by kernel_rfl
  | [_, _], _ => by kernel_rfl
  | [_, _, _], _ => by kernel_rfl
  | [_, _, _, _], _ => by kernel_rfl
  | [_, _, _, _, _], _ => by kernel_rfl
  | [_, _, _, _, _, _], _ => by kernel_rfl
  | [_, _, _, _, _, _, _], _ => by kernel_rfl
  | [_, _, _, _, _, _, _, _], _ => by kernel_rfl
  | [_, _, _, _, _, _, _, _, _], _ => by kernel_rfl
  | [_, _, _, _, _, _, _, _, _, _], _ => by kernel_rfl
  | [_, _, _, _, _, _, _, _, _, _, _], _ => by kernel_rfl
  | [_, _, _, _, _, _, _, _, _, _, _, _], _ => by kernel_rfl
  | [_, _, _, _, _, _, _, _, _, _, _, _, _], _ => by kernel_rfl
  | [_, _, _, _, _, _, _, _, _, _, _, _, _, _], _ => by kernel_rfl
  | [_, _, _, _, _, _, _, _, _, _, _, _, _, _, _], _ => by kernel_rfl
  | _ :: _ :: _ :: _ :: _ :: _ :: _ :: _ :: _ :: _ :: _ :: _ :: _ :: _ :: _ :: _ :: _, h => absurd h (by simp)
end
abbrev dw_last : En → R D := (cLc [9] (cItems (cVar 3)) (gN 9) cTrue (cBin dIx (cVarB 7) (cVar 9)))
section
variable {ds sg told : List Nat} {k g kind : Nat}
theorem last_at (p x y z : Option Sl) (hg : 1 ≤ g ∧ g ≤ 4) : ∀ T : List Int, T.length = 2 ^ g → dw_last (disown (dwR ds sg told (kvsOf T) (.list ((List.range (2 ^ g)).map bunD)) k g kind p x y z)) = .ok (tD T) := by
  obtain rfl | rfl | rfl | rfl : g = 1 ∨ g = 2 ∨ g = 3 ∨ g = 4 := by omega
  · intro T h
    match T, h with
    | [_, _], _ => kernel_rfl
  · intro T h
    match T, h with
    | [_, _, _, _], _ => kernel_rfl
  · intro T h
    match T, h with
    | [_, _, _, _, _, _, _, _], _ => kernel_rfl
  · intro T h
    match T, h with
    | [_, _, _, _, _, _, _, _, _, _, _, _, _, _, _, _], _ => kernel_rfl
theorem dw_run (h : Draws ds) (hk : k < 80000) (hg : 1 ≤ g ∧ g ≤ 4) (hs : sg.length = g) (h9 : ∀ x ∈ sg, x < 9) (ht : told.length < 1000) : ∀ (m : Nat) (T : List Int) (p y z u : Option Sl), T.length + m ≤ 2 ^ g → Grow T → ∃ (T' : List Int) (p' y' z' u' : Option Sl), T'.length = T.length + m ∧ Grow T' ∧ loopL (gN 8) dw_b ((List.range' T.length m).map nD) (dwR ds sg told (kvsOf T) (.list ((List.range (2 ^ g)).map bunD)) k g kind p y z u) = .nx (dwR ds sg told (kvsOf T') (.list ((List.range (2 ^ g)).map bunD)) k g kind p' y' z' u')
  | 0, T, p, y, z, u, _, hG => ⟨T, p, y, z, u, rfl, hG, rfl⟩
  | m + 1, T, p, y, z, u, hm, hG => by
    have h16 : 2 ^ g ≤ 16 := by
      obtain rfl | rfl | rfl | rfl : g = 1 ∨ g = 2 ∨ g = 3 ∨ g = 4 := by omega
      all_goals decide
    have hbl : (belowOf T T.length).length < 10 := by
      have := bun_len T.length
      rw [belowOf, List.length_map]; omega
    obtain ⟨w, hw, f⟩ := dw_step (sg := sg) (told := told) (kvs := kvsOf T) (sub := .list ((List.range (2 ^ g)).map bunD)) (g := g) (kind := kind) (p := T.length) h hk (fun q hq => by rw [hs]; exact bun_lt hq (by omega)) h9 (by omega) ht (by omega) (by rw [dIx_nat, List.getElem?_map, List.getElem?_range (by omega)]; rfl) (belowOf T T.length) hbl (fun x y => below_at _ x y T (by omega)) none y z u
    obtain ⟨y', z', u', e2⟩ := f _ (put_at _ T (by omega))
    have hl : (T ++ [C.top (0 :: (belowOf T T.length ++ [w * flagOf T.length]))]).length = T.length + 1 := by rw [List.length_append]; rfl
    obtain ⟨T', p2, y2, z2, u2, h1, h2, h3⟩ := dw_run h hk hg hs h9 ht m (T ++ [C.top (0 :: (belowOf T T.length ++ [w * flagOf T.length]))]) (some (.v (nD T.length))) y' z' u' (by omega) (hG.step hw)
    refine ⟨T', p2, y2, z2, u2, by omega, h2, ?_⟩
    rw [hl] at h3
    rw [List.range'_succ, List.map_cons]
    exact loopL_nx (d := nD T.length) rfl e2 h3
end
def sgOf (ds : List Nat) (k g : Nat) : List Nat := (List.range g).map fun i => mixOf ds (k + i) 9
def toldOf (ds : List Nat) (k g : Nat) : List Nat := (List.range g).filter fun i => decide (((mixOf ds (k + 9 + i) 2 : Nat) : Int) = 0)
section
variable {ds : List Nat} {k g : Nat} (h : Draws ds) (hk : k < 80000) (hg : g < 10) (sub : D)
include h hk hg in
theorem dw_single : cLc [12] (cIter dRange1 (cCons (cVarB 2) cNil)) (gN 12) cTrue (cCallF f_l_mix (cCons (cVar 0) (cCons (cBin dAdd (cVar 1) (cVar 12)) (cCons (cK (.int 9)) cNil)))) [some (.v (.list (ds.map nD))), some (.v (nD k)), some (.v (nD g)), some (.v sub), none, none, none, none, none, none, none, none, none, none] = .ok (.list ((sgOf ds k g).map nD)) := by
  have e := lcL_map (tgt := gN 12) (f := cCallF f_l_mix (cCons (cVar 0) (cCons (cBin dAdd (cVar 1) (cVar 12)) (cCons (cK (.int 9)) cNil)))) (ρ := [some (.v (.list (ds.map nD))), some (.v (nD k)), some (.v (nD g)), some (.v sub), none, none, none, none, none, none, none, none, none, none]) (enc := nD) (fun i => [some (.v (.list (ds.map nD))), some (.v (nD k)), some (.v (nD g)), some (.v sub), none, none, none, none, none, none, none, none, some (.v (nD i)), none]) (fun i => nD (mixOf ds (k + i) 9)) (xs := List.range g) fun i hi => ⟨rfl, cCallF_of (ds := [.list (ds.map nD), nD (k + i), nD 9]) (cCons_of rfl (cCons_of (cBin_of (a := nD k) (b := nD i) rfl rfl (add_nat _ _)) (cCons_of rfl rfl))) (mix_eq h (by have := List.mem_range.mp hi; omega) (by decide))⟩
  have : (sgOf ds k g).map nD = (List.range g).map fun i => nD (mixOf ds (k + i) 9) := by simp [sgOf]
  rw [this]
  exact cLc_of (cIter1_of (d := nD g) rfl (dRange1_nat (by omega))) e (by rw [List.length_map, List.length_range]; unfold sizeLine; omega)
include h hk hg in
theorem dw_told (kind : Nat) (sg : List Nat) : cLc [12] (cIter dRange1 (cCons (cVarB 2) cNil)) (gN 12) (cBinT dEq (cCallF f_l_mix (cCons (cVar 0) (cCons (cBin dAdd (cBin dAdd (cVar 1) (cK (.int 9))) (cVar 12)) (cCons (cK (.int 2)) cNil)))) (cK (.int 0))) (cVar 12) [some (.v (.list (ds.map nD))), some (.v (nD k)), some (.v (nD g)), some (.v sub), some (.v (.list (sg.map nD))), some (.v (nD kind)), none, none, none, none, none, none, none, none] = .ok (.list ((toldOf ds k g).map nD)) := by
  have e := lcL_gen (tgt := gN 12) (p := cBinT dEq (cCallF f_l_mix (cCons (cVar 0) (cCons (cBin dAdd (cBin dAdd (cVar 1) (cK (.int 9))) (cVar 12)) (cCons (cK (.int 2)) cNil)))) (cK (.int 0))) (f := cVar 12) (ρ := [some (.v (.list (ds.map nD))), some (.v (nD k)), some (.v (nD g)), some (.v sub), some (.v (.list (sg.map nD))), some (.v (nD kind)), none, none, none, none, none, none, none, none]) (enc := nD) (fun i => [some (.v (.list (ds.map nD))), some (.v (nD k)), some (.v (nD g)), some (.v sub), some (.v (.list (sg.map nD))), some (.v (nD kind)), none, none, none, none, none, none, some (.v (nD i)), none]) (fun i => decide (((mixOf ds (k + 9 + i) 2 : Nat) : Int) = 0)) nD (xs := List.range g) fun i hi => ⟨rfl, cBinT_of (a := nD (mixOf ds (k + 9 + i) 2)) (cCallF_of (ds := [.list (ds.map nD), nD (k + 9 + i), nD 2]) (cCons_of rfl (cCons_of (cBin_of (cBin_of (a := nD k) (b := nD 9) rfl rfl (add_nat _ _)) (b := nD i) rfl (add_nat _ _)) (cCons_of rfl rfl))) (mix_eq h (by have := List.mem_range.mp hi; omega) (by decide))) rfl (dEq_int _ _), fun _ => rfl⟩
  refine cLc_of (cIter1_of (d := nD g) rfl (dRange1_nat (by omega))) e ?_
  have := List.length_filter_le (fun i => decide (((mixOf ds (k + 9 + i) 2 : Nat) : Int) = 0)) (List.range g)
  rw [List.length_range] at this
  rw [List.length_map]
  show (toldOf ds k g).length ≤ sizeLine
  have e2 : (toldOf ds k g).length ≤ g := this
  unfold sizeLine; omega
theorem told_few : (toldOf ds k g).length ≤ g := by
  have := List.length_filter_le (fun i => decide (((mixOf ds (k + 9 + i) 2 : Nat) : Int) = 0)) (List.range g)
  simpa [toldOf] using this
theorem sg_low : ∀ x ∈ sgOf ds k g, x < 9 := fun x hx => by
  obtain ⟨i, _, rfl⟩ := List.mem_map.mp hx
  exact mix_lt _ _ (by decide)
include h hk hg in
theorem drawn_of {t : List Int} {xs : List D} {m : Nat} {ρ2 : En} (hm : m < 100) (hx : xs.length = m) (es : f_l_subsets [nD g] = .ok (.list xs))
    (e1 : loopL (gN 8) dw_b ((List.range m).map nD) (dwR ds (sgOf ds k g) (toldOf ds k g) [] (.list xs) k g (mixOf ds (k + 7) 6) none none none none) = .nx ρ2) (e2 : dw_last (disown ρ2) = .ok (tD t)) : f_l_drawn [.list (ds.map nD), nD k, nD g] = .ok (tD t) := by
  unfold f_l_drawn g_l_drawn
  refine runF_of rfl ?_
  have q5 : cCallF f_l_mix (cCons (cVar 0) (cCons (cBin dAdd (cVar 1) (cK (.int 7))) (cCons (cK (.int 6)) cNil))) [some (.v (.list (ds.map nD))), some (.v (nD k)), some (.v (nD g)), some (.v (.list xs)), some (.v (.list ((sgOf ds k g).map nD))), none, none, none, none, none, none, none, none, none] = .ok (nD (mixOf ds (k + 7) 6)) :=
    cCallF_of (ds := [.list (ds.map nD), nD (k + 7), nD 6]) (cCons_of rfl (cCons_of (cBin_of (a := nD k) (b := nD 7) rfl rfl (add_nat _ _)) (cCons_of rfl rfl))) (mix_eq h (by omega) (by decide))
  have q8 : cIter dRange1 (cCons (cCall dLen (cCons (cVarB 3) cNil)) cNil) (dwR ds (sgOf ds k g) (toldOf ds k g) [] (.list xs) k g (mixOf ds (k + 7) 6) none none none none) = .ok ((List.range m).map nD) :=
    cIter1_of (d := nD m) (cCall1_of (d := .list xs) rfl (by rw [dLen_list, hx])) (dRange1_nat (by omega))
  have e9 := sSeq_nx (ρ := enter 14 3 [.list (ds.map nD), nD k, nD g]) (g2 := sSeq _ _) (sSet_of (i := 3) (cCallF1_of (F := f_l_subsets) (f := cVar 2) (d := nD g) rfl es)) (sSeq_nx (sSet_of (i := 4) (dw_single h hk hg _)) (sSeq_nx (sSet_of (i := 5) q5) (sSeq_nx (sSet_of (i := 6) (dw_told h hk hg _ _ _)) (sSeq_nx (sSetN_of (i := 7) (t := true) (f := cK (.dict [])) (d := .dict []) rfl) (sSeq_nx (g2 := sRet dw_last) (sFor_of q8 e1) rfl)))))
  exact (congrArg SR.out e9).trans (sRet_of e2)
include h hk in
theorem drawn_eq (hg : 1 ≤ g ∧ g ≤ 4) : ∃ t, TblOk (2 ^ g) t ∧ (∀ p, p < 2 ^ g → C.at_ t p ≤ 1000) ∧ f_l_drawn [.list (ds.map nD), nD k, nD g] = .ok (tD t) := by
  have hg9 : g < 10 := by omega
  have ht := told_few (ds := ds) (k := k) (g := g)
  have hs : (sgOf ds k g).length = g := by simp [sgOf]
  have h16 : 2 ^ g ≤ 16 := by
    obtain rfl | rfl | rfl | rfl : g = 1 ∨ g = 2 ∨ g = 3 ∨ g = 4 := by omega
    all_goals decide
  obtain ⟨T, p, y, z, u, hT, hG, e⟩ := dw_run (kind := mixOf ds (k + 7) 6) h hk hg hs sg_low (show (toldOf ds k g).length < 1000 by omega) (2 ^ g) [] none none none none (by simp) ⟨fun p hp => absurd hp (by simp), fun hp => absurd hp (by simp), fun p hp => absurd hp (by simp)⟩
  rw [List.length_nil, ← List.range_eq_range'] at e
  simp at hT
  exact ⟨T, hG.tbl hg hT, fun p hp => (hG.all p (by omega)).2, drawn_of h hk hg9 (m := 2 ^ g) (by omega) (by rw [List.length_map, List.length_range]) (subs_eq hg) e (last_at _ _ _ _ hg T hT)⟩
end
/-! ### a drawn book -/
theorem lcL_ex {α β : Type} {tgt : TgF} {f : En → R D} {ρ : En} {enc : α → D} {out : β → D} {Q : β → Prop} (ρ' : α → En) : ∀ {xs : List α}, (∀ x ∈ xs, tgt (enc x) ρ = some (ρ' x) ∧ ∃ y, Q y ∧ f (ρ' x) = .ok (out y)) → ∃ ys : List β, ys.length = xs.length ∧ (∀ y ∈ ys, Q y) ∧ lcL tgt cTrue f ρ (xs.map enc) = some (ys.map out)
  | [], _ => ⟨[], rfl, (fun y h => by cases h), rfl⟩
  | x :: xs, h => by
    obtain ⟨h1, y, hy, h2⟩ := h x List.mem_cons_self
    obtain ⟨ys, l, q, e⟩ := lcL_ex (Q := Q) (out := out) ρ' (xs := xs) fun a ha => h a (List.mem_cons_of_mem _ ha)
    refine ⟨y :: ys, by simp [l], fun a ha => ?_, ?_⟩
    · rcases List.mem_cons.mp ha with rfl | ha
      · exact hy
      · exact q a ha
    · rw [List.map_cons]
      unfold lcL
      rw [h1, Option.bind_some, show cTrue (ρ' x) = .ok true from rfl]
      simp only [noX, Option.bind_some]
      simp [h2, noX, e]
end K04

namespace K04
open PySem PySem.Spec PyProof.Rows L2 G
/-- a table drawn by the law -/
structure Drawn (g : Nat) (t : List Int) : Prop where
  tbl : TblOk (2 ^ g) t
  low : ∀ p, p < 2 ^ g → C.at_ t p ≤ 1000
section
variable {ds : List Nat} {g : Nat}
theorem book_eq (h : Draws ds) (hg : 1 ≤ g ∧ g ≤ 4) {first most : Nat} (hf : first < 10000) (hm : 0 < most) (hm2 : most ≤ 10) : ∃ b : List (List Int), b.length = 1 + mixOf ds (first + 400) most ∧ (∀ t ∈ b, Drawn g t) ∧ f_l_book [.list (ds.map nD), nD first, nD most, nD g] = .ok (bD b) := by
  have hx := mix_lt ds (first + 400) hm
  obtain ⟨b, h1, h2, e⟩ := lcL_ex (tgt := gN 4) (f := cCallF f_l_drawn (cCons (cVar 0) (cCons (cBin dAdd (cVar 1) (cBin dMul (cK (.int 50)) (cVarB 4))) (cCons (cVar 3) cNil)))) (ρ := [some (.v (.list (ds.map nD))), some (.v (nD first)), some (.v (nD most)), some (.v (nD g)), none]) (enc := nD) (out := tD) (Q := Drawn g) (fun t => [some (.v (.list (ds.map nD))), some (.v (nD first)), some (.v (nD most)), some (.v (nD g)), some (.v (nD t))]) (xs := List.range (1 + mixOf ds (first + 400) most)) fun t ht => ⟨rfl, by
    have ht := List.mem_range.mp ht
    obtain ⟨T, t1, t2, t3⟩ := drawn_eq (ds := ds) (k := first + 50 * t) (g := g) h (by omega) hg
    exact ⟨T, ⟨t1, t2⟩, cCallF_of (ds := [.list (ds.map nD), nD (first + 50 * t), nD g]) (cCons_of rfl (cCons_of (cBin_of (a := nD first) (b := nD (50 * t)) rfl (cBin_of (a := nD 50) (b := nD t) rfl rfl (mul_nat 50 t (by decide) (Nat.lt_trans (show t < 100 by omega) (by decide)))) (add_nat _ _)) (cCons_of rfl rfl))) t3⟩⟩
  rw [List.length_range] at h1
  refine ⟨b, h1, h2, ?_⟩
  unfold f_l_book g_l_book
  have q : cBin dAdd (cK (.int 1)) (cCallF f_l_mix (cCons (cVar 0) (cCons (cBin dAdd (cVar 1) (cK (.int 400))) (cCons (cVar 2) cNil)))) [some (.v (.list (ds.map nD))), some (.v (nD first)), some (.v (nD most)), some (.v (nD g)), none] = .ok (nD (1 + mixOf ds (first + 400) most)) :=
    cBin_of (a := nD 1) rfl (cCallF_of (ds := [.list (ds.map nD), nD (first + 400), nD most]) (cCons_of rfl (cCons_of (cBin_of (a := nD first) (b := nD 400) rfl rfl (add_nat _ _)) (cCons_of rfl rfl))) (mix_eq h (by omega) hm)) (add_nat _ _)
  exact runF_of rfl (sRet_of (ρ := [some (.v (.list (ds.map nD))), some (.v (nD first)), some (.v (nD most)), some (.v (nD g)), none]) (cLc_of (cIter1_of q (dRange1_nat (by omega))) e (by rw [List.length_map]; unfold sizeLine; omega)))
end
end K04

namespace K04
open PySem PySem.Spec PyProof.Rows L2 G
/-- data whose text can be shown, told by bounds -/
structure Fine (d : D) (dep len : Nat) : Prop where
  lay : d.canLay0 = true
  can : d.showable = true
  dep : d.depth ≤ dep
  len : d.shown.length ≤ len
  ok : PyData.strOk d.shown = true
theorem Fine.mono {d : D} {a b a' b' : Nat} (h : Fine d a b) (h1 : a ≤ a') (h2 : b ≤ b') : Fine d a' b' := ⟨h.lay, h.can, Nat.le_trans h.dep h1, Nat.le_trans h.len h2, h.ok⟩
theorem ok_lit (s : String) : PyData.strOk (Str.ofString s) = true := by
  rw [Str.ofString_eq_toList]
  unfold PyData.strOk
  rw [List.all_toArray, List.all_eq_true]
  intro n hn
  obtain ⟨c, _, rfl⟩ := List.mem_map.mp hn
  exact decide_eq_true (by
    have := c.valid
    unfold UInt32.isValidChar Nat.isValidChar at this
    show c.val.toNat < _
    omega)
theorem ok_app {x y : Str} (hx : PyData.strOk x = true) (hy : PyData.strOk y = true) : PyData.strOk (x ++ y) = true := by
  show (x.cps ++ y.cps).all _ = true
  rw [Array.all_append]
  unfold PyData.strOk at hx hy
  rw [hx, hy]
  rfl
theorem ok_from : ∀ (ts : List Str) (k : Nat) (acc : Str), PyData.strOk acc = true → (∀ t ∈ ts, PyData.strOk t = true) → PyData.strOk (textFrom k acc ts) = true
  | [], _, _, h, _ => h
  | t :: r, k, acc, h, ht => by
    unfold textFrom
    refine ok_from r _ _ (ok_app (ok_app h ?_) (ht t List.mem_cons_self)) fun a ha => ht a (List.mem_cons_of_mem _ ha)
    exact ok_lit _
theorem ok_list {ts : List Str} (h : ∀ t ∈ ts, PyData.strOk t = true) : PyData.strOk (listText ts) = true := ok_app (ok_from _ _ _ (ok_lit _) h) (ok_lit _)
theorem ok_join : ∀ {ts : List Str}, (∀ t ∈ ts, PyData.strOk t = true) → PyData.strOk (Str.join ", " ts) = true
  | [], _ => by simp [Str.join, Str.empty, PyData.strOk]
  | [x], h => h x List.mem_cons_self
  | x :: y :: r, h => ok_app (ok_app (h x List.mem_cons_self) (ok_lit _)) (ok_join fun a ha => h a (List.mem_cons_of_mem _ ha))
theorem ok_tup {ts : List Str} (h : ∀ t ∈ ts, PyData.strOk t = true) : PyData.strOk (tupleText ts) = true := ok_app (ok_app (ok_lit _) (ok_join h)) (ok_lit _)
theorem piled_few {b : Nat} : ∀ {ts : List Str}, (∀ t ∈ ts, t.length ≤ b) → piled ts ≤ ts.length * (b + 2)
  | [], _ => by rw [piled_nil]; omega
  | t :: r, h => by
    have h1 := h t List.mem_cons_self
    have h2 := piled_few (ts := r) fun a ha => h a (List.mem_cons_of_mem _ ha)
    rw [piled_cons, List.length_cons, Nat.succ_mul]
    omega
theorem list_len (ts : List Str) : (listText ts).length ≤ 2 + piled ts := by
  unfold listText
  have e1 : (Str.ofString "]").length = 1 := by rfl
  have e2 : (Str.ofString "[").length = 1 := by rfl
  cases ts with
  | nil => show (Str.ofString "[" ++ Str.ofString "]").length ≤ _; rw [strLen_append]; omega
  | cons t r =>
    rw [strLen_append]
    show (textFrom 1 (Str.ofString "[" ++ Str.ofString "" ++ t) r).length + _ ≤ _
    rw [textFrom_length_pos _ _ _ (by decide), strLen_append, strLen_append, piled_cons]
    have e3 : (Str.ofString "").length = 0 := by rfl
    omega
theorem tup_len (ts : List Str) : (tupleText ts).length ≤ 3 + piled ts := by
  unfold tupleText
  rw [strLen_append, strLen_append]
  have e1 : (Str.ofString "(").length = 1 := by rfl
  have e2 : (Str.ofString (if (ts.length == 1) = true then ",)" else ")")).length ≤ 2 := by split <;> decide
  by_cases h : ts = []
  · subst h
    have e3 : (Str.join ", " ([] : List Str)).length = 0 := by rfl
    omega
  · have := join_length_add ts h
    omega
theorem shown_mem {xs : List D} {t : Str} (h : t ∈ PyData.shownAll xs) : ∃ x ∈ xs, t = x.shown := by
  induction xs with
  | nil => simp [PyData.shownAll] at h
  | cons x r ih =>
    rw [PyData.shownAll] at h
    rcases List.mem_cons.mp h with h | h
    · exact ⟨x, List.mem_cons_self, h⟩
    · obtain ⟨y, hy, e⟩ := ih h
      exact ⟨y, List.mem_cons_of_mem _ hy, e⟩
theorem shown_all_len (xs : List D) : (PyData.shownAll xs).length = xs.length := by
  induction xs with
  | nil => simp [PyData.shownAll]
  | cons x r ih => simp [PyData.shownAll, ih]
theorem all_fine {xs : List D} {dep len : Nat} (h : ∀ x ∈ xs, Fine x dep len) : PyData.canLayAll0 xs = true ∧ PyData.showableAll xs = true ∧ PyData.depthAll xs ≤ dep := by
  induction xs with
  | nil => simp [PyData.canLayAll0, PyData.showableAll, PyData.depthAll]
  | cons x r ih =>
    obtain ⟨h1, h2, h3⟩ := ih fun a ha => h a (List.mem_cons_of_mem _ ha)
    obtain ⟨a1, a2, a3, _, _⟩ := h x List.mem_cons_self
    simp only [PyData.canLayAll0, PyData.showableAll, PyData.depthAll, a1, a2, h1, h2, Bool.and_self, true_and]
    omega
theorem fine_list {xs : List D} {dep len m : Nat} (h : ∀ x ∈ xs, Fine x dep len) (hm : xs.length ≤ m) : Fine (.list xs) (dep + 1) (2 + m * (len + 2)) := by
  obtain ⟨h1, h2, h3⟩ := all_fine h
  refine ⟨by simpa [PyData.canLay0] using h1, by simpa [PyData.showable] using h2, by rw [PyData.depth]; omega, ?_, ?_⟩
  · rw [PyData.shown]
    have e1 := list_len (PyData.shownAll xs)
    have e2 := piled_few (ts := PyData.shownAll xs) (b := len) fun t ht => by obtain ⟨x, hx, rfl⟩ := shown_mem ht; exact (h x hx).len
    rw [shown_all_len] at e2
    have e3 := Nat.mul_le_mul_right (len + 2) hm
    omega
  · rw [PyData.shown]
    exact ok_list fun t ht => by obtain ⟨x, hx, rfl⟩ := shown_mem ht; exact (h x hx).ok
theorem fine_tup {xs : List D} {dep len m : Nat} (h : ∀ x ∈ xs, Fine x dep len) (hm : xs.length ≤ m) : Fine (.tuple xs) (dep + 1) (3 + m * (len + 2)) := by
  obtain ⟨h1, h2, h3⟩ := all_fine h
  refine ⟨by simpa [PyData.canLay0] using h1, by simpa [PyData.showable] using h2, by rw [PyData.depth]; omega, ?_, ?_⟩
  · rw [PyData.shown]
    have e1 := tup_len (PyData.shownAll xs)
    have e2 := piled_few (ts := PyData.shownAll xs) (b := len) fun t ht => by obtain ⟨x, hx, rfl⟩ := shown_mem ht; exact (h x hx).len
    rw [shown_all_len] at e2
    have e3 := Nat.mul_le_mul_right (len + 2) hm
    omega
  · rw [PyData.shown]
    exact ok_tup fun t ht => by obtain ⟨x, hx, rfl⟩ := shown_mem ht; exact (h x hx).ok
theorem fine_int {i : Int} (h : i.natAbs.log2 < 1920) : Fine (.int i) 0 1921 := by
  refine ⟨by simp [PyData.canLay0], by simp [PyData.showable, h], by simp [PyData.depth], ?_, ?_⟩
  · rw [PyData.shown]
    exact PyProof.Rows.int_text_len_1921 h
  · rw [PyData.shown]
    exact ok_lit _
theorem fine_big {i : Int} (h : Big i) : Fine (.int i) 0 1921 := fine_int (by have := h.log; omega)
theorem fine_none : Fine .none 0 1921 := ⟨by simp [PyData.canLay0], by simp [PyData.showable], by simp [PyData.depth], by rw [PyData.shown]; decide, by rw [PyData.shown]; exact ok_lit _⟩
theorem Fine.repr {d : D} {dep len : Nat} (h : Fine d dep len) (h1 : dep ≤ 60) (h2 : len ≤ 16777216) : dRepr d = some (.str d.shown) := by
  unfold dRepr
  rw [if_pos ⟨PyData.hasDict_of_canLay d h.lay, h.can, Nat.le_trans h.dep h1, Nat.le_trans h.len (by unfold sizeLine; omega)⟩]
theorem ne_self {d : D} (h1 : d.canLay0 = true) (h2 : d.depth ≤ 64) : dNe d d = some (.bool false) := by
  have hs : SeqAt.shaped d = true := by unfold SeqAt.shaped; rw [h1, decide_eq_true h2]; rfl
  unfold dNe
  rw [if_pos ⟨hs, hs⟩, SeqAt.eqv_refl d h1]
  rfl
theorem eq_self {d : D} (h1 : d.canLay0 = true) (h2 : d.depth ≤ 64) : dEq d d = some (.bool true) := by
  have hs : SeqAt.shaped d = true := by unfold SeqAt.shaped; rw [h1, decide_eq_true h2]; rfl
  unfold dEq
  rw [if_pos ⟨hs, hs⟩, SeqAt.eqv_refl d h1]
theorem Fine.text {d : D} {dep len : Nat} (h : Fine d dep len) : PyData.canLay0 (.str d.shown) = true ∧ PyData.depth (.str d.shown) ≤ 64 := ⟨by rw [PyData.canLay0]; exact h.ok, by simp [PyData.depth]⟩
end K04

namespace K04
open PySem PySem.Spec PyProof.Rows L2 G
theorem loopL_or {α β : Type} {P : Option β → En → Prop} {tgt : TgF} {body : En → SR} {enc : α → D} {hit : α → Option β} : ∀ {xs : List α} {st : Option β} {ρ : En}, (∀ x ∈ xs, ∀ st ρ, P st ρ → ∃ ρ1 ρ2, tgt (enc x) ρ = some ρ1 ∧ body ρ1 = .nx ρ2 ∧ P (st.or (hit x)) ρ2) → P st ρ →
    ∃ ρ2, loopL tgt body (xs.map enc) ρ = .nx ρ2 ∧ P (st.or (xs.findSome? hit)) ρ2
  | [], st, ρ, _, h => ⟨ρ, rfl, by simpa using h⟩
  | x :: xs, st, ρ, hx, h => by
    obtain ⟨ρ1, ρ2, e1, e2, h2⟩ := hx x List.mem_cons_self st ρ h
    obtain ⟨ρ3, e3, h3⟩ := loopL_or (P := P) (hit := hit) (xs := xs) (fun a ha => hx a (List.mem_cons_of_mem _ ha)) h2
    refine ⟨ρ3, loopL_nx e1 e2 e3, ?_⟩
    have : (st.or (hit x)).or (xs.findSome? hit) = st.or ((x :: xs).findSome? hit) := by
      rw [List.findSome?_cons]
      cases st <;> cases hit x <;> simp
    rw [← this]
    exact h3
end K04

namespace K04
open PySem PySem.Spec PyProof.Rows L2 G
section
theorem sFrz_of {i : Nat} {b : En → SR} {ρ : En} {r : SR} (hb : b (frz i ρ) = r) : sFrz i b ρ = r := hb
end
end K04

namespace K04
open PySem PySem.Spec PyProof.Rows L2 G
theorem cAnd_f {p q : En → R Bool} {ρ : En} (h1 : p ρ = .ok false) : cAnd p q ρ = .ok false := by
  simp only [cAnd, h1, R.bind]
  rfl
theorem cAnd_t {p q : En → R Bool} {ρ : En} {b : Bool} (h1 : p ρ = .ok true) (h2 : q ρ = .ok b) : cAnd p q ρ = .ok b := by
  simp only [cAnd, h1, R.bind, h2]
  rfl
section
theorem ne_text {f1 f2 : En → R D} {ρ : En} {d : D} {a b : Nat} (hf : Fine d a b) (h1 : a ≤ 60) (h2 : b ≤ 16777216) (e1 : f1 ρ = .ok d) (e2 : f2 ρ = .ok d) : cBinT dNe (cUn dRepr f1) (cUn dRepr f2) ρ = .ok false :=
  cBinT_of (cUn_of e1 (hf.repr h1 h2)) (cUn_of e2 (hf.repr h1 h2)) (ne_self hf.text.1 hf.text.2)
end
end K04

namespace K04
open PySem PySem.Spec PyProof.Rows L2 G
section
end
theorem cCallS_of {i : Nat} {F : List Int → R D} {ρ : En} {ns : List Int} {r : R D} (h : ρ[i]? = some (some (.sc ns))) (h2 : F ns = r) : cCallS i F ρ = r := by
  unfold cCallS
  rw [h]
  exact h2
end K04

namespace K04
open PySem PySem.Spec PyProof.Rows L2 G
abbrev nsD (c : List Nat) : D := .list (c.map nD)
theorem enum_mem {xs : List D} {d : D} {k : Nat} (h : d ∈ enumL k xs) : ∃ i x, x ∈ xs ∧ i < xs.length ∧ d = .tuple [nD (k + i), x] := by
  obtain ⟨i, hi⟩ := List.mem_iff_getElem?.mp h
  rw [enumL_get] at hi
  obtain ⟨x, h1, h2⟩ := Option.map_eq_some_iff.mp hi
  exact ⟨i, x, List.mem_of_getElem? h1, (List.getElem?_eq_some_iff.mp h1).1, h2.symm⟩
theorem cChainT_lt {f g h : En → R D} {ρ : En} {a b c : Int} (h1 : f ρ = .ok (.int a)) (h2 : g ρ = .ok (.int b)) (h3 : h ρ = .ok (.int c)) (l1 : a ≤ b) (l2 : b < c) : cChainT dLe dLt f g h ρ = .ok true := by
  simp only [cChainT, h1, h2, h3, R.bind, dLe, dLt, decide_eq_true l1, decide_eq_true l2]
  rfl
theorem cTest_of {f : En → R D} {ρ : En} {b : Bool} (h : f ρ = .ok (.bool b)) : cTest f ρ = .ok b := by
  simp only [cTest, h, R.bind]
  rfl
theorem len_bD {f : En → R D} {ρ : En} {T : List (List Int)} (h : f ρ = .ok (bD T)) : cCall dLen (cCons f cNil) ρ = .ok (nD T.length) := cCall1_of h (by rw [dLen_list, List.length_map])
theorem len_tD {f : En → R D} {ρ : En} {t : List Int} (h : f ρ = .ok (tD t)) : cCall dLen (cCons f cNil) ρ = .ok (nD t.length) := cCall1_of h (by rw [dLen_list, List.length_map])
theorem len_nsD {f : En → R D} {ρ : En} {t : List Nat} (h : f ρ = .ok (nsD t)) : cCall dLen (cCons f cNil) ρ = .ok (nD t.length) := cCall1_of h (by rw [dLen_list, List.length_map])
section
variable {n m : Nat} {b : List (List Int)} (h : BkOk n m b)
include h in
theorem check_book_eq (h1 : 1 ≤ m) (h6 : m ≤ 6) : f_check_book [bD b] = .ok .none := by
  have hl := h.len
  unfold f_check_book g_check_book
  refine runF_of rfl ?_
  have q1 : cNot (cChainT dLe dLe (cK (.int 1)) (cCall dLen (cCons (cVarB 0) cNil)) (cK (.int 6))) (enter 3 1 [bD b]) = .ok false := cNot_of (b := true) (cChainT_of (b := (b.length : Int)) rfl (len_bD rfl) rfl (by omega) (by omega))
  obtain ⟨ρ2, e2, x1, x2, rfl⟩ := loopL_inv (P := fun ρ => ∃ x1 x2, ρ = [some (.v (bD b)), x1, x2]) (tgt := gT (gC (gN 1) (gC (gN 2) gE))) (body := (sIf (cOr (cNot (cTest (cCallF f_is_table (cCons (cVar 2) cNil)))) (cBinT dNe (cCall dLen (cCons (cVarB 2) cNil)) (cCall dLen (cCons (cBin dIx (cVarB 0) (cK (.int 0))) cNil))))
    (sRaise "BadTable" (cVar 1))
    sNext)) (ds := enumL 0 (b.map tD)) (ρ := [some (.v (bD b)), none, none]) (fun d hd ρ hρ => by
    obtain ⟨x1, x2, rfl⟩ := hρ
    obtain ⟨i, x, hx, hi, rfl⟩ := enum_mem hd
    obtain ⟨t, ht, rfl⟩ := List.mem_map.mp hx
    have a1 : cNot (cTest (cCallF f_is_table (cCons (cVar 2) cNil))) [some (.v (bD b)), some (.v (nD (0 + i))), some (.v (tD t))] = .ok false := cNot_of (b := true) (cTest_of (cCallF1_of (d := tD t) rfl (is_table_eq (h.tbl t ht))))
    have a2 : cBinT dNe (cCall dLen (cCons (cVarB 2) cNil)) (cCall dLen (cCons (cBin dIx (cVarB 0) (cK (.int 0))) cNil)) [some (.v (bD b)), some (.v (nD (0 + i))), some (.v (tD t))] = .ok false := by
      have h0 : 0 < b.length := by omega
      refine cBinT_of (len_tD (t := t) rfl) (len_tD (t := b.getD 0 []) (cBin_of (a := bD b) (b := nD 0) rfl rfl (book_at h0))) ?_
      rw [dNe_int, (h.tbl t ht).len, (h.tbl _ (getD_mem h0)).len]
      simp
    exact ⟨_, _, rfl, sIf_false (cOr_ff a1 a2) rfl, _, _, rfl⟩) ⟨_, _, rfl⟩
  exact (congrArg SR.out (sSeq_nx (ρ := enter 3 1 [bD b]) (sIf_false (g1 := sRaise "BadBook" (cCall dLen (cCons (cVarB 0) cNil))) (g2 := sNext) q1 rfl) (sFor_of (l := cIter dEnum (cCons (cVar 0) cNil)) (cIter1_of (d := bD b) rfl rfl) e2))).trans rfl
end
theorem loopL_find {α β : Type} {P : En → Prop} {tgt : TgF} {body : En → SR} {enc : α → D} {out : β → D} {hit : α → Option β} : ∀ {xs : List α} {ρ : En}, (∀ x ∈ xs, ∀ ρ, P ρ → ∃ ρ1, tgt (enc x) ρ = some ρ1 ∧ ((∃ b, hit x = some b ∧ body ρ1 = .rt (out b)) ∨ (hit x = none ∧ ∃ ρ2, body ρ1 = .nx ρ2 ∧ P ρ2))) → P ρ →
    (∃ b, xs.findSome? hit = some b ∧ loopL tgt body (xs.map enc) ρ = .rt (out b)) ∨ (xs.findSome? hit = none ∧ ∃ ρ2, loopL tgt body (xs.map enc) ρ = .nx ρ2 ∧ P ρ2)
  | [], ρ, _, h => .inr ⟨rfl, ρ, rfl, h⟩
  | x :: xs, ρ, hd, h => by
    obtain ⟨ρ1, e1, ⟨b, e2, e3⟩ | ⟨e2, ρ2, e3, h2⟩⟩ := hd x List.mem_cons_self ρ h
    · exact .inl ⟨b, by simp [List.findSome?_cons, e2], loopL_rt e1 e3⟩
    · rcases loopL_find (out := out) (hit := hit) (P := P) (fun a ha => hd a (List.mem_cons_of_mem _ ha)) h2 with ⟨b, f1, f2⟩ | ⟨f1, ρ3, f2, f3⟩
      · exact .inl ⟨b, by simp [List.findSome?_cons, e2, f1], loopL_nx e1 e3 f2⟩
      · exact .inr ⟨by simp [List.findSome?_cons, e2, f1], ρ3, loopL_nx e1 e3 f2, f3⟩
theorem ne_text2 {f1 f2 : En → R D} {ρ : En} {d : D} {a b : Nat} (hf : Fine d a b) (h1 : a ≤ 60) (h2 : b ≤ 16777216) (e1 : f1 ρ = .ok d) (e2 : f2 ρ = .ok d) : cBinT dNe (cUn dRepr f1) (cUn dRepr f2) ρ = .ok false :=
  cBinT_of (cUn_of e1 (hf.repr h1 h2)) (cUn_of e2 (hf.repr h1 h2)) (ne_self hf.text.1 hf.text.2)
theorem cCall2_of {df : List D → Option D} {f g : En → R D} {ρ : En} {a b e : D} (h1 : f ρ = .ok a) (h2 : g ρ = .ok b) (h3 : df [a, b] = some e) : cCall df (cCons f (cCons g cNil)) ρ = .ok e := by
  simp only [cCall, cCons, cNil, h1, h2, R.bind, h3, ofO]
theorem cIf_t {p : En → R Bool} {f g : En → R D} {ρ : En} {r : R D} (h : p ρ = .ok true) (h2 : f ρ = r) : cIf p f g ρ = r := by
  simp only [cIf, h, R.bind]
  exact h2
theorem cIf_f {p : En → R Bool} {f g : En → R D} {ρ : En} {r : R D} (h : p ρ = .ok false) (h2 : g ρ = r) : cIf p f g ρ = r := by
  simp only [cIf, h, R.bind]
  exact h2
theorem fine_ints {t : List Int} {k : Nat} (hk : t.length ≤ k) (h : ∀ x ∈ t, -100000000 ≤ x ∧ x ≤ 100000000) : Fine (tD t) 1 (2 + k * 1923) := by
  refine fine_list (dep := 0) (len := 1921) (m := k) (fun x hx => ?_) (by rw [List.length_map]; exact hk)
  obtain ⟨i, hi, rfl⟩ := List.mem_map.mp hx
  have := h i hi
  exact fine_big (small_big (by omega) (by omega))
theorem fine_nats {t : List Nat} {k : Nat} (hk : t.length ≤ k) (h : ∀ x ∈ t, x ≤ 1000) : Fine (nsD t) 1 (2 + k * 1923) := by
  refine fine_list (dep := 0) (len := 1921) (m := k) (fun x hx => ?_) (by rw [List.length_map]; exact hk)
  obtain ⟨i, hi, rfl⟩ := List.mem_map.mp hx
  have := h i hi
  exact fine_big (small_big (by omega) (by omega))
theorem fine_bool (b : Bool) : Fine (.bool b) 0 5 := by
  refine ⟨by simp [PyData.canLay0], by simp [PyData.showable], by simp [PyData.depth], ?_, ?_⟩
  · cases b <;> (rw [PyData.shown]; decide)
  · cases b <;> (rw [PyData.shown]; exact ok_lit _)
theorem lay_tD (t : List Int) : PyData.canLay0 (tD t) = true ∧ (tD t).depth ≤ 64 := by
  obtain ⟨l1, l2⟩ : PyData.canLayAll0 (t.map PyData.int) = true ∧ PyData.depthAll (t.map PyData.int) ≤ 1 := lay_ints (fun i => i) t
  simp [PyData.canLay0, PyData.depth, l1]
  omega
theorem range2_eq {a b : Nat} (ha : a < 2 ^ 60) (hb : b < 2 ^ 60) : dRange2 [nD a, nD b] = some ((List.range (b - a)).map fun k => nD (a + k)) := by
  unfold dRange2
  have p1 : (2 : Int) ^ 62 = 4611686018427387904 := by decide
  have p2 : (2 : Nat) ^ 60 = 1152921504606846976 := by decide
  rw [p2] at ha hb
  simp only [p1]
  rw [if_pos ⟨by omega, by omega, by omega, by omega⟩]
  unfold rangeD
  have : ((b : Int) - a).toNat = b - a := by omega
  rw [this]
  congr 1
theorem cIter2_of {df : List D → Option (List D)} {f g : En → R D} {ρ : En} {a b : D} {e : List D} (h1 : f ρ = .ok a) (h2 : g ρ = .ok b) (h3 : df [a, b] = some e) : cIter df (cCons f (cCons g cNil)) ρ = .ok e := by
  simp only [cIter, cCons, cNil, h1, h2, R.bind, h3, ofO]
end K04

namespace K04
open PySem PySem.Spec PyProof.Rows L2 G
theorem cStar_of {f : En → R D} {l : En → R (List D)} {ρ : En} {xs ds : List D} (h : f ρ = .ok (.list xs)) (h2 : l ρ = .ok ds) : cStar f l ρ = .ok (xs ++ ds) := by
  simp only [cStar, h, h2, R.bind, itemsOf, ofO]
theorem set_cut {b : List (List Int)} {k : Nat} (hk : k < b.length) (t : List Int) : b.take k ++ t :: b.drop (k + 1) = b.set k t := by
  rw [List.set_eq_take_append_cons_drop, if_pos hk]
theorem with_lie_eq {b : List (List Int)} {k : Nat} (hk : k < b.length) (hz : b.length < 1000) (t : List Int) : f_with_lie [bD b, nD k, tD t] = .ok (bD (b.set k t)) := by
  unfold f_with_lie g_with_lie
  have q : cStar (cSlice (cVar 0) cPartN (cPart (cVar 1))) (cCons (cVar 2) (cStar (cSlice (cVar 0) (cPart (cBin dAdd (cVar 1) (cK (.int 1)))) cPartN) cNil)) [some (.v (bD b)), some (.v (nD k)), some (.v (tD t))] = .ok ((b.map tD).take k ++ (tD t :: ((b.map tD).drop (k + 1) ++ []))) :=
    cStar_of (cSlice_to (xs := b.map tD) (k := k) rfl rfl) (cCons_of rfl (cStar_of (cSlice_from (xs := b.map tD) (k := k + 1) rfl (cBin_of rfl rfl rfl)) rfl))
  have e : (b.map tD).take k ++ (tD t :: ((b.map tD).drop (k + 1) ++ [])) = (b.set k t).map tD := by
    rw [← set_cut hk t, List.map_append, List.map_cons, List.map_take, List.map_drop, List.append_nil]
  rw [e] at q
  exact runF_of rfl (sRet_of (ρ := [some (.v (bD b)), some (.v (nD k)), some (.v (tD t))]) (cList_of q (by rw [List.length_map, List.length_set]; unfold sizeLine; omega)))
theorem law_with_eq {b : List (List Int)} {k : Nat} (hk : k < b.length) (hz : b.length < 1000) (t : List Int) : f_l_with [bD b, nD k, tD t] = .ok (bD (b.set k t)) := by
  have a1 : cBin dAdd (cSlice (cVar 0) cPartN (cPart (cVar 1))) (cList (cCons (cVar 2) cNil)) [some (.v (bD b)), some (.v (nD k)), some (.v (tD t))] = .ok (.list ((b.map tD).take k ++ [tD t])) :=
    cBin_of (cSlice_to (xs := b.map tD) (k := k) rfl rfl) (cList_of (ds := [tD t]) (cCons_of rfl rfl) (by simp; unfold sizeLine; omega)) (dAdd_list (by simp; unfold sizeLine; omega))
  unfold f_l_with g_l_with
  refine runF_of rfl (sRet_of (ρ := [some (.v (bD b)), some (.v (nD k)), some (.v (tD t))]) (cBin_of a1 (cSlice_from (xs := b.map tD) (k := k + 1) rfl (cBin_of rfl rfl rfl)) ?_))
  rw [dAdd_list (by simp; unfold sizeLine; omega), ← set_cut hk t]
  simp
theorem enumL_map {α : Type} (f : α → D) (z : α) (xs : List α) (k : Nat) : enumL k (xs.map f) = (List.range xs.length).map fun i => .tuple [nD (k + i), f (xs.getD i z)] := by
  refine List.ext_getElem? fun i => ?_
  rw [enumL_get, List.getElem?_map, List.getElem?_map]
  rcases Nat.lt_or_ge i xs.length with h | h
  · rw [List.getElem?_eq_getElem h, List.getElem?_range h]
    show some (PyData.tuple [PyData.int ((k + i : Nat) : Int), f xs[i]]) = some (PyData.tuple [nD (k + i), f (xs.getD i z)])
    rw [List.getD_eq_getElem?_getD, List.getElem?_eq_getElem h]
    rfl
  · rw [List.getElem?_eq_none h, List.getElem?_eq_none (by simpa using h)]
    rfl
/-- a book of one to six true tables -/
structure Bok (n : Nat) (b : List (List Int)) : Prop where
  ok : BkOk n b.length b
  one : 1 ≤ b.length
  six : b.length ≤ 6
theorem Bok.size {n : Nat} {b : List (List Int)} (h : Bok n b) : n = 2 ∨ n = 4 ∨ n = 8 ∨ n = 16 := (h.ok.tbl _ (getD_mem (l := b) (k := 0) (z := []) (by have := h.one; omega))).size
theorem Bok.n64 {n : Nat} {b : List (List Int)} (h : Bok n b) : n ≤ 64 := by have := h.size; omega
theorem Bok.n0 {n : Nat} {b : List (List Int)} (h : Bok n b) : 0 < n := by have := h.size; omega
theorem Bok.book {n : Nat} {b : List (List Int)} (h : Bok n b) : Book n b := h.ok.book h.six
theorem Bok.ne {n : Nat} {b : List (List Int)} (h : Bok n b) : b ≠ [] := by rintro rfl; have := h.one; simp at this
theorem Bok.at {n : Nat} {b : List (List Int)} (h : Bok n b) {k : Nat} (hk : k < b.length) : TblOk n (b.getD k []) := h.ok.tbl _ (getD_mem hk)
theorem Bok.set {n : Nat} {b : List (List Int)} (h : Bok n b) {t : List Int} (ht : TblOk n t) (k : Nat) : Bok n (b.set k t) := by
  refine ⟨⟨rfl, fun x hx => ?_⟩, by rw [List.length_set]; exact h.one, by rw [List.length_set]; exact h.six⟩
  rcases List.mem_or_eq_of_mem_set hx with z | z
  · exact h.ok.tbl x z
  · rw [z]; exact ht
theorem word_in (w : Wd) : dNotIn w.d (.tuple [(.str "fair"), (.str "bid"), (.str "none")]) = some (.bool false) := by cases w <;> kernel_rfl
def mines (n : Nat) (b : List (List Int)) (w : Wd) : List Int := (List.range b.length).map fun k => gain n b (b.getD k []) k w
/-- how much more a lie gains -/
def moreG (n : Nat) (b : List (List Int)) (k : Nat) (w : Wd) (t : List Int) : Int := gain n (b.set k t) (b.getD k []) k w - gain n b (b.getD k []) k w
def hitG (n : Nat) (b : List (List Int)) (k : Nat) (w : Wd) (W : List (List Int)) (i : Nat) : Option (Nat × Int) := if 0 < moreG n b k w (W.getD i []) then some (i, moreG n b k w (W.getD i [])) else none
def firstG (n : Nat) (b : List (List Int)) (k : Nat) (w : Wd) (W : List (List Int)) : Option (Nat × Int) := (List.range W.length).findSome? (hitG n b k w W)
def lieD : Option (Nat × Int) → D
  | none => .none
  | some (i, x) => .tuple [nD i, .int x]
section
variable {n : Nat} {b : List (List Int)} (h : Bok n b) (w : Wd) {k : Nat} (hk : k < b.length)
include h in
theorem check_word_eq : f_check_word [bD b, w.d] = .ok .none := by
  unfold f_check_word g_check_word
  refine runF_of rfl ?_
  exact (congrArg SR.out (sSeq_nx (ρ := enter 2 2 [bD b, w.d]) (sExpr_of (f := cCallF f_check_book (cCons (cVar 0) cNil)) (cCallF1_of (d := bD b) rfl (check_book_eq h.ok h.one h.six))) (sIf_false (g1 := sRaise "BadWord" (cK (.int 0))) (g2 := sNext) (cBinT_of (f := cVar 1) (g := cK (.tuple [(.str "fair"), (.str "bid"), (.str "none")])) (a := w.d) rfl rfl (word_in w)) rfl))).trans rfl
include h in
theorem table_ff {t : List Int} (ht : TblOk n t) {ρ : En} {i j : Nat} (e1 : cVar i ρ = .ok (tD t)) (e3 : cVarB i ρ = .ok (tD t)) (e2 : cVarB j ρ = .ok (bD b)) : cOr (cNot (cTest (cCallF f_is_table (cCons (cVar i) cNil)))) (cBinT dNe (cCall dLen (cCons (cVarB i) cNil)) (cCall dLen (cCons (cBin dIx (cVarB j) (cK (.int 0))) cNil))) ρ = .ok false := by
  have h0 : 0 < b.length := h.one
  refine cOr_ff (cNot_of (b := true) (cTest_of (cCallF1_of (d := tD t) e1 (is_table_eq ht)))) (cBinT_of (len_tD (t := t) e3) (len_tD (t := b.getD 0 []) (cBin_of (a := bD b) (b := nD 0) e2 rfl (book_at h0))) ?_)
  rw [dNe_int, ht.len, (h.at h0).len]
  simp
include h hk in
theorem check_lies_eq {W : List (List Int)} (hW : ∀ t ∈ W, TblOk n t) : f_check_lies [bD b, nD k, w.d, bD W] = .ok .none := by
  unfold f_check_lies g_check_lies
  refine runF_of rfl ?_
  have q1 : cNot (cChainT dLe dLt (cK (.int 0)) (cVarB 1) (cCall dLen (cCons (cVarB 0) cNil))) (enter 6 4 [bD b, nD k, w.d, bD W]) = .ok false := cNot_of (b := true) (cChainT_lt (a := 0) (b := (k : Int)) (c := (b.length : Int)) rfl rfl (len_bD rfl) (by omega) (by omega))
  obtain ⟨ρ2, e2, x1, x2, rfl⟩ := loopL_inv (P := fun ρ => ∃ x1 x2, ρ = [some (.v (bD b)), some (.v (nD k)), some (.v w.d), some (.v (bD W)), x1, x2]) (tgt := gT (gC (gN 4) (gC (gN 5) gE))) (body := (sIf (cOr (cNot (cTest (cCallF f_is_table (cCons (cVar 5) cNil)))) (cBinT dNe (cCall dLen (cCons (cVarB 5) cNil)) (cCall dLen (cCons (cBin dIx (cVarB 0) (cK (.int 0))) cNil))))
    (sRaise "BadTable" (cVar 4))
    sNext)) (ds := enumL 0 (W.map tD)) (ρ := enter 6 4 [bD b, nD k, w.d, bD W]) (fun d hd ρ hρ => by
    obtain ⟨x1, x2, rfl⟩ := hρ
    obtain ⟨i, x, hx, hi, rfl⟩ := enum_mem hd
    obtain ⟨t, ht, rfl⟩ := List.mem_map.mp hx
    exact ⟨_, _, rfl, sIf_false (table_ff h (hW t ht) (t := t) (i := 5) (j := 0) rfl rfl rfl) rfl, _, _, rfl⟩) ⟨_, _, rfl⟩
  exact (congrArg SR.out (sSeq_nx (ρ := enter 6 4 [bD b, nD k, w.d, bD W]) (sExpr_of (f := cCallF f_check_word (cCons (cVar 0) (cCons (cVar 2) cNil))) (cCallF_of (ds := [bD b, w.d]) rfl (check_word_eq h w))) (sSeq_nx (sIf_false (g1 := sRaise "BadBidder" (cVar 1)) (g2 := sNext) q1 rfl) (sFor_of (l := cIter dEnum (cCons (cVar 3) cNil)) (cIter1_of (d := bD W) rfl rfl) e2)))).trans rfl
include h in
theorem payments_eq : f_payments [bD b, w.d] = .ok (tD (pays n b w)) := by
  unfold f_payments g_payments
  refine runF_of rfl ?_
  exact (congrArg SR.out (sSeq_nx (ρ := enter 2 2 [bD b, w.d]) (sExpr_of (f := cCallF f_check_word (cCons (cVar 0) (cCons (cVar 1) cNil))) (cCallF_of (ds := [bD b, w.d]) rfl (check_word_eq h w))) rfl)).trans (sRet_of (cCallF_of (ds := [bD b, w.d]) rfl (all_paid_eq h.n64 h.n0 h.book h.ne w)))
theorem sum_ints (t : List Int) : dSum [tD t] = some (.int t.sum) := by
  have e := intsOf_int (fun i : Int => i) t
  rw [List.map_id'] at e
  show (intsOf (t.map PyData.int)).map _ = _
  rw [show intsOf (t.map PyData.int) = some t from e]
  rfl
include h in
theorem income_eq : f_income [bD b, w.d] = .ok (.int (pays n b w).sum) := by
  unfold f_income g_income
  refine runF_of rfl (sRet_of (ρ := enter 2 2 [bD b, w.d]) (cCall1_of (cCallF_of (ds := [bD b, w.d]) rfl (payments_eq h w)) (sum_ints _)))
include h in
theorem gains_eq : f_gains [bD b, w.d] = .ok (tD (mines n b w)) := by
  unfold f_gains g_gains
  refine runF_of rfl ?_
  have e := lcL_map (tgt := gT (gC (gN 2) (gC (gN 3) gE))) (f := cCallF f_gain_of (cCons (cVar 0) (cCons (cVar 3) (cCons (cVar 2) (cCons (cVar 1) cNil))))) (ρ := [some (.v (bD b)), some (.v w.d), none, none]) (enc := fun i => .tuple [nD (0 + i), tD (b.getD i [])]) (fun i => [some (.v (bD b)), some (.v w.d), some (.v (nD (0 + i))), some (.v (tD (b.getD i [])))]) (fun i => .int (gain n b (b.getD i []) i w)) (xs := List.range b.length) fun i hi => ⟨rfl, by
    have hi := List.mem_range.mp hi
    rw [Nat.zero_add]
    exact cCallF_of (ds := [bD b, tD (b.getD i []), nD i, w.d]) rfl (gain_of_eq h.n64 h.n0 h.book h.ne w (h.at hi).len hi)⟩
  rw [← enumL_map tD []] at e
  have hz := h.six
  have hm : tD (mines n b w) = .list ((List.range b.length).map fun i => .int (gain n b (b.getD i []) i w)) := by simp [mines]
  rw [hm]
  refine (congrArg SR.out (sSeq_nx (ρ := enter 4 2 [bD b, w.d]) (sExpr_of (f := cCallF f_check_word (cCons (cVar 0) (cCons (cVar 1) cNil))) (cCallF_of (ds := [bD b, w.d]) rfl (check_word_eq h w))) rfl)).trans (sRet_of (cLc_of (cIter1_of (d := bD b) rfl rfl) e ?_))
  rw [List.length_map, List.length_range]; unfold sizeLine; omega
include h hk in
theorem told_gain {t : List Int} (ht : TblOk n t) {truth : List Int} (hl : truth.length = n) {j : Nat} (hj : j < b.length) : f_gain_of [bD (b.set k t), tD truth, nD j, w.d] = .ok (.int (gain n (b.set k t) truth j w)) :=
  gain_of_eq (h.set ht k).n64 h.n0 (h.set ht k).book (h.set ht k).ne w hl (by rw [List.length_set]; exact hj)
include h hk in
theorem gain_eq {t : List Int} (ht : TblOk n t) : f_gain [bD b, nD k, w.d, tD t] = .ok (.int (gain n (b.set k t) (b.getD k []) k w)) := by
  have hz := h.six
  unfold f_gain g_gain
  refine runF_of rfl ?_
  have q1 : cBin dIx (cVarB 0) (cVar 1) [some (.v (bD b)), some (.v (nD k)), some (.v w.d), some (.v (tD t))] = .ok (tD (b.getD k [])) := cBin_of rfl rfl (book_at hk)
  have q2 : cCallF f_with_lie (cCons (cVar 0) (cCons (cVar 1) (cCons (cVar 3) cNil))) [some (.v (bD b)), some (.v (nD k)), some (.v w.d), some (.v (tD t))] = .ok (bD (b.set k t)) := cCallF_of (ds := [bD b, nD k, tD t]) rfl (with_lie_eq hk (by omega) t)
  have q3 : cList (cCons (cVar 3) cNil) [some (.v (bD b)), some (.v (nD k)), some (.v w.d), some (.v (tD t))] = .ok (bD [t]) := cList_of (ds := [tD t]) rfl (by simp; unfold sizeLine; omega)
  refine (congrArg SR.out (sSeq_nx (ρ := [some (.v (bD b)), some (.v (nD k)), some (.v w.d), some (.v (tD t))]) (sExpr_of (f := cCallF f_check_lies (cCons (cVar 0) (cCons (cVar 1) (cCons (cVar 2) (cCons (cList (cCons (cVar 3) cNil)) cNil))))) (cCallF_of (ds := [bD b, nD k, w.d, bD [t]]) (cCons_of rfl (cCons_of rfl (cCons_of rfl (cCons_of q3 rfl)))) (check_lies_eq h w hk (W := [t]) (by intro x hx; simp at hx; subst hx; exact ht)))) rfl)).trans
    (sRet_of (cCallF_of (ds := [bD (b.set k t), tD (b.getD k []), nD k, w.d]) (cCons_of q2 (cCons_of q1 (cCons_of rfl (cCons_of rfl rfl)))) (told_gain h w hk ht (h.at hk).len hk)))
include h hk in
theorem first_lie_eq {W : List (List Int)} (hW : ∀ t ∈ W, TblOk n t) : f_first_lie [bD b, nD k, w.d, bD W] = .ok (lieD (firstG n b k w W)) := by
  have hz := h.six
  unfold f_first_lie g_first_lie
  refine runF_of rfl ?_
  let g0 := gain n b (b.getD k []) k w
  have q0 : cBin dIx (cVarB 0) (cVar 1) (enter 8 4 [bD b, nD k, w.d, bD W]) = .ok (tD (b.getD k [])) := cBin_of rfl rfl (book_at hk)
  have s0 := sExpr_of (ρ := enter 8 4 [bD b, nD k, w.d, bD W]) (f := cCallF f_check_lies (cCons (cVar 0) (cCons (cVar 1) (cCons (cVar 2) (cCons (cVar 3) cNil))))) (cCallF_of (ds := [bD b, nD k, w.d, bD W]) rfl (check_lies_eq h w hk hW))
  have s1 := (sSet_of (i := 4) (ρ := enter 8 4 [bD b, nD k, w.d, bD W]) (f := cCallF f_gain_of (cCons (cVar 0) (cCons (cBin dIx (cVarB 0) (cVar 1)) (cCons (cVar 1) (cCons (cVar 2) cNil))))) (cCallF_of (ds := [bD b, tD (b.getD k []), nD k, w.d]) (cCons_of rfl (cCons_of q0 (cCons_of rfl (cCons_of rfl rfl)))) (gain_of_eq h.n64 h.n0 h.book h.ne w (h.at hk).len hk))).trans (show _ = SR.nx [some (.v (bD b)), some (.v (nD k)), some (.v w.d), some (.v (bD W)), some (.v (.int g0)), none, none, none] from rfl)
  have lp := loopL_find (P := fun ρ => ∃ x1 x2 x3, ρ = [some (.v (bD b)), some (.v (nD k)), some (.v w.d), some (.v (bD W)), some (.v (.int g0)), x1, x2, x3]) (tgt := gT (gC (gN 5) (gC (gN 6) gE))) (body := (sSeq (sSet 7 (cBin dSub (cCallF f_gain_of (cCons (cCallF f_with_lie (cCons (cVar 0) (cCons (cVar 1) (cCons (cVar 6) cNil)))) (cCons (cBin dIx (cVarB 0) (cVar 1)) (cCons (cVar 1) (cCons (cVar 2) cNil))))) (cVarB 4)))
    (sIf (cBinT dGt (cVarB 7) (cK (.int 0)))
    (sRet (cTup (cCons (cVar 5) (cCons (cVar 7) cNil))))
    sNext))) (enc := fun i => .tuple [nD (0 + i), tD (W.getD i [])]) (out := fun q => lieD (some q)) (hit := hitG n b k w W) (xs := List.range W.length) (ρ := [some (.v (bD b)), some (.v (nD k)), some (.v w.d), some (.v (bD W)), some (.v (.int g0)), none, none, none]) (fun i hi ρ hρ => by
      obtain ⟨x1, x2, x3, rfl⟩ := hρ
      have hi := List.mem_range.mp hi
      have ht := hW _ (getD_mem (l := W) (k := i) (z := []) hi)
      have a1 : cBin dIx (cVarB 0) (cVar 1) [some (.v (bD b)), some (.v (nD k)), some (.v w.d), some (.v (bD W)), some (.v (.int g0)), some (.v (nD (0 + i))), some (.v (tD (W.getD i []))), x3] = .ok (tD (b.getD k [])) := cBin_of rfl rfl (book_at hk)
      have a2 : cCallF f_with_lie (cCons (cVar 0) (cCons (cVar 1) (cCons (cVar 6) cNil))) [some (.v (bD b)), some (.v (nD k)), some (.v w.d), some (.v (bD W)), some (.v (.int g0)), some (.v (nD (0 + i))), some (.v (tD (W.getD i []))), x3] = .ok (bD (b.set k (W.getD i []))) := cCallF_of (ds := [bD b, nD k, tD (W.getD i [])]) rfl (with_lie_eq hk (by omega) _)
      have a3 := (sSet_of (i := 7) (cBin_of (dop := dSub) (b := .int g0) (g := cVarB 4) (cCallF_of (F := f_gain_of) (ds := [bD (b.set k (W.getD i [])), tD (b.getD k []), nD k, w.d]) (cCons_of a2 (cCons_of a1 (cCons_of (f := cVar 1) rfl (cCons_of (f := cVar 2) rfl (show cNil _ = _ from rfl))))) (told_gain h w hk ht (h.at hk).len hk)) rfl (show _ = some (.int (moreG n b k w (W.getD i []))) from rfl))).trans (show _ = SR.nx [some (.v (bD b)), some (.v (nD k)), some (.v w.d), some (.v (bD W)), some (.v (.int g0)), some (.v (nD (0 + i))), some (.v (tD (W.getD i []))), some (.v (.int (moreG n b k w (W.getD i []))))] from rfl)
      refine ⟨_, rfl, ?_⟩
      by_cases hp : 0 < moreG n b k w (W.getD i [])
      · refine .inl ⟨(i, moreG n b k w (W.getD i [])), by unfold hitG; rw [if_pos hp], sSeq_nx a3 (sIf_true (cBinT_of (a := .int (moreG n b k w (W.getD i []))) (b := .int 0) rfl rfl ?_) ?_)⟩
        · show some (PyData.bool (decide ((0 : Int) < moreG n b k w (W.getD i [])))) = _
          rw [decide_eq_true hp]
        · have e := cTup2_of (f := cVar 5) (g := cVar 7) (ρ := disown [some (.v (bD b)), some (.v (nD k)), some (.v w.d), some (.v (bD W)), some (.v (.int g0)), some (.v (nD (0 + i))), some (.v (tD (W.getD i []))), some (.v (.int (moreG n b k w (W.getD i []))))]) (a := nD (0 + i)) (b := .int (moreG n b k w (W.getD i []))) rfl rfl
          rw [Nat.zero_add] at e ⊢
          unfold sRet
          rw [e]
          rfl
      · refine .inr ⟨by unfold hitG; rw [if_neg hp], _, sSeq_nx a3 (sIf_false (cBinT_of (a := .int (moreG n b k w (W.getD i []))) (b := .int 0) rfl rfl ?_) rfl), _, _, _, rfl⟩
        show some (PyData.bool (decide ((0 : Int) < moreG n b k w (W.getD i [])))) = _
        rw [decide_eq_false hp]) ⟨_, _, _, rfl⟩
  rw [← enumL_map tD []] at lp
  have q8 : cIter dEnum (cCons (cVar 3) cNil) [some (.v (bD b)), some (.v (nD k)), some (.v w.d), some (.v (bD W)), some (.v (.int g0)), none, none, none] = .ok (enumL 0 (W.map tD)) := cIter1_of (d := bD W) rfl rfl
  rcases lp with ⟨q, l1, l2⟩ | ⟨l1, ρ2, l2, x1, x2, x3, rfl⟩
  · unfold firstG
    rw [l1]
    exact (congrArg SR.out (sSeq_nx s0 (sSeq_nx s1 (sSeq_rt (sFor_of q8 l2))))).trans rfl
  · unfold firstG
    rw [l1]
    exact (congrArg SR.out (sSeq_nx s0 (sSeq_nx s1 (sSeq_nx (sFor_of q8 l2) rfl)))).trans (sRet_of rfl)
end
end K04

namespace K04
open PySem PySem.Spec PyProof.Rows L2 G
theorem cOr_of {p q : En → R Bool} {ρ : En} (h1 : p ρ = .ok false) {b : Bool} (h2 : q ρ = .ok b) : cOr p q ρ = .ok b := by
  simp only [cOr, h1, R.bind, h2]
  rfl
/-- what two gain together by two lies -/
def bothG (n : Nat) (b : List (List Int)) (i j : Nat) (w : Wd) (s t : List Int) : Int :=
  gain n ((b.set i s).set j t) (b.getD i []) i w + gain n ((b.set i s).set j t) (b.getD j []) j w - (gain n b (b.getD i []) i w + gain n b (b.getD j []) j w)
section
variable {n : Nat} {b : List (List Int)} (h : Bok n b) (w : Wd) {i j : Nat} (hi : i < b.length) (hj : j < b.length) (hij : i ≠ j) {s t : List Int} (hs : TblOk n s) (ht : TblOk n t)
include h hi hj hij hs ht in
theorem together_eq : f_together_gain [bD b, nD i, nD j, w.d, tD s, tD t] = .ok (.int (bothG n b i j w s t)) := by
  have hz := h.six
  unfold f_together_gain g_together_gain
  refine runF_of rfl ?_
  have s0 := sExpr_of (ρ := enter 10 6 [bD b, nD i, nD j, w.d, tD s, tD t]) (f := cCallF f_check_word (cCons (cVar 0) (cCons (cVar 3) cNil))) (cCallF_of (ds := [bD b, w.d]) rfl (check_word_eq h w))
  have q1 : cNot (cChainT dLe dLt (cK (.int 0)) (cVarB 1) (cCall dLen (cCons (cVarB 0) cNil))) (enter 10 6 [bD b, nD i, nD j, w.d, tD s, tD t]) = .ok false := cNot_of (b := true) (cChainT_lt (a := 0) (b := (i : Int)) (c := (b.length : Int)) rfl rfl (len_bD rfl) (by omega) (by omega))
  have q2 : cNot (cChainT dLe dLt (cK (.int 0)) (cVarB 2) (cCall dLen (cCons (cVarB 0) cNil))) (enter 10 6 [bD b, nD i, nD j, w.d, tD s, tD t]) = .ok false := cNot_of (b := true) (cChainT_lt (a := 0) (b := (j : Int)) (c := (b.length : Int)) rfl rfl (len_bD rfl) (by omega) (by omega))
  have q3 : cBinT dEq (cVarB 1) (cVarB 2) (enter 10 6 [bD b, nD i, nD j, w.d, tD s, tD t]) = .ok false := cBinT_of (a := .int i) (b := .int j) rfl rfl (by rw [dEq_int]; simp; omega)
  obtain ⟨ρ2, e2, x1, x2, rfl⟩ := loopL_inv (P := fun ρ => ∃ x1 x2, ρ = [some (.v (bD b)), some (.v (nD i)), some (.v (nD j)), some (.v w.d), some (.v (tD s)), some (.v (tD t)), none, none, x1, x2]) (tgt := gT (gC (gN 8) (gC (gN 9) gE))) (body := (sIf (cOr (cNot (cTest (cCallF f_is_table (cCons (cVar 9) cNil)))) (cBinT dNe (cCall dLen (cCons (cVarB 9) cNil)) (cCall dLen (cCons (cBin dIx (cVarB 0) (cK (.int 0))) cNil))))
    (sRaise "BadTable" (cVar 8))
    sNext)) (ds := enumL 0 ([s, t].map tD)) (ρ := enter 10 6 [bD b, nD i, nD j, w.d, tD s, tD t]) (fun d hd ρ hρ => by
    obtain ⟨x1, x2, rfl⟩ := hρ
    obtain ⟨q, x, hx, _, rfl⟩ := enum_mem hd
    obtain ⟨y, hy, rfl⟩ := List.mem_map.mp hx
    have hy : TblOk n y := by
      simp at hy
      rcases hy with rfl | rfl <;> assumption
    exact ⟨_, _, rfl, sIf_false (table_ff h hy (t := y) (i := 9) (j := 0) rfl rfl rfl) rfl, _, _, rfl⟩) ⟨_, _, rfl⟩
  have q4 : cIter dEnumT (cCons (cTup (cCons (cVar 4) (cCons (cVar 5) cNil))) cNil) (enter 10 6 [bD b, nD i, nD j, w.d, tD s, tD t]) = .ok (enumL 0 ([s, t].map tD)) := cIter1_of (d := .tuple [tD s, tD t]) (cTup2_of rfl rfl) rfl
  have hb2 := (h.set hs i).set ht j
  have q5 := (sSet_of (i := 6) (ρ := [some (.v (bD b)), some (.v (nD i)), some (.v (nD j)), some (.v w.d), some (.v (tD s)), some (.v (tD t)), none, none, x1, x2]) (f := cCallF f_with_lie (cCons (cCallF f_with_lie (cCons (cVar 0) (cCons (cVar 1) (cCons (cVar 4) cNil)))) (cCons (cVar 2) (cCons (cVar 5) cNil))))
    (cCallF_of (ds := [bD (b.set i s), nD j, tD t]) (cCons_of (cCallF_of (ds := [bD b, nD i, tD s]) rfl (with_lie_eq hi (by omega) s)) (cCons_of rfl (cCons_of rfl rfl))) (with_lie_eq (k := j) (b := b.set i s) (by rw [List.length_set]; exact hj) (by rw [List.length_set]; omega) t))).trans
    (show _ = SR.nx [some (.v (bD b)), some (.v (nD i)), some (.v (nD j)), some (.v w.d), some (.v (tD s)), some (.v (tD t)), some (.v (bD ((b.set i s).set j t))), none, x1, x2] from rfl)
  have a1 : ∀ x6 x7, cBin dIx (cVarB 0) (cVar 1) [some (.v (bD b)), some (.v (nD i)), some (.v (nD j)), some (.v w.d), some (.v (tD s)), some (.v (tD t)), x6, x7, x1, x2] = .ok (tD (b.getD i [])) := fun x6 x7 => cBin_of rfl rfl (book_at hi)
  have a2 : ∀ x6 x7, cBin dIx (cVarB 0) (cVar 2) [some (.v (bD b)), some (.v (nD i)), some (.v (nD j)), some (.v w.d), some (.v (tD s)), some (.v (tD t)), x6, x7, x1, x2] = .ok (tD (b.getD j [])) := fun x6 x7 => cBin_of rfl rfl (book_at hj)
  have q6 := (sSet_of (i := 7) (ρ := [some (.v (bD b)), some (.v (nD i)), some (.v (nD j)), some (.v w.d), some (.v (tD s)), some (.v (tD t)), some (.v (bD ((b.set i s).set j t))), none, x1, x2]) (cBin_of (dop := dAdd)
    (cCallF_of (F := f_gain_of) (ds := [bD b, tD (b.getD i []), nD i, w.d]) (cCons_of (f := cVar 0) rfl (cCons_of (a1 _ _) (cCons_of (f := cVar 1) rfl (cCons_of (f := cVar 3) rfl (show cNil _ = _ from rfl))))) (gain_of_eq h.n64 h.n0 h.book h.ne w (h.at hi).len hi))
    (cCallF_of (F := f_gain_of) (ds := [bD b, tD (b.getD j []), nD j, w.d]) (cCons_of (f := cVar 0) rfl (cCons_of (a2 _ _) (cCons_of (f := cVar 2) rfl (cCons_of (f := cVar 3) rfl (show cNil _ = _ from rfl))))) (gain_of_eq h.n64 h.n0 h.book h.ne w (h.at hj).len hj))
    (dAdd_int _ _))).trans
    (show _ = SR.nx [some (.v (bD b)), some (.v (nD i)), some (.v (nD j)), some (.v w.d), some (.v (tD s)), some (.v (tD t)), some (.v (bD ((b.set i s).set j t))), some (.v (.int (gain n b (b.getD i []) i w + gain n b (b.getD j []) j w))), x1, x2] from rfl)
  have hl : ((b.set i s).set j t).length = b.length := by rw [List.length_set, List.length_set]
  refine (congrArg SR.out (sSeq_nx s0 (sSeq_nx (sIf_false (g1 := sRaise "BadBidder" (cVar 1)) (g2 := sNext) q1 rfl) (sSeq_nx (sIf_false (g1 := sRaise "BadBidder" (cVar 2)) (g2 := sNext) (cOr_of q2 q3) rfl) (sSeq_nx (sFor_of q4 e2) (sSeq_nx q5 (sSeq_nx q6 rfl))))))).trans (sRet_of ?_)
  exact cBin_of (dop := dSub) (cBin_of (dop := dAdd)
    (cCallF_of (F := f_gain_of) (ds := [bD ((b.set i s).set j t), tD (b.getD i []), nD i, w.d]) (cCons_of (f := cVar 6) rfl (cCons_of (a1 (some (.v (bD ((b.set i s).set j t)))) (some (.v (.int (gain n b (b.getD i []) i w + gain n b (b.getD j []) j w))))) (cCons_of (f := cVar 1) rfl (cCons_of (f := cVar 3) rfl (show cNil _ = _ from rfl))))) (gain_of_eq hb2.n64 h.n0 hb2.book hb2.ne w (h.at hi).len (by rw [hl]; exact hi)))
    (cCallF_of (F := f_gain_of) (ds := [bD ((b.set i s).set j t), tD (b.getD j []), nD j, w.d]) (cCons_of (f := cVar 6) rfl (cCons_of (a2 (some (.v (bD ((b.set i s).set j t)))) (some (.v (.int (gain n b (b.getD i []) i w + gain n b (b.getD j []) j w))))) (cCons_of (f := cVar 2) rfl (cCons_of (f := cVar 3) rfl (show cNil _ = _ from rfl))))) (gain_of_eq hb2.n64 h.n0 hb2.book hb2.ne w (h.at hj).len (by rw [hl]; exact hj)))
    (dAdd_int _ _)) (g := cVarB 7) rfl rfl
end
end K04

namespace K04
open PySem PySem.Spec PyProof.Rows L2 G
theorem loopL_foldI {α σ : Type} {P : Nat → σ → En → Prop} {tgt : TgF} {body : En → SR} {enc : α → D} {stp : σ → α → σ} (N : Nat) : ∀ {xs : List α} {i : Nat} {st : σ} {ρ : En}, (∀ x ∈ xs, ∀ i, i < N → ∀ st ρ, P i st ρ → ∃ ρ1 ρ2, tgt (enc x) ρ = some ρ1 ∧ body ρ1 = .nx ρ2 ∧ P (i + 1) (stp st x) ρ2) → i + xs.length ≤ N → P i st ρ →
    ∃ ρ2, loopL tgt body (xs.map enc) ρ = .nx ρ2 ∧ P (i + xs.length) (xs.foldl stp st) ρ2
  | [], i, st, ρ, _, _, h => ⟨ρ, rfl, h⟩
  | x :: xs, i, st, ρ, hx, hN, h => by
    rw [List.length_cons] at hN
    obtain ⟨ρ1, ρ2, e1, e2, h2⟩ := hx x List.mem_cons_self i (by omega) st ρ h
    obtain ⟨ρ3, e3, h3⟩ := loopL_foldI N (P := P) (stp := stp) (xs := xs) (fun a ha => hx a (List.mem_cons_of_mem _ ha)) (by omega) h2
    exact ⟨ρ3, loopL_nx e1 e2 e3, by rw [List.length_cons, show i + (xs.length + 1) = i + 1 + xs.length by omega]; exact h3⟩
theorem eqv_tD : ∀ (s t : List Int), PyData.eqvAll (s.map PyData.int) (t.map PyData.int) = decide (s = t)
  | [], [] => by simp [PyData.eqvAll]
  | [], b :: t => by simp [PyData.eqvAll]
  | a :: s, [] => by simp [PyData.eqvAll]
  | a :: s, b :: t => by
    have e : (a == b) = decide (a = b) := by
      by_cases h : a = b <;> simp [h]
    rw [List.map_cons, List.map_cons, PyData.eqvAll, eqv_tD s t]
    simp [PyData.eqv, e]
theorem shaped_tD (t : List Int) : SeqAt.shaped (tD t) = true := by
  obtain ⟨h1, h2⟩ := lay_tD t
  unfold SeqAt.shaped
  rw [h1, decide_eq_true h2]
  rfl
theorem shaped_bD (b : List (List Int)) : SeqAt.shaped (bD b) = true := by
  obtain ⟨h1, h2⟩ := lay_book b
  unfold SeqAt.shaped
  simp [PyData.canLay0, PyData.depth, h1]
  omega
theorem ne_tD (s t : List Int) : dNe (tD s) (tD t) = some (.bool (decide (s ≠ t))) := by
  unfold dNe
  rw [if_pos ⟨shaped_tD s, shaped_tD t⟩]
  show some (PyData.bool (!PyData.eqv (.list (s.map PyData.int)) (.list (t.map PyData.int)))) = _
  rw [PyData.eqv, eqv_tD]
  by_cases h : s = t <;> simp [h]
theorem in_bD (s : List Int) (b : List (List Int)) : inB (tD s) (bD b) = some ((b.map tD).any fun z => PyData.eqv z (tD s)) := by
  have e : inB (tD s) (bD b) = if SeqAt.shaped (tD s) = true ∧ SeqAt.shaped (bD b) = true then some ((b.map tD).any fun z => PyData.eqv z (tD s)) else none := by simp only [inB]
  rw [e, if_pos ⟨shaped_tD s, shaped_bD b⟩]
theorem any_bD (s : List Int) : ∀ b : List (List Int), ((b.map tD).any fun z => PyData.eqv z (tD s)) = decide (s ∈ b)
  | [] => rfl
  | a :: r => by
    rw [List.map_cons, List.any_cons, any_bD s r]
    rw [show PyData.eqv (tD a) (tD s) = decide (a = s) by show PyData.eqv (.list (a.map PyData.int)) (.list (s.map PyData.int)) = _; rw [PyData.eqv, eqv_tD]]
    by_cases h : a = s
    · subst h; simp
    · have h2 : ¬ s = a := fun z => h z.symm
      simp [h, h2]
theorem notin_tD (s : List Int) (b : List (List Int)) : dNotIn (tD s) (bD b) = some (.bool (decide (s ∉ b))) := by
  unfold dNotIn
  rw [in_bD, any_bD]
  show some (PyData.bool (!decide (s ∈ b))) = _
  by_cases h : s ∈ b <;> simp [h]
/-! ### lies that are told -/
def needs (t : List Int) (p : Nat) : Bool := decide (C.top ((bun p).map fun q => C.at_ t (p - 2 ^ q)) < C.at_ t p)
abbrev Prs := List (Nat × Int)
def nrm (n : Nat) (t : List Int) : Prs := (((List.range (n - 1)).map fun k => 1 + k).filter (needs t)).map fun p => (p, C.at_ t p)
abbrev prD (q : Nat × Int) : D := .tuple [bunD q.1, .int q.2]
abbrev prsD (P : Prs) : D := .list (P.map prD)
def tblOf (n : Nat) (P : Prs) : List Int := (List.range n).map fun w => C.top (0 :: (P.filter fun q => C.sub q.1 w).map fun q => q.2)
def chg (P : Prs) (k : Nat) (v : Int) : Prs := P.set k ((P.getD k (0, 0)).1, min 1000000 v)
def tolds (w : Int) : List Int := [0, w / 2, w - 1, w + 1, 2 * w]
def addL (n : Nat) (t : List Int) (P : Prs) (k : Nat) (found : List (List Int)) (v : Int) : List (List Int) := if tblOf n (chg P k v) ≠ t ∧ tblOf n (chg P k v) ∉ found then found ++ [tblOf n (chg P k v)] else found
def liesOf (n : Nat) (t : List Int) : List (List Int) := (List.range (nrm n t).length).foldl (fun f k => (tolds ((nrm n t).getD k (0, 0)).2).foldl (addL n t (nrm n t) k) f) []
/-- pairs of a wish -/
structure PrOk (n : Nat) (P : Prs) : Prop where
  few : P.length ≤ 15
  each : ∀ q ∈ P, (1 ≤ q.1 ∧ q.1 < n) ∧ 0 ≤ q.2 ∧ q.2 ≤ 1000000
theorem nrm_ok {n : Nat} {t : List Int} (h : TblOk n t) : PrOk n (nrm n t) ∧ ∀ q ∈ nrm n t, 1 ≤ q.2 := by
  have hn := h.size
  have hf : (nrm n t).length ≤ 15 := by
    unfold nrm
    rw [List.length_map]
    have := List.length_filter_le (needs t) ((List.range (n - 1)).map fun k => 1 + k)
    rw [List.length_map, List.length_range] at this
    omega
  have key : ∀ q ∈ nrm n t, ((1 ≤ q.1 ∧ q.1 < n) ∧ 0 ≤ q.2 ∧ q.2 ≤ 1000000) ∧ 1 ≤ q.2 := fun q hq => by
    obtain ⟨p, hp, rfl⟩ := List.mem_map.mp hq
    obtain ⟨hp1, hp2⟩ := List.mem_filter.mp hp
    obtain ⟨k, hk, rfl⟩ := List.mem_map.mp hp1
    have hk := List.mem_range.mp hk
    have h1 := h.all (1 + k) (by omega)
    have hb : bun (1 + k) ≠ [] := by
      have : ∀ p : Nat, p < 16 → 1 ≤ p → bun p ≠ [] := by decide +kernel
      exact this _ (by omega) (by omega)
    have h2 : 0 ≤ C.top ((bun (1 + k)).map fun q => C.at_ t (1 + k - 2 ^ q)) := by
      have hm := C.top_mem (l := (bun (1 + k)).map fun q => C.at_ t (1 + k - 2 ^ q)) (by simpa using hb)
      obtain ⟨q, hq, e⟩ := List.mem_map.mp hm
      rw [← e]
      exact (h.all _ (Nat.lt_of_le_of_lt (Nat.sub_le _ _) (by omega))).1
    have h3 := of_decide_eq_true hp2
    exact ⟨⟨⟨by omega, by show 1 + k < n; omega⟩, h1⟩, by show 1 ≤ C.at_ t (1 + k); omega⟩
  exact ⟨⟨hf, fun q hq => (key q hq).1⟩, fun q hq => (key q hq).2⟩
theorem chg_ok {n : Nat} {P : Prs} (h : PrOk n P) {k : Nat} (hk : k < P.length) {v : Int} (hv : 0 ≤ v) : PrOk n (chg P k v) := by
  refine ⟨by unfold chg; rw [List.length_set]; exact h.few, fun q hq => ?_⟩
  rcases List.mem_or_eq_of_mem_set hq with z | z
  · exact h.each q z
  · subst z
    have := h.each _ (getD_mem (l := P) (k := k) (z := (0, 0)) hk)
    refine ⟨this.1, ?_, ?_⟩
    · show 0 ≤ min 1000000 v
      omega
    · show min 1000000 v ≤ 1000000
      omega
theorem sub_mono : ∀ p : Nat, p < 16 → ∀ g ∈ bun p, 2 ^ g ≤ p ∧ ∀ q : Nat, q < 16 → C.sub q (p - 2 ^ g) = true → C.sub q p = true := by decide +kernel
theorem sub_zero : ∀ q : Nat, q < 16 → 1 ≤ q → C.sub q 0 = false := by decide +kernel
theorem tblOf_at {n : Nat} {P : Prs} {w : Nat} (hw : w < n) : C.at_ (tblOf n P) w = C.top (0 :: (P.filter fun q => C.sub q.1 w).map fun q => q.2) := by
  unfold C.at_ tblOf
  rw [List.getD_eq_getElem?_getD, List.getElem?_map, List.getElem?_range hw]
  rfl
theorem tblOf_ok {n : Nat} (hn : n = 2 ∨ n = 4 ∨ n = 8 ∨ n = 16) {P : Prs} (h : PrOk n P) : TblOk n (tblOf n P) := by
  have hb : ∀ w, w < n → 0 ≤ C.at_ (tblOf n P) w ∧ C.at_ (tblOf n P) w ≤ 1000000 := fun w hw => by
    rw [tblOf_at hw]
    refine ⟨C.top_ge List.mem_cons_self, ?_⟩
    rcases List.mem_cons.mp (C.top_mem (l := 0 :: (P.filter fun q => C.sub q.1 w).map fun q => q.2) (by simp)) with z | z
    · rw [z]; decide
    · obtain ⟨q, hq, e⟩ := List.mem_map.mp z
      rw [← e]
      exact (h.each q (List.mem_filter.mp hq).1).2.2
  refine ⟨by simp [tblOf], hn, ?_, (hb _ (by omega)).1, (hb _ (by omega)).2, hb, fun p hp g hg => ?_⟩
  · rw [tblOf_at (by omega)]
    have : P.filter (fun q => C.sub q.1 0) = [] := by
      rw [List.filter_eq_nil_iff]
      intro q hq
      have := (h.each q hq).1
      rw [sub_zero _ (by omega) this.1]
      decide
    rw [this]
    decide
  · obtain ⟨m1, m2⟩ := sub_mono p (by omega) g hg
    refine ⟨m1, ?_⟩
    rw [tblOf_at (Nat.lt_of_le_of_lt (Nat.sub_le _ _) hp), tblOf_at hp]
    rcases List.mem_cons.mp (C.top_mem (l := 0 :: (P.filter fun q => C.sub q.1 (p - 2 ^ g)).map fun q => q.2) (by simp)) with z | z
    · rw [z]; exact C.top_ge List.mem_cons_self
    · obtain ⟨q, hq, e⟩ := List.mem_map.mp z
      rw [← e]
      obtain ⟨q1, q2⟩ := List.mem_filter.mp hq
      exact C.top_ge (List.mem_cons_of_mem _ (List.mem_map.mpr ⟨q, List.mem_filter.mpr ⟨q1, m2 _ (by have := (h.each q q1).1; omega) q2⟩, rfl⟩))
theorem tolds_pos {w : Int} (h : 1 ≤ w) : ∀ v ∈ tolds w, 0 ≤ v := fun v hv => by
  simp only [tolds, List.mem_cons, List.not_mem_nil, or_false] at hv
  omega
theorem foldl_inv {α σ : Type} {stp : σ → α → σ} {P : σ → Prop} : ∀ {xs : List α} {s : σ}, (∀ x ∈ xs, ∀ s, P s → P (stp s x)) → P s → P (xs.foldl stp s)
  | [], _, _, h => h
  | x :: xs, s, hx, h => foldl_inv (xs := xs) (fun a ha => hx a (List.mem_cons_of_mem _ ha)) (hx x List.mem_cons_self s h)
theorem liesOf_ok {n : Nat} {t : List Int} (h : TblOk n t) : ∀ l ∈ liesOf n t, TblOk n l := by
  obtain ⟨p1, p2⟩ := nrm_ok h
  unfold liesOf
  refine foldl_inv (P := fun f : List (List Int) => ∀ l ∈ f, TblOk n l) (fun k hk f hf => ?_) (by simp)
  have hk := List.mem_range.mp hk
  refine foldl_inv (P := fun f : List (List Int) => ∀ l ∈ f, TblOk n l) (fun v hv f hf => ?_) hf
  unfold addL
  split
  · intro l hl
    rcases List.mem_append.mp hl with z | z
    · exact hf l z
    · simp at z
      subst z
      exact tblOf_ok h.size (chg_ok p1 hk (tolds_pos (p2 _ (getD_mem hk)) v hv))
  · exact hf
/-- the most of what lies within, told with noughts -/
theorem top_noughts {P : Prs} (h0 : P ≠ []) (hp : ∀ q ∈ P, 0 ≤ q.2) (w : Nat) : C.top (P.map fun q => if C.sub q.1 w = true then q.2 else 0) = C.top (0 :: (P.filter fun q => C.sub q.1 w).map fun q => q.2) := by
  refine C.top_eq ?_ fun x hx => ?_
  · rcases List.mem_cons.mp (C.top_mem (l := 0 :: (P.filter fun q => C.sub q.1 w).map fun q => q.2) (by simp)) with z | z
    · rw [z]
      obtain ⟨a, r, rfl⟩ := List.exists_cons_of_ne_nil h0
      have h1 := hp a List.mem_cons_self
      by_cases hs : C.sub a.1 w = true
      · have : a.2 ≤ C.top (0 :: ((a :: r).filter fun q => C.sub q.1 w).map fun q => q.2) := C.top_ge (List.mem_cons_of_mem _ (List.mem_map.mpr ⟨a, List.mem_filter.mpr ⟨List.mem_cons_self, hs⟩, rfl⟩))
        rw [z] at this
        exact List.mem_map.mpr ⟨a, List.mem_cons_self, by rw [if_pos hs]; omega⟩
      · exact List.mem_map.mpr ⟨a, List.mem_cons_self, by rw [if_neg hs]⟩
    · obtain ⟨q, hq, e⟩ := List.mem_map.mp z
      obtain ⟨q1, q2⟩ := List.mem_filter.mp hq
      rw [← e]
      exact List.mem_map.mpr ⟨q, q1, if_pos q2⟩
  · obtain ⟨q, hq, e⟩ := List.mem_map.mp hx
    by_cases hs : C.sub q.1 w = true
    · rw [if_pos hs] at e
      rw [← e]
      exact C.top_ge (List.mem_cons_of_mem _ (List.mem_map.mpr ⟨q, List.mem_filter.mpr ⟨hq, hs⟩, rfl⟩))
    · rw [if_neg hs] at e
      rw [← e]
      exact C.top_ge List.mem_cons_self
end K04

namespace K04
open PySem PySem.Spec PyProof.Rows L2 G
theorem check_table_eq {n : Nat} {t : List Int} (h : TblOk n t) : f_check_table [tD t] = .ok .none := by
  unfold f_check_table g_check_table
  refine runF_of rfl ?_
  exact (congrArg SR.out (sIf_false (ρ := enter 1 1 [tD t]) (g1 := sRaise "BadTable" (cK (.int 0))) (g2 := sNext) (cNot_of (b := true) (cTest_of (cCallF1_of (d := tD t) rfl (is_table_eq h)))) rfl)).trans rfl
theorem foldl_keep {α β : Type} (c : α → Bool) (g : α → β) : ∀ (l : List α) (f : List β), l.foldl (fun f x => if c x = true then f ++ [g x] else f) f = f ++ (l.filter c).map g
  | [], f => by simp
  | x :: l, f => by
    rw [List.foldl_cons, foldl_keep c g l, List.filter_cons]
    by_cases h : c x = true <;> simp [h]
abbrev nmE (t : List Int) (f : Prs) (x2 x3 : Option Sl) : En := [some (.v (tD t)), some (.own false (prsD f)), x2, x3, none]
abbrev nm_b : En → SR := (sSeq (sSet 3 (cCallF f_bundle_of (cCons (cVar 2) cNil)))
    (sIf (cBinT dGt (cBin dIx (cVarB 0) (cVar 2)) (cCall dMax (cCons (cLc [4] (cItems (cVar 3)) (gN 4) cTrue (cBin dIx (cVarB 0) (cBin dSub (cVarB 2) (cBin dIx (cK (.tuple [(.int 1), (.int 2), (.int 4), (.int 8), (.int 16), (.int 32), (.int 64)])) (cVar 4))))) cNil)))
    (sAppend 1 (cTup (cCons (cVar 3) (cCons (cBin dIx (cVarB 0) (cVar 2)) cNil))))
    sNext))
theorem bun_ne {p : Nat} (h1 : 1 ≤ p) (h2 : p < 16) : bun p ≠ [] := (by decide +kernel : ∀ p : Nat, p < 16 → 1 ≤ p → bun p ≠ []) p h2 h1
theorem bun_six {p q : Nat} (h : q ∈ bun p) : q < 6 := List.mem_range.mp (List.mem_filter.mp h).1
theorem bun_few (p : Nat) : (bun p).length ≤ 6 := Nat.le_trans (List.length_filter_le _ _) (by simp)
section
variable {n : Nat} {t : List Int} (h : TblOk n t)
theorem sub_pow {p q : Nat} (h : 2 ^ q ≤ p) : dSub (nD p) (nD (2 ^ q)) = some (nD (p - 2 ^ q)) := by
  show some (PyData.int ((p : Int) - (2 ^ q : Nat))) = _
  rw [show (nD (p - 2 ^ q)) = PyData.int ((p : Int) - (2 ^ q : Nat)) from congrArg PyData.int (by omega)]
include h in
theorem needs_top {p : Nat} (h1 : 1 ≤ p) (hp : p < n) (f : Prs) : cBinT dGt (cBin dIx (cVarB 0) (cVar 2)) (cCall dMax (cCons (cLc [4] (cItems (cVar 3)) (gN 4) cTrue (cBin dIx (cVarB 0) (cBin dSub (cVarB 2) (cBin dIx (cK (.tuple [(.int 1), (.int 2), (.int 4), (.int 8), (.int 16), (.int 32), (.int 64)])) (cVar 4))))) cNil)) (nmE t f (some (.v (nD p))) (some (.v (bunD p)))) = .ok (needs t p) := by
  have hn := h.size
  have e := lcL_map (tgt := gN 4) (f := cBin dIx (cVarB 0) (cBin dSub (cVarB 2) (cBin dIx (cK (.tuple [(.int 1), (.int 2), (.int 4), (.int 8), (.int 16), (.int 32), (.int 64)])) (cVar 4)))) (ρ := nmE t f (some (.v (nD p))) (some (.v (bunD p)))) (enc := nD) (fun q => [some (.v (tD t)), some (.own false (prsD f)), some (.v (nD p)), some (.v (bunD p)), some (.v (nD q))]) (fun q => .int (C.at_ t (p - 2 ^ q))) (xs := bun p) fun q hq => ⟨rfl, by
    obtain ⟨m1, m2⟩ := h.mono p hp q hq
    exact cBin_of (a := tD t) (b := nD (p - 2 ^ q)) rfl (cBin_of (a := nD p) (b := nD (2 ^ q)) rfl (cBin_of rfl rfl (pow_ix q (bun_six hq))) (sub_pow m1)) (tbl_ix t _ (by rw [h.len]; exact Nat.lt_of_le_of_lt (Nat.sub_le _ _) hp))⟩
  have e2 : (bun p).map (fun q => PyData.int (C.at_ t (p - 2 ^ q))) = ((bun p).map fun q => C.at_ t (p - 2 ^ q)).map PyData.int := by rw [List.map_map]; rfl
  rw [e2] at e
  have := bun_few p
  refine cBinT_of (a := .int (C.at_ t p)) (b := .int (C.top ((bun p).map fun q => C.at_ t (p - 2 ^ q)))) (cBin_of (a := tD t) (b := nD p) rfl rfl (tbl_ix t p (by rw [h.len]; exact hp))) (cCall1_of (cLc_of (cItemsT_of (ds := (bun p).map nD) rfl) e (by rw [List.length_map, List.length_map]; unfold sizeLine; omega)) (dMax_top (by have := bun_ne h1 (p := p) (by omega); simpa using this))) ?_
  rfl
include h in
theorem nm_step {p : Nat} (h1 : 1 ≤ p) (hp : p < n) (f : Prs) (hf : f.length ≤ 100) (x3 : Option Sl) : nm_b (nmE t f (some (.v (nD p))) x3) = .nx (nmE t (if needs t p = true then f ++ [(p, C.at_ t p)] else f) (some (.v (nD p))) (some (.v (bunD p)))) := by
  have hn := h.size
  have s1 := (sSet_of (i := 3) (ρ := nmE t f (some (.v (nD p))) x3) (f := cCallF f_bundle_of (cCons (cVar 2) cNil)) (cCallF1_of (d := nD p) rfl (bundle_eq p (by omega)))).trans (show _ = SR.nx (nmE t f (some (.v (nD p))) (some (.v (bunD p)))) from rfl)
  refine sSeq_nx s1 ?_
  have c := needs_top h h1 hp f
  by_cases hq : needs t p = true
  · rw [hq] at c
    rw [if_pos hq]
    refine sIf_true c ((sAppend_of (t := false) (ds := f.map prD) (d := prD (p, C.at_ t p)) rfl (cTup2_of rfl (cBin_of (a := tD t) (b := nD p) rfl rfl (tbl_ix t p (by rw [h.len]; exact hp)))) (by rw [List.length_map]; unfold sizeLine; omega)).trans ?_)
    rw [show f.map prD ++ [prD (p, C.at_ t p)] = (f ++ [(p, C.at_ t p)]).map prD by simp]
    rfl
  · rw [if_neg hq]
    rw [Bool.not_eq_true] at hq
    rw [hq] at c
    exact sIf_false c rfl
include h in
theorem normal_eq : f_normal [tD t] = .ok (prsD (nrm n t)) := by
  have hn := h.size
  unfold f_normal g_normal
  refine runF_of rfl ?_
  obtain ⟨ρ2, e2, x2, x3, rfl, _⟩ := loopL_foldI 20 (P := fun i (f : Prs) ρ => ∃ x2 x3, ρ = nmE t f x2 x3 ∧ f.length ≤ i) (tgt := gN 2) (body := nm_b) (enc := nD) (stp := fun f p => if needs t p = true then f ++ [(p, C.at_ t p)] else f) (xs := (List.range (n - 1)).map fun k => 1 + k) (i := 0) (st := []) (ρ := nmE t [] none none) (fun p hp i hi f ρ hρ => by
    obtain ⟨x2, x3, rfl, hl⟩ := hρ
    obtain ⟨k, hk, rfl⟩ := List.mem_map.mp hp
    have hk := List.mem_range.mp hk
    refine ⟨_, _, rfl, nm_step h (by omega) (by omega) f (by omega) x3, _, _, rfl, ?_⟩
    split
    · rw [List.length_append]; simp; omega
    · omega) (by rw [List.length_map, List.length_range]; omega) ⟨none, none, rfl, Nat.le_refl 0⟩
  rw [foldl_keep (needs t) fun p => (p, C.at_ t p), List.nil_append] at e2
  rw [show ((List.range (n - 1)).map fun k => 1 + k).map nD = (List.range (n - 1)).map fun k => nD (1 + k) by rw [List.map_map]; rfl] at e2
  have q1 : cIter dRange2 (cCons (cK (.int 1)) (cCons (cCall dLen (cCons (cVarB 0) cNil)) cNil)) (nmE t [] none none) = .ok ((List.range (n - 1)).map fun k => nD (1 + k)) := cIter2_of (a := nD 1) (b := nD n) rfl (by have := len_tD (f := cVarB 0) (ρ := nmE t [] none none) (t := t) rfl; rw [h.len] at this; exact this) (range2_eq (by decide) (Nat.lt_trans (show n < 100 by omega) (by decide)))
  refine (congrArg SR.out (sSeq_nx (ρ := enter 5 1 [tD t]) (sExpr_of (f := cCallF f_check_table (cCons (cVar 0) cNil)) (cCallF1_of (d := tD t) rfl (check_table_eq h))) (sSeq_nx ((sSetN_of (i := 1) (t := false) (f := cList cNil) (d := .list []) rfl).trans (show _ = SR.nx (nmE t [] none none) from rfl)) (sSeq_nx (sFor_of q1 e2) rfl)))).trans (sRet_of rfl)
/-! ### the table of a changed form -/
abbrev oneD (q : Nat × Int) : D := .tuple [.str "one", bunD q.1, .int q.2]
abbrev treD (P : Prs) : D := .tuple [.str "xor", .tuple (P.map oneD)]
theorem changed_eq {P : Prs} {k : Nat} (hk : k < P.length) (hz : P.length ≤ 100) {v : Int} (hv : 0 ≤ v) : f_changed [prsD P, nD k, .int v] = .ok (prsD (chg P k v)) := by
  unfold f_changed g_changed
  have e0 : cBin dIx (cVarB 0) (cVar 1) [some (.v (prsD P)), some (.v (nD k)), some (.v (.int v))] = .ok (prD (P.getD k (0, 0))) := cBin_of (a := prsD P) (b := nD k) rfl rfl (by rw [dIx_nat, List.getElem?_map, List.getD_eq_getElem?_getD, List.getElem?_eq_getElem hk]; rfl)
  have e1 : cTup (cCons (cBin dIx (cBin dIx (cVarB 0) (cVar 1)) (cK (.int 0))) (cCons (cCall dMax2 (cCons (cK (.int 0)) (cCons (cCall dMin2 (cCons (cK (.int 1000000)) (cCons (cVarB 2) cNil))) cNil))) cNil)) [some (.v (prsD P)), some (.v (nD k)), some (.v (.int v))] = .ok (prD ((P.getD k (0, 0)).1, min 1000000 v)) := by
    refine cTup2_of (a := bunD (P.getD k (0, 0)).1) (b := .int (min 1000000 v)) (cBin_of e0 rfl (by rw [dIxT_zero]; rfl)) (cCall2_of (a := .int 0) (b := .int (min 1000000 v)) rfl (cCall2_of (a := .int 1000000) (b := .int v) rfl rfl rfl) ?_)
    show some (PyData.int (max 0 (min 1000000 v))) = _
    rw [Int.max_eq_right (by omega)]
  have q : cStar (cSlice (cVar 0) cPartN (cPart (cVar 1))) (cCons (cTup (cCons (cBin dIx (cBin dIx (cVarB 0) (cVar 1)) (cK (.int 0))) (cCons (cCall dMax2 (cCons (cK (.int 0)) (cCons (cCall dMin2 (cCons (cK (.int 1000000)) (cCons (cVarB 2) cNil))) cNil))) cNil))) (cStar (cSlice (cVar 0) (cPart (cBin dAdd (cVar 1) (cK (.int 1)))) cPartN) cNil)) [some (.v (prsD P)), some (.v (nD k)), some (.v (.int v))] = .ok ((P.map prD).take k ++ (prD ((P.getD k (0, 0)).1, min 1000000 v) :: ((P.map prD).drop (k + 1) ++ []))) :=
    cStar_of (cSlice_to (xs := P.map prD) (k := k) rfl rfl) (cCons_of e1 (cStar_of (cSlice_from (xs := P.map prD) (k := k + 1) rfl (cBin_of rfl rfl rfl)) rfl))
  have e : (P.map prD).take k ++ (prD ((P.getD k (0, 0)).1, min 1000000 v) :: ((P.map prD).drop (k + 1) ++ [])) = (chg P k v).map prD := by
    unfold chg
    rw [List.set_eq_take_append_cons_drop, if_pos hk, List.map_append, List.map_cons, List.map_take, List.map_drop, List.append_nil]
  rw [e] at q
  exact runF_of rfl (sRet_of (ρ := [some (.v (prsD P)), some (.v (nD k)), some (.v (.int v))]) (cList_of q (by rw [List.length_map]; unfold chg; rw [List.length_set]; unfold sizeLine; omega)))
theorem tree_of_eq {P : Prs} (hz : P.length ≤ 100) : f_tree_of [prsD P] = .ok (treD P) := by
  unfold f_tree_of g_tree_of
  have e := lcL_map (tgt := gT (gC (gN 1) (gC (gN 2) gE))) (f := cTup (cCons (cK (.str "one")) (cCons (cVar 1) (cCons (cVar 2) cNil)))) (ρ := [some (.v (prsD P)), none, none]) (enc := prD) (fun q => [some (.v (prsD P)), some (.v (bunD q.1)), some (.v (.int q.2))]) oneD (xs := P) fun q hq => ⟨rfl, by rfl⟩
  exact runF_of rfl (sRet_of (ρ := [some (.v (prsD P)), none, none]) (cTup2_of rfl (cCall1_of (cLc_of (cItems_of (ds := P.map prD) rfl) e (by rw [List.length_map]; unfold sizeLine; omega)) rfl)))
def oneT (n : Nat) (q : Nat × Int) : List Int := (List.range n).map fun w => if C.sub q.1 w = true then q.2 else 0
theorem one_eq {g : Nat} (hg : 1 ≤ g ∧ g ≤ 4) {q : Nat × Int} (hq : q.1 < 64) : f_worths_n 7 [oneD q, nD g] = .ok (tD (oneT (2 ^ g) q)) := by
  show runF 6 2 (g_worths f_number_of f_within f_inner (f_worths_n 6) f_most_of f_up_to) _ = _
  unfold g_worths
  refine runF_of rfl ?_
  have c : cBinT dEq (cBin dIx (cVarB 0) (cK (.int 0))) (cK (.str "one")) (enter 6 2 [oneD q, nD g]) = .ok true := cBinT_of (a := .str "one") (cBin_of (a := oneD q) rfl rfl (by rw [dIxT_zero]; rfl)) rfl (by kernel_rfl)
  have s1 := (sSet_of (i := 3) (ρ := enter 6 2 [oneD q, nD g]) (f := cCallF f_number_of (cCons (cBin dIx (cVarB 0) (cK (.int 1))) cNil)) (cCallF1_of (d := bunD q.1) (cBin_of (a := oneD q) rfl rfl (by rw [dIxT_one]; rfl)) (number_eq _ hq))).trans (show _ = SR.nx [some (.v (oneD q)), some (.v (nD g)), none, some (.v (nD q.1)), none, none] from rfl)
  have e := lcL_map (tgt := gN 5) (f := cIf (cTest (cCallF f_within (cCons (cVar 3) (cCons (cVar 5) cNil)))) (cBin dIx (cVarB 0) (cK (.int 2))) (cK (.int 0))) (ρ := [some (.v (oneD q)), some (.v (nD g)), none, some (.v (nD q.1)), none, none]) (enc := nD) (fun w => [some (.v (oneD q)), some (.v (nD g)), none, some (.v (nD q.1)), none, some (.v (nD w))]) (fun w => .int (if C.sub q.1 w = true then q.2 else 0)) (xs := List.range (2 ^ g)) fun w hw => ⟨rfl, by
    have t1 : cTest (cCallF f_within (cCons (cVar 3) (cCons (cVar 5) cNil))) [some (.v (oneD q)), some (.v (nD g)), none, some (.v (nD q.1)), none, some (.v (nD w))] = .ok (C.sub q.1 w) := cTest_of (cCallF_of (ds := [nD q.1, nD w]) rfl (within_eq _ _ (Nat.lt_trans hq (by decide))))
    by_cases hs : C.sub q.1 w = true
    · rw [hs] at t1
      rw [if_pos hs]
      exact cIf_t t1 (cBin_of (a := oneD q) (b := .int 2) rfl rfl rfl)
    · rw [if_neg hs]
      rw [Bool.not_eq_true] at hs
      rw [hs] at t1
      exact cIf_f t1 rfl⟩
  have e2 : (List.range (2 ^ g)).map (fun w => PyData.int (if C.sub q.1 w = true then q.2 else 0)) = (oneT (2 ^ g) q).map PyData.int := by unfold oneT; rw [List.map_map]; rfl
  rw [e2] at e
  have h16 : 2 ^ g ≤ 16 := by
    obtain rfl | rfl | rfl | rfl : g = 1 ∨ g = 2 ∨ g = 3 ∨ g = 4 := by omega
    all_goals decide
  have q2 : cIter dRange1 (cCons (cBin dIx (cK (.tuple [(.int 1), (.int 2), (.int 4), (.int 8), (.int 16), (.int 32), (.int 64)])) (cVar 1)) cNil) [some (.v (oneD q)), some (.v (nD g)), none, some (.v (nD q.1)), none, none] = .ok ((List.range (2 ^ g)).map nD) := cIter1_of (d := nD (2 ^ g)) (cBin_of rfl rfl (pow_ix g (by omega))) (dRange1_nat (Nat.lt_trans (show 2 ^ g < 100 by omega) (by decide)))
  refine (congrArg SR.out (sSeq_rt (sIf_true c (sSeq_nx s1 (show sRet _ _ = .rt (tD (oneT (2 ^ g) q)) from ?_))))).trans rfl
  have q3 := cLc_of (vs := [5]) (ρ := disown [some (.v (oneD q)), some (.v (nD g)), none, some (.v (nD q.1)), none, none]) q2 e (by rw [List.length_map]; unfold oneT; rw [List.length_map, List.length_range]; unfold sizeLine; omega)
  unfold sRet
  rw [q3]
  rfl
theorem most_of_eq {n : Nat} {T : List (List Int)} (h0 : T ≠ []) (hl : ∀ t ∈ T, t.length = n) (hn : n ≤ 64) (hz : T.length ≤ 100) : f_most_of [bD T] = .ok (tD ((List.range n).map fun w => C.top (T.map fun t => C.at_ t w))) := by
  unfold f_most_of g_most_of
  have hp : 0 < T.length := List.length_pos_iff.mpr h0
  have e := lcL_map (tgt := gN 1) (f := cCall dMax (cCons (cLc [2] (cItems (cVar 0)) (gN 2) cTrue (cBin dIx (cVarB 2) (cVar 1))) cNil)) (ρ := [some (.v (bD T)), none, none]) (enc := nD) (fun w => [some (.v (bD T)), some (.v (nD w)), none]) (fun w => .int (C.top (T.map fun t => C.at_ t w))) (xs := List.range n) fun w hw => ⟨rfl, by
    have hw := List.mem_range.mp hw
    have e1 := lcL_map (tgt := gN 2) (f := cBin dIx (cVarB 2) (cVar 1)) (ρ := [some (.v (bD T)), some (.v (nD w)), none]) (enc := tD) (fun t => [some (.v (bD T)), some (.v (nD w)), some (.v (tD t))]) (fun t => .int (C.at_ t w)) (xs := T) fun t ht => ⟨rfl, cBin_of (a := tD t) (b := nD w) rfl rfl (tbl_ix t w (by rw [hl t ht]; exact hw))⟩
    have e2 : T.map (fun t => PyData.int (C.at_ t w)) = (T.map fun t => C.at_ t w).map PyData.int := by rw [List.map_map]; rfl
    rw [e2] at e1
    exact cCall1_of (cLc_of (cItems_of (ds := T.map tD) rfl) e1 (by rw [List.length_map, List.length_map]; unfold sizeLine; omega)) (dMax_top (by simpa using h0))⟩
  have e2 : (List.range n).map (fun w => PyData.int (C.top (T.map fun t => C.at_ t w))) = ((List.range n).map fun w => C.top (T.map fun t => C.at_ t w)).map PyData.int := by rw [List.map_map]; rfl
  rw [e2] at e
  have q : cCall dLen (cCons (cBin dIx (cVarB 0) (cK (.int 0))) cNil) [some (.v (bD T)), none, none] = .ok (nD n) := by
    have := len_tD (t := T.getD 0 []) (f := cBin dIx (cVarB 0) (cK (.int 0))) (ρ := [some (.v (bD T)), none, none]) (cBin_of (a := bD T) (b := nD 0) rfl rfl (book_at hp))
    rw [hl _ (getD_mem hp)] at this
    exact this
  exact runF_of rfl (sRet_of (ρ := [some (.v (bD T)), none, none]) (cLc_of (cIter1_of q (dRange1_nat (Nat.lt_trans (show n < 100 by omega) (by decide)))) e (by rw [List.length_map, List.length_map, List.length_range]; unfold sizeLine; omega)))
theorem worths_eq {g : Nat} (hg : 1 ≤ g ∧ g ≤ 4) {P : Prs} (hP : PrOk (2 ^ g) P) (h0 : P ≠ []) : f_worths [treD P, nD g] = .ok (tD (tblOf (2 ^ g) P)) := by
  have hz := hP.few
  have h16 : 2 ^ g ≤ 16 := by
    obtain rfl | rfl | rfl | rfl : g = 1 ∨ g = 2 ∨ g = 3 ∨ g = 4 := by omega
    all_goals decide
  unfold f_worths
  rw [f_worths_n]
  unfold g_worths
  refine runF_of rfl ?_
  have c1 : cBinT dEq (cBin dIx (cVarB 0) (cK (.int 0))) (cK (.str "one")) (enter 6 2 [treD P, nD g]) = .ok false := cBinT_of (a := .str "xor") (cBin_of (a := treD P) rfl rfl (by rw [dIxT_zero]; rfl)) rfl (by kernel_rfl)
  have q1 : f_inner [treD P] = .ok (.tuple (P.map oneD)) := by
    unfold f_inner g_inner
    refine runF_of rfl ?_
    have d1 : cBinT dEq (cBin dIx (cVarB 0) (cK (.int 0))) (cK (.str "one")) (enter 1 1 [treD P]) = .ok false := cBinT_of (a := .str "xor") (cBin_of (a := treD P) rfl rfl (by rw [dIxT_zero]; rfl)) rfl (by kernel_rfl)
    have d2 : cBinT dEq (cBin dIx (cVarB 0) (cK (.int 0))) (cK (.str "up")) (enter 1 1 [treD P]) = .ok false := cBinT_of (a := .str "xor") (cBin_of (a := treD P) rfl rfl (by rw [dIxT_zero]; rfl)) rfl (by kernel_rfl)
    exact (congrArg SR.out (sSeq_nx (ρ := enter 1 1 [treD P]) (sIf_false (g1 := sRet (cTup cNil)) (g2 := sNext) d1 rfl) rfl)).trans (sRet_of (ρ := enter 1 1 [treD P]) (cIf_f d2 (cBin_of (a := treD P) (b := .int 1) rfl rfl (by rw [dIxT_one]; rfl))))
  have e := lcL_map (tgt := gN 4) (f := cCallF (f_worths_n 7) (cCons (cVar 4) (cCons (cVar 1) cNil))) (ρ := enter 6 2 [treD P, nD g]) (enc := oneD) (fun q => [some (.v (treD P)), some (.v (nD g)), none, none, some (.v (oneD q)), none]) (fun q => tD (oneT (2 ^ g) q)) (xs := P) fun q hq => ⟨rfl, cCallF_of (ds := [oneD q, nD g]) rfl (one_eq hg (by have := (hP.each q hq).1; omega))⟩
  have e2 : P.map (fun q => tD (oneT (2 ^ g) q)) = (P.map (oneT (2 ^ g))).map tD := by rw [List.map_map]; rfl
  rw [e2] at e
  have s1 := (sSet_of (i := 2) (ρ := enter 6 2 [treD P, nD g]) (cLc_of (vs := [4]) (cItemsT_of (f := cCallF f_inner (cCons (cVar 0) cNil)) (cCallF1_of (d := treD P) rfl q1)) e (by rw [List.length_map, List.length_map]; unfold sizeLine; omega))).trans (show _ = SR.nx [some (.v (treD P)), some (.v (nD g)), some (.v (bD (P.map (oneT (2 ^ g))))), none, none, none] from rfl)
  have c2 : cBinT dEq (cBin dIx (cVarB 0) (cK (.int 0))) (cK (.str "xor")) [some (.v (treD P)), some (.v (nD g)), some (.v (bD (P.map (oneT (2 ^ g))))), none, none, none] = .ok true := cBinT_of (a := .str "xor") (cBin_of (a := treD P) rfl rfl (by rw [dIxT_zero]; rfl)) rfl (by kernel_rfl)
  have q3 := most_of_eq (n := 2 ^ g) (T := P.map (oneT (2 ^ g))) (by simpa using h0) (fun t ht => by obtain ⟨q, _, rfl⟩ := List.mem_map.mp ht; simp [oneT]) (by omega) (by rw [List.length_map]; omega)
  have q4 : (List.range (2 ^ g)).map (fun w => C.top ((P.map (oneT (2 ^ g))).map fun t => C.at_ t w)) = tblOf (2 ^ g) P := by
    unfold tblOf
    refine List.map_congr_left fun w hw => ?_
    have hw := List.mem_range.mp hw
    rw [← top_noughts h0 (fun q hq => (hP.each q hq).2.1) w, List.map_map]
    refine congrArg C.top (List.map_congr_left fun q _ => ?_)
    show C.at_ (oneT (2 ^ g) q) w = _
    unfold C.at_ oneT
    rw [List.getD_eq_getElem?_getD, List.getElem?_map, List.getElem?_range hw]
    rfl
  rw [q4] at q3
  refine (congrArg SR.out (sSeq_nx (sIf_false (g2 := sNext) c1 rfl) (sSeq_nx s1 (sSeq_rt (sIf_true c2 (show sRet _ _ = .rt (tD (tblOf (2 ^ g) P)) from ?_)))))).trans rfl
  unfold sRet
  rw [cCallF1_of (F := f_most_of) (f := cVar 2) (ρ := disown [some (.v (treD P)), some (.v (nD g)), some (.v (bD (P.map (oneT (2 ^ g))))), none, none, none]) rfl q3]
  rfl
theorem goods_in_eq {g : Nat} (hg : 1 ≤ g ∧ g ≤ 4) {t : List Int} (ht : t.length = 2 ^ g) : f_goods_in [tD t] = .ok (nD g) := by
  unfold f_goods_in g_goods_in
  refine runF_of rfl (sRet_of (ρ := enter 1 1 [tD t]) ?_)
  have q : cCall dLen (cCons (cVarB 0) cNil) (enter 1 1 [tD t]) = .ok (nD (2 ^ g)) := by rw [← ht]; exact len_tD rfl
  have q2 : cIdxK [2, 4, 8, 16, 32, 64] (cCall dLen (cCons (cVarB 0) cNil)) (enter 1 1 [tD t]) = .ok (nD (g - 1)) := by
    unfold cIdxK
    rw [q]
    obtain rfl | rfl | rfl | rfl : g = 1 ∨ g = 2 ∨ g = 3 ∨ g = 4 := by omega
    all_goals kernel_rfl
  refine cBin_of (b := nD 1) q2 rfl ?_
  rw [add_nat, show g - 1 + 1 = g by omega]
end
end K04

namespace K04
open PySem PySem.Spec PyProof.Rows L2 G
abbrev laE (t : List Int) (P : Prs) (found : List (List Int)) (x3 x4 x5 x6 x7 : Option Sl) : En := [some (.v (tD t)), some (.v (prsD P)), some (.own false (bD found)), x3, x4, x5, x6, x7]
abbrev la_i : En → SR := (sSeq (sSet 7 (cCallF f_worths (cCons (cCallF f_tree_of (cCons (cCallF f_changed (cCons (cVar 1) (cCons (cVar 3) (cCons (cVar 4) cNil)))) cNil)) (cCons (cCallF f_goods_in (cCons (cVar 0) cNil)) cNil))))
    (sIf (cAnd (cBinT dNe (cVarB 7) (cVarB 0)) (cBinT dNotIn (cVar 7) (cVarB 2)))
    (sAppend 2 (cVar 7))
    sNext))
abbrev la_o : En → SR := (sFor (gN 4) (cItems (cTup (cCons (cK (.int 0)) (cCons (cBin dDiv (cVarB 6) (cK (.int 2))) (cCons (cBin dSub (cVarB 6) (cK (.int 1))) (cCons (cBin dAdd (cVar 6) (cK (.int 1))) (cCons (cBin dMul (cK (.int 2)) (cVarB 6)) cNil))))))) la_i)
section
variable {g : Nat} (hg : 1 ≤ g ∧ g ≤ 4) {t : List Int} (h : TblOk (2 ^ g) t) {P : Prs} (hP : PrOk (2 ^ g) P) (hp : ∀ q ∈ P, 1 ≤ q.2) {k : Nat} (hk : k < P.length)
include hg h hP hk in
theorem la_step {v : Int} (hv : 0 ≤ v) (found : List (List Int)) (hf : found.length ≤ 1000) (x5 x6 x7 : Option Sl) : la_i (laE t P found (some (.v (nD k))) (some (.v (.int v))) x5 x6 x7) = .nx (laE t P (addL (2 ^ g) t P k found v) (some (.v (nD k))) (some (.v (.int v))) x5 x6 (some (.v (tD (tblOf (2 ^ g) (chg P k v)))))) := by
  have hz := hP.few
  have hc := chg_ok hP hk hv
  have hne : chg P k v ≠ [] := by
    intro z
    have : (chg P k v).length = 0 := by rw [z]; rfl
    unfold chg at this
    rw [List.length_set] at this
    omega
  have s1 := (sSet_of (i := 7) (ρ := laE t P found (some (.v (nD k))) (some (.v (.int v))) x5 x6 x7) (f := cCallF f_worths (cCons (cCallF f_tree_of (cCons (cCallF f_changed (cCons (cVar 1) (cCons (cVar 3) (cCons (cVar 4) cNil)))) cNil)) (cCons (cCallF f_goods_in (cCons (cVar 0) cNil)) cNil)))
    (cCallF_of (ds := [treD (chg P k v), nD g]) (cCons_of (cCallF1_of (d := prsD (chg P k v)) (cCallF_of (ds := [prsD P, nD k, .int v]) rfl (changed_eq hk (by omega) hv)) (tree_of_eq (by have := hc.few; omega))) (cCons_of (cCallF1_of (d := tD t) rfl (goods_in_eq hg h.len)) rfl)) (worths_eq hg hc hne))).trans
    (show _ = SR.nx (laE t P found (some (.v (nD k))) (some (.v (.int v))) x5 x6 (some (.v (tD (tblOf (2 ^ g) (chg P k v)))))) from rfl)
  refine sSeq_nx s1 ?_
  unfold addL
  generalize tblOf (2 ^ g) (chg P k v) = l
  have c1 : cBinT dNe (cVarB 7) (cVarB 0) (laE t P found (some (.v (nD k))) (some (.v (.int v))) x5 x6 (some (.v (tD l)))) = .ok (decide (l ≠ t)) := cBinT_of (a := tD l) (b := tD t) rfl rfl (ne_tD l t)
  have c2 : cBinT dNotIn (cVar 7) (cVarB 2) (laE t P found (some (.v (nD k))) (some (.v (.int v))) x5 x6 (some (.v (tD l)))) = .ok (decide (l ∉ found)) := cBinT_of (a := tD l) (b := bD found) rfl rfl (notin_tD l found)
  by_cases a1 : l ≠ t
  · rw [decide_eq_true a1] at c1
    by_cases a2 : l ∉ found
    · rw [decide_eq_true a2] at c2
      rw [if_pos ⟨a1, a2⟩]
      refine sIf_true (cAnd_t c1 c2) ((sAppend_of (t := false) (ds := found.map tD) (d := tD l) rfl rfl (by rw [List.length_map]; unfold sizeLine; omega)).trans ?_)
      rw [show found.map tD ++ [tD l] = (found ++ [l]).map tD by simp]
      rfl
    · rw [decide_eq_false a2] at c2
      rw [if_neg (fun z => a2 z.2)]
      exact sIf_false (cAnd_t c1 c2) rfl
  · rw [decide_eq_false a1] at c1
    rw [if_neg (fun z => a1 z.1)]
    exact sIf_false (cAnd_f c1) rfl
theorem addL_len {n : Nat} {t : List Int} {P : Prs} {k : Nat} {found : List (List Int)} {v : Int} : (addL n t P k found v).length ≤ found.length + 1 := by
  unfold addL
  split
  · rw [List.length_append]; simp
  · omega
theorem tolds_eq {w : Int} {ρ : En} (h1 : cVar 6 ρ = .ok (.int w)) (h2 : cVarB 6 ρ = .ok (.int w)) (hw : Big w) : cTup (cCons (cK (.int 0)) (cCons (cBin dDiv (cVarB 6) (cK (.int 2))) (cCons (cBin dSub (cVarB 6) (cK (.int 1))) (cCons (cBin dAdd (cVar 6) (cK (.int 1))) (cCons (cBin dMul (cK (.int 2)) (cVarB 6)) cNil))))) ρ = .ok (.tuple ((tolds w).map .int)) := by
  have a1 : cBin dDiv (cVarB 6) (cK (.int 2)) ρ = .ok (.int (w / 2)) := cBin_of h2 rfl (dDiv_pos w (by decide) (by decide))
  have a2 : cBin dMul (cK (.int 2)) (cVarB 6) ρ = .ok (.int (2 * w)) := cBin_of (a := .int 2) rfl h2 (dMul_ok (small_big (by decide) (by decide)) hw)
  have a3 : cBin dSub (cVarB 6) (cK (.int 1)) ρ = .ok (.int (w - 1)) := cBin_of h2 rfl rfl
  have a4 : cBin dAdd (cVar 6) (cK (.int 1)) ρ = .ok (.int (w + 1)) := cBin_of h1 rfl rfl
  have q := cCons_of (f := cK (.int 0)) (ρ := ρ) (d := .int 0) rfl (cCons_of a1 (cCons_of a3 (cCons_of a4 (cCons_of a2 (show cNil ρ = .ok [] from rfl)))))
  unfold cTup
  rw [q]
  simp only [R.bind]
  rw [if_pos (by simp; unfold sizeLine; omega)]
  rfl
include hg h hP hp hk in
theorem la_step_o {found : List (List Int)} (hf : found.length ≤ 900) (x4 x7 : Option Sl) : ∃ y4 y7, la_o (laE t P found (some (.v (nD k))) x4 (some (.v (bunD (P.getD k (0, 0)).1))) (some (.v (.int (P.getD k (0, 0)).2))) x7) = .nx (laE t P ((tolds (P.getD k (0, 0)).2).foldl (addL (2 ^ g) t P k) found) (some (.v (nD k))) y4 (some (.v (bunD (P.getD k (0, 0)).1))) (some (.v (.int (P.getD k (0, 0)).2))) y7)
    ∧ ((tolds (P.getD k (0, 0)).2).foldl (addL (2 ^ g) t P k) found).length ≤ found.length + 5 := by
  have hw1 := hp _ (getD_mem (l := P) (k := k) (z := (0, 0)) hk)
  have hw2 := (hP.each _ (getD_mem (l := P) (k := k) (z := (0, 0)) hk)).2.2
  generalize (P.getD k (0, 0)).2 = w at hw1 hw2 ⊢
  generalize (P.getD k (0, 0)).1 = p
  obtain ⟨ρ2, e2, ⟨x4', x7', rfl⟩, hl⟩ := loopL_foldI 5 (P := fun i (f : List (List Int)) ρ => (∃ x4 x7, ρ = laE t P f (some (.v (nD k))) x4 (some (.v (bunD p))) (some (.v (.int w))) x7) ∧ f.length ≤ found.length + i) (tgt := gN 4) (body := la_i) (enc := fun v : Int => .int v) (stp := addL (2 ^ g) t P k) (xs := tolds w) (i := 0) (st := found) (ρ := laE t P found (some (.v (nD k))) x4 (some (.v (bunD p))) (some (.v (.int w))) x7) (fun v hv i hi f ρ hρ => by
    obtain ⟨⟨x4, x7, rfl⟩, hl⟩ := hρ
    refine ⟨_, _, rfl, la_step hg h hP hk (tolds_pos hw1 v hv) f (by omega) _ _ x7, ⟨_, _, rfl⟩, ?_⟩
    have := addL_len (n := 2 ^ g) (t := t) (P := P) (k := k) (found := f) (v := v)
    omega) (by simp [tolds]) ⟨⟨_, _, rfl⟩, by omega⟩
  exact ⟨x4', x7', sFor_of (cItemsT_of (tolds_eq rfl rfl (small_big (by omega) (by omega)))) e2, by simpa [tolds] using hl⟩
end
section
variable {g : Nat} (hg : 1 ≤ g ∧ g ≤ 4) {t : List Int} (h : TblOk (2 ^ g) t)
include hg h in
theorem lies_about_eq : f_lies_about [tD t] = .ok (bD (liesOf (2 ^ g) t)) := by
  obtain ⟨p1, p2⟩ := nrm_ok h
  have hz := p1.few
  unfold f_lies_about g_lies_about
  refine runF_of rfl ?_
  obtain ⟨ρ2, e2, ⟨x3, x4, x5, x6, x7, rfl⟩, hl⟩ := loopL_foldI 15 (P := fun i (f : List (List Int)) ρ => (∃ x3 x4 x5 x6 x7, ρ = laE t (nrm (2 ^ g) t) f x3 x4 x5 x6 x7) ∧ f.length ≤ 5 * i) (tgt := gT (gC (gN 3) (gC (gT (gC (gN 5) (gC (gN 6) gE))) gE))) (body := la_o) (enc := fun i => .tuple [nD (0 + i), prD ((nrm (2 ^ g) t).getD i (0, 0))]) (stp := fun f k => (tolds ((nrm (2 ^ g) t).getD k (0, 0)).2).foldl (addL (2 ^ g) t (nrm (2 ^ g) t) k) f) (xs := List.range (nrm (2 ^ g) t).length) (i := 0) (st := []) (ρ := laE t (nrm (2 ^ g) t) [] none none none none none) (fun k hk i hi f ρ hρ => by
    obtain ⟨⟨x3, x4, x5, x6, x7, rfl⟩, hl⟩ := hρ
    obtain ⟨y4, y7, e, hl2⟩ := la_step_o hg h p1 p2 (List.mem_range.mp hk) (found := f) (by omega) x4 x7
    exact ⟨_, _, by rw [Nat.zero_add]; rfl, e, ⟨_, _, _, _, _, rfl⟩, by show List.length (List.foldl _ _ _) ≤ _; omega⟩) (by rw [List.length_range]; omega) ⟨⟨_, _, _, _, _, rfl⟩, by simp⟩
  rw [← enumL_map prD (0, 0)] at e2
  refine (congrArg SR.out (sSeq_nx (ρ := enter 8 1 [tD t]) (sExpr_of (f := cCallF f_check_table (cCons (cVar 0) cNil)) (cCallF1_of (d := tD t) rfl (check_table_eq h))) (sSeq_nx ((sSet_of (i := 1) (f := cCallF f_normal (cCons (cVar 0) cNil)) (cCallF1_of (d := tD t) rfl (normal_eq h))).trans (show _ = SR.nx [some (.v (tD t)), some (.v (prsD (nrm (2 ^ g) t))), none, none, none, none, none, none] from rfl)) (sSeq_nx ((sSetN_of (i := 2) (t := false) (f := cList cNil) (d := .list []) rfl).trans (show _ = SR.nx (laE t (nrm (2 ^ g) t) [] none none none none none) from rfl)) (sSeq_nx (sFor_of (cIter1_of (f := cVar 1) (df := dEnum) (d := prsD (nrm (2 ^ g) t)) rfl rfl) e2) rfl))))).trans (sRet_of rfl)
end
end K04

namespace K04
open PySem PySem.Spec PyProof.Rows L2 G
theorem g16 {g : Nat} (hg : 1 ≤ g ∧ g ≤ 4) : 2 ^ g ≤ 16 := by
  obtain rfl | rfl | rfl | rfl : g = 1 ∨ g = 2 ∨ g = 3 ∨ g = 4 := by omega
  all_goals decide
theorem g1 (g : Nat) : 0 < 2 ^ g := Nat.pow_pos (by decide)
def keepQ (p q : Nat) : Bool := !((bun p).any fun z => decide (z = q))
theorem eqv_any (l : List Nat) (q : Nat) : ((l.map nD).any fun z => PyData.eqv z (nD q)) = l.any fun z => decide (z = q) := by
  rw [List.any_map]
  congr 1
  funext z
  show PyData.eqv (.int z) (.int q) = _
  simp only [PyData.eqv]
  by_cases h : z = q
  · subst h; simp
  · simp [h]; omega
theorem lay_ns (t : List Nat) : PyData.canLay0 (nsD t) = true ∧ (nsD t).depth ≤ 64 := by
  obtain ⟨l1, l2⟩ : PyData.canLayAll0 (t.map nD) = true ∧ PyData.depthAll (t.map nD) ≤ 1 := lay_ints (fun n : Nat => (n : Int)) t
  simp [PyData.canLay0, PyData.depth, l1]
  omega
theorem eq_nil (ys : List Nat) : dEq (nsD ys) (.list []) = some (.bool ys.isEmpty) := by
  have hs : SeqAt.shaped (nsD ys) = true := by unfold SeqAt.shaped; rw [(lay_ns ys).1, decide_eq_true (lay_ns ys).2]; rfl
  unfold dEq
  rw [if_pos ⟨hs, by rfl⟩]
  cases ys with
  | nil => rfl
  | cons a r => simp [PyData.eqv, PyData.eqvAll]
theorem drop_one {n : Nat} (hn : n = 2 ∨ n = 4 ∨ n = 8 ∨ n = 16) : (List.range n).drop 1 = (List.range (n - 1)).map fun k => 1 + k := by
  rcases hn with rfl | rfl | rfl | rfl <;> decide
theorem bun_less : ∀ p, p < 16 → ∀ q ∈ bun p, (bun p).filter (fun x => decide (x ≠ q)) = bun (p - 2 ^ q) := by decide +kernel
theorem sub_keep : ∀ p, p < 16 → ∀ w, w < 16 → ((bun p).filter (keepQ w)).isEmpty = C.sub p w := by decide +kernel
/-! ### the law's lies -/
abbrev subsD (g : Nat) : D := .list ((List.range (2 ^ g)).map bunD)
abbrev l1E (t : List Int) (g : Nat) (f : Prs) (x4 x11 x12 : Option Sl) : En := [some (.v (tD t)), some (.v (nD g)), some (.v (subsD g)), some (.own false (prsD f)), x4, none, none, none, none, none, none, x11, x12, none, none]
abbrev l1_less : En → R D := (cCall dTupOf (cCons (cLc [12] (cItems (cVar 4)) (gN 12) (cBinT dNe (cVarB 12) (cVarB 11)) (cVar 12)) cNil))
abbrev l1_c : En → R Bool := (cBinT dGt (cCallF f_l_at (cCons (cVar 0) (cCons (cVar 4) cNil))) (cCall dMax (cCons (cLc [11] (cItems (cVar 4)) (gN 11) cTrue (cCallF f_l_at (cCons (cVar 0) (cCons l1_less cNil)))) cNil)))
abbrev l1_b : En → SR := (sIf l1_c
    (sAppend 3 (cTup (cCons (cVar 4) (cCons (cCallF f_l_at (cCons (cVar 0) (cCons (cVar 4) cNil))) cNil))))
    sNext)
section
variable {g : Nat} (hg : 1 ≤ g ∧ g ≤ 4) {t : List Int} (h : TblOk (2 ^ g) t)
theorem less_at {f : Prs} {p q : Nat} (hp : p < 16) (hq : q ∈ bun p) : l1_less (l1E t g f (some (.v (bunD p))) (some (.v (nD q))) none) = .ok (bunD (p - 2 ^ q)) := by
  have e := lcL_gen (tgt := gN 12) (p := cBinT dNe (cVarB 12) (cVarB 11)) (f := cVar 12) (ρ := l1E t g f (some (.v (bunD p))) (some (.v (nD q))) none) (enc := nD) (fun x => l1E t g f (some (.v (bunD p))) (some (.v (nD q))) (some (.v (nD x)))) (fun x => decide (x ≠ q)) nD (xs := bun p) fun x hx => ⟨rfl, cBinT_of (a := .int x) (b := .int q) rfl rfl (by
    rw [dNe_int]
    by_cases z : x = q
    · subst z; simp
    · rw [decide_eq_true z, decide_eq_true (show (x : Int) ≠ q by omega)]), fun _ => rfl⟩
  rw [bun_less p hp q hq] at e
  have hl := bun_few (p - 2 ^ q)
  exact cCall1_of (cLc_of (cItemsT_of (ds := (bun p).map nD) rfl) e (by rw [List.length_map]; unfold sizeLine; omega)) rfl
include hg h in
theorem l1_test {p : Nat} (h1 : 1 ≤ p) (hp : p < 2 ^ g) (f : Prs) : l1_c (l1E t g f (some (.v (bunD p))) none none) = .ok (needs t p) := by
  have h16 := g16 hg
  have hl := h.len
  have e := lcL_map (tgt := gN 11) (f := cCallF f_l_at (cCons (cVar 0) (cCons l1_less cNil))) (ρ := l1E t g f (some (.v (bunD p))) none none) (enc := nD) (fun q => l1E t g f (some (.v (bunD p))) (some (.v (nD q))) none) (fun q => .int (C.at_ t (p - 2 ^ q))) (xs := bun p) fun q hq => ⟨rfl, by
    have : p - 2 ^ q < 2 ^ g := Nat.lt_of_le_of_lt (Nat.sub_le _ _) hp
    exact cCallF_of (ds := [tD t, bunD (p - 2 ^ q)]) (cCons_of rfl (cCons_of (less_at (by omega) hq) rfl)) (at_eq t _ (by rw [hl]; exact this) (Nat.lt_of_lt_of_le this (by omega)))⟩
  have e2 : (bun p).map (fun q => PyData.int (C.at_ t (p - 2 ^ q))) = ((bun p).map fun q => C.at_ t (p - 2 ^ q)).map PyData.int := by rw [List.map_map]; rfl
  rw [e2] at e
  have := bun_few p
  refine cBinT_of (a := .int (C.at_ t p)) (b := .int (C.top ((bun p).map fun q => C.at_ t (p - 2 ^ q)))) (cCallF_of (ds := [tD t, bunD p]) rfl (at_eq t p (by omega) (by omega))) (cCall1_of (cLc_of (cItemsT_of (ds := (bun p).map nD) rfl) e (by rw [List.length_map, List.length_map]; unfold sizeLine; omega)) (dMax_top (by have := bun_ne h1 (p := p) (by omega); simpa using this))) ?_
  rfl
include hg h in
theorem l1_step {p : Nat} (h1 : 1 ≤ p) (hp : p < 2 ^ g) (f : Prs) (hf : f.length ≤ 100) : l1_b (l1E t g f (some (.v (bunD p))) none none) = .nx (l1E t g (if needs t p = true then f ++ [(p, C.at_ t p)] else f) (some (.v (bunD p))) none none) := by
  have h16 := g16 hg
  have hl := h.len
  have c := l1_test hg h h1 hp f
  by_cases hq : needs t p = true
  · rw [hq] at c
    rw [if_pos hq]
    refine sIf_true c ((sAppend_of (t := false) (ds := f.map prD) (d := prD (p, C.at_ t p)) rfl (cTup2_of rfl (cCallF_of (ds := [tD t, bunD p]) rfl (at_eq t p (by omega) (by omega)))) (by rw [List.length_map]; unfold sizeLine; omega)).trans ?_)
    rw [show f.map prD ++ [prD (p, C.at_ t p)] = (f ++ [(p, C.at_ t p)]).map prD by simp]
    rfl
  · rw [if_neg hq]
    rw [Bool.not_eq_true] at hq
    rw [hq] at c
    exact sIf_false c rfl
include hg h in
theorem l1_loop : ∃ x4, loopL (gN 4) l1_b (((List.range (2 ^ g)).map bunD).drop 1) (l1E t g [] none none none) = .nx (l1E t g (nrm (2 ^ g) t) x4 none none) := by
  have hn := h.size
  obtain ⟨ρ2, e2, x4, rfl, _⟩ := loopL_foldI 20 (P := fun i (f : Prs) ρ => ∃ x4, ρ = l1E t g f x4 none none ∧ f.length ≤ i) (tgt := gN 4) (body := l1_b) (enc := bunD) (stp := fun f p => if needs t p = true then f ++ [(p, C.at_ t p)] else f) (xs := (List.range (2 ^ g - 1)).map fun k => 1 + k) (i := 0) (st := []) (ρ := l1E t g [] none none none) (fun p hp i hi f ρ hρ => by
    obtain ⟨x4, rfl, hl⟩ := hρ
    obtain ⟨k, hk, rfl⟩ := List.mem_map.mp hp
    have hk := List.mem_range.mp hk
    refine ⟨_, _, rfl, l1_step hg h (by omega) (by omega) f (by omega), _, rfl, ?_⟩
    split
    · rw [List.length_append]; simp; omega
    · omega) (by rw [List.length_map, List.length_range]; have := g16 hg; omega) ⟨none, rfl, Nat.le_refl 0⟩
  rw [foldl_keep (needs t) fun p => (p, C.at_ t p), List.nil_append] at e2
  rw [← drop_one hn, List.map_drop] at e2
  have e3 : nrm (2 ^ g) t = ((List.range (2 ^ g)).drop 1 |>.filter (needs t)).map fun p => (p, C.at_ t p) := by unfold nrm; rw [drop_one hn]
  rw [e3]
  exact ⟨x4, e2⟩
end
abbrev l2E (t : List Int) (g : Nat) (s3 x4 : Option Sl) (f : List (List Int)) (x6 x7 x8 x9 x10 x11 x13 x14 : Option Sl) : En := [some (.v (tD t)), some (.v (nD g)), some (.v (subsD g)), s3, x4, some (.own false (bD f)), x6, x7, x8, x9, x10, x11, none, x13, x14]
abbrev l2_in : En → R Bool := (cBinT dEq (cLc [11] (cItems (cVar 13)) (gN 11) (cBinT dNotIn (cVar 11) (cVarB 4)) (cVar 11)) (cList cNil))
abbrev l2_top : En → R D := (cCall dMax (cCons (cBin dAdd (cList (cCons (cK (.int 0)) cNil)) (cLc [13, 14] (cItems (cVar 9)) (gT (gC (gN 13) (gC (gN 14) gE))) l2_in (cVar 14))) cNil))
section
variable {g : Nat} {t : List Int} {s3 : Option Sl} {f : List (List Int)} {x6 x7 x8 : Option Sl}
theorem in_sub {p w : Nat} (hp : p < 16) (hw : w < 16) {x9 x10 x14 : Option Sl} : l2_in (l2E t g s3 (some (.v (bunD w))) f x6 x7 x8 x9 x10 none (some (.v (bunD p))) x14) = .ok (C.sub p w) := by
  have e := lcL_gen (tgt := gN 11) (p := cBinT dNotIn (cVar 11) (cVarB 4)) (f := cVar 11) (ρ := l2E t g s3 (some (.v (bunD w))) f x6 x7 x8 x9 x10 none (some (.v (bunD p))) x14) (enc := nD) (fun q => l2E t g s3 (some (.v (bunD w))) f x6 x7 x8 x9 x10 (some (.v (nD q))) (some (.v (bunD p))) x14) (keepQ w) nD (xs := bun p) fun q hq => ⟨rfl, cBinT_of (a := nD q) (b := bunD w) rfl rfl ((notin_nat q (bun w)).trans (by rw [eqv_any]; rfl)), fun _ => rfl⟩
  have hl := Nat.le_trans (List.length_filter_le (keepQ w) (bun p)) (bun_few p)
  rw [← sub_keep p hp w hw]
  exact cBinT_of (a := nsD ((bun p).filter (keepQ w))) (b := .list []) (cLc_of (cItemsT_of (ds := (bun p).map nD) rfl) e (by rw [List.length_map]; unfold sizeLine; omega)) (by rfl) (eq_nil _)
theorem top_at {n : Nat} (hn : n ≤ 16) {P : Prs} (hP : PrOk n P) {w : Nat} (hw : w < 16) {x10 : Option Sl} : l2_top (l2E t g s3 (some (.v (bunD w))) f x6 x7 x8 (some (.v (prsD P))) x10 none none none) = .ok (.int (C.top (0 :: (P.filter fun q => C.sub q.1 w).map fun q => q.2))) := by
  have hz := hP.few
  have e := lcL_gen (tgt := gT (gC (gN 13) (gC (gN 14) gE))) (p := l2_in) (f := cVar 14) (ρ := l2E t g s3 (some (.v (bunD w))) f x6 x7 x8 (some (.v (prsD P))) x10 none none none) (enc := prD) (fun q => l2E t g s3 (some (.v (bunD w))) f x6 x7 x8 (some (.v (prsD P))) x10 none (some (.v (bunD q.1))) (some (.v (.int q.2)))) (fun q => C.sub q.1 w) (fun q => .int q.2) (xs := P) fun q hq => ⟨rfl, in_sub (by have := (hP.each q hq).1; omega) hw, fun _ => rfl⟩
  have hl := List.length_filter_le (fun q : Nat × Int => C.sub q.1 w) P
  have e2 : (P.filter fun q => C.sub q.1 w).map (fun q => PyData.int q.2) = ((P.filter fun q => C.sub q.1 w).map fun q => q.2).map PyData.int := by rw [List.map_map]; rfl
  rw [e2] at e
  refine cCall1_of (d := tD (0 :: (P.filter fun q => C.sub q.1 w).map fun q => q.2)) (cBin_of (a := .list [.int 0]) (by rfl) (cLc_of (cItems_of (ds := P.map prD) rfl) e (by rw [List.length_map, List.length_map]; unfold sizeLine; omega)) ?_) (dMax_top (by simp))
  rw [dAdd_list (by rw [List.length_map, List.length_map]; simp; unfold sizeLine; omega)]
  rfl
end
end K04

namespace K04
open PySem PySem.Spec PyProof.Rows L2 G
theorem foldl_app {α β : Type} (g : α → β) : ∀ (l : List α) (f : List β), l.foldl (fun f x => f ++ [g x]) f = f ++ l.map g
  | [], f => by simp
  | x :: l, f => by rw [List.foldl_cons, foldl_app g l]; simp
abbrev l2_some : En → R D := (cBin dAdd (cBin dAdd (cSlice (cVar 3) cPartN (cPart (cVar 6))) (cList (cCons (cTup (cCons (cBin dIx (cBin dIx (cVarB 3) (cVar 6)) (cK (.int 0))) (cCons (cCall dMin2 (cCons (cK (.int 1000000)) (cCons (cVarB 8) cNil))) cNil))) cNil))) (cSlice (cVar 3) (cPart (cBin dAdd (cVar 6) (cK (.int 1)))) cPartN))
abbrev l2_i : En → SR := (sSeq (sFrz 3 (sSet 9 l2_some))
    (sSeq (sSetN 10 false (cList cNil))
    (sSeq (sFor (gN 4) (cItems (cVar 2))
    (sAppend 10 l2_top))
    (sFrz 10 (sIf (cAnd (cBinT dNe (cVarB 10) (cVarB 0)) (cBinT dNotIn (cVar 10) (cVarB 5)))
    (sFrz 10 (sAppend 5 (cVar 10)))
    sNext)))))
abbrev l2_o : En → SR := (sSeq (sSet 7 (cBin dIx (cBin dIx (cVarB 3) (cVar 6)) (cK (.int 1))))
    (sFor (gN 8) (cItems (cList (cCons (cK (.int 0)) (cCons (cBin dDiv (cVarB 7) (cK (.int 2))) (cCons (cBin dSub (cVarB 7) (cK (.int 1))) (cCons (cBin dAdd (cVar 7) (cK (.int 1))) (cCons (cBin dMul (cK (.int 2)) (cVarB 7)) cNil))))))) l2_i))
section
variable {g : Nat} (hg : 1 ≤ g ∧ g ≤ 4) {t : List Int} {P : Prs} (hP : PrOk (2 ^ g) P) (hp : ∀ q ∈ P, 1 ≤ q.2) {k : Nat} (hk : k < P.length)
include hP hk in
theorem some_at {x4 x7 x9 x10 : Option Sl} {f : List (List Int)} (v : Int) : l2_some (l2E t g (some (.v (prsD P))) x4 f (some (.v (nD k))) x7 (some (.v (.int v))) x9 x10 none none none) = .ok (prsD (chg P k v)) := by
  have hz := hP.few
  have e0 : cBin dIx (cVarB 3) (cVar 6) (l2E t g (some (.v (prsD P))) x4 f (some (.v (nD k))) x7 (some (.v (.int v))) x9 x10 none none none) = .ok (prD (P.getD k (0, 0))) := cBin_of (a := prsD P) (b := nD k) rfl rfl (by rw [dIx_nat, List.getElem?_map, List.getD_eq_getElem?_getD, List.getElem?_eq_getElem hk]; rfl)
  have e1 : cTup (cCons (cBin dIx (cBin dIx (cVarB 3) (cVar 6)) (cK (.int 0))) (cCons (cCall dMin2 (cCons (cK (.int 1000000)) (cCons (cVarB 8) cNil))) cNil)) (l2E t g (some (.v (prsD P))) x4 f (some (.v (nD k))) x7 (some (.v (.int v))) x9 x10 none none none) = .ok (prD ((P.getD k (0, 0)).1, min 1000000 v)) :=
    cTup2_of (a := bunD (P.getD k (0, 0)).1) (b := .int (min 1000000 v)) (cBin_of e0 rfl (by rw [dIxT_zero]; rfl)) (cCall2_of (a := .int 1000000) (b := .int v) rfl rfl rfl)
  have a1 : cBin dAdd (cSlice (cVar 3) cPartN (cPart (cVar 6))) (cList (cCons (cTup (cCons (cBin dIx (cBin dIx (cVarB 3) (cVar 6)) (cK (.int 0))) (cCons (cCall dMin2 (cCons (cK (.int 1000000)) (cCons (cVarB 8) cNil))) cNil))) cNil)) (l2E t g (some (.v (prsD P))) x4 f (some (.v (nD k))) x7 (some (.v (.int v))) x9 x10 none none none) = .ok (.list ((P.map prD).take k ++ [prD ((P.getD k (0, 0)).1, min 1000000 v)])) :=
    cBin_of (cSlice_to (xs := P.map prD) (k := k) rfl rfl) (cList_of (ds := [prD ((P.getD k (0, 0)).1, min 1000000 v)]) (cCons_of e1 rfl) (by simp; unfold sizeLine; omega)) (dAdd_list (by simp; unfold sizeLine; omega))
  refine cBin_of a1 (cSlice_from (xs := P.map prD) (k := k + 1) rfl (cBin_of rfl rfl rfl)) ?_
  rw [dAdd_list (by simp; unfold sizeLine; omega)]
  have e : (P.map prD).take k ++ [prD ((P.getD k (0, 0)).1, min 1000000 v)] ++ (P.map prD).drop (k + 1) = (chg P k v).map prD := by
    unfold chg
    rw [List.set_eq_take_append_cons_drop, if_pos hk, List.map_append, List.map_cons, List.map_take, List.map_drop, List.append_assoc]
    rfl
  rw [e]
include hg in
theorem tbl_loop {Q : Prs} (hQ : PrOk (2 ^ g) Q) {s3 x4 x6 x7 x8 : Option Sl} {f : List (List Int)} : ∃ y4, loopL (gN 4) (sAppend 10 l2_top) ((List.range (2 ^ g)).map bunD) (l2E t g s3 x4 f x6 x7 x8 (some (.v (prsD Q))) (some (.own false (tD []))) none none none) = .nx (l2E t g s3 y4 f x6 x7 x8 (some (.v (prsD Q))) (some (.own false (tD (tblOf (2 ^ g) Q)))) none none none) := by
  have h16 := g16 hg
  obtain ⟨ρ2, e2, ⟨y4, rfl⟩, _⟩ := loopL_foldI 16 (P := fun i (l : List Int) ρ => (∃ x4, ρ = l2E t g s3 x4 f x6 x7 x8 (some (.v (prsD Q))) (some (.own false (tD l))) none none none) ∧ l.length ≤ i) (tgt := gN 4) (body := sAppend 10 l2_top) (enc := bunD) (stp := fun l w => l ++ [C.top (0 :: (Q.filter fun q => C.sub q.1 w).map fun q => q.2)]) (xs := List.range (2 ^ g)) (i := 0) (st := []) (ρ := l2E t g s3 x4 f x6 x7 x8 (some (.v (prsD Q))) (some (.own false (tD []))) none none none) (fun w hw i hi l ρ hρ => by
    obtain ⟨⟨x4, rfl⟩, hl⟩ := hρ
    have hw := List.mem_range.mp hw
    refine ⟨_, _, rfl, (sAppend_of (t := false) (ds := l.map PyData.int) (d := .int (C.top (0 :: (Q.filter fun q => C.sub q.1 w).map fun q => q.2))) rfl (top_at h16 hQ (by omega)) (by rw [List.length_map]; unfold sizeLine; omega)).trans ?_, ⟨some (.v (bunD w)), rfl⟩, by rw [List.length_append]; simp; omega⟩
    rw [show l.map PyData.int ++ [PyData.int (C.top (0 :: (Q.filter fun q => C.sub q.1 w).map fun q => q.2))] = (l ++ [C.top (0 :: (Q.filter fun q => C.sub q.1 w).map fun q => q.2)]).map PyData.int by simp]
    rfl) (by rw [List.length_range]; omega) ⟨⟨_, rfl⟩, Nat.le_refl 0⟩
  rw [foldl_app, List.nil_append] at e2
  exact ⟨y4, e2⟩
def Held (P : Prs) (s : Option Sl) : Prop := s = some (.own false (prsD P)) ∨ s = some (.v (prsD P))
include hg hP hk in
theorem l2_step {v : Int} (hv : 0 ≤ v) {s3 : Option Sl} (hs : Held P s3) (f : List (List Int)) (hf : f.length ≤ 1000) (x4 x7 x9 x10 : Option Sl) : ∃ y4 y9 y10, l2_i (l2E t g s3 x4 f (some (.v (nD k))) x7 (some (.v (.int v))) x9 x10 none none none) = .nx (l2E t g (some (.v (prsD P))) y4 (addL (2 ^ g) t P k f v) (some (.v (nD k))) x7 (some (.v (.int v))) y9 y10 none none none) := by
  have hc := chg_ok hP hk hv
  have e1 : sFrz 3 (sSet 9 l2_some) (l2E t g s3 x4 f (some (.v (nD k))) x7 (some (.v (.int v))) x9 x10 none none none) = .nx (l2E t g (some (.v (prsD P))) x4 f (some (.v (nD k))) x7 (some (.v (.int v))) (some (.v (prsD (chg P k v)))) x10 none none none) := by
    have : frz 3 (l2E t g s3 x4 f (some (.v (nD k))) x7 (some (.v (.int v))) x9 x10 none none none) = l2E t g (some (.v (prsD P))) x4 f (some (.v (nD k))) x7 (some (.v (.int v))) x9 x10 none none none := by
      rcases hs with rfl | rfl <;> rfl
    unfold sFrz
    rw [this]
    exact (sSet_of (some_at hP hk v)).trans rfl
  have e2 := (sSetN_of (i := 10) (t := false) (f := cList cNil) (d := .list []) (ρ := l2E t g (some (.v (prsD P))) x4 f (some (.v (nD k))) x7 (some (.v (.int v))) (some (.v (prsD (chg P k v)))) x10 none none none) rfl).trans (show _ = SR.nx (l2E t g (some (.v (prsD P))) x4 f (some (.v (nD k))) x7 (some (.v (.int v))) (some (.v (prsD (chg P k v)))) (some (.own false (tD []))) none none none) from rfl)
  obtain ⟨y4, e3⟩ := tbl_loop hg (t := t) hc (s3 := some (.v (prsD P))) (x4 := x4) (x6 := some (.v (nD k))) (x7 := x7) (x8 := some (.v (.int v))) (f := f)
  refine ⟨y4, some (.v (prsD (chg P k v))), some (.v (tD (tblOf (2 ^ g) (chg P k v)))), sSeq_nx e1 (sSeq_nx e2 (sSeq_nx (sFor_of (cItems_of (ds := (List.range (2 ^ g)).map bunD) rfl) e3) ?_))⟩
  unfold addL
  generalize tblOf (2 ^ g) (chg P k v) = l
  generalize prsD (chg P k v) = Q
  have c1 : cBinT dNe (cVarB 10) (cVarB 0) (l2E t g (some (.v (prsD P))) y4 f (some (.v (nD k))) x7 (some (.v (.int v))) (some (.v Q)) (some (.v (tD l))) none none none) = .ok (decide (l ≠ t)) := cBinT_of (a := tD l) (b := tD t) rfl rfl (ne_tD l t)
  have c2 : cBinT dNotIn (cVar 10) (cVarB 5) (l2E t g (some (.v (prsD P))) y4 f (some (.v (nD k))) x7 (some (.v (.int v))) (some (.v Q)) (some (.v (tD l))) none none none) = .ok (decide (l ∉ f)) := cBinT_of (a := tD l) (b := bD f) rfl rfl (notin_tD l f)
  show sIf (cAnd (cBinT dNe (cVarB 10) (cVarB 0)) (cBinT dNotIn (cVar 10) (cVarB 5))) (sFrz 10 (sAppend 5 (cVar 10))) sNext (l2E t g (some (.v (prsD P))) y4 f (some (.v (nD k))) x7 (some (.v (.int v))) (some (.v Q)) (some (.v (tD l))) none none none) = _
  by_cases a1 : l ≠ t
  · rw [decide_eq_true a1] at c1
    by_cases a2 : l ∉ f
    · rw [decide_eq_true a2] at c2
      rw [if_pos ⟨a1, a2⟩]
      refine sIf_true (cAnd_t c1 c2) ?_
      show sAppend 5 (cVar 10) (l2E t g (some (.v (prsD P))) y4 f (some (.v (nD k))) x7 (some (.v (.int v))) (some (.v Q)) (some (.v (tD l))) none none none) = _
      refine (sAppend_of (t := false) (ds := f.map tD) (d := tD l) rfl rfl (by rw [List.length_map]; unfold sizeLine; omega)).trans ?_
      rw [show f.map tD ++ [tD l] = (f ++ [l]).map tD by simp]
      rfl
    · rw [decide_eq_false a2] at c2
      rw [if_neg (fun z => a2 z.2)]
      exact sIf_false (cAnd_t c1 c2) rfl
  · rw [decide_eq_false a1] at c1
    rw [if_neg (fun z => a1 z.1)]
    exact sIf_false (cAnd_f c1) rfl
theorem told_list {w : Int} {ρ : En} (h1 : cVar 7 ρ = .ok (.int w)) (h2 : cVarB 7 ρ = .ok (.int w)) (hw : Big w) : cList (cCons (cK (.int 0)) (cCons (cBin dDiv (cVarB 7) (cK (.int 2))) (cCons (cBin dSub (cVarB 7) (cK (.int 1))) (cCons (cBin dAdd (cVar 7) (cK (.int 1))) (cCons (cBin dMul (cK (.int 2)) (cVarB 7)) cNil))))) ρ = .ok (.list ((tolds w).map .int)) := by
  have a1 : cBin dDiv (cVarB 7) (cK (.int 2)) ρ = .ok (.int (w / 2)) := cBin_of h2 rfl (dDiv_pos w (by decide) (by decide))
  have a2 : cBin dMul (cK (.int 2)) (cVarB 7) ρ = .ok (.int (2 * w)) := cBin_of (a := .int 2) rfl h2 (dMul_ok (small_big (by decide) (by decide)) hw)
  have a3 : cBin dSub (cVarB 7) (cK (.int 1)) ρ = .ok (.int (w - 1)) := cBin_of h2 rfl rfl
  have a4 : cBin dAdd (cVar 7) (cK (.int 1)) ρ = .ok (.int (w + 1)) := cBin_of h1 rfl rfl
  have q := cCons_of (f := cK (.int 0)) (ρ := ρ) (d := .int 0) rfl (cCons_of a1 (cCons_of a3 (cCons_of a4 (cCons_of a2 (show cNil ρ = .ok [] from rfl)))))
  exact cList_of q (by rw [List.length_map]; show 5 ≤ sizeLine; unfold sizeLine; omega)
include hg hP hp hk in
theorem l2_step_o {s3 : Option Sl} (hs : Held P s3) {f : List (List Int)} (hf : f.length ≤ 900) (x4 x7 x8 x9 x10 : Option Sl) : ∃ y3 y4 y7 y8 y9 y10, Held P y3 ∧ l2_o (l2E t g s3 x4 f (some (.v (nD k))) x7 x8 x9 x10 none none none) = .nx (l2E t g y3 y4 ((tolds (P.getD k (0, 0)).2).foldl (addL (2 ^ g) t P k) f) (some (.v (nD k))) y7 y8 y9 y10 none none none)
    ∧ ((tolds (P.getD k (0, 0)).2).foldl (addL (2 ^ g) t P k) f).length ≤ f.length + 5 := by
  have hw1 := hp _ (getD_mem (l := P) (k := k) (z := (0, 0)) hk)
  have hw2 := (hP.each _ (getD_mem (l := P) (k := k) (z := (0, 0)) hk)).2.2
  have e0 : cBin dIx (cBin dIx (cVarB 3) (cVar 6)) (cK (.int 1)) (l2E t g s3 x4 f (some (.v (nD k))) x7 x8 x9 x10 none none none) = .ok (.int (P.getD k (0, 0)).2) := by
    refine cBin_of (a := prD (P.getD k (0, 0))) (cBin_of (a := prsD P) (b := nD k) (by rcases hs with rfl | rfl <;> rfl) rfl (by rw [dIx_nat, List.getElem?_map, List.getD_eq_getElem?_getD, List.getElem?_eq_getElem hk]; rfl)) rfl (by rw [dIxT_one]; rfl)
  generalize (P.getD k (0, 0)).2 = w at hw1 hw2 e0 ⊢
  have e1 := (sSet_of (i := 7) e0).trans (show _ = SR.nx (l2E t g s3 x4 f (some (.v (nD k))) (some (.v (.int w))) x8 x9 x10 none none none) from rfl)
  obtain ⟨ρ2, e2, ⟨y3, y4, y8, y9, y10, h3, rfl⟩, hl⟩ := loopL_foldI 5 (P := fun i (l : List (List Int)) ρ => (∃ y3 y4 y8 y9 y10, Held P y3 ∧ ρ = l2E t g y3 y4 l (some (.v (nD k))) (some (.v (.int w))) y8 y9 y10 none none none) ∧ l.length ≤ f.length + i) (tgt := gN 8) (body := l2_i) (enc := fun v : Int => .int v) (stp := addL (2 ^ g) t P k) (xs := tolds w) (i := 0) (st := f) (ρ := l2E t g s3 x4 f (some (.v (nD k))) (some (.v (.int w))) x8 x9 x10 none none none) (fun v hv i hi l ρ hρ => by
    obtain ⟨⟨y3, y4, y8, y9, y10, h3, rfl⟩, hl⟩ := hρ
    obtain ⟨z4, z9, z10, e⟩ := l2_step hg (t := t) hP hk (tolds_pos hw1 v hv) h3 l (by omega) y4 (some (.v (.int w))) y9 y10
    refine ⟨_, _, rfl, e, ⟨_, _, _, _, _, .inr rfl, rfl⟩, ?_⟩
    have := addL_len (n := 2 ^ g) (t := t) (P := P) (k := k) (found := l) (v := v)
    omega) (by simp [tolds]) ⟨⟨_, _, _, _, _, hs, rfl⟩, by omega⟩
  exact ⟨y3, y4, _, y8, y9, y10, h3, sSeq_nx e1 (sFor_of (cItems_of (told_list rfl rfl (small_big (by omega) (by omega)))) e2), by simpa [tolds] using hl⟩
end
section
variable {g : Nat} (hg : 1 ≤ g ∧ g ≤ 4) {t : List Int} (h : TblOk (2 ^ g) t)
include hg h in
theorem law_lies_eq : f_l_lies [tD t, nD g] = .ok (bD (liesOf (2 ^ g) t)) := by
  obtain ⟨p1, p2⟩ := nrm_ok h
  have hz := p1.few
  obtain ⟨x4, e1⟩ := l1_loop hg h
  unfold f_l_lies g_l_lies
  refine runF_of rfl ?_
  have s0 := (sSet_of (i := 2) (ρ := enter 15 2 [tD t, nD g]) (f := cCallF f_l_subsets (cCons (cVar 1) cNil)) (cCallF1_of (d := nD g) rfl (subs_eq hg))).trans (show _ = SR.nx [some (.v (tD t)), some (.v (nD g)), some (.v (subsD g)), none, none, none, none, none, none, none, none, none, none, none, none] from rfl)
  have s1 := (sSetN_of (i := 3) (t := false) (f := cList cNil) (d := .list []) (ρ := [some (.v (tD t)), some (.v (nD g)), some (.v (subsD g)), none, none, none, none, none, none, none, none, none, none, none, none]) rfl).trans (show _ = SR.nx (l1E t g [] none none none) from rfl)
  have q1 : cItems (cSlice (cVar 2) (cPart (cK (.int 1))) cPartN) (l1E t g [] none none none) = .ok (((List.range (2 ^ g)).map bunD).drop 1) := cItems_of (cSlice_from (xs := (List.range (2 ^ g)).map bunD) (k := 1) rfl rfl)
  have s2 := (sSetN_of (i := 5) (t := false) (f := cList cNil) (d := .list []) (ρ := l1E t g (nrm (2 ^ g) t) x4 none none) rfl).trans (show _ = SR.nx (l2E t g (some (.own false (prsD (nrm (2 ^ g) t)))) x4 [] none none none none none none none none) from rfl)
  obtain ⟨ρ2, e2, ⟨y3, y4, y6, y7, y8, y9, y10, h3, rfl⟩, hl⟩ := loopL_foldI 15 (P := fun i (f : List (List Int)) ρ => (∃ y3 y4 y6 y7 y8 y9 y10, Held (nrm (2 ^ g) t) y3 ∧ ρ = l2E t g y3 y4 f y6 y7 y8 y9 y10 none none none) ∧ f.length ≤ 5 * i) (tgt := gN 6) (body := l2_o) (enc := nD) (stp := fun f k => (tolds ((nrm (2 ^ g) t).getD k (0, 0)).2).foldl (addL (2 ^ g) t (nrm (2 ^ g) t) k) f) (xs := List.range (nrm (2 ^ g) t).length) (i := 0) (st := []) (ρ := l2E t g (some (.own false (prsD (nrm (2 ^ g) t)))) x4 [] none none none none none none none none) (fun k hk i hi f ρ hρ => by
    obtain ⟨⟨y3, y4, y6, y7, y8, y9, y10, h3, rfl⟩, hl⟩ := hρ
    obtain ⟨z3, z4, z7, z8, z9, z10, h3', e, hl2⟩ := l2_step_o hg (t := t) p1 p2 (List.mem_range.mp hk) h3 (f := f) (by omega) y4 y7 y8 y9 y10
    exact ⟨_, _, rfl, e, ⟨_, _, _, _, _, _, _, h3', rfl⟩, by show List.length (List.foldl _ _ _) ≤ _; omega⟩) (by rw [List.length_range]; omega) ⟨⟨_, _, _, _, _, _, _, .inl rfl, rfl⟩, by simp⟩
  have q2 : cIter dRange1 (cCons (cCall dLen (cCons (cVarB 3) cNil)) cNil) (l2E t g (some (.own false (prsD (nrm (2 ^ g) t)))) x4 [] none none none none none none none none) = .ok ((List.range (nrm (2 ^ g) t).length).map nD) := cIter1_of (d := nD (nrm (2 ^ g) t).length) (cCall1_of (d := prsD (nrm (2 ^ g) t)) rfl (by rw [dLen_list, List.length_map])) (dRange1_nat (Nat.lt_trans (show _ < 100 by omega) (by decide)))
  refine (congrArg SR.out (sSeq_nx s0 (sSeq_nx s1 (sSeq_nx (sFor_of q1 e1) (sSeq_nx s2 (sSeq_nx (sFor_of q2 e2) rfl)))))).trans (sRet_of rfl)
end
end K04

namespace K04
open PySem PySem.Spec PyProof.Rows L2 G
/-! ### fair payments lie between nothing and what was told -/
theorem parts_in : ∀ w, w < 16 → ∀ p ∈ C.parts w, w - p ∈ C.parts w ∧ ∀ q ∈ C.parts p, q ∈ C.parts w ∧ p - q ∈ C.parts (w - q) := by decide +kernel
theorem best_mono : ∀ (ts : List (List Int)) (w p : Nat), w < 16 → p ∈ C.parts w → C.best ts p ≤ C.best ts w
  | [], w, p, _, _ => by simp [C.best]
  | t :: ts, w, p, hw, hp => by
    obtain ⟨q, hq, e⟩ := C.best_at t ts p
    obtain ⟨h1, h2⟩ := (parts_in w hw p hp).2 q hq
    have h3 := best_mono ts (w - q) (p - q) (by omega) h2
    have h4 := C.best_ge (t := t) (ts := ts) h1
    omega
theorem others_zero (t : List Int) (ts : List (List Int)) : others (t :: ts) 0 = ts := rfl
theorem others_succ (t : List Int) (ts : List (List Int)) (k : Nat) : others (t :: ts) (k + 1) = t :: others ts k := rfl
theorem best_less : ∀ (b : List (List Int)) (k w : Nat), (∀ t ∈ b, C.at_ t 0 = 0) → C.best (others b k) w ≤ C.best b w
  | [], k, w, _ => by simp [others]
  | t :: ts, 0, w, h => by
    rw [others_zero]
    have := C.best_ge (t := t) (ts := ts) (C.zero_part w)
    rw [h t List.mem_cons_self] at this
    simpa using this
  | t :: ts, k + 1, w, h => by
    rw [others_succ]
    obtain ⟨p, hp, e⟩ := C.best_at t (others ts k) w
    have h1 := best_less ts k (w - p) fun a ha => h a (List.mem_cons_of_mem _ ha)
    have h2 := C.best_ge (t := t) (ts := ts) hp
    omega
theorem best_rest : ∀ (b : List (List Int)) (k w : Nat), w < 16 → k < b.length → C.best b w - C.at_ (b.getD k []) ((C.pick b w).getD k 0) ≤ C.best (others b k) w
  | [], k, w, _, h => by simp at h
  | t :: ts, 0, w, hw, _ => by
    obtain ⟨p, hp, e, e2, _⟩ := C.pick_some t ts w
    rw [others_zero, e2]
    have := best_mono ts w (w - p) hw (parts_in w hw p hp).1
    show C.best (t :: ts) w - C.at_ t p ≤ _
    omega
  | t :: ts, k + 1, w, hw, hk => by
    obtain ⟨p, hp, e, e2, _⟩ := C.pick_some t ts w
    rw [others_succ, e2]
    have h1 := best_rest ts k (w - p) (by omega) (by simpa using hk)
    have h2 := C.best_ge (t := t) (ts := others ts k) hp
    show C.best (t :: ts) w - C.at_ (ts.getD k []) ((C.pick ts (w - p)).getD k 0) ≤ _
    omega
theorem pay_fair {n : Nat} {b : List (List Int)} (h : Bok n b) {k : Nat} (hk : k < b.length) (w : Wd) : 0 ≤ pay n b k w ∧ pay n b k w ≤ own n b k := by
  have hn := h.size
  have h0 := own_bound h.ok h.n0 hk
  have h1 := best_less b k (n - 1) fun t ht => (h.ok.tbl t ht).zero
  have h2 := best_rest b k (n - 1) (by omega) hk
  cases w with
  | fair => simp only [pay]; unfold own at h0 ⊢; omega
  | bid => simp only [pay]; omega
  | non => simp only [pay]; omega
theorem set_same {b : List (List Int)} {k : Nat} (hk : k < b.length) : b.set k (b.getD k []) = b := by
  rw [List.getD_eq_getElem?_getD, List.getElem?_eq_getElem hk]
  exact List.set_getElem_self hk
theorem no_more {n : Nat} {b : List (List Int)} {k : Nat} (hk : k < b.length) (t : List Int) : moreG n b k .fair t ≤ 0 := by
  have := no_gain n b (b.getD k []) t k hk
  rw [set_same hk] at this
  unfold moreG
  omega
theorem first_fair {n : Nat} {b : List (List Int)} {k : Nat} (hk : k < b.length) (W : List (List Int)) : firstG n b k .fair W = none := by
  unfold firstG
  rw [List.findSome?_eq_none_iff]
  intro i _
  unfold hitG
  rw [if_neg (by have := no_more (n := n) hk (W.getD i []); omega)]
/-- the first that pays is the head of those that do -/
def goodL (n : Nat) (b : List (List Int)) (k : Nat) (w : Wd) (W : List (List Int)) : List D := ((List.range W.length).filter fun i => decide (0 < moreG n b k w (W.getD i []))).map fun i => .tuple [nD i, .int (moreG n b k w (W.getD i []))]
theorem head_first {n : Nat} {b : List (List Int)} {k : Nat} {w : Wd} {W : List (List Int)} (l : List Nat) : ((l.filter fun i => decide (0 < moreG n b k w (W.getD i []))).map (fun i => PyData.tuple [nD i, .int (moreG n b k w (W.getD i []))]) ++ [.none])[0]? = some (lieD (l.findSome? (hitG n b k w W))) := by
  induction l with
  | nil => rfl
  | cons i l ih =>
    rw [List.filter_cons, List.findSome?_cons]
    by_cases h : 0 < moreG n b k w (W.getD i [])
    · rw [if_pos (by simpa using h)]
      unfold hitG
      rw [if_pos h]
      rfl
    · rw [if_neg (by simpa using h)]
      have : hitG n b k w W i = none := by unfold hitG; rw [if_neg h]
      rw [this]
      exact ih
theorem more_bound {n : Nat} {b : List (List Int)} (h : Bok n b) {k : Nat} (hk : k < b.length) (w : Wd) {t : List Int} (ht : TblOk n t) : -100000000 ≤ moreG n b k w t ∧ moreG n b k w t ≤ 100000000 := by
  have hs := h.set ht k
  have hk2 : k < (b.set k t).length := by rw [List.length_set]; exact hk
  have h1 := (h.at hk).all _ (pick_at (b := b.set k t) h.n0 hk2)
  have h2 := (h.at hk).all _ (pick_at (b := b) h.n0 hk)
  have h3 := pay_bound hs.ok hs.six h.n0 hk2 w
  have h4 := pay_bound h.ok h.six h.n0 hk w
  unfold moreG gain
  omega
theorem fine_lie {n : Nat} {b : List (List Int)} (h : Bok n b) {k : Nat} (hk : k < b.length) (w : Wd) {W : List (List Int)} (hW : ∀ t ∈ W, TblOk n t) (hz : W.length ≤ 1000) : Fine (lieD (firstG n b k w W)) 1 4000 := by
  cases e : firstG n b k w W with
  | none => exact fine_none.mono (by omega) (by omega)
  | some q =>
    obtain ⟨i, hi, e2⟩ := List.exists_of_findSome?_eq_some e
    have hi := List.mem_range.mp hi
    have hb := more_bound h hk w (hW _ (getD_mem (l := W) (k := i) (z := []) hi))
    unfold hitG at e2
    split at e2
    · cases e2
      refine (fine_tup (dep := 0) (len := 1921) (m := 2) (fun x hx => ?_) (by simp)).mono (by omega) (by omega)
      simp only [List.mem_cons, List.not_mem_nil, or_false] at hx
      rcases hx with rfl | rfl
      · exact fine_big (small_big (by omega) (by omega))
      · exact fine_big (small_big (by omega) (by omega))
    · cases e2
end K04

namespace K04
open PySem PySem.Spec PyProof.Rows L2 G
abbrev vE (ns : List Int) (ds : List Nat) (g : Nat) (b : List (List Int)) (x5 x8 x9 x10 x11 x12 x13 x14 x15 x16 x17 : Option Sl) : En :=
  [some (.sc ns), some (.v (.list (ds.map nD))), some (.v (nD g)), some (.v (bD b)), some (.v (.str (bD b).shown)), x5, some (.v (shD (C.pick b (2 ^ g - 1)))), some (.v (.int (C.best b (2 ^ g - 1)))), x8, x9, x10, x11, x12, x13, x14, x15, x16, x17, none, none, none]
abbrev mE (ns : List Int) (ds : List Nat) (g : Nat) (b : List (List Int)) (w : Wd) (x10 x11 x12 x13 x14 x15 x16 x17 : Option Sl) : En := vE ns ds g b (some (.v w.d)) (some (.v (tD (pays (2 ^ g) b w)))) (some (.v (tD (mines (2 ^ g) b w)))) x10 x11 x12 x13 x14 x15 x16 x17
abbrev lw_mine : En → R D := (cLc [10] (cIter dRange1 (cCons (cCall dLen (cCons (cVarB 3) cNil)) cNil)) (gN 10) cTrue (cBin dSub (cCallF f_l_at (cCons (cBin dIx (cVarB 3) (cVar 10)) (cCons (cBin dIx (cVarB 6) (cVar 10)) cNil))) (cBin dIx (cVarB 8) (cVar 10))))
abbrev lw_c1 : En → R Bool := (cOr (cBinT dNe (cCallF f_payments (cCons (cVar 3) (cCons (cVar 5) cNil))) (cVarB 8)) (cOr (cBinT dNe (cCallF f_gains (cCons (cVar 3) (cCons (cVar 5) cNil))) (cVarB 9)) (cBinT dNe (cCallF f_income (cCons (cVar 3) (cCons (cVar 5) cNil))) (cCall dSum (cCons (cVarB 8) cNil)))))
abbrev lw_c2 : En → R Bool := (cBinT dNe (cLc [10] (cIter dRange1 (cCons (cCall dLen (cCons (cVarB 3) cNil)) cNil)) (gN 10) (cNot (cChainT dLe dLe (cK (.int 0)) (cBin dIx (cVarB 8) (cVar 10)) (cCallF f_l_at (cCons (cBin dIx (cVarB 3) (cVar 10)) (cCons (cBin dIx (cVarB 6) (cVar 10)) cNil))))) (cVar 10)) (cList cNil))
theorem pays_at {n : Nat} {b : List (List Int)} {w : Wd} {k : Nat} (hk : k < b.length) : dIx (tD (pays n b w)) (nD k) = some (.int (pay n b k w)) := by
  rw [dIx_nat]
  simp [pays, hk]
theorem mines_at {n : Nat} {b : List (List Int)} {w : Wd} {k : Nat} (hk : k < b.length) : dIx (tD (mines n b w)) (nD k) = some (.int (gain n b (b.getD k []) k w)) := by
  rw [dIx_nat, List.getElem?_map, mines, List.getElem?_map, List.getElem?_range hk]
  rfl
section
variable {ns : List Int} {ds : List Nat} {g : Nat} {b : List (List Int)} (hb : Bok (2 ^ g) b) (hm : Few b.length g) (w : Wd) {x8 x9 x10 x11 x12 x13 x14 x15 x16 x17 : Option Sl}
include hb hm in
theorem own_at {k : Nat} (hk : k < b.length) {x5 : Option Sl} : cCallF f_l_at (cCons (cBin dIx (cVarB 3) (cVar 10)) (cCons (cBin dIx (cVarB 6) (cVar 10)) cNil)) (vE ns ds g b x5 x8 x9 (some (.v (nD k))) x11 x12 x13 x14 x15 x16 x17) = .ok (.int (own (2 ^ g) b k)) := by
  have hle := hm.le
  have hp := pick_at (b := b) hb.n0 hk
  have hs : k < (C.pick b (2 ^ g - 1)).length := by rw [pick_len]; exact hk
  have q1 : cBin dIx (cVarB 3) (cVar 10) (vE ns ds g b x5 x8 x9 (some (.v (nD k))) x11 x12 x13 x14 x15 x16 x17) = .ok (tD (b.getD k [])) := cBin_of (a := bD b) (b := nD k) rfl rfl (book_at hk)
  have q2 : cBin dIx (cVarB 6) (cVar 10) (vE ns ds g b x5 x8 x9 (some (.v (nD k))) x11 x12 x13 x14 x15 x16 x17) = .ok (bunD ((C.pick b (2 ^ g - 1)).getD k 0)) := cBin_of (a := shD (C.pick b (2 ^ g - 1))) (b := nD k) rfl rfl (share_at hs)
  exact cCallF_of (ds := [tD (b.getD k []), bunD ((C.pick b (2 ^ g - 1)).getD k 0)]) (cCons_of q1 (cCons_of q2 rfl)) (at_eq _ _ (by rw [(hb.at hk).len]; exact hp) (Nat.lt_of_lt_of_le hp hle))
include hb hm in
theorem mine_eq : lw_mine (vE ns ds g b (some (.v w.d)) (some (.v (tD (pays (2 ^ g) b w)))) x9 x10 x11 x12 x13 x14 x15 x16 x17) = .ok (tD (mines (2 ^ g) b w)) := by
  have h6 := hb.six
  have e := lcL_map (tgt := gN 10) (f := cBin dSub (cCallF f_l_at (cCons (cBin dIx (cVarB 3) (cVar 10)) (cCons (cBin dIx (cVarB 6) (cVar 10)) cNil))) (cBin dIx (cVarB 8) (cVar 10))) (ρ := vE ns ds g b (some (.v w.d)) (some (.v (tD (pays (2 ^ g) b w)))) x9 none x11 x12 x13 x14 x15 x16 x17) (enc := nD) (fun k => vE ns ds g b (some (.v w.d)) (some (.v (tD (pays (2 ^ g) b w)))) x9 (some (.v (nD k))) x11 x12 x13 x14 x15 x16 x17) (fun k => .int (gain (2 ^ g) b (b.getD k []) k w)) (xs := List.range b.length) fun k hk => ⟨rfl, by
    have hk := List.mem_range.mp hk
    exact cBin_of (own_at hb hm hk) (cBin_of (a := tD (pays (2 ^ g) b w)) (b := nD k) rfl rfl (pays_at hk)) rfl⟩
  have e2 : (List.range b.length).map (fun k => PyData.int (gain (2 ^ g) b (b.getD k []) k w)) = (mines (2 ^ g) b w).map PyData.int := by unfold mines; rw [List.map_map]; rfl
  rw [e2] at e
  exact cLc_of (cIter1_of (d := nD b.length) (len_bD rfl) (dRange1_nat (by omega))) e (by rw [List.length_map]; unfold mines; rw [List.length_map, List.length_range]; unfold sizeLine; omega)
include hb hm in
theorem c1_ff : lw_c1 (mE ns ds g b w x10 x11 x12 x13 x14 x15 x16 x17) = .ok false := by
  refine cOr_ff (cBinT_of (a := tD (pays (2 ^ g) b w)) (b := tD (pays (2 ^ g) b w)) (cCallF_of (ds := [bD b, w.d]) rfl (payments_eq hb w)) rfl ?_) (cOr_ff (cBinT_of (a := tD (mines (2 ^ g) b w)) (b := tD (mines (2 ^ g) b w)) (cCallF_of (ds := [bD b, w.d]) rfl (gains_eq hb w)) rfl ?_) (cBinT_of (a := .int (pays (2 ^ g) b w).sum) (b := .int (pays (2 ^ g) b w).sum) (cCallF_of (ds := [bD b, w.d]) rfl (income_eq hb w)) (cCall1_of (d := tD (pays (2 ^ g) b w)) rfl (sum_ints _)) ?_))
  · rw [ne_tD]; simp
  · rw [ne_tD]; simp
  · rw [dNe_int]; simp
include hb hm in
theorem c2_ff : lw_c2 (mE ns ds g b w x10 x11 x12 x13 x14 x15 x16 x17) = .ok false := by
  have h6 := hb.six
  have e := lcL_gen (tgt := gN 10) (p := cNot (cChainT dLe dLe (cK (.int 0)) (cBin dIx (cVarB 8) (cVar 10)) (cCallF f_l_at (cCons (cBin dIx (cVarB 3) (cVar 10)) (cCons (cBin dIx (cVarB 6) (cVar 10)) cNil))))) (f := cVar 10) (ρ := mE ns ds g b w none x11 x12 x13 x14 x15 x16 x17) (enc := nD) (fun k => mE ns ds g b w (some (.v (nD k))) x11 x12 x13 x14 x15 x16 x17) (fun _ => false) nD (xs := List.range b.length) fun k hk => ⟨rfl, by
    have hk := List.mem_range.mp hk
    have hp := pay_fair hb hk w
    exact cNot_of (b := true) (cChainT_of (b := pay (2 ^ g) b k w) (c := own (2 ^ g) b k) rfl (cBin_of (a := tD (pays (2 ^ g) b w)) (b := nD k) rfl rfl (pays_at hk)) (own_at hb hm hk) hp.1 hp.2), fun z => by cases z⟩
  rw [show (List.range b.length).filter (fun _ => false) = [] by simp] at e
  exact cBinT_of (a := .list []) (b := .list []) (cLc_of (cIter1_of (d := nD b.length) (len_bD rfl) (dRange1_nat (by omega))) e (by simp)) (by rfl) (by kernel_rfl)
end
end K04

namespace K04
open PySem PySem.Spec PyProof.Rows L2 G
abbrev lw_lies : En → R D := (cBin dAdd (cLc [19] (cIter dRange1 (cCons (cK (.int 3)) cNil)) (gN 19) cTrue (cCallF f_l_drawn (cCons (cVar 1) (cCons (cBin dAdd (cK (.int 420)) (cBin dMul (cK (.int 40)) (cVarB 19))) (cCons (cVar 2) cNil))))) (cSlice (cVar 11) cPartN (cPart (cK (.int 6)))))
abbrev lw_more : En → R D := (cLc [18] (cItems (cVar 12)) (gN 18) cTrue (cBin dSub (cCallF f_l_gain (cCons (cCallF f_l_with (cCons (cVar 3) (cCons (cVar 10) (cCons (cVar 18) cNil)))) (cCons (cBin dIx (cVarB 3) (cVar 10)) (cCons (cVar 2) (cCons (cVar 10) (cCons (cVar 5) cNil)))))) (cBin dIx (cVarB 9) (cVar 10))))
abbrev lw_c3 : En → R Bool := (cOr (cBinT dNe (cLc [18] (cItems (cVar 12)) (gN 18) cTrue (cCallF f_gain (cCons (cVar 3) (cCons (cVar 10) (cCons (cVar 5) (cCons (cVar 18) cNil)))))) (cLc [20] (cItems (cVar 13)) (gN 20) cTrue (cBin dAdd (cVar 20) (cBin dIx (cVarB 9) (cVar 10))))) (cBinT dNe (cCallF f_lies_about (cCons (cBin dIx (cVarB 3) (cVar 10)) cNil)) (cVarB 11)))
abbrev lw_c4 : En → R Bool := (cAnd (cBinT dEq (cVarB 5) (cK (.str "fair"))) (cBinT dGt (cCall dMax (cCons (cBin dAdd (cList (cCons (cK (.int 0)) cNil)) (cVar 13)) cNil)) (cK (.int 0))))
abbrev lw_good : En → R D := (cLc [15] (cIter dRange1 (cCons (cCall dLen (cCons (cVarB 12) cNil)) cNil)) (gN 15) (cBinT dGt (cBin dIx (cVarB 13) (cVar 15)) (cK (.int 0))) (cTup (cCons (cVar 15) (cCons (cBin dIx (cVarB 13) (cVar 15)) cNil))))
abbrev lw_c5 : En → R Bool := (cBinT dNe (cUn dRepr (cCallF f_first_lie (cCons (cVar 3) (cCons (cVar 10) (cCons (cVar 5) (cCons (cVar 12) cNil)))))) (cUn dRepr (cBin dIx (cBin dAdd (cVar 14) (cList (cCons (cK .none) cNil))) (cK (.int 0)))))
abbrev lw_c6 : En → R Bool := (cAnd (cBinT dEq (cVarB 5) (cK (.str "fair"))) (cBinT dIsNot (cCallF f_first_lie (cCons (cVar 3) (cCons (cVar 10) (cCons (cVar 5) (cCons (cCallF f_lies_about (cCons (cBin dIx (cVarB 3) (cVar 10)) cNil)) cNil))))) (cK .none)))
theorem lay_bD (L : List (List Int)) : PyData.canLay0 (bD L) = true ∧ PyData.depth (bD L) ≤ 64 := by
  obtain ⟨l1, l2⟩ := lay_book L
  simp [PyData.canLay0, PyData.depth, l1]
  omega
abbrev moresOf (n : Nat) (b : List (List Int)) (k : Nat) (w : Wd) (W : List (List Int)) : List Int := W.map (moreG n b k w)
abbrev kE (ns : List Int) (ds : List Nat) (g : Nat) (b : List (List Int)) (w : Wd) (k : Nat) (W : List (List Int)) (x14 x15 x16 x17 : Option Sl) : En := mE ns ds g b w (some (.v (nD k))) (some (.v (bD (liesOf (2 ^ g) (b.getD k []))))) (some (.v (bD W))) (some (.v (tD (moresOf (2 ^ g) b k w W)))) x14 x15 x16 x17
section
variable {ns : List Int} {ds : List Nat} {g : Nat} {b : List (List Int)} (hb : Bok (2 ^ g) b) (hm : Few b.length g) (w : Wd) {k : Nat} (hk : k < b.length) {x12 x13 x14 x15 x16 x17 : Option Sl}
include hb hm hk in
theorem lies_of (hd : Draws ds) : ∃ W : List (List Int), (3 ≤ W.length ∧ W.length ≤ 100) ∧ (∀ t ∈ W, TblOk (2 ^ g) t) ∧ lw_lies (mE ns ds g b w (some (.v (nD k))) (some (.v (bD (liesOf (2 ^ g) (b.getD k []))))) x12 x13 x14 x15 x16 x17) = .ok (bD W) := by
  have hg := hm.2.1
  obtain ⟨W0, h1, h2, e⟩ := lcL_ex (tgt := gN 19) (f := cCallF f_l_drawn (cCons (cVar 1) (cCons (cBin dAdd (cK (.int 420)) (cBin dMul (cK (.int 40)) (cVarB 19))) (cCons (cVar 2) cNil)))) (ρ := mE ns ds g b w (some (.v (nD k))) (some (.v (bD (liesOf (2 ^ g) (b.getD k []))))) x12 x13 x14 x15 x16 x17) (enc := nD) (out := tD) (Q := TblOk (2 ^ g)) (fun i => (mE ns ds g b w (some (.v (nD k))) (some (.v (bD (liesOf (2 ^ g) (b.getD k []))))) x12 x13 x14 x15 x16 x17).set 19 (some (.v (nD i)))) (xs := List.range 3) fun i hi => ⟨rfl, by
    have hi := List.mem_range.mp hi
    obtain ⟨T, t1, t2, t3⟩ := drawn_eq (ds := ds) (k := 420 + 40 * i) (g := g) hd (by omega) hg
    exact ⟨T, t1, cCallF_of (ds := [.list (ds.map nD), nD (420 + 40 * i), nD g]) (cCons_of rfl (cCons_of (cBin_of (a := nD 420) (b := nD (40 * i)) rfl (cBin_of (a := nD 40) (b := nD i) rfl rfl (mul_nat 40 i (by decide) (Nat.lt_trans (show i < 100 by omega) (by decide)))) (add_nat _ _)) (cCons_of rfl rfl))) t3⟩⟩
  rw [List.length_range] at h1
  have q1 : cLc [19] (cIter dRange1 (cCons (cK (.int 3)) cNil)) (gN 19) cTrue (cCallF f_l_drawn (cCons (cVar 1) (cCons (cBin dAdd (cK (.int 420)) (cBin dMul (cK (.int 40)) (cVarB 19))) (cCons (cVar 2) cNil)))) (mE ns ds g b w (some (.v (nD k))) (some (.v (bD (liesOf (2 ^ g) (b.getD k []))))) x12 x13 x14 x15 x16 x17) = .ok (bD W0) := cLc_of (cIter1_of (d := nD 3) rfl (dRange1_nat (by decide))) e (by rw [List.length_map]; unfold sizeLine; omega)
  have hl := liesOf_ok (hb.at hk)
  generalize liesOf (2 ^ g) (b.getD k []) = L at *
  have q2 : cSlice (cVar 11) cPartN (cPart (cK (.int 6))) (mE ns ds g b w (some (.v (nD k))) (some (.v (bD L))) x12 x13 x14 x15 x16 x17) = .ok (.list ((L.map tD).take 6)) := cSlice_to (xs := L.map tD) (k := 6) rfl rfl
  have hz : (L.take 6).length ≤ 6 := by rw [List.length_take]; omega
  refine ⟨W0 ++ L.take 6, ⟨by rw [List.length_append]; omega, by rw [List.length_append]; omega⟩, fun t ht => ?_, cBin_of q1 q2 ?_⟩
  · rcases List.mem_append.mp ht with z | z
    · exact h2 t z
    · exact hl t (List.mem_of_mem_take z)
  · rw [← List.map_take, dAdd_list (by rw [List.length_map, List.length_map]; unfold sizeLine; omega), ← List.map_append]
theorem Few.set {b : List (List Int)} (hm : Few b.length g) (k : Nat) (t : List Int) : Few (b.set k t).length g := by rw [List.length_set]; exact hm
include hb hm hk in
theorem told_law {t : List Int} (ht : TblOk (2 ^ g) t) {truth : List Int} (hl : truth.length = 2 ^ g) {j : Nat} (hj : j < b.length) : f_l_gain [bD (b.set k t), tD truth, nD g, nD j, w.d] = .ok (.int (gain (2 ^ g) (b.set k t) truth j w)) :=
  law_gain_eq (hb.set ht k).book (Few.set hm k t) w (by rw [List.length_set]; exact hj) hl
variable {W : List (List Int)} (hW : ∀ t ∈ W, TblOk (2 ^ g) t) (hz : W.length ≤ 100)
include hb hm hk hW hz in
theorem more_eq : lw_more (mE ns ds g b w (some (.v (nD k))) (some (.v (bD (liesOf (2 ^ g) (b.getD k []))))) (some (.v (bD W))) x13 x14 x15 x16 x17) = .ok (tD (moresOf (2 ^ g) b k w W)) := by
  have h6 := hb.six
  generalize (some (Sl.v (bD (liesOf (2 ^ g) (b.getD k []))))) = x11
  have e := lcL_map (tgt := gN 18) (f := cBin dSub (cCallF f_l_gain (cCons (cCallF f_l_with (cCons (cVar 3) (cCons (cVar 10) (cCons (cVar 18) cNil)))) (cCons (cBin dIx (cVarB 3) (cVar 10)) (cCons (cVar 2) (cCons (cVar 10) (cCons (cVar 5) cNil)))))) (cBin dIx (cVarB 9) (cVar 10))) (ρ := mE ns ds g b w (some (.v (nD k))) x11 (some (.v (bD W))) x13 x14 x15 x16 x17) (enc := tD) (fun t => (mE ns ds g b w (some (.v (nD k))) x11 (some (.v (bD W))) x13 x14 x15 x16 x17).set 18 (some (.v (tD t)))) (fun t => .int (moreG (2 ^ g) b k w t)) (xs := W) fun t ht => ⟨rfl, by
    have q1 : cBin dIx (cVarB 3) (cVar 10) ((mE ns ds g b w (some (.v (nD k))) x11 (some (.v (bD W))) x13 x14 x15 x16 x17).set 18 (some (.v (tD t)))) = .ok (tD (b.getD k [])) := cBin_of (a := bD b) (b := nD k) rfl rfl (book_at hk)
    have q2 : cBin dIx (cVarB 9) (cVar 10) ((mE ns ds g b w (some (.v (nD k))) x11 (some (.v (bD W))) x13 x14 x15 x16 x17).set 18 (some (.v (tD t)))) = .ok (.int (gain (2 ^ g) b (b.getD k []) k w)) := cBin_of (a := tD (mines (2 ^ g) b w)) (b := nD k) rfl rfl (mines_at hk)
    have q3 : cCallF f_l_with (cCons (cVar 3) (cCons (cVar 10) (cCons (cVar 18) cNil))) ((mE ns ds g b w (some (.v (nD k))) x11 (some (.v (bD W))) x13 x14 x15 x16 x17).set 18 (some (.v (tD t)))) = .ok (bD (b.set k t)) := cCallF_of (ds := [bD b, nD k, tD t]) rfl (law_with_eq hk (by omega) t)
    exact cBin_of (cCallF_of (ds := [bD (b.set k t), tD (b.getD k []), nD g, nD k, w.d]) (cCons_of q3 (cCons_of q1 (cCons_of rfl (cCons_of rfl (cCons_of rfl rfl))))) (told_law hb hm w hk (hW t ht) (hb.at hk).len hk)) q2 rfl⟩
  have e2 : W.map (fun t => PyData.int (moreG (2 ^ g) b k w t)) = (moresOf (2 ^ g) b k w W).map PyData.int := by unfold moresOf; rw [List.map_map]; rfl
  rw [e2] at e
  exact cLc_of (cItems_of (ds := W.map tD) rfl) e (by rw [List.length_map, List.length_map]; unfold sizeLine; omega)
include hb hm hk hW hz in
theorem c3_ff : lw_c3 (kE ns ds g b w k W x14 x15 x16 x17) = .ok false := by
  have hg := hm.2.1
  have a1 : cBin dIx (cVarB 3) (cVar 10) (kE ns ds g b w k W x14 x15 x16 x17) = .ok (tD (b.getD k [])) := cBin_of (a := bD b) (b := nD k) rfl rfl (book_at hk)
  have r2 : cBinT dNe (cCallF f_lies_about (cCons (cBin dIx (cVarB 3) (cVar 10)) cNil)) (cVarB 11) (kE ns ds g b w k W x14 x15 x16 x17) = .ok false := cBinT_of (a := bD (liesOf (2 ^ g) (b.getD k []))) (b := bD (liesOf (2 ^ g) (b.getD k []))) (cCallF1_of a1 (lies_about_eq hg (hb.at hk))) rfl (ne_self (lay_bD _).1 (lay_bD _).2)
  refine cOr_ff ?_ r2
  clear a1 r2
  show cBinT dNe _ _ (mE ns ds g b w (some (.v (nD k))) (some (.v (bD (liesOf (2 ^ g) (b.getD k []))))) (some (.v (bD W))) (some (.v (tD (moresOf (2 ^ g) b k w W)))) x14 x15 x16 x17) = _
  generalize (some (Sl.v (bD (liesOf (2 ^ g) (b.getD k []))))) = x11
  have e := lcL_map (tgt := gN 18) (f := cCallF f_gain (cCons (cVar 3) (cCons (cVar 10) (cCons (cVar 5) (cCons (cVar 18) cNil))))) (ρ := mE ns ds g b w (some (.v (nD k))) x11 (some (.v (bD W))) (some (.v (tD (moresOf (2 ^ g) b k w W)))) x14 x15 x16 x17) (enc := tD) (fun t => (mE ns ds g b w (some (.v (nD k))) x11 (some (.v (bD W))) (some (.v (tD (moresOf (2 ^ g) b k w W)))) x14 x15 x16 x17).set 18 (some (.v (tD t)))) (fun t => .int (gain (2 ^ g) (b.set k t) (b.getD k []) k w)) (xs := W) fun t ht => ⟨rfl, cCallF_of (ds := [bD b, nD k, w.d, tD t]) rfl (gain_eq hb w hk (hW t ht))⟩
  have e' := lcL_map (tgt := gN 20) (f := cBin dAdd (cVar 20) (cBin dIx (cVarB 9) (cVar 10))) (ρ := mE ns ds g b w (some (.v (nD k))) x11 (some (.v (bD W))) (some (.v (tD (moresOf (2 ^ g) b k w W)))) x14 x15 x16 x17) (enc := fun t => .int (moreG (2 ^ g) b k w t)) (fun t => (mE ns ds g b w (some (.v (nD k))) x11 (some (.v (bD W))) (some (.v (tD (moresOf (2 ^ g) b k w W)))) x14 x15 x16 x17).set 20 (some (.v (.int (moreG (2 ^ g) b k w t))))) (fun t => .int (gain (2 ^ g) (b.set k t) (b.getD k []) k w)) (xs := W) fun t ht => ⟨rfl, by
    refine cBin_of (b := .int (gain (2 ^ g) b (b.getD k []) k w)) rfl (cBin_of (a := tD (mines (2 ^ g) b w)) (b := nD k) rfl rfl (mines_at hk)) ?_
    rw [dAdd_int]
    unfold moreG
    rw [Int.sub_add_cancel]⟩
  have e2 : W.map (fun t => PyData.int (gain (2 ^ g) (b.set k t) (b.getD k []) k w)) = (W.map fun t => gain (2 ^ g) (b.set k t) (b.getD k []) k w).map PyData.int := by rw [List.map_map]; rfl
  rw [e2] at e e'
  refine cBinT_of (cLc_of (cItems_of (ds := W.map tD) rfl) e (by rw [List.length_map, List.length_map]; unfold sizeLine; omega)) (cLc_of (cItems_of (ds := W.map fun t => PyData.int (moreG (2 ^ g) b k w t)) ?_) e' (by rw [List.length_map, List.length_map]; unfold sizeLine; omega)) ((ne_tD _ _).trans (by simp))
  show R.ok (tD (moresOf (2 ^ g) b k w W)) = _
  unfold moresOf
  rw [show tD (W.map (moreG (2 ^ g) b k w)) = .list ((W.map (moreG (2 ^ g) b k w)).map PyData.int) from rfl, List.map_map]
  rfl
include hk hz in
theorem c4_ff : lw_c4 (kE ns ds g b w k W x14 x15 x16 x17) = .ok false := by
  have q : cBinT dEq (cVarB 5) (cK (.str "fair")) (kE ns ds g b w k W x14 x15 x16 x17) = .ok (decide (w = .fair)) := cBinT_of (a := w.d) rfl rfl (word_fair w)
  by_cases hw : w = .fair
  · rw [decide_eq_true hw] at q
    subst hw
    refine cAnd_t q (cBinT_of (a := .int 0) (b := .int 0) (cCall1_of (d := tD (0 :: moresOf (2 ^ g) b k .fair W)) (cBin_of (a := .list [.int 0]) (b := tD (moresOf (2 ^ g) b k .fair W)) (by rfl) rfl ?_) ?_) rfl rfl)
    · rw [dAdd_list (by rw [List.length_map, List.length_map]; simp; unfold sizeLine; omega)]
      rfl
    · rw [dMax_top (by simp), C.top_eq List.mem_cons_self (fun x hx => ?_)]
      rcases List.mem_cons.mp hx with z | z
      · omega
      · obtain ⟨t, _, rfl⟩ := List.mem_map.mp z
        exact no_more hk t
  · rw [decide_eq_false hw] at q
    exact cAnd_f q
theorem mores_at {n : Nat} {b : List (List Int)} {k : Nat} {w : Wd} {W : List (List Int)} {i : Nat} (hi : i < W.length) : dIx (tD (moresOf n b k w W)) (nD i) = some (.int (moreG n b k w (W.getD i []))) := by
  rw [dIx_nat, List.getElem?_map, moresOf, List.getElem?_map, List.getElem?_eq_getElem hi, List.getD_eq_getElem?_getD, List.getElem?_eq_getElem hi]
  rfl
include hz in
theorem good_eq : lw_good (kE ns ds g b w k W x14 x15 x16 x17) = .ok (.list (goodL (2 ^ g) b k w W)) := by
  have e := lcL_gen (tgt := gN 15) (p := cBinT dGt (cBin dIx (cVarB 13) (cVar 15)) (cK (.int 0))) (f := cTup (cCons (cVar 15) (cCons (cBin dIx (cVarB 13) (cVar 15)) cNil))) (ρ := kE ns ds g b w k W x14 none x16 x17) (enc := nD) (fun i => kE ns ds g b w k W x14 (some (.v (nD i))) x16 x17) (fun i => decide (0 < moreG (2 ^ g) b k w (W.getD i []))) (fun i => .tuple [nD i, .int (moreG (2 ^ g) b k w (W.getD i []))]) (xs := List.range W.length) fun i hi => ⟨rfl, by
    have hi := List.mem_range.mp hi
    have q : cBin dIx (cVarB 13) (cVar 15) (kE ns ds g b w k W x14 (some (.v (nD i))) x16 x17) = .ok (.int (moreG (2 ^ g) b k w (W.getD i []))) := cBin_of (a := tD (moresOf (2 ^ g) b k w W)) (b := nD i) rfl rfl (mores_at hi)
    exact ⟨cBinT_of q rfl rfl, fun _ => cTup2_of rfl q⟩⟩
  have hl := List.length_filter_le (fun i => decide (0 < moreG (2 ^ g) b k w (W.getD i []))) (List.range W.length)
  rw [List.length_range] at hl
  exact cLc_of (cIter1_of (d := nD W.length) (len_bD rfl) (dRange1_nat (Nat.lt_trans (show W.length < 1000 by omega) (by decide)))) e (by unfold goodL; rw [List.length_map]; unfold sizeLine; omega)
include hb hk hW hz in
theorem c5_ff : lw_c5 (kE ns ds g b w k W (some (.v (.list (goodL (2 ^ g) b k w W)))) x15 x16 x17) = .ok false := by
  have hl := List.length_filter_le (fun i => decide (0 < moreG (2 ^ g) b k w (W.getD i []))) (List.range W.length)
  rw [List.length_range] at hl
  have hg : (goodL (2 ^ g) b k w W).length ≤ 100 := by unfold goodL; rw [List.length_map]; omega
  refine ne_text2 (fine_lie hb hk w hW (by omega)) (by omega) (by omega) (cCallF_of (ds := [bD b, nD k, w.d, bD W]) rfl (first_lie_eq hb w hk hW)) (cBin_of (a := .list (goodL (2 ^ g) b k w W ++ [.none])) (b := .int 0) (cBin_of (a := .list (goodL (2 ^ g) b k w W)) (b := .list [.none]) rfl (by rfl) (dAdd_list (by simp; unfold sizeLine; omega))) rfl ?_)
  rw [dIx_zero]
  exact head_first (List.range W.length)
include hb hm hk in
theorem c6_ff : lw_c6 (kE ns ds g b w k W x14 x15 x16 x17) = .ok false := by
  have q : cBinT dEq (cVarB 5) (cK (.str "fair")) (kE ns ds g b w k W x14 x15 x16 x17) = .ok (decide (w = .fair)) := cBinT_of (a := w.d) rfl rfl (word_fair w)
  by_cases hw : w = .fair
  · rw [decide_eq_true hw] at q
    subst hw
    have a1 : cBin dIx (cVarB 3) (cVar 10) (kE ns ds g b .fair k W x14 x15 x16 x17) = .ok (tD (b.getD k [])) := cBin_of (a := bD b) (b := nD k) rfl rfl (book_at hk)
    have a2 : cCallF f_lies_about (cCons (cBin dIx (cVarB 3) (cVar 10)) cNil) (kE ns ds g b .fair k W x14 x15 x16 x17) = .ok (bD (liesOf (2 ^ g) (b.getD k []))) := cCallF1_of a1 (lies_about_eq hm.2.1 (hb.at hk))
    have a3 := first_lie_eq hb .fair hk (liesOf_ok (hb.at hk))
    rw [first_fair hk] at a3
    exact cAnd_t q (cBinT_of (a := .none) (b := .none) (cCallF_of (ds := [bD b, nD k, Wd.fair.d, bD (liesOf (2 ^ g) (b.getD k []))]) (cCons_of rfl (cCons_of rfl (cCons_of rfl (cCons_of a2 rfl)))) a3) rfl rfl)
  · rw [decide_eq_false hw] at q
    exact cAnd_f q
end
end K04

namespace K04
open PySem PySem.Spec PyProof.Rows L2 G
abbrev lw_pair : En → SR := (sIf (cBinT dGt (cCall dLen (cCons (cVarB 3) cNil)) (cK (.int 1)))
    (sSeq (sSet 15 (cBin dMod (cCall dInt (cCons (cBin dAdd (cVar 10) (cK (.int 1))) cNil)) (cCall dLen (cCons (cVarB 3) cNil))))
    (sSeq (sSet 16 (cCallF f_l_with (cCons (cCallF f_l_with (cCons (cVar 3) (cCons (cVar 10) (cCons (cBin dIx (cVarB 12) (cK (.int 0))) cNil)))) (cCons (cVar 15) (cCons (cBin dIx (cVarB 12) (cK (.int 1))) cNil)))))
    (sSeq (sSet 17 (cBin dSub (cBin dSub (cBin dAdd (cCallF f_l_gain (cCons (cVar 16) (cCons (cBin dIx (cVarB 3) (cVar 10)) (cCons (cVar 2) (cCons (cVar 10) (cCons (cVar 5) cNil)))))) (cCallF f_l_gain (cCons (cVar 16) (cCons (cBin dIx (cVarB 3) (cVar 15)) (cCons (cVar 2) (cCons (cVar 15) (cCons (cVar 5) cNil))))))) (cBin dIx (cVarB 9) (cVar 10))) (cBin dIx (cVarB 9) (cVar 15))))
    (sIf (cBinT dNe (cCallF f_together_gain (cCons (cVar 3) (cCons (cVar 10) (cCons (cVar 15) (cCons (cVar 5) (cCons (cBin dIx (cVarB 12) (cK (.int 0))) (cCons (cBin dIx (cVarB 12) (cK (.int 1))) cNil))))))) (cVarB 17))
    (sRet (cK (.bool false)))
    sNext))))
    sNext)
section
variable {ns : List Int} {ds : List Nat} {g : Nat} {b : List (List Int)} (hb : Bok (2 ^ g) b) (hm : Few b.length g) (w : Wd) {k : Nat} (hk : k < b.length) {x14 x15 x16 x17 : Option Sl} {W : List (List Int)} (hW : ∀ t ∈ W, TblOk (2 ^ g) t) (hz : 2 ≤ W.length)
include hb hm hk hW hz in
theorem pair_step : ∃ y15 y16 y17, lw_pair (kE ns ds g b w k W x14 x15 x16 x17) = .nx (kE ns ds g b w k W x14 y15 y16 y17) := by
  have h6 := hb.six
  have c : cBinT dGt (cCall dLen (cCons (cVarB 3) cNil)) (cK (.int 1)) (kE ns ds g b w k W x14 x15 x16 x17) = .ok (decide (1 < b.length)) := cBinT_of (a := nD b.length) (b := .int 1) (len_bD rfl) rfl (by
    show some (PyData.bool (decide ((1 : Int) < (b.length : Int)))) = _
    congr 2
    rw [decide_eq_decide]
    omega)
  by_cases h1 : 1 < b.length
  · rw [decide_eq_true h1] at c
    let j := (k + 1) % b.length
    have hj : j < b.length := Nat.mod_lt _ (by omega)
    have hij : k ≠ j := by
      show k ≠ (k + 1) % b.length
      rcases Nat.lt_or_ge (k + 1) b.length with z | z
      · rw [Nat.mod_eq_of_lt z]; omega
      · have : k + 1 = b.length := by omega
        rw [this, Nat.mod_self]; omega
    have q1 : cBin dMod (cCall dInt (cCons (cBin dAdd (cVar 10) (cK (.int 1))) cNil)) (cCall dLen (cCons (cVarB 3) cNil)) (kE ns ds g b w k W x14 x15 x16 x17) = .ok (nD j) := by
      refine cBin_of (a := nD (k + 1)) (b := nD b.length) (cCall1_of (cBin_of (a := nD k) (b := nD 1) rfl rfl (add_nat _ _)) rfl) (len_bD rfl) ?_
      rw [dMod_pos _ (by omega)]
      rfl
    have s1 := (sSet_of (i := 15) q1).trans (show _ = SR.nx (kE ns ds g b w k W x14 (some (.v (nD j))) x16 x17) from rfl)
    generalize j = j at *
    have t0 := hW _ (getD_mem (l := W) (k := 0) (z := []) (by omega))
    have t1 := hW _ (getD_mem (l := W) (k := 1) (z := []) (by omega))
    have l0 : ∀ x16 x17, cBin dIx (cVarB 12) (cK (.int 0)) (kE ns ds g b w k W x14 (some (.v (nD j))) x16 x17) = .ok (tD (W.getD 0 [])) := fun _ _ => cBin_of (a := bD W) (b := nD 0) rfl rfl (book_at (by omega))
    have l1 : ∀ x16 x17, cBin dIx (cVarB 12) (cK (.int 1)) (kE ns ds g b w k W x14 (some (.v (nD j))) x16 x17) = .ok (tD (W.getD 1 [])) := fun _ _ => cBin_of (a := bD W) (b := nD 1) rfl rfl (book_at (by omega))
    generalize W.getD 0 [] = s at *
    generalize W.getD 1 [] = t at *
    have q2 : cCallF f_l_with (cCons (cCallF f_l_with (cCons (cVar 3) (cCons (cVar 10) (cCons (cBin dIx (cVarB 12) (cK (.int 0))) cNil)))) (cCons (cVar 15) (cCons (cBin dIx (cVarB 12) (cK (.int 1))) cNil))) (kE ns ds g b w k W x14 (some (.v (nD j))) x16 x17) = .ok (bD ((b.set k s).set j t)) :=
      cCallF_of (ds := [bD (b.set k s), nD j, tD t]) (cCons_of (cCallF_of (ds := [bD b, nD k, tD s]) (cCons_of rfl (cCons_of rfl (cCons_of (l0 _ _) rfl))) (law_with_eq hk (by omega) s)) (cCons_of rfl (cCons_of (l1 _ _) rfl))) (law_with_eq (by rw [List.length_set]; exact hj) (by rw [List.length_set]; omega) t)
    have s2 := (sSet_of (i := 16) q2).trans (show _ = SR.nx (kE ns ds g b w k W x14 (some (.v (nD j))) (some (.v (bD ((b.set k s).set j t)))) x17) from rfl)
    have hb2 := hb.set t0 k
    have hm2 := Few.set hm k s
    have q3 : cBin dIx (cVarB 3) (cVar 10) (kE ns ds g b w k W x14 (some (.v (nD j))) (some (.v (bD ((b.set k s).set j t)))) x17) = .ok (tD (b.getD k [])) := cBin_of (a := bD b) (b := nD k) rfl rfl (book_at hk)
    have q4 : cBin dIx (cVarB 3) (cVar 15) (kE ns ds g b w k W x14 (some (.v (nD j))) (some (.v (bD ((b.set k s).set j t)))) x17) = .ok (tD (b.getD j [])) := cBin_of (a := bD b) (b := nD j) rfl rfl (book_at hj)
    have g1 := told_law hb2 hm2 w (k := j) (by rw [List.length_set]; exact hj) t1 (hb.at hk).len (j := k) (by rw [List.length_set]; exact hk)
    have g2 := told_law hb2 hm2 w (k := j) (by rw [List.length_set]; exact hj) t1 (hb.at hj).len (j := j) (by rw [List.length_set]; exact hj)
    have q5 : cBin dSub (cBin dSub (cBin dAdd (cCallF f_l_gain (cCons (cVar 16) (cCons (cBin dIx (cVarB 3) (cVar 10)) (cCons (cVar 2) (cCons (cVar 10) (cCons (cVar 5) cNil)))))) (cCallF f_l_gain (cCons (cVar 16) (cCons (cBin dIx (cVarB 3) (cVar 15)) (cCons (cVar 2) (cCons (cVar 15) (cCons (cVar 5) cNil))))))) (cBin dIx (cVarB 9) (cVar 10))) (cBin dIx (cVarB 9) (cVar 15)) (kE ns ds g b w k W x14 (some (.v (nD j))) (some (.v (bD ((b.set k s).set j t)))) x17) = .ok (.int (bothG (2 ^ g) b k j w s t)) := by
      refine cBin_of (cBin_of (cBin_of (cCallF_of (ds := [bD ((b.set k s).set j t), tD (b.getD k []), nD g, nD k, w.d]) (cCons_of rfl (cCons_of q3 (cCons_of rfl (cCons_of rfl (cCons_of rfl rfl))))) g1) (cCallF_of (ds := [bD ((b.set k s).set j t), tD (b.getD j []), nD g, nD j, w.d]) (cCons_of rfl (cCons_of q4 (cCons_of rfl (cCons_of rfl (cCons_of rfl rfl))))) g2) (dAdd_int _ _)) (cBin_of (a := tD (mines (2 ^ g) b w)) (b := nD k) rfl rfl (mines_at hk)) rfl) (cBin_of (a := tD (mines (2 ^ g) b w)) (b := nD j) rfl rfl (mines_at hj)) ?_
      show some (PyData.int _) = _
      congr 2
      unfold bothG
      omega
    have s3 := (sSet_of (i := 17) q5).trans (show _ = SR.nx (kE ns ds g b w k W x14 (some (.v (nD j))) (some (.v (bD ((b.set k s).set j t)))) (some (.v (.int (bothG (2 ^ g) b k j w s t))))) from rfl)
    refine ⟨_, _, _, sIf_true c (sSeq_nx s1 (sSeq_nx s2 (sSeq_nx s3 (sIf_false (cBinT_of (a := .int (bothG (2 ^ g) b k j w s t)) (b := .int (bothG (2 ^ g) b k j w s t)) (cCallF_of (ds := [bD b, nD k, nD j, w.d, tD s, tD t]) (cCons_of rfl (cCons_of rfl (cCons_of rfl (cCons_of rfl (cCons_of (l0 _ _) (cCons_of (l1 _ _) rfl)))))) (together_eq hb w hk hj hij t0 t1)) rfl ?_) rfl))))⟩
    rw [dNe_int]; simp
  · rw [decide_eq_false h1] at c
    exact ⟨_, _, _, sIf_false c rfl⟩
end
end K04

namespace K04
open PySem PySem.Spec PyProof.Rows L2 G
theorem shown_eq : f_l_shown [] = .ok (.bool true) := by kernel_rfl
theorem faults_eq : f_l_faults [] = .ok (.bool true) := by kernel_rfl
theorem fine_book {n m : Nat} {b : List (List Int)} (hb : BkOk n m b) (hm : m ≤ 4) : Fine (bD b) 2 200000 := by
  refine (fine_list (xs := b.map tD) (dep := 1) (len := 2 + 16 * 1923) (m := 4) (fun x hx => ?_) (by rw [List.length_map, hb.len]; exact hm)).mono (by omega) (by omega)
  obtain ⟨t, ht, rfl⟩ := List.mem_map.mp hx
  have h1 := hb.tbl t ht
  have hsz := h1.size
  have hl := h1.len
  refine fine_ints (by omega) fun x hx => ?_
  obtain ⟨p, hp, rfl⟩ := List.getElem_of_mem hx
  have := h1.all p (by omega)
  rw [show C.at_ t p = t[p] by simp [C.at_, List.getD_eq_getElem?_getD, hp]] at this
  omega
theorem lay_shD (s : List Nat) : PyData.canLayAll0 (s.map bunD) = true ∧ PyData.depthAll (s.map bunD) ≤ 2 := by
  induction s with
  | nil => simp [PyData.canLayAll0, PyData.depthAll]
  | cons a r ih =>
    obtain ⟨h1, h2⟩ : PyData.canLayAll0 ((bun a).map nD) = true ∧ PyData.depthAll ((bun a).map nD) ≤ 1 := lay_ints (fun n : Nat => (n : Int)) (bun a)
    simp [PyData.canLayAll0, PyData.depthAll, PyData.canLay0, PyData.depth, ih.1, h1]
    have := ih.2
    omega
theorem eq_pair (s : List Nat) (i : Int) : dEq (.tuple [shD s, .int i]) (.tuple [shD s, .int i]) = some (.bool true) := by
  obtain ⟨h1, h2⟩ := lay_shD s
  refine eq_self ?_ ?_
  · simp [PyData.canLay0, PyData.canLayAll0, h1]
  · simp [PyData.depth, PyData.depthAll]
    omega
abbrev lw_word : En → SR := (sSeq (sSet 8 (cCallF f_l_paid (cCons (cVar 3) (cCons (cVar 2) (cCons (cVar 5) cNil)))))
    (sSeq (sSet 9 lw_mine)
    (sSeq (sIf lw_c1 (sRet (cK (.bool false))) sNext)
    (sSeq (sIf lw_c2 (sRet (cK (.bool false))) sNext)
    (sSeq (sSet 10 (cCallF f_l_mix (cCons (cVar 1) (cCons (cK (.int 1)) (cCons (cCall dLen (cCons (cVarB 3) cNil)) cNil)))))
    (sSeq (sSet 11 (cCallF f_l_lies (cCons (cBin dIx (cVarB 3) (cVar 10)) (cCons (cVar 2) cNil))))
    (sSeq (sSet 12 lw_lies)
    (sSeq (sSet 13 lw_more)
    (sSeq (sIf lw_c3 (sRet (cK (.bool false))) sNext)
    (sSeq (sIf lw_c4 (sRet (cK (.bool false))) sNext)
    (sSeq (sSet 14 lw_good)
    (sSeq (sIf lw_c5 (sRet (cK (.bool false))) sNext)
    (sSeq (sIf lw_c6 (sRet (cK (.bool false))) sNext)
    lw_pair)))))))))))))
abbrev lw_end : En → R D := (cAndV (cBin dEq (cCallF f_best (cCons (cVar 3) cNil)) (cTup (cCons (cVar 6) (cCons (cVar 7) cNil)))) (cAndV (cBin dEq (cUn dRepr (cVar 3)) (cVarB 4)) (cAndV (cCallF f_l_shown fun _ => .ok []) (cCallF f_l_faults fun _ => .ok []))))
section
variable {ns : List Int} {ds : List Nat} {g : Nat} {b : List (List Int)} (hb : Bok (2 ^ g) b) (hm : Few b.length g) (hd : Draws ds)
include hb hm hd in
theorem word_step (w : Wd) (x8 x9 x10 x11 x12 x13 x14 x15 x16 x17 : Option Sl) : ∃ y8 y9 y10 y11 y12 y13 y14 y15 y16 y17, lw_word (vE ns ds g b (some (.v w.d)) x8 x9 x10 x11 x12 x13 x14 x15 x16 x17) = .nx (vE ns ds g b (some (.v w.d)) y8 y9 y10 y11 y12 y13 y14 y15 y16 y17) := by
  have s1 := (sSet_of (i := 8) (ρ := vE ns ds g b (some (.v w.d)) x8 x9 x10 x11 x12 x13 x14 x15 x16 x17) (f := cCallF f_l_paid (cCons (cVar 3) (cCons (cVar 2) (cCons (cVar 5) cNil)))) (cCallF_of (ds := [bD b, nD g, w.d]) rfl (law_paid_eq hb.book hm w))).trans (show _ = SR.nx (vE ns ds g b (some (.v w.d)) (some (.v (tD (pays (2 ^ g) b w)))) x9 x10 x11 x12 x13 x14 x15 x16 x17) from rfl)
  have s2 := (sSet_of (i := 9) (mine_eq (ns := ns) (ds := ds) hb hm w (x9 := x9) (x10 := x10) (x11 := x11) (x12 := x12) (x13 := x13) (x14 := x14) (x15 := x15) (x16 := x16) (x17 := x17))).trans (show _ = SR.nx (mE ns ds g b w x10 x11 x12 x13 x14 x15 x16 x17) from rfl)
  have s3 := sIf_false (g1 := sRet (cK (.bool false))) (g2 := sNext) (c1_ff (ns := ns) (ds := ds) hb hm w (x10 := x10) (x11 := x11) (x12 := x12) (x13 := x13) (x14 := x14) (x15 := x15) (x16 := x16) (x17 := x17)) rfl
  have s4 := sIf_false (g1 := sRet (cK (.bool false))) (g2 := sNext) (c2_ff (ns := ns) (ds := ds) hb hm w (x10 := x10) (x11 := x11) (x12 := x12) (x13 := x13) (x14 := x14) (x15 := x15) (x16 := x16) (x17 := x17)) rfl
  have hk : mixOf ds 1 b.length < b.length := mix_lt ds 1 hb.one
  have s5 := (sSet_of (i := 10) (ρ := mE ns ds g b w x10 x11 x12 x13 x14 x15 x16 x17) (f := cCallF f_l_mix (cCons (cVar 1) (cCons (cK (.int 1)) (cCons (cCall dLen (cCons (cVarB 3) cNil)) cNil)))) (cCallF_of (ds := [.list (ds.map nD), nD 1, nD b.length]) (cCons_of rfl (cCons_of rfl (cCons_of (len_bD rfl) rfl))) (mix_eq hd (by decide) hb.one))).trans (show _ = SR.nx (mE ns ds g b w (some (.v (nD (mixOf ds 1 b.length)))) x11 x12 x13 x14 x15 x16 x17) from rfl)
  generalize mixOf ds 1 b.length = k at *
  have a1 : cBin dIx (cVarB 3) (cVar 10) (mE ns ds g b w (some (.v (nD k))) x11 x12 x13 x14 x15 x16 x17) = .ok (tD (b.getD k [])) := cBin_of (a := bD b) (b := nD k) rfl rfl (book_at hk)
  have s6 := (sSet_of (i := 11) (ρ := mE ns ds g b w (some (.v (nD k))) x11 x12 x13 x14 x15 x16 x17) (f := cCallF f_l_lies (cCons (cBin dIx (cVarB 3) (cVar 10)) (cCons (cVar 2) cNil))) (cCallF_of (ds := [tD (b.getD k []), nD g]) (cCons_of a1 (cCons_of rfl rfl)) (law_lies_eq hm.2.1 (hb.at hk)))).trans (show _ = SR.nx (mE ns ds g b w (some (.v (nD k))) (some (.v (bD (liesOf (2 ^ g) (b.getD k []))))) x12 x13 x14 x15 x16 x17) from rfl)
  obtain ⟨W, ⟨w3, w100⟩, hW, eW⟩ := lies_of (ns := ns) hb hm w hk (x12 := x12) (x13 := x13) (x14 := x14) (x15 := x15) (x16 := x16) (x17 := x17) hd
  have s7 := (sSet_of (i := 12) eW).trans (show _ = SR.nx (mE ns ds g b w (some (.v (nD k))) (some (.v (bD (liesOf (2 ^ g) (b.getD k []))))) (some (.v (bD W))) x13 x14 x15 x16 x17) from rfl)
  have s8 := (sSet_of (i := 13) (more_eq (ns := ns) (ds := ds) hb hm w hk hW w100 (x13 := x13) (x14 := x14) (x15 := x15) (x16 := x16) (x17 := x17))).trans (show _ = SR.nx (kE ns ds g b w k W x14 x15 x16 x17) from rfl)
  have s9 := sIf_false (g1 := sRet (cK (.bool false))) (g2 := sNext) (c3_ff (ns := ns) (ds := ds) hb hm w hk hW w100 (x14 := x14) (x15 := x15) (x16 := x16) (x17 := x17)) rfl
  have s10 := sIf_false (g1 := sRet (cK (.bool false))) (g2 := sNext) (c4_ff (ns := ns) (ds := ds) (g := g) w hk w100 (x14 := x14) (x15 := x15) (x16 := x16) (x17 := x17)) rfl
  have s11 := (sSet_of (i := 14) (good_eq (ns := ns) (ds := ds) (g := g) (b := b) (k := k) w w100 (x14 := x14) (x15 := x15) (x16 := x16) (x17 := x17))).trans (show _ = SR.nx (kE ns ds g b w k W (some (.v (.list (goodL (2 ^ g) b k w W)))) x15 x16 x17) from rfl)
  have s12 := sIf_false (g1 := sRet (cK (.bool false))) (g2 := sNext) (c5_ff (ns := ns) (ds := ds) hb w hk hW w100 (x15 := x15) (x16 := x16) (x17 := x17)) rfl
  have s13 := sIf_false (g1 := sRet (cK (.bool false))) (g2 := sNext) (c6_ff (ns := ns) (ds := ds) hb hm w hk (W := W) (x14 := some (.v (.list (goodL (2 ^ g) b k w W)))) (x15 := x15) (x16 := x16) (x17 := x17)) rfl
  obtain ⟨y15, y16, y17, s14⟩ := pair_step (ns := ns) (ds := ds) hb hm w hk hW (by omega) (x14 := some (.v (.list (goodL (2 ^ g) b k w W)))) (x15 := x15) (x16 := x16) (x17 := x17)
  exact ⟨_, _, _, _, _, _, _, _, _, _, sSeq_nx s1 (sSeq_nx s2 (sSeq_nx s3 (sSeq_nx s4 (sSeq_nx s5 (sSeq_nx s6 (sSeq_nx s7 (sSeq_nx s8 (sSeq_nx s9 (sSeq_nx s10 (sSeq_nx s11 (sSeq_nx s12 (sSeq_nx s13 s14))))))))))))⟩
include hb hm hd in
theorem words_loop : ∃ y5 y8 y9 y10 y11 y12 y13 y14 y15 y16 y17, loopL (gN 5) lw_word [.str "fair", .str "bid", .str "none"] (vE ns ds g b none none none none none none none none none none none) = .nx (vE ns ds g b y5 y8 y9 y10 y11 y12 y13 y14 y15 y16 y17) := by
  obtain ⟨ρ2, e, y5, y8, y9, y10, y11, y12, y13, y14, y15, y16, y17, rfl⟩ := loopL_inv (P := fun ρ => ∃ y5 y8 y9 y10 y11 y12 y13 y14 y15 y16 y17, ρ = vE ns ds g b y5 y8 y9 y10 y11 y12 y13 y14 y15 y16 y17) (tgt := gN 5) (body := lw_word) (ds := [Wd.fair, Wd.bid, Wd.non].map Wd.d) (ρ := vE ns ds g b none none none none none none none none none none none) (fun d hd' ρ hρ => by
    obtain ⟨w, _, rfl⟩ := List.mem_map.mp hd'
    obtain ⟨y5, y8, y9, y10, y11, y12, y13, y14, y15, y16, y17, rfl⟩ := hρ
    obtain ⟨z8, z9, z10, z11, z12, z13, z14, z15, z16, z17, e⟩ := word_step (ns := ns) hb hm hd w y8 y9 y10 y11 y12 y13 y14 y15 y16 y17
    exact ⟨_, _, rfl, e, _, _, _, _, _, _, _, _, _, _, _, rfl⟩) ⟨_, _, _, _, _, _, _, _, _, _, _, rfl⟩
  exact ⟨y5, y8, y9, y10, y11, y12, y13, y14, y15, y16, y17, e⟩
include hb hm in
theorem best_eq : f_best [bD b] = .ok (.tuple [shD (C.pick b (2 ^ g - 1)), .int (C.best b (2 ^ g - 1))]) := by
  unfold f_best g_best
  refine runF_of rfl ?_
  have q0 : sExpr (cCallF f_check_book (cCons (cVar 0) cNil)) (enter 1 1 [bD b]) = .nx (enter 1 1 [bD b]) := sExpr_of (cCallF1_of (d := bD b) rfl (check_book_eq hb.ok hb.one hb.six))
  exact (congrArg SR.out (sSeq_nx q0 rfl)).trans (sRet_of (cCallF1_of (d := bD b) rfl (hb.book.best hm.le hb.n0 hb.ne)))
include hb hm in
theorem end_tt {y5 y8 y9 y10 y11 y12 y13 y14 y15 y16 y17 : Option Sl} : lw_end (vE ns ds g b y5 y8 y9 y10 y11 y12 y13 y14 y15 y16 y17) = .ok (.bool true) := by
  have hf := fine_book hb.ok hm.1.2
  exact cAndV_tt (cBin_of (cCallF1_of (d := bD b) rfl (best_eq hb hm)) (cTup2_of rfl rfl) (eq_pair _ _)) (cAndV_tt (cBin_of (cUn_of (a := bD b) rfl (hf.repr (by omega) (by omega))) rfl (eq_self hf.text.1 hf.text.2)) (cAndV_tt (cCallF_of (ds := []) rfl shown_eq) (cCallF_of (ds := []) rfl faults_eq)))
end
abbrev e0 (ns : List Int) (ds : List Nat) (x2 x3 x4 : Option Sl) : En := [some (.sc ns), some (.v (.list (ds.map nD))), x2, x3, x4, none, none, none, none, none, none, none, none, none, none, none, none, none, none, none, none]
theorem good : ∀ ns : List Int, ns.length ≤ 63 → f_law ns = .ok (.bool true) := by
  intro ns hn
  obtain ⟨ds, hd1, ed⟩ := draws_eq ns hn
  have hd : Draws ds := ⟨hd1.1, hd1.2⟩
  have m0 := mix_lt ds 0 (m := 3) (by decide)
  have q1 : sSet 1 (cCallS 0 f_l_draws) (some (.sc ns) :: List.replicate 20 none) = .nx (e0 ns ds none none none) := (sSet_of (cCallS_of (i := 0) (F := f_l_draws) rfl ed)).trans rfl
  have q2 : sSet 2 (cBin dAdd (cK (.int 1)) (cCallF f_l_mix (cCons (cVar 1) (cCons (cK (.int 0)) (cCons (cK (.int 3)) cNil))))) (e0 ns ds none none none) = .nx (e0 ns ds (some (.v (nD (1 + mixOf ds 0 3)))) none none) := (sSet_of (cBin_of (a := nD 1) rfl (cCallF_of (ds := [.list (ds.map nD), nD 0, nD 3]) rfl (mix_eq hd (by decide) (by decide))) (add_nat _ _))).trans rfl
  have hg : 1 ≤ 1 + mixOf ds 0 3 ∧ 1 + mixOf ds 0 3 ≤ 3 := by omega
  generalize 1 + mixOf ds 0 3 = g at *
  have hg4 : 1 ≤ g ∧ g ≤ 4 := by omega
  obtain ⟨b, hbl, hbt, eb⟩ := book_eq (ds := ds) (g := g) (first := 10) (most := 4) hd hg4 (by decide) (by decide) (by decide)
  have mb := mix_lt ds (10 + 400) (m := 4) (by decide)
  have hm : Few b.length g := ⟨by omega, hg4, by omega⟩
  have hb : Bok (2 ^ g) b := ⟨⟨rfl, fun t ht => (hbt t ht).tbl⟩, by omega, by omega⟩
  have hf := fine_book hb.ok hm.1.2
  have q3 : sSet 3 (cCallF f_l_book (cCons (cVar 1) (cCons (cK (.int 10)) (cCons (cK (.int 4)) (cCons (cVar 2) cNil))))) (e0 ns ds (some (.v (nD g))) none none) = .nx (e0 ns ds (some (.v (nD g))) (some (.v (bD b))) none) := (sSet_of (cCallF_of (ds := [.list (ds.map nD), nD 10, nD 4, nD g]) rfl eb)).trans rfl
  have q4 : sSet 4 (cUn dRepr (cVar 3)) (e0 ns ds (some (.v (nD g))) (some (.v (bD b))) none) = .nx (e0 ns ds (some (.v (nD g))) (some (.v (bD b))) (some (.v (.str (bD b).shown)))) := (sSet_of (cUn_of (a := bD b) rfl (hf.repr (by omega) (by omega)))).trans rfl
  have q5 : sAsg (gT (gC (gN 6) (gC (gN 7) gE))) (cCallF f_l_best (cCons (cVar 3) (cCons (cVar 2) cNil))) (e0 ns ds (some (.v (nD g))) (some (.v (bD b))) (some (.v (.str (bD b).shown)))) = .nx (vE ns ds g b none none none none none none none none none none none) := sAsg_of (cCallF_of (ds := [bD b, nD g]) rfl (law_best_eq hb.book hm)) rfl
  obtain ⟨y5, y8, y9, y10, y11, y12, y13, y14, y15, y16, y17, e6⟩ := words_loop (ns := ns) hb hm hd
  have q6 := sFor_of (l := cItems (cList (cCons (cK (.str "fair")) (cCons (cK (.str "bid")) (cCons (cK (.str "none")) cNil))))) (ρ := vE ns ds g b none none none none none none none none none none none) (cItems_of (by rfl)) e6
  unfold f_law g_law runS
  exact (congrArg SR.out (sSeq_nx q1 (sSeq_nx q2 (sSeq_nx q3 (sSeq_nx q4 (sSeq_nx q5 (sSeq_nx q6 rfl))))))).trans (sRet_of (end_tt hb hm))
end K04

namespace K04
open PySem PySem.Spec PyProof.Rows L2 G
set_option maxHeartbeats 4000000
def top (i : Nat) : Stmt := PySem.Challenge.pw_truebidsbest_k04_main_no_lie_ever_pays.main.body.getD i (.Pass ⟨0, 0, 0, 0⟩)
abbrev s_inner : Stmt := top 8
theorem sc_inner : FnScope ["tree"] ["tree"] (defScope s_inner) := ⟨rfl, rfl, rfl, by decide +kernel, rfl, by decide +kernel, by decide +kernel⟩
abbrev s_number_of : Stmt := top 12
theorem sc_number_of : FnScope ["bundle", "good"] ["bundle"] (defScope s_number_of) := ⟨rfl, rfl, rfl, by decide +kernel, rfl, by decide +kernel, by decide +kernel⟩
abbrev s_bundle_of : Stmt := top 13
theorem sc_bundle_of : FnScope ["number", "found", "rest", "good"] ["number"] (defScope s_bundle_of) := ⟨rfl, rfl, rfl, by decide +kernel, rfl, by decide +kernel, by decide +kernel⟩
abbrev s_within : Stmt := top 14
theorem sc_within : FnScope ["one", "two", "a", "b"] ["one", "two"] (defScope s_within) := ⟨rfl, rfl, rfl, by decide +kernel, rfl, by decide +kernel, by decide +kernel⟩
abbrev s_parts_of : Stmt := top 15
theorem sc_parts_of : FnScope ["number", "part"] ["number"] (defScope s_parts_of) := ⟨rfl, rfl, rfl, by decide +kernel, rfl, by decide +kernel, by decide +kernel⟩
abbrev s_together : Stmt := top 16
theorem sc_together : FnScope ["one", "two", "whole", "part"] ["one", "two"] (defScope s_together) := ⟨rfl, rfl, rfl, by decide +kernel, rfl, by decide +kernel, by decide +kernel⟩
abbrev s_most_of : Stmt := top 17
theorem sc_most_of : FnScope ["tables", "number", "told"] ["tables"] (defScope s_most_of) := ⟨rfl, rfl, rfl, by decide +kernel, rfl, by decide +kernel, by decide +kernel⟩
abbrev s_up_to : Stmt := top 18
theorem sc_up_to : FnScope ["tables", "many", "rows", "told", "more", "k", "joined"] ["tables", "many"] (defScope s_up_to) := ⟨rfl, rfl, rfl, by decide +kernel, rfl, by decide +kernel, by decide +kernel⟩
abbrev s_worths : Stmt := top 19
theorem sc_worths : FnScope ["tree", "goods", "tables", "number", "told", "whole"] ["tree", "goods"] (defScope s_worths) := ⟨rfl, rfl, rfl, by decide +kernel, rfl, by decide +kernel, by decide +kernel⟩
abbrev s_is_table : Stmt := top 20
theorem sc_is_table : FnScope ["table", "number", "good"] ["table"] (defScope s_is_table) := ⟨rfl, rfl, rfl, by decide +kernel, rfl, by decide +kernel, by decide +kernel⟩
abbrev s_check_table : Stmt := top 21
theorem sc_check_table : FnScope ["table"] ["table"] (defScope s_check_table) := ⟨rfl, rfl, rfl, by decide +kernel, rfl, by decide +kernel, by decide +kernel⟩
abbrev s_goods_in : Stmt := top 22
theorem sc_goods_in : FnScope ["table"] ["table"] (defScope s_goods_in) := ⟨rfl, rfl, rfl, by decide +kernel, rfl, by decide +kernel, by decide +kernel⟩
abbrev s_normal : Stmt := top 23
theorem sc_normal : FnScope ["table", "found", "number", "bundle", "good"] ["table"] (defScope s_normal) := ⟨rfl, rfl, rfl, by decide +kernel, rfl, by decide +kernel, by decide +kernel⟩
abbrev s_tree_of : Stmt := top 24
theorem sc_tree_of : FnScope ["pairs", "bundle", "worth"] ["pairs"] (defScope s_tree_of) := ⟨rfl, rfl, rfl, by decide +kernel, rfl, by decide +kernel, by decide +kernel⟩
abbrev s_check_book : Stmt := top 27
theorem sc_check_book : FnScope ["book", "k", "table"] ["book"] (defScope s_check_book) := ⟨rfl, rfl, rfl, by decide +kernel, rfl, by decide +kernel, by decide +kernel⟩
abbrev s_most_at : Stmt := top 28
theorem sc_most_at : FnScope ["table", "other", "whole", "part"] ["table", "other", "whole"] (defScope s_most_at) := ⟨rfl, rfl, rfl, by decide +kernel, rfl, by decide +kernel, by decide +kernel⟩
abbrev s_rests : Stmt := top 29
theorem sc_rests : FnScope ["book", "rows", "table", "after", "whole"] ["book"] (defScope s_rests) := ⟨rfl, rfl, rfl, by decide +kernel, rfl, by decide +kernel, by decide +kernel⟩
abbrev s_best_of : Stmt := top 30
theorem sc_best_of : FnScope ["book", "rows", "left", "share", "k", "table", "good", "part"] ["book"] (defScope s_best_of) := ⟨rfl, rfl, rfl, by decide +kernel, rfl, by decide +kernel, by decide +kernel⟩
abbrev s_best : Stmt := top 31
theorem sc_best : FnScope ["book"] ["book"] (defScope s_best) := ⟨rfl, rfl, rfl, by decide +kernel, rfl, by decide +kernel, by decide +kernel⟩
abbrev s_sum_without : Stmt := top 32
theorem sc_sum_without : FnScope ["book", "bidder", "rest"] ["book", "bidder"] (defScope s_sum_without) := ⟨rfl, rfl, rfl, by decide +kernel, rfl, by decide +kernel, by decide +kernel⟩
abbrev s_check_word : Stmt := top 35
theorem sc_check_word : FnScope ["book", "word"] ["book", "word"] (defScope s_check_word) := ⟨rfl, rfl, rfl, by decide +kernel, rfl, by decide +kernel, by decide +kernel⟩
abbrev s_paid_by : Stmt := top 36
theorem sc_paid_by : FnScope ["book", "share", "whole", "bidder", "word", "own"] ["book", "share", "whole", "bidder", "word"] (defScope s_paid_by) := ⟨rfl, rfl, rfl, by decide +kernel, rfl, by decide +kernel, by decide +kernel⟩
abbrev s_all_paid : Stmt := top 37
theorem sc_all_paid : FnScope ["book", "word", "share", "whole", "bidder"] ["book", "word"] (defScope s_all_paid) := ⟨rfl, rfl, rfl, by decide +kernel, rfl, by decide +kernel, by decide +kernel⟩
abbrev s_payments : Stmt := top 38
theorem sc_payments : FnScope ["book", "word"] ["book", "word"] (defScope s_payments) := ⟨rfl, rfl, rfl, by decide +kernel, rfl, by decide +kernel, by decide +kernel⟩
abbrev s_gain_of : Stmt := top 39
theorem sc_gain_of : FnScope ["book", "truth", "bidder", "word", "share", "whole"] ["book", "truth", "bidder", "word"] (defScope s_gain_of) := ⟨rfl, rfl, rfl, by decide +kernel, rfl, by decide +kernel, by decide +kernel⟩
abbrev s_with_lie : Stmt := top 40
theorem sc_with_lie : FnScope ["book", "bidder", "lie"] ["book", "bidder", "lie"] (defScope s_with_lie) := ⟨rfl, rfl, rfl, by decide +kernel, rfl, by decide +kernel, by decide +kernel⟩
abbrev s_check_lies : Stmt := top 41
theorem sc_check_lies : FnScope ["book", "bidder", "word", "lies", "k", "lie"] ["book", "bidder", "word", "lies"] (defScope s_check_lies) := ⟨rfl, rfl, rfl, by decide +kernel, rfl, by decide +kernel, by decide +kernel⟩
abbrev s_gain : Stmt := top 42
theorem sc_gain : FnScope ["book", "bidder", "word", "lie"] ["book", "bidder", "word", "lie"] (defScope s_gain) := ⟨rfl, rfl, rfl, by decide +kernel, rfl, by decide +kernel, by decide +kernel⟩
abbrev s_gains : Stmt := top 43
theorem sc_gains : FnScope ["book", "word", "bidder", "table"] ["book", "word"] (defScope s_gains) := ⟨rfl, rfl, rfl, by decide +kernel, rfl, by decide +kernel, by decide +kernel⟩
abbrev s_income : Stmt := top 44
theorem sc_income : FnScope ["book", "word"] ["book", "word"] (defScope s_income) := ⟨rfl, rfl, rfl, by decide +kernel, rfl, by decide +kernel, by decide +kernel⟩
abbrev s_first_lie : Stmt := top 46
theorem sc_first_lie : FnScope ["book", "bidder", "word", "lies", "truth", "k", "lie", "more"] ["book", "bidder", "word", "lies"] (defScope s_first_lie) := ⟨rfl, rfl, rfl, by decide +kernel, rfl, by decide +kernel, by decide +kernel⟩
abbrev s_changed : Stmt := top 47
theorem sc_changed : FnScope ["pairs", "k", "worth"] ["pairs", "k", "worth"] (defScope s_changed) := ⟨rfl, rfl, rfl, by decide +kernel, rfl, by decide +kernel, by decide +kernel⟩
abbrev s_lies_about : Stmt := top 48
theorem sc_lies_about : FnScope ["table", "pairs", "found", "k", "told", "_", "worth", "lie"] ["table"] (defScope s_lies_about) := ⟨rfl, rfl, rfl, by decide +kernel, rfl, by decide +kernel, by decide +kernel⟩
abbrev s_together_gain : Stmt := top 49
theorem sc_together_gain : FnScope ["book", "one", "two", "word", "first", "second", "told", "truth", "k", "lie"] ["book", "one", "two", "word", "first", "second"] (defScope s_together_gain) := ⟨rfl, rfl, rfl, by decide +kernel, rfl, by decide +kernel, by decide +kernel⟩
abbrev s_l_draws : Stmt := top 51
theorem sc_l_draws : FnScope ["script", "draws", "k", "rest", "turn", "stirred"] ["script"] (defScope s_l_draws) := ⟨rfl, rfl, rfl, by decide +kernel, rfl, by decide +kernel, by decide +kernel⟩
abbrev s_l_mix : Stmt := top 52
theorem sc_l_mix : FnScope ["draws", "k", "many", "cell"] ["draws", "k", "many"] (defScope s_l_mix) := ⟨rfl, rfl, rfl, by decide +kernel, rfl, by decide +kernel, by decide +kernel⟩
abbrev s_l_subsets : Stmt := top 53
theorem sc_l_subsets : FnScope ["goods", "found", "good", "bundle"] ["goods"] (defScope s_l_subsets) := ⟨rfl, rfl, rfl, by decide +kernel, rfl, by decide +kernel, by decide +kernel⟩
abbrev s_l_at : Stmt := top 54
theorem sc_l_at : FnScope ["table", "bundle", "good"] ["table", "bundle"] (defScope s_l_at) := ⟨rfl, rfl, rfl, by decide +kernel, rfl, by decide +kernel, by decide +kernel⟩
abbrev s_l_drawn : Stmt := top 55
theorem sc_l_drawn : FnScope ["draws", "k", "goods", "subsets", "single", "kind", "told", "found", "j", "bundle", "below", "worth", "good", "one"] ["draws", "k", "goods"] (defScope s_l_drawn) := ⟨rfl, rfl, rfl, by decide +kernel, rfl, by decide +kernel, by decide +kernel⟩
abbrev s_l_book : Stmt := top 56
theorem sc_l_book : FnScope ["draws", "first", "most", "goods", "t"] ["draws", "first", "most", "goods"] (defScope s_l_book) := ⟨rfl, rfl, rfl, by decide +kernel, rfl, by decide +kernel, by decide +kernel⟩
abbrev s_l_shares : Stmt := top 57
theorem sc_l_shares : FnScope ["bidders", "goods", "found", "good", "more", "share", "k"] ["bidders", "goods"] (defScope s_l_shares) := ⟨rfl, rfl, rfl, by decide +kernel, rfl, by decide +kernel, by decide +kernel⟩
abbrev s_l_numbers : Stmt := top 58
theorem sc_l_numbers : FnScope ["share", "bundle", "good"] ["share"] (defScope s_l_numbers) := ⟨rfl, rfl, rfl, by decide +kernel, rfl, by decide +kernel, by decide +kernel⟩
abbrev s_l_sum : Stmt := top 59
theorem sc_l_sum : FnScope ["book", "share", "k"] ["book", "share"] (defScope s_l_sum) := ⟨rfl, rfl, rfl, by decide +kernel, rfl, by decide +kernel, by decide +kernel⟩
abbrev s_l_best : Stmt := top 60
theorem sc_l_best : FnScope ["book", "goods", "first", "share", "row"] ["book", "goods"] (defScope s_l_best) := ⟨rfl, rfl, rfl, by decide +kernel, rfl, by decide +kernel, by decide +kernel⟩
abbrev s_l_paid : Stmt := top 61
theorem sc_l_paid : FnScope ["book", "goods", "word", "found", "k", "share", "whole", "own", "fair"] ["book", "goods", "word"] (defScope s_l_paid) := ⟨rfl, rfl, rfl, by decide +kernel, rfl, by decide +kernel, by decide +kernel⟩
abbrev s_l_gain : Stmt := top 62
theorem sc_l_gain : FnScope ["book", "truth", "goods", "k", "word"] ["book", "truth", "goods", "k", "word"] (defScope s_l_gain) := ⟨rfl, rfl, rfl, by decide +kernel, rfl, by decide +kernel, by decide +kernel⟩
abbrev s_l_lies : Stmt := top 63
theorem sc_l_lies : FnScope ["table", "goods", "subsets", "pairs", "bundle", "found", "k", "worth", "told", "some", "lie", "good", "one", "part", "number"] ["table", "goods"] (defScope s_l_lies) := ⟨rfl, rfl, rfl, by decide +kernel, rfl, by decide +kernel, by decide +kernel⟩
abbrev s_l_with : Stmt := top 64
theorem sc_l_with : FnScope ["book", "k", "table"] ["book", "k", "table"] (defScope s_l_with) := ⟨rfl, rfl, rfl, by decide +kernel, rfl, by decide +kernel, by decide +kernel⟩
abbrev s_l_fault : Stmt := top 65
theorem sc_l_fault : FnScope ["way", "book", "word", "k", "table", "e"] ["way", "book", "word", "k", "table"] (defScope s_l_fault) := ⟨rfl, rfl, rfl, by decide +kernel, rfl, by decide +kernel, by decide +kernel⟩
abbrev s_l_faults : Stmt := top 66
theorem sc_l_faults : FnScope ["good", "way", "k"] [] (defScope s_l_faults) := ⟨rfl, rfl, rfl, by decide +kernel, rfl, by decide +kernel, by decide +kernel⟩
abbrev s_l_shown : Stmt := top 67
theorem sc_l_shown : FnScope ["one", "three"] [] (defScope s_l_shown) := ⟨rfl, rfl, rfl, by decide +kernel, rfl, by decide +kernel, by decide +kernel⟩
abbrev s_law : Stmt := top 68
theorem sc_law : FnScope ["script", "draws", "goods", "book", "kept", "word", "share", "whole", "paid_there", "mine", "k", "about", "lies", "more", "good", "j", "both", "due", "lie", "t", "one"] ["script"] (defScope s_law) := ⟨rfl, rfl, rfl, by decide +kernel, rfl, by decide +kernel, by decide +kernel⟩
structure Txt (P : Program) (K : Frg) (mg : MgT) : Prop where
  d_inner : DefG K mg "inner" s_inner ["tree"]
  d_number_of : DefG K mg "number_of" s_number_of ["bundle"]
  d_bundle_of : DefG K mg "bundle_of" s_bundle_of ["number"]
  d_within : DefG K mg "within" s_within ["one", "two"]
  d_parts_of : DefG K mg "parts_of" s_parts_of ["number"]
  d_together : DefG K mg "together" s_together ["one", "two"]
  d_most_of : DefG K mg "most_of" s_most_of ["tables"]
  d_up_to : DefG K mg "up_to" s_up_to ["tables", "many"]
  d_worths : DefG K mg "worths" s_worths ["tree", "goods"]
  d_is_table : DefG K mg "is_table" s_is_table ["table"]
  d_check_table : DefG K mg "check_table" s_check_table ["table"]
  d_goods_in : DefG K mg "goods_in" s_goods_in ["table"]
  d_normal : DefG K mg "normal" s_normal ["table"]
  d_tree_of : DefG K mg "tree_of" s_tree_of ["pairs"]
  d_check_book : DefG K mg "check_book" s_check_book ["book"]
  d_most_at : DefG K mg "most_at" s_most_at ["table", "other", "whole"]
  d_rests : DefG K mg "rests" s_rests ["book"]
  d_best_of : DefG K mg "best_of" s_best_of ["book"]
  d_best : DefG K mg "best" s_best ["book"]
  d_sum_without : DefG K mg "sum_without" s_sum_without ["book", "bidder"]
  d_check_word : DefG K mg "check_word" s_check_word ["book", "word"]
  d_paid_by : DefG K mg "paid_by" s_paid_by ["book", "share", "whole", "bidder", "word"]
  d_all_paid : DefG K mg "all_paid" s_all_paid ["book", "word"]
  d_payments : DefG K mg "payments" s_payments ["book", "word"]
  d_gain_of : DefG K mg "gain_of" s_gain_of ["book", "truth", "bidder", "word"]
  d_with_lie : DefG K mg "with_lie" s_with_lie ["book", "bidder", "lie"]
  d_check_lies : DefG K mg "check_lies" s_check_lies ["book", "bidder", "word", "lies"]
  d_gain : DefG K mg "gain" s_gain ["book", "bidder", "word", "lie"]
  d_gains : DefG K mg "gains" s_gains ["book", "word"]
  d_income : DefG K mg "income" s_income ["book", "word"]
  d_first_lie : DefG K mg "first_lie" s_first_lie ["book", "bidder", "word", "lies"]
  d_changed : DefG K mg "changed" s_changed ["pairs", "k", "worth"]
  d_lies_about : DefG K mg "lies_about" s_lies_about ["table"]
  d_together_gain : DefG K mg "together_gain" s_together_gain ["book", "one", "two", "word", "first", "second"]
  d_l_draws : DefG K mg "_law_draws" s_l_draws ["script"]
  d_l_mix : DefG K mg "_law_mix" s_l_mix ["draws", "k", "many"]
  d_l_subsets : DefG K mg "_law_subsets" s_l_subsets ["goods"]
  d_l_at : DefG K mg "_law_at" s_l_at ["table", "bundle"]
  d_l_drawn : DefG K mg "_law_drawn" s_l_drawn ["draws", "k", "goods"]
  d_l_book : DefG K mg "_law_book" s_l_book ["draws", "first", "most", "goods"]
  d_l_shares : DefG K mg "_law_shares" s_l_shares ["bidders", "goods"]
  d_l_numbers : DefG K mg "_law_numbers" s_l_numbers ["share"]
  d_l_sum : DefG K mg "_law_sum" s_l_sum ["book", "share"]
  d_l_best : DefG K mg "_law_best" s_l_best ["book", "goods"]
  d_l_paid : DefG K mg "_law_paid" s_l_paid ["book", "goods", "word"]
  d_l_gain : DefG K mg "_law_gain" s_l_gain ["book", "truth", "goods", "k", "word"]
  d_l_lies : DefG K mg "_law_lies" s_l_lies ["table", "goods"]
  d_l_with : DefG K mg "_law_with" s_l_with ["book", "k", "table"]
  d_l_fault : DefG K mg "_law_fault" s_l_fault ["way", "book", "word", "k", "table"]
  d_l_faults : DefG K mg "_law_faults" s_l_faults []
  d_l_shown : DefG K mg "_law_shown" s_l_shown []
  d_law : DefG K mg "law" s_law ["script"]
  n_sum : mg "sum" = none
  n_tuple : mg "tuple" = none
  n_range : mg "range" = none
  n_len : mg "len" = none
  n_max : mg "max" = none
  n_list : mg "list" = none
  n_min : mg "min" = none
  n_enumerate : mg "enumerate" = none
  n_abs : mg "abs" = none
  n_int : mg "int" = none
  n_sorted : mg "sorted" = none
  n_repr : mg "repr" = none
  c_POWERS : GTup K mg "POWERS" [(.int 1), (.int 2), (.int 4), (.int 8), (.int 16), (.int 32), (.int 64)]
  c_LENGTHS : GTup K mg "LENGTHS" [(.int 2), (.int 4), (.int 8), (.int 16), (.int 32), (.int 64)]
  c_MOST_WORTH : GInt mg "MOST_WORTH" 1000000
  c_MOST_BIDDERS : GInt mg "MOST_BIDDERS" 6
  c_WORDS : GTup K mg "WORDS" [(.str "fair"), (.str "bid"), (.str "none")]
  i_LENGTHS : GTupI K mg "LENGTHS" [2, 4, 8, 16, 32, 64]
  x_BadTable : ErrG P K mg "BadTable"
  x_BadBook : ErrG P K mg "BadBook"
  x_BadWord : ErrG P K mg "BadWord"
  x_BadBidder : ErrG P K mg "BadBidder"
  m_BadWord_BadBidder : ExM P K mg "BadWord" "BadBidder" false
  m_BadBidder_BadBidder : ExM P K mg "BadBidder" "BadBidder" true
  m_BadBook_BadBidder : ExM P K mg "BadBook" "BadBidder" false
  m_BadTable_BadBidder : ExM P K mg "BadTable" "BadBidder" false
  m_BadWord_BadWord : ExM P K mg "BadWord" "BadWord" true
  m_BadBidder_BadWord : ExM P K mg "BadBidder" "BadWord" false
  m_BadBook_BadWord : ExM P K mg "BadBook" "BadWord" false
  m_BadTable_BadWord : ExM P K mg "BadTable" "BadWord" false
  m_BadWord_BadTable : ExM P K mg "BadWord" "BadTable" false
  m_BadBidder_BadTable : ExM P K mg "BadBidder" "BadTable" false
  m_BadBook_BadTable : ExM P K mg "BadBook" "BadTable" false
  m_BadTable_BadTable : ExM P K mg "BadTable" "BadTable" true
  m_BadWord_BadBook : ExM P K mg "BadWord" "BadBook" false
  m_BadBidder_BadBook : ExM P K mg "BadBidder" "BadBook" false
  m_BadBook_BadBook : ExM P K mg "BadBook" "BadBook" true
  m_BadTable_BadBook : ExM P K mg "BadTable" "BadBook" false
section
variable {P : Program} {w : World} {K : Frg} {mg : MgT} {base : Heap}
theorem ok_inner (T : Txt P K mg) : CallG P w K mg base 1 "inner" (runF 1 1 g_inner) := T.d_inner.call sc_inner rfl rfl fun f cdv A outer s H E hr hg =>
  (fss_cons (fs_if (ft_cmp (do_eq hr.units) (fb_of (fe_ix (hu_of hr) (fb_var (pv 0)) fe_int (fun _ _ => rfl))) (fb_of fe_str) (by rfl))
    (fss_one (fs_ret (fe_tup fa_nil)))
    fss_nil)
    (fss_one (fs_ret (fe_if (ft_cmp (do_eq hr.units) (fb_of (fe_ix (hu_of hr) (fb_var (pv 0)) fe_int (fun _ _ => rfl))) (fb_of fe_str) (by rfl)) (fe_ix (hu_of hr) (fb_var (pv 0)) fe_int (fun _ _ => rfl)) (fe_ix (hu_of hr) (fb_var (pv 0)) fe_int (fun _ _ => rfl))))))
theorem ok_number_of (T : Txt P K mg) : CallG P w K mg base 1 "number_of" (runF 2 1 g_number_of) := T.d_number_of.call sc_number_of rfl rfl fun f cdv A outer s H E hr hg =>
  (fss_one (fs_ret (fe_callB (dc_sum rfl) rfl T.n_sum (by rfl) (fab_cons (fb_of (fe_of_fn (t := false) (fn_lc (t := false) (own := [("good", 1)]) (ix := [1]) rfl sc_number_of.nd (fi_items (fe_var (pv 0))) (blkOk_by (by kernel_rfl)) (fun _ _ _ _ _ => (fg_name (i := 1) sc_number_of.nd rfl (by first | exact Or.inl rfl | exact Or.inr rfl))) (by decide) (fun _ _ _ _ _ => fts_nil) (fun _ _ _ _ _ => (fe_ix (hu_of hr) (fb_gtup T.c_POWERS rfl) (fe_var (pv 1)) (fun _ _ => rfl)))))) fab_nil))))
theorem ok_bundle_of (T : Txt P K mg) : CallG P w K mg base 1 "bundle_of" (runF 4 1 g_bundle_of) := T.d_bundle_of.call sc_bundle_of rfl rfl fun f cdv A outer s H E hr hg =>
  (fss_cons (fs_setN (i := 1) sc_bundle_of.nd rfl (by first | exact Or.inl rfl | exact Or.inr rfl) (fn_list (t := false) fa_nil))
    (fss_cons (fs_set (i := 2) sc_bundle_of.nd rfl (by first | exact Or.inl rfl | exact Or.inr rfl) (fe_var (pv 0)))
    (fss_cons (fs_set (i := 3) sc_bundle_of.nd rfl (by first | exact Or.inl rfl | exact Or.inr rfl) fe_int)
    (fss_cons (fs_while (n := 100) bx_owns (ft_cmp do_gt (fb_var (pv 2)) (fb_of fe_int) (by rfl))
    (fss_cons (fs_if (ft_cmp (do_eq hr.units) (fb_of (fe_op do_mod (fb_var (pv 2)) (fb_of fe_int))) (fb_of fe_int) (by rfl))
    (fss_one (fs_append (pv 1) (fe_var (pv 3))))
    fss_nil)
    (fss_cons (fs_set (i := 2) sc_bundle_of.nd rfl (by first | exact Or.inl rfl | exact Or.inr rfl) (fe_op do_div (fb_var (pv 2)) (fb_of fe_int)))
    (fss_one (fs_set (i := 3) sc_bundle_of.nd rfl (by first | exact Or.inl rfl | exact Or.inr rfl) (fe_opE do_add (fe_var (pv 3)) fe_int))))))
    (fss_one (fs_ret (fe_callTyE dc_tuple rfl T.n_tuple (by rfl) (fa_cons (fe_var (pv 1)) fa_nil))))))))
theorem ok_within (T : Txt P K mg) : CallG P w K mg base 1 "within" (runF 4 2 g_within) := T.d_within.call sc_within rfl rfl fun f cdv A outer s H E hr hg =>
  (fss_cons (fs_par (i := 2) (j := 3) rfl sc_within.nd rfl rfl (by decide) rfl rfl (fa_cons (fe_var (pv 0)) (fa_cons (fe_var (pv 1)) fa_nil)) rfl)
    (fss_cons (fs_while (n := 100) bx_owns (ft_cmp do_gt (fb_var (pv 2)) (fb_of fe_int) (by rfl))
    (fss_cons (fs_if (ft_cmp do_gt (fb_of (fe_op do_mod (fb_var (pv 2)) (fb_of fe_int))) (fb_of (fe_op do_mod (fb_var (pv 3)) (fb_of fe_int))) (by rfl))
    (fss_one (fs_ret fe_bl))
    fss_nil)
    (fss_one (fs_par (i := 2) (j := 3) rfl sc_within.nd rfl rfl (by decide) rfl rfl (fa_cons (fe_op do_div (fb_var (pv 2)) (fb_of fe_int)) (fa_cons (fe_op do_div (fb_var (pv 3)) (fb_of fe_int)) fa_nil)) rfl))))
    (fss_one (fs_ret fe_bl))))
theorem ok_parts_of (T : Txt P K mg) {F_within : List D → R D} (C_within : CallG P w K mg base 1 "within" F_within) : CallG P w K mg base 2 "parts_of" (runF 2 1 (g_parts_of F_within)) := T.d_parts_of.call sc_parts_of rfl rfl fun f cdv A outer s H E hr hg =>
  (fss_one (fs_ret (fe_of_fn (t := false) (fn_lc (t := false) (own := [("part", 1)]) (ix := [1]) rfl sc_parts_of.nd (fi_range1 rfl T.n_range (fab_cons (fb_of (fe_opE do_add (fe_var (pv 0)) fe_int)) fab_nil)) (blkOk_by (by kernel_rfl)) (fun _ _ _ _ _ => (fg_name (i := 1) sc_parts_of.nd rfl (by first | exact Or.inl rfl | exact Or.inr rfl))) (by decide) (fun _ _ _ _ _ => (fts_one (ft_val (fe_cl C_within (hr.mono (by decide)) hg takes0 rfl (fa_cons (fe_var (pv 1)) (fa_cons (fe_var (pv 0)) fa_nil)))))) (fun _ _ _ _ _ => (fe_var (pv 1)))))))
theorem ok_together (T : Txt P K mg) {F_parts_of : List D → R D} (C_parts_of : CallG P w K mg base 2 "parts_of" F_parts_of) : CallG P w K mg base 3 "together" (runF 4 2 (g_together F_parts_of)) := T.d_together.call sc_together rfl rfl fun f cdv A outer s H E hr hg =>
  (fss_one (fs_ret (fe_of_fn (t := false) (fn_lc (t := false) (own := [("whole", 2)]) (ix := [2]) rfl sc_together.nd (fi_range1 rfl T.n_range (fab_cons (fb_of (fe_callB (dc_len) rfl T.n_len (by rfl) (fab_cons (fb_var (pv 0)) fab_nil))) fab_nil)) (blkOk_by (by kernel_rfl)) (fun _ _ _ _ _ => (fg_name (i := 2) sc_together.nd rfl (by first | exact Or.inl rfl | exact Or.inr rfl))) (by decide) (fun _ _ _ _ _ => fts_nil) (fun _ _ _ _ _ => (fe_callB (dc_max rfl) rfl T.n_max (by rfl) (fab_cons (fb_of (fe_of_fn (t := false) (fn_lc (t := false) (own := [("part", 3)]) (ix := [3]) rfl sc_together.nd (fi_items (fe_cl C_parts_of (hr.mono (by decide)) hg takes0 rfl (fa_cons (fe_var (pv 2)) fa_nil))) (blkOk_by (by kernel_rfl)) (fun _ _ _ _ _ => (fg_name (i := 3) sc_together.nd rfl (by first | exact Or.inl rfl | exact Or.inr rfl))) (by decide) (fun _ _ _ _ _ => fts_nil) (fun _ _ _ _ _ => (fe_opE do_add (fe_ix (hu_of hr) (fb_var (pv 0)) (fe_var (pv 3)) (fun _ _ => rfl)) (fe_ix (hu_of hr) (fb_var (pv 1)) (fe_op do_sub (fb_var (pv 2)) (fb_var (pv 3))) (fun _ _ => rfl))))))) fab_nil)))))))
theorem ok_most_of (T : Txt P K mg) : CallG P w K mg base 1 "most_of" (runF 3 1 g_most_of) := T.d_most_of.call sc_most_of rfl rfl fun f cdv A outer s H E hr hg =>
  (fss_one (fs_ret (fe_of_fn (t := false) (fn_lc (t := false) (own := [("number", 1)]) (ix := [1]) rfl sc_most_of.nd (fi_range1 rfl T.n_range (fab_cons (fb_of (fe_callB (dc_len) rfl T.n_len (by rfl) (fab_cons (fb_of (fe_ix (hu_of hr) (fb_var (pv 0)) fe_int (fun _ _ => rfl))) fab_nil))) fab_nil)) (blkOk_by (by kernel_rfl)) (fun _ _ _ _ _ => (fg_name (i := 1) sc_most_of.nd rfl (by first | exact Or.inl rfl | exact Or.inr rfl))) (by decide) (fun _ _ _ _ _ => fts_nil) (fun _ _ _ _ _ => (fe_callB (dc_max rfl) rfl T.n_max (by rfl) (fab_cons (fb_of (fe_of_fn (t := false) (fn_lc (t := false) (own := [("told", 2)]) (ix := [2]) rfl sc_most_of.nd (fi_items (fe_var (pv 0))) (blkOk_by (by kernel_rfl)) (fun _ _ _ _ _ => (fg_name (i := 2) sc_most_of.nd rfl (by first | exact Or.inl rfl | exact Or.inr rfl))) (by decide) (fun _ _ _ _ _ => fts_nil) (fun _ _ _ _ _ => (fe_ix (hu_of hr) (fb_var (pv 2)) (fe_var (pv 1)) (fun _ _ => rfl)))))) fab_nil)))))))
theorem ok_up_to (T : Txt P K mg) {F_together : List D → R D} {F_most_of : List D → R D} (C_together : CallG P w K mg base 3 "together" F_together) (C_most_of : CallG P w K mg base 1 "most_of" F_most_of) : CallG P w K mg base 4 "up_to" (runF 7 2 (g_up_to F_together F_most_of)) := T.d_up_to.call sc_up_to rfl rfl fun f cdv A outer s H E hr hg =>
  (fss_cons (fs_set (i := 2) sc_up_to.nd rfl (by first | exact Or.inl rfl | exact Or.inr rfl) (fe_of_fn (t := false) (fn_list (t := false) (fa_cons (fe_op do_mul (fb_of (fe_of_fn (t := false) (fn_list (t := false) (fa_cons fe_int fa_nil)))) (fb_of (fe_callB (dc_len) rfl T.n_len (by rfl) (fab_cons (fb_of (fe_ix (hu_of hr) (fb_var (pv 0)) fe_int (fun _ _ => rfl))) fab_nil)))) fa_nil))))
    (fss_cons (fs_for bx_owns rfl (fi_items (fe_var (pv 0))) (fg_name (i := 3) sc_up_to.nd rfl (by first | exact Or.inl rfl | exact Or.inr rfl))
    (fss_cons (fs_setN (i := 4) sc_up_to.nd rfl (by first | exact Or.inl rfl | exact Or.inr rfl) (fn_list (t := false) (fa_cons (fe_of_fn (t := false) (fn_callTy dc_list rfl T.n_list (by rfl) (fab_cons (fb_of (fe_ix (hu_of hr) (fb_var (pv 2)) fe_int (fun _ _ => rfl))) fab_nil))) fa_nil)))
    (fss_cons (fs_for bx_owns rfl (fi_range2 rfl T.n_range (fab_cons (fb_of fe_int) (fab_cons (fb_of (fe_opE do_add (fe_callB (dc_min2 rfl) rfl T.n_min (by rfl) (fab_cons (fb_var (pv 1)) (fab_cons (fb_of (fe_callB (dc_len) rfl T.n_len (by rfl) (fab_cons (fb_var (pv 2)) fab_nil))) fab_nil))) fe_int)) fab_nil))) (fg_name (i := 5) sc_up_to.nd rfl (by first | exact Or.inl rfl | exact Or.inr rfl))
    (fss_cons (fs_set (i := 6) sc_up_to.nd rfl (by first | exact Or.inl rfl | exact Or.inr rfl) (fe_cl C_together (hr.mono (by decide)) hg bx_takes rfl (fa_cons (fe_ix (hu_of hr) (fb_var (pv 2)) (fe_op do_sub (fb_var (pv 5)) (fb_of fe_int)) (fun _ _ => rfl)) (fa_cons (fe_var (pv 3)) fa_nil))))
    (fss_one (fs_append (pv 4) (fe_if (ft_cmp (do_lt hr.units) (fb_var (pv 5)) (fb_of (fe_callB (dc_len) rfl T.n_len (by rfl) (fab_cons (fb_var (pv 2)) fab_nil))) (by rfl)) (fe_cl C_most_of (hr.mono (by decide)) hg bx_takes rfl (fa_cons (fe_of_fn (t := false) (fn_list (t := false) (fa_cons (fe_ix (hu_of hr) (fb_var (pv 2)) (fe_var (pv 5)) (fun _ _ => rfl)) (fa_cons (fe_var (pv 6)) fa_nil)))) fa_nil)) (fe_var (pv 6)))))))
    (fss_one (fs_frz 4 (fs_set (i := 2) sc_up_to.nd rfl (by first | exact Or.inl rfl | exact Or.inr rfl) (fe_var (pv 4))))))))
    (fss_one (fs_ret (fe_cl C_most_of (hr.mono (by decide)) hg bx_takes rfl (fa_cons (fe_var (pv 2)) fa_nil))))))
theorem ok_worths (T : Txt P K mg) {F_number_of : List D → R D} {F_within : List D → R D} {F_inner : List D → R D} {F_worths : List D → R D} {F_most_of : List D → R D} {F_up_to : List D → R D} {j : Nat} (C_number_of : CallG P w K mg base 1 "number_of" F_number_of) (C_within : CallG P w K mg base 1 "within" F_within) (C_inner : CallG P w K mg base 1 "inner" F_inner) (C_worths : CallG P w K mg base (5 + j) "worths" F_worths) (C_most_of : CallG P w K mg base 1 "most_of" F_most_of) (C_up_to : CallG P w K mg base 4 "up_to" F_up_to) : CallG P w K mg base (5 + j + 1) "worths" (runF 6 2 (g_worths F_number_of F_within F_inner F_worths F_most_of F_up_to)) := T.d_worths.call sc_worths rfl rfl fun f cdv A outer s H E hr hg =>
  (fss_cons (fs_if (ft_cmp (do_eq hr.units) (fb_of (fe_ix (hu_of hr) (fb_var (pv 0)) fe_int (fun _ _ => rfl))) (fb_of fe_str) (by rfl))
    (fss_cons (fs_set (i := 3) sc_worths.nd rfl (by first | exact Or.inl rfl | exact Or.inr rfl) (fe_cl C_number_of (hr.mono (by omega)) hg bx_takes rfl (fa_cons (fe_ix (hu_of hr) (fb_var (pv 0)) fe_int (fun _ _ => rfl)) fa_nil)))
    (fss_one (fs_ret (fe_of_fn (t := false) (fn_lc (t := false) (own := [("whole", 5)]) (ix := [5]) rfl sc_worths.nd (fi_range1 rfl T.n_range (fab_cons (fb_of (fe_ix (hu_of hr) (fb_gtup T.c_POWERS rfl) (fe_var (pv 1)) (fun _ _ => rfl))) fab_nil)) (blkOk_by (by kernel_rfl)) (fun _ _ _ _ _ => (fg_name (i := 5) sc_worths.nd rfl (by first | exact Or.inl rfl | exact Or.inr rfl))) (by decide) (fun _ _ _ _ _ => fts_nil) (fun _ _ _ _ _ => (fe_if (ft_val (fe_cl C_within (hr.mono (by omega)) hg takes0 rfl (fa_cons (fe_var (pv 3)) (fa_cons (fe_var (pv 5)) fa_nil)))) (fe_ix (hu_of hr) (fb_var (pv 0)) fe_int (fun _ _ => rfl)) fe_int)))))))
    fss_nil)
    (fss_cons (fs_setLcV (i := 2) (own := [("told", 4)]) (ix := [4]) rfl sc_worths.nd rfl rfl (by rfl) (fi_items (fe_cl C_inner (hr.mono (by omega)) hg bx_takes rfl (fa_cons (fe_var (pv 0)) fa_nil))) (blkOk_by (by kernel_rfl)) (fun _ _ _ _ _ => (fg_name (i := 4) sc_worths.nd rfl (by first | exact Or.inl rfl | exact Or.inr rfl))) (by decide) (fun _ _ _ _ _ => fts_nil) (fun _ _ _ _ _ => (fe_cl C_worths (hr.mono (by omega)) hg takes0 rfl (fa_cons (fe_var (pv 4)) (fa_cons (fe_var (pv 1)) fa_nil)))))
    (fss_cons (fs_if (ft_cmp (do_eq hr.units) (fb_of (fe_ix (hu_of hr) (fb_var (pv 0)) fe_int (fun _ _ => rfl))) (fb_of fe_str) (by rfl))
    (fss_one (fs_ret (fe_cl C_most_of (hr.mono (by omega)) hg bx_takes rfl (fa_cons (fe_var (pv 2)) fa_nil))))
    fss_nil)
    (fss_one (fs_ret (fe_cl C_up_to (hr.mono (by omega)) hg bx_takes rfl (fa_cons (fe_var (pv 2)) (fa_cons (fe_if (ft_cmp (do_eq hr.units) (fb_of (fe_ix (hu_of hr) (fb_var (pv 0)) fe_int (fun _ _ => rfl))) (fb_of fe_str) (by rfl)) (fe_ix (hu_of hr) (fb_var (pv 0)) fe_int (fun _ _ => rfl)) (fe_callB (dc_len) rfl T.n_len (by rfl) (fab_cons (fb_var (pv 2)) fab_nil))) fa_nil))))))))
theorem ok_is_table (T : Txt P K mg) {F_bundle_of : List D → R D} (C_bundle_of : CallG P w K mg base 1 "bundle_of" F_bundle_of) : CallG P w K mg base 2 "is_table" (runF 3 1 (g_is_table F_bundle_of)) := T.d_is_table.call sc_is_table rfl rfl fun f cdv A outer s H E hr hg =>
  (fss_cons (fs_if (ft_w (fw_or (ft_inD (do_notin (units65 hr)) (fe_callB (dc_len) rfl T.n_len (by rfl) (fab_cons (fb_var (pv 0)) fab_nil)) (fb_gtup T.c_LENGTHS rfl) (by rfl)) (fw_or (ft_cmp (do_ne hr.units) (fb_of (fe_ix (hu_of hr) (fb_var (pv 0)) fe_int (fun _ _ => rfl))) (fb_of fe_int) (by rfl)) (fw_or1 (ft_not (ft_chain do_le do_le (fb_of fe_int) (fb_of (fe_ix (hu_of hr) (fb_var (pv 0)) (fe_un du_neg (fb_of fe_int)) (fun _ _ => rfl))) (fb_of (fe_gint T.c_MOST_WORTH rfl)) (by rfl)))))))
    (fss_one (fs_ret fe_bl))
    fss_nil)
    (fss_cons (fs_for bx_owns rfl (fi_range1 rfl T.n_range (fab_cons (fb_of (fe_callB (dc_len) rfl T.n_len (by rfl) (fab_cons (fb_var (pv 0)) fab_nil))) fab_nil)) (fg_name (i := 1) sc_is_table.nd rfl (by first | exact Or.inl rfl | exact Or.inr rfl))
    (fss_one (fs_for bx_owns rfl (fi_items (fe_cl C_bundle_of (hr.mono (by decide)) hg bx_takes rfl (fa_cons (fe_var (pv 1)) fa_nil))) (fg_name (i := 2) sc_is_table.nd rfl (by first | exact Or.inl rfl | exact Or.inr rfl))
    (fss_one (fs_if (ft_cmp do_gt (fb_of (fe_ix (hu_of hr) (fb_var (pv 0)) (fe_op do_sub (fb_var (pv 1)) (fb_of (fe_ix (hu_of hr) (fb_gtup T.c_POWERS rfl) (fe_var (pv 2)) (fun _ _ => rfl)))) (fun _ _ => rfl))) (fb_of (fe_ix (hu_of hr) (fb_var (pv 0)) (fe_var (pv 1)) (fun _ _ => rfl))) (by rfl))
    (fss_one (fs_ret fe_bl))
    fss_nil)))))
    (fss_one (fs_ret fe_bl))))
theorem ok_check_table (T : Txt P K mg) {F_is_table : List D → R D} (C_is_table : CallG P w K mg base 2 "is_table" F_is_table) : CallG P w K mg base 3 "check_table" (runF 1 1 (g_check_table F_is_table)) := T.d_check_table.call sc_check_table rfl rfl fun f cdv A outer s H E hr hg =>
  (fss_one (fs_if (ft_not (ft_val (fe_cl C_is_table (hr.mono (by decide)) hg bx_takes rfl (fa_cons (fe_var (pv 0)) fa_nil))))
    (fss_one (fs_raise (c := "BadTable") rfl T.x_BadTable rfl hr bx_takes rfl fe_int))
    fss_nil))
theorem ok_goods_in (T : Txt P K mg) : CallG P w K mg base 1 "goods_in" (runF 1 1 g_goods_in) := T.d_goods_in.call sc_goods_in rfl rfl fun f cdv A outer s H E hr hg =>
  (fss_one (fs_ret (fe_opE do_add (fe_idxK T.i_LENGTHS rfl (fe_callB (dc_len) rfl T.n_len (by rfl) (fab_cons (fb_var (pv 0)) fab_nil))) fe_int)))
theorem ok_normal (T : Txt P K mg) {F_check_table : List D → R D} {F_bundle_of : List D → R D} (C_check_table : CallG P w K mg base 3 "check_table" F_check_table) (C_bundle_of : CallG P w K mg base 1 "bundle_of" F_bundle_of) : CallG P w K mg base 4 "normal" (runF 5 1 (g_normal F_check_table F_bundle_of)) := T.d_normal.call sc_normal rfl rfl fun f cdv A outer s H E hr hg =>
  (fss_cons (fs_expr (fe_cl C_check_table (hr.mono (by decide)) hg bx_takes rfl (fa_cons (fe_var (pv 0)) fa_nil)))
    (fss_cons (fs_setN (i := 1) sc_normal.nd rfl (by first | exact Or.inl rfl | exact Or.inr rfl) (fn_list (t := false) fa_nil))
    (fss_cons (fs_for bx_owns rfl (fi_range2 rfl T.n_range (fab_cons (fb_of fe_int) (fab_cons (fb_of (fe_callB (dc_len) rfl T.n_len (by rfl) (fab_cons (fb_var (pv 0)) fab_nil))) fab_nil))) (fg_name (i := 2) sc_normal.nd rfl (by first | exact Or.inl rfl | exact Or.inr rfl))
    (fss_cons (fs_set (i := 3) sc_normal.nd rfl (by first | exact Or.inl rfl | exact Or.inr rfl) (fe_cl C_bundle_of (hr.mono (by decide)) hg bx_takes rfl (fa_cons (fe_var (pv 2)) fa_nil)))
    (fss_one (fs_if (ft_cmp do_gt (fb_of (fe_ix (hu_of hr) (fb_var (pv 0)) (fe_var (pv 2)) (fun _ _ => rfl))) (fb_of (fe_callB (dc_max rfl) rfl T.n_max (by rfl) (fab_cons (fb_of (fe_of_fn (t := false) (fn_lc (t := false) (own := [("good", 4)]) (ix := [4]) rfl sc_normal.nd (fi_items (fe_var (pv 3))) (blkOk_by (by kernel_rfl)) (fun _ _ _ _ _ => (fg_name (i := 4) sc_normal.nd rfl (by first | exact Or.inl rfl | exact Or.inr rfl))) (by decide) (fun _ _ _ _ _ => fts_nil) (fun _ _ _ _ _ => (fe_ix (hu_of hr) (fb_var (pv 0)) (fe_op do_sub (fb_var (pv 2)) (fb_of (fe_ix (hu_of hr) (fb_gtup T.c_POWERS rfl) (fe_var (pv 4)) (fun _ _ => rfl)))) (fun _ _ => rfl)))))) fab_nil))) (by rfl))
    (fss_one (fs_append (pv 1) (fe_tup (fa_cons (fe_var (pv 3)) (fa_cons (fe_ix (hu_of hr) (fb_var (pv 0)) (fe_var (pv 2)) (fun _ _ => rfl)) fa_nil)))))
    fss_nil))))
    (fss_one (fs_ret (fe_var (pv 1)))))))
theorem ok_tree_of (T : Txt P K mg) : CallG P w K mg base 1 "tree_of" (runF 3 1 g_tree_of) := T.d_tree_of.call sc_tree_of rfl rfl fun f cdv A outer s H E hr hg =>
  (fss_one (fs_ret (fe_tup (fa_cons fe_str (fa_cons (fe_callTyE dc_tuple rfl T.n_tuple (by rfl) (fa_cons (fe_of_fn (t := false) (fn_lc (t := false) (own := [("bundle", 1), ("worth", 2)]) (ix := [1, 2]) rfl sc_tree_of.nd (fi_items (fe_var (pv 0))) (blkOk_by (by kernel_rfl)) (fun _ _ _ _ _ => (fg_tup rfl (fgs_cons (fg_name (i := 1) sc_tree_of.nd rfl (by first | exact Or.inl rfl | exact Or.inr rfl)) (fgs_cons (fg_name (i := 2) sc_tree_of.nd rfl (by first | exact Or.inl rfl | exact Or.inr rfl)) fgs_nil)) (fun _ _ _ => gC_len (fun _ _ _ => gC_len (fun _ _ _ => gE_len))))) (by decide) (fun _ _ _ _ _ => fts_nil) (fun _ _ _ _ _ => (fe_tup (fa_cons fe_str (fa_cons (fe_var (pv 1)) (fa_cons (fe_var (pv 2)) fa_nil))))))) fa_nil)) fa_nil)))))
theorem ok_check_book (T : Txt P K mg) {F_is_table : List D → R D} (C_is_table : CallG P w K mg base 2 "is_table" F_is_table) : CallG P w K mg base 3 "check_book" (runF 3 1 (g_check_book F_is_table)) := T.d_check_book.call sc_check_book rfl rfl fun f cdv A outer s H E hr hg =>
  (fss_cons (fs_if (ft_not (ft_chain do_le do_le (fb_of fe_int) (fb_of (fe_callB (dc_len) rfl T.n_len (by rfl) (fab_cons (fb_var (pv 0)) fab_nil))) (fb_of (fe_gint T.c_MOST_BIDDERS rfl)) (by rfl)))
    (fss_one (fs_raise (c := "BadBook") rfl T.x_BadBook rfl hr bx_takes rfl (fe_callB (dc_len) rfl T.n_len (by rfl) (fab_cons (fb_var (pv 0)) fab_nil))))
    fss_nil)
    (fss_one (fs_for bx_owns rfl (fi_enum rfl T.n_enumerate (fa_cons (fe_var (pv 0)) fa_nil)) (fg_tup rfl (fgs_cons (fg_name (i := 1) sc_check_book.nd rfl (by first | exact Or.inl rfl | exact Or.inr rfl)) (fgs_cons (fg_name (i := 2) sc_check_book.nd rfl (by first | exact Or.inl rfl | exact Or.inr rfl)) fgs_nil)) (fun _ _ _ => gC_len (fun _ _ _ => gC_len (fun _ _ _ => gE_len))))
    (fss_one (fs_if (ft_w (fw_or (ft_not (ft_val (fe_cl C_is_table (hr.mono (by decide)) hg bx_takes rfl (fa_cons (fe_var (pv 2)) fa_nil)))) (fw_or1 (ft_cmp (do_ne hr.units) (fb_of (fe_callB (dc_len) rfl T.n_len (by rfl) (fab_cons (fb_var (pv 2)) fab_nil))) (fb_of (fe_callB (dc_len) rfl T.n_len (by rfl) (fab_cons (fb_of (fe_ix (hu_of hr) (fb_var (pv 0)) fe_int (fun _ _ => rfl))) fab_nil))) (by rfl)))))
    (fss_one (fs_raise (c := "BadTable") rfl T.x_BadTable rfl hr bx_takes rfl (fe_var (pv 1))))
    fss_nil)))))
theorem ok_most_at (T : Txt P K mg) {F_parts_of : List D → R D} (C_parts_of : CallG P w K mg base 2 "parts_of" F_parts_of) : CallG P w K mg base 3 "most_at" (runF 4 3 (g_most_at F_parts_of)) := T.d_most_at.call sc_most_at rfl rfl fun f cdv A outer s H E hr hg =>
  (fss_one (fs_ret (fe_callB (dc_max rfl) rfl T.n_max (by rfl) (fab_cons (fb_of (fe_of_fn (t := false) (fn_lc (t := false) (own := [("part", 3)]) (ix := [3]) rfl sc_most_at.nd (fi_items (fe_cl C_parts_of (hr.mono (by decide)) hg bx_takes rfl (fa_cons (fe_var (pv 2)) fa_nil))) (blkOk_by (by kernel_rfl)) (fun _ _ _ _ _ => (fg_name (i := 3) sc_most_at.nd rfl (by first | exact Or.inl rfl | exact Or.inr rfl))) (by decide) (fun _ _ _ _ _ => fts_nil) (fun _ _ _ _ _ => (fe_opE do_add (fe_ix (hu_of hr) (fb_var (pv 0)) (fe_var (pv 3)) (fun _ _ => rfl)) (fe_ix (hu_of hr) (fb_var (pv 1)) (fe_op do_sub (fb_var (pv 2)) (fb_var (pv 3))) (fun _ _ => rfl))))))) fab_nil))))
theorem ok_rests (T : Txt P K mg) {F_most_at : List D → R D} (C_most_at : CallG P w K mg base 3 "most_at" F_most_at) : CallG P w K mg base 4 "rests" (runF 5 1 (g_rests F_most_at)) := T.d_rests.call sc_rests rfl rfl fun f cdv A outer s H E hr hg =>
  (fss_cons (fs_setN (i := 1) sc_rests.nd rfl (by first | exact Or.inl rfl | exact Or.inr rfl) (fn_list (t := false) (fa_cons (fe_op do_mul (fb_of (fe_of_fn (t := false) (fn_list (t := false) (fa_cons fe_int fa_nil)))) (fb_of (fe_callB (dc_len) rfl T.n_len (by rfl) (fab_cons (fb_of (fe_ix (hu_of hr) (fb_var (pv 0)) fe_int (fun _ _ => rfl))) fab_nil)))) fa_nil)))
    (fss_cons (fs_for bx_owns rfl (fi_items (fe_rev (fb_var (pv 0)))) (fg_name (i := 2) sc_rests.nd rfl (by first | exact Or.inl rfl | exact Or.inr rfl))
    (fss_cons (fs_set (i := 3) sc_rests.nd rfl (by first | exact Or.inl rfl | exact Or.inr rfl) (fe_ix (hu_of hr) (fb_var (pv 1)) (fe_un du_neg (fb_of fe_int)) (fun _ _ => rfl)))
    (fss_one (fs_append (pv 1) (fe_of_fn (t := false) (fn_lc (t := false) (own := [("whole", 4)]) (ix := [4]) rfl sc_rests.nd (fi_range1 rfl T.n_range (fab_cons (fb_of (fe_callB (dc_len) rfl T.n_len (by rfl) (fab_cons (fb_var (pv 2)) fab_nil))) fab_nil)) (blkOk_by (by kernel_rfl)) (fun _ _ _ _ _ => (fg_name (i := 4) sc_rests.nd rfl (by first | exact Or.inl rfl | exact Or.inr rfl))) (by decide) (fun _ _ _ _ _ => fts_nil) (fun _ _ _ _ _ => (fe_cl C_most_at (hr.mono (by decide)) hg takes0 rfl (fa_cons (fe_var (pv 2)) (fa_cons (fe_var (pv 3)) (fa_cons (fe_var (pv 4)) fa_nil)))))))))))
    (fss_one (fs_ret (fe_rev (fb_var (pv 1)))))))
theorem ok_best_of (T : Txt P K mg) {F_rests : List D → R D} {F_parts_of : List D → R D} {F_bundle_of : List D → R D} (C_rests : CallG P w K mg base 4 "rests" F_rests) (C_parts_of : CallG P w K mg base 2 "parts_of" F_parts_of) (C_bundle_of : CallG P w K mg base 1 "bundle_of" F_bundle_of) : CallG P w K mg base 5 "best_of" (runF 8 1 (g_best_of F_rests F_parts_of F_bundle_of)) := T.d_best_of.call sc_best_of rfl rfl fun f cdv A outer s H E hr hg =>
  (fss_cons (fs_set (i := 1) sc_best_of.nd rfl (by first | exact Or.inl rfl | exact Or.inr rfl) (fe_cl C_rests (hr.mono (by decide)) hg bx_takes rfl (fa_cons (fe_var (pv 0)) fa_nil)))
    (fss_cons (fs_set (i := 2) sc_best_of.nd rfl (by first | exact Or.inl rfl | exact Or.inr rfl) (fe_op do_sub (fb_of (fe_callB (dc_len) rfl T.n_len (by rfl) (fab_cons (fb_of (fe_ix (hu_of hr) (fb_var (pv 0)) fe_int (fun _ _ => rfl))) fab_nil))) (fb_of fe_int)))
    (fss_cons (fs_setN (i := 3) sc_best_of.nd rfl (by first | exact Or.inl rfl | exact Or.inr rfl) (fn_list (t := false) fa_nil))
    (fss_cons (fs_for bx_owns rfl (fi_enum rfl T.n_enumerate (fa_cons (fe_var (pv 0)) fa_nil)) (fg_tup rfl (fgs_cons (fg_name (i := 4) sc_best_of.nd rfl (by first | exact Or.inl rfl | exact Or.inr rfl)) (fgs_cons (fg_name (i := 5) sc_best_of.nd rfl (by first | exact Or.inl rfl | exact Or.inr rfl)) fgs_nil)) (fun _ _ _ => gC_len (fun _ _ _ => gC_len (fun _ _ _ => gE_len))))
    (fss_cons (fs_setLcV (i := 6) (own := [("part", 7)]) (ix := [7]) rfl sc_best_of.nd rfl rfl (by rfl) (fi_items (fe_cl C_parts_of (hr.mono (by decide)) hg bx_takes rfl (fa_cons (fe_var (pv 2)) fa_nil))) (blkOk_by (by kernel_rfl)) (fun _ _ _ _ _ => (fg_name (i := 7) sc_best_of.nd rfl (by first | exact Or.inl rfl | exact Or.inr rfl))) (by decide) (fun _ _ _ _ _ => (fts_one (ft_cmp (do_eq hr.units) (fb_of (fe_opE do_add (fe_ix (hu_of hr) (fb_var (pv 5)) (fe_var (pv 7)) (fun _ _ => rfl)) (fe_ix (hu_of hr) (fb_of (fe_ix (hu_of hr) (fb_var (pv 1)) (fe_opE do_add (fe_var (pv 4)) fe_int) (fun _ _ => rfl))) (fe_op do_sub (fb_var (pv 2)) (fb_var (pv 7))) (fun _ _ => rfl)))) (fb_of (fe_ix (hu_of hr) (fb_of (fe_ix (hu_of hr) (fb_var (pv 1)) (fe_var (pv 4)) (fun _ _ => rfl))) (fe_var (pv 2)) (fun _ _ => rfl))) (by rfl)))) (fun _ _ _ _ _ => (fe_var (pv 7))))
    (fss_cons (fs_append (pv 3) (fe_cl C_bundle_of (hr.mono (by decide)) hg bx_takes rfl (fa_cons (fe_ix (hu_of hr) (fb_var (pv 6)) fe_int (fun _ _ => rfl)) fa_nil)))
    (fss_one (fs_set (i := 2) sc_best_of.nd rfl (by first | exact Or.inl rfl | exact Or.inr rfl) (fe_op do_sub (fb_var (pv 2)) (fb_of (fe_ix (hu_of hr) (fb_var (pv 6)) fe_int (fun _ _ => rfl)))))))))
    (fss_one (fs_ret (fe_tup (fa_cons (fe_var (pv 3)) (fa_cons (fe_ix (hu_of hr) (fb_of (fe_ix (hu_of hr) (fb_var (pv 1)) fe_int (fun _ _ => rfl))) (fe_un du_neg (fb_of fe_int)) (fun _ _ => rfl)) fa_nil)))))))))
theorem ok_best (T : Txt P K mg) {F_check_book : List D → R D} {F_best_of : List D → R D} (C_check_book : CallG P w K mg base 3 "check_book" F_check_book) (C_best_of : CallG P w K mg base 5 "best_of" F_best_of) : CallG P w K mg base 6 "best" (runF 1 1 (g_best F_check_book F_best_of)) := T.d_best.call sc_best rfl rfl fun f cdv A outer s H E hr hg =>
  (fss_cons (fs_expr (fe_cl C_check_book (hr.mono (by decide)) hg bx_takes rfl (fa_cons (fe_var (pv 0)) fa_nil)))
    (fss_one (fs_ret (fe_cl C_best_of (hr.mono (by decide)) hg bx_takes rfl (fa_cons (fe_var (pv 0)) fa_nil)))))
theorem ok_sum_without (T : Txt P K mg) {F_best_of : List D → R D} (C_best_of : CallG P w K mg base 5 "best_of" F_best_of) : CallG P w K mg base 6 "sum_without" (runF 3 2 (g_sum_without F_best_of)) := T.d_sum_without.call sc_sum_without rfl rfl fun f cdv A outer s H E hr hg =>
  (fss_cons (fs_set (i := 2) sc_sum_without.nd rfl (by first | exact Or.inl rfl | exact Or.inr rfl) (fe_opE do_add (fe_slice (fe_var (pv 0)) fo_none (fo_some (fe_var (pv 1)))) (fe_slice (fe_var (pv 0)) (fo_some (fe_opE do_add (fe_var (pv 1)) fe_int)) fo_none)))
    (fss_one (fs_ret (fe_if (ft_cmp do_gt (fb_of (fe_callB (dc_len) rfl T.n_len (by rfl) (fab_cons (fb_var (pv 2)) fab_nil))) (fb_of fe_int) (by rfl)) (fe_ix (hu_of hr) (fb_of (fe_cl C_best_of (hr.mono (by decide)) hg bx_takes rfl (fa_cons (fe_var (pv 2)) fa_nil))) fe_int (fun _ _ => rfl)) fe_int))))
theorem ok_check_word (T : Txt P K mg) {F_check_book : List D → R D} (C_check_book : CallG P w K mg base 3 "check_book" F_check_book) : CallG P w K mg base 4 "check_word" (runF 2 2 (g_check_word F_check_book)) := T.d_check_word.call sc_check_word rfl rfl fun f cdv A outer s H E hr hg =>
  (fss_cons (fs_expr (fe_cl C_check_book (hr.mono (by decide)) hg bx_takes rfl (fa_cons (fe_var (pv 0)) fa_nil)))
    (fss_one (fs_if (ft_inD (do_notin (units65 hr)) (fe_var (pv 1)) (fb_gtup T.c_WORDS rfl) (by rfl))
    (fss_one (fs_raise (c := "BadWord") rfl T.x_BadWord rfl hr bx_takes rfl fe_int))
    fss_nil)))
theorem ok_paid_by (T : Txt P K mg) {F_number_of : List D → R D} {F_sum_without : List D → R D} (C_number_of : CallG P w K mg base 1 "number_of" F_number_of) (C_sum_without : CallG P w K mg base 6 "sum_without" F_sum_without) : CallG P w K mg base 7 "paid_by" (runF 6 5 (g_paid_by F_number_of F_sum_without)) := T.d_paid_by.call sc_paid_by rfl rfl fun f cdv A outer s H E hr hg =>
  (fss_cons (fs_set (i := 5) sc_paid_by.nd rfl (by first | exact Or.inl rfl | exact Or.inr rfl) (fe_ix (hu_of hr) (fb_of (fe_ix (hu_of hr) (fb_var (pv 0)) (fe_var (pv 3)) (fun _ _ => rfl))) (fe_cl C_number_of (hr.mono (by decide)) hg bx_takes rfl (fa_cons (fe_ix (hu_of hr) (fb_var (pv 1)) (fe_var (pv 3)) (fun _ _ => rfl)) fa_nil)) (fun _ _ => rfl)))
    (fss_cons (fs_if (ft_cmp (do_eq hr.units) (fb_var (pv 4)) (fb_of fe_str) (by rfl))
    (fss_one (fs_ret (fe_op do_sub (fb_of (fe_cl C_sum_without (hr.mono (by decide)) hg bx_takes rfl (fa_cons (fe_var (pv 0)) (fa_cons (fe_var (pv 3)) fa_nil)))) (fb_of (fe_op do_sub (fb_var (pv 2)) (fb_var (pv 5)))))))
    fss_nil)
    (fss_one (fs_ret (fe_if (ft_cmp (do_eq hr.units) (fb_var (pv 4)) (fb_of fe_str) (by rfl)) (fe_var (pv 5)) fe_int)))))
theorem ok_all_paid (T : Txt P K mg) {F_best_of : List D → R D} {F_paid_by : List D → R D} (C_best_of : CallG P w K mg base 5 "best_of" F_best_of) (C_paid_by : CallG P w K mg base 7 "paid_by" F_paid_by) : CallG P w K mg base 8 "all_paid" (runF 5 2 (g_all_paid F_best_of F_paid_by)) := T.d_all_paid.call sc_all_paid rfl rfl fun f cdv A outer s H E hr hg =>
  (fss_cons (fs_asg (fe_cl C_best_of (hr.mono (by decide)) hg bx_takes rfl (fa_cons (fe_var (pv 0)) fa_nil)) (fg_tup rfl (fgs_cons (fg_name (i := 2) sc_all_paid.nd rfl (by first | exact Or.inl rfl | exact Or.inr rfl)) (fgs_cons (fg_name (i := 3) sc_all_paid.nd rfl (by first | exact Or.inl rfl | exact Or.inr rfl)) fgs_nil)) (fun _ _ _ => gC_len (fun _ _ _ => gC_len (fun _ _ _ => gE_len)))))
    (fss_one (fs_ret (fe_of_fn (t := false) (fn_lc (t := false) (own := [("bidder", 4)]) (ix := [4]) rfl sc_all_paid.nd (fi_range1 rfl T.n_range (fab_cons (fb_of (fe_callB (dc_len) rfl T.n_len (by rfl) (fab_cons (fb_var (pv 0)) fab_nil))) fab_nil)) (blkOk_by (by kernel_rfl)) (fun _ _ _ _ _ => (fg_name (i := 4) sc_all_paid.nd rfl (by first | exact Or.inl rfl | exact Or.inr rfl))) (by decide) (fun _ _ _ _ _ => fts_nil) (fun _ _ _ _ _ => (fe_cl C_paid_by (hr.mono (by decide)) hg takes0 rfl (fa_cons (fe_var (pv 0)) (fa_cons (fe_var (pv 2)) (fa_cons (fe_var (pv 3)) (fa_cons (fe_var (pv 4)) (fa_cons (fe_var (pv 1)) fa_nil))))))))))))
theorem ok_payments (T : Txt P K mg) {F_check_word : List D → R D} {F_all_paid : List D → R D} (C_check_word : CallG P w K mg base 4 "check_word" F_check_word) (C_all_paid : CallG P w K mg base 8 "all_paid" F_all_paid) : CallG P w K mg base 9 "payments" (runF 2 2 (g_payments F_check_word F_all_paid)) := T.d_payments.call sc_payments rfl rfl fun f cdv A outer s H E hr hg =>
  (fss_cons (fs_expr (fe_cl C_check_word (hr.mono (by decide)) hg bx_takes rfl (fa_cons (fe_var (pv 0)) (fa_cons (fe_var (pv 1)) fa_nil))))
    (fss_one (fs_ret (fe_cl C_all_paid (hr.mono (by decide)) hg bx_takes rfl (fa_cons (fe_var (pv 0)) (fa_cons (fe_var (pv 1)) fa_nil))))))
theorem ok_gain_of (T : Txt P K mg) {F_best_of : List D → R D} {F_number_of : List D → R D} {F_paid_by : List D → R D} (C_best_of : CallG P w K mg base 5 "best_of" F_best_of) (C_number_of : CallG P w K mg base 1 "number_of" F_number_of) (C_paid_by : CallG P w K mg base 7 "paid_by" F_paid_by) : CallG P w K mg base 8 "gain_of" (runF 6 4 (g_gain_of F_best_of F_number_of F_paid_by)) := T.d_gain_of.call sc_gain_of rfl rfl fun f cdv A outer s H E hr hg =>
  (fss_cons (fs_asg (fe_cl C_best_of (hr.mono (by decide)) hg bx_takes rfl (fa_cons (fe_var (pv 0)) fa_nil)) (fg_tup rfl (fgs_cons (fg_name (i := 4) sc_gain_of.nd rfl (by first | exact Or.inl rfl | exact Or.inr rfl)) (fgs_cons (fg_name (i := 5) sc_gain_of.nd rfl (by first | exact Or.inl rfl | exact Or.inr rfl)) fgs_nil)) (fun _ _ _ => gC_len (fun _ _ _ => gC_len (fun _ _ _ => gE_len)))))
    (fss_one (fs_ret (fe_op do_sub (fb_of (fe_ix (hu_of hr) (fb_var (pv 1)) (fe_cl C_number_of (hr.mono (by decide)) hg bx_takes rfl (fa_cons (fe_ix (hu_of hr) (fb_var (pv 4)) (fe_var (pv 2)) (fun _ _ => rfl)) fa_nil)) (fun _ _ => rfl))) (fb_of (fe_cl C_paid_by (hr.mono (by decide)) hg bx_takes rfl (fa_cons (fe_var (pv 0)) (fa_cons (fe_var (pv 4)) (fa_cons (fe_var (pv 5)) (fa_cons (fe_var (pv 2)) (fa_cons (fe_var (pv 3)) fa_nil)))))))))))
theorem ok_with_lie (T : Txt P K mg) : CallG P w K mg base 1 "with_lie" (runF 3 3 g_with_lie) := T.d_with_lie.call sc_with_lie rfl rfl fun f cdv A outer s H E hr hg =>
  (fss_one (fs_ret (fe_of_fn (t := false) (fn_list (t := false) (fa_star (fb_of (fe_slice (fe_var (pv 0)) fo_none (fo_some (fe_var (pv 1))))) (fa_cons (fe_var (pv 2)) (fa_star (fb_of (fe_slice (fe_var (pv 0)) (fo_some (fe_opE do_add (fe_var (pv 1)) fe_int)) fo_none)) fa_nil)))))))
theorem ok_check_lies (T : Txt P K mg) {F_check_word : List D → R D} {F_is_table : List D → R D} (C_check_word : CallG P w K mg base 4 "check_word" F_check_word) (C_is_table : CallG P w K mg base 2 "is_table" F_is_table) : CallG P w K mg base 5 "check_lies" (runF 6 4 (g_check_lies F_check_word F_is_table)) := T.d_check_lies.call sc_check_lies rfl rfl fun f cdv A outer s H E hr hg =>
  (fss_cons (fs_expr (fe_cl C_check_word (hr.mono (by decide)) hg bx_takes rfl (fa_cons (fe_var (pv 0)) (fa_cons (fe_var (pv 2)) fa_nil))))
    (fss_cons (fs_if (ft_not (ft_chain do_le (do_lt hr.units) (fb_of fe_int) (fb_var (pv 1)) (fb_of (fe_callB (dc_len) rfl T.n_len (by rfl) (fab_cons (fb_var (pv 0)) fab_nil))) (by rfl)))
    (fss_one (fs_raise (c := "BadBidder") rfl T.x_BadBidder rfl hr bx_takes rfl (fe_var (pv 1))))
    fss_nil)
    (fss_one (fs_for bx_owns rfl (fi_enum rfl T.n_enumerate (fa_cons (fe_var (pv 3)) fa_nil)) (fg_tup rfl (fgs_cons (fg_name (i := 4) sc_check_lies.nd rfl (by first | exact Or.inl rfl | exact Or.inr rfl)) (fgs_cons (fg_name (i := 5) sc_check_lies.nd rfl (by first | exact Or.inl rfl | exact Or.inr rfl)) fgs_nil)) (fun _ _ _ => gC_len (fun _ _ _ => gC_len (fun _ _ _ => gE_len))))
    (fss_one (fs_if (ft_w (fw_or (ft_not (ft_val (fe_cl C_is_table (hr.mono (by decide)) hg bx_takes rfl (fa_cons (fe_var (pv 5)) fa_nil)))) (fw_or1 (ft_cmp (do_ne hr.units) (fb_of (fe_callB (dc_len) rfl T.n_len (by rfl) (fab_cons (fb_var (pv 5)) fab_nil))) (fb_of (fe_callB (dc_len) rfl T.n_len (by rfl) (fab_cons (fb_of (fe_ix (hu_of hr) (fb_var (pv 0)) fe_int (fun _ _ => rfl))) fab_nil))) (by rfl)))))
    (fss_one (fs_raise (c := "BadTable") rfl T.x_BadTable rfl hr bx_takes rfl (fe_var (pv 4))))
    fss_nil))))))
theorem ok_gain (T : Txt P K mg) {F_check_lies : List D → R D} {F_gain_of : List D → R D} {F_with_lie : List D → R D} (C_check_lies : CallG P w K mg base 5 "check_lies" F_check_lies) (C_gain_of : CallG P w K mg base 8 "gain_of" F_gain_of) (C_with_lie : CallG P w K mg base 1 "with_lie" F_with_lie) : CallG P w K mg base 9 "gain" (runF 4 4 (g_gain F_check_lies F_gain_of F_with_lie)) := T.d_gain.call sc_gain rfl rfl fun f cdv A outer s H E hr hg =>
  (fss_cons (fs_expr (fe_cl C_check_lies (hr.mono (by decide)) hg bx_takes rfl (fa_cons (fe_var (pv 0)) (fa_cons (fe_var (pv 1)) (fa_cons (fe_var (pv 2)) (fa_cons (fe_of_fn (t := false) (fn_list (t := false) (fa_cons (fe_var (pv 3)) fa_nil))) fa_nil))))))
    (fss_one (fs_ret (fe_cl C_gain_of (hr.mono (by decide)) hg bx_takes rfl (fa_cons (fe_cl C_with_lie (hr.mono (by decide)) hg bx_takes rfl (fa_cons (fe_var (pv 0)) (fa_cons (fe_var (pv 1)) (fa_cons (fe_var (pv 3)) fa_nil)))) (fa_cons (fe_ix (hu_of hr) (fb_var (pv 0)) (fe_var (pv 1)) (fun _ _ => rfl)) (fa_cons (fe_var (pv 1)) (fa_cons (fe_var (pv 2)) fa_nil))))))))
theorem ok_gains (T : Txt P K mg) {F_check_word : List D → R D} {F_gain_of : List D → R D} (C_check_word : CallG P w K mg base 4 "check_word" F_check_word) (C_gain_of : CallG P w K mg base 8 "gain_of" F_gain_of) : CallG P w K mg base 9 "gains" (runF 4 2 (g_gains F_check_word F_gain_of)) := T.d_gains.call sc_gains rfl rfl fun f cdv A outer s H E hr hg =>
  (fss_cons (fs_expr (fe_cl C_check_word (hr.mono (by decide)) hg bx_takes rfl (fa_cons (fe_var (pv 0)) (fa_cons (fe_var (pv 1)) fa_nil))))
    (fss_one (fs_ret (fe_of_fn (t := false) (fn_lc (t := false) (own := [("bidder", 2), ("table", 3)]) (ix := [2, 3]) rfl sc_gains.nd (fi_enum rfl T.n_enumerate (fa_cons (fe_var (pv 0)) fa_nil)) (blkOk_by (by kernel_rfl)) (fun _ _ _ _ _ => (fg_tup rfl (fgs_cons (fg_name (i := 2) sc_gains.nd rfl (by first | exact Or.inl rfl | exact Or.inr rfl)) (fgs_cons (fg_name (i := 3) sc_gains.nd rfl (by first | exact Or.inl rfl | exact Or.inr rfl)) fgs_nil)) (fun _ _ _ => gC_len (fun _ _ _ => gC_len (fun _ _ _ => gE_len))))) (by decide) (fun _ _ _ _ _ => fts_nil) (fun _ _ _ _ _ => (fe_cl C_gain_of (hr.mono (by decide)) hg takes0 rfl (fa_cons (fe_var (pv 0)) (fa_cons (fe_var (pv 3)) (fa_cons (fe_var (pv 2)) (fa_cons (fe_var (pv 1)) fa_nil)))))))))))
theorem ok_income (T : Txt P K mg) {F_payments : List D → R D} (C_payments : CallG P w K mg base 9 "payments" F_payments) : CallG P w K mg base 10 "income" (runF 2 2 (g_income F_payments)) := T.d_income.call sc_income rfl rfl fun f cdv A outer s H E hr hg =>
  (fss_one (fs_ret (fe_callB (dc_sum rfl) rfl T.n_sum (by rfl) (fab_cons (fb_of (fe_cl C_payments (hr.mono (by decide)) hg bx_takes rfl (fa_cons (fe_var (pv 0)) (fa_cons (fe_var (pv 1)) fa_nil)))) fab_nil))))
theorem ok_first_lie (T : Txt P K mg) {F_check_lies : List D → R D} {F_gain_of : List D → R D} {F_with_lie : List D → R D} (C_check_lies : CallG P w K mg base 5 "check_lies" F_check_lies) (C_gain_of : CallG P w K mg base 8 "gain_of" F_gain_of) (C_with_lie : CallG P w K mg base 1 "with_lie" F_with_lie) : CallG P w K mg base 9 "first_lie" (runF 8 4 (g_first_lie F_check_lies F_gain_of F_with_lie)) := T.d_first_lie.call sc_first_lie rfl rfl fun f cdv A outer s H E hr hg =>
  (fss_cons (fs_expr (fe_cl C_check_lies (hr.mono (by decide)) hg bx_takes rfl (fa_cons (fe_var (pv 0)) (fa_cons (fe_var (pv 1)) (fa_cons (fe_var (pv 2)) (fa_cons (fe_var (pv 3)) fa_nil))))))
    (fss_cons (fs_set (i := 4) sc_first_lie.nd rfl (by first | exact Or.inl rfl | exact Or.inr rfl) (fe_cl C_gain_of (hr.mono (by decide)) hg bx_takes rfl (fa_cons (fe_var (pv 0)) (fa_cons (fe_ix (hu_of hr) (fb_var (pv 0)) (fe_var (pv 1)) (fun _ _ => rfl)) (fa_cons (fe_var (pv 1)) (fa_cons (fe_var (pv 2)) fa_nil))))))
    (fss_cons (fs_for bx_owns rfl (fi_enum rfl T.n_enumerate (fa_cons (fe_var (pv 3)) fa_nil)) (fg_tup rfl (fgs_cons (fg_name (i := 5) sc_first_lie.nd rfl (by first | exact Or.inl rfl | exact Or.inr rfl)) (fgs_cons (fg_name (i := 6) sc_first_lie.nd rfl (by first | exact Or.inl rfl | exact Or.inr rfl)) fgs_nil)) (fun _ _ _ => gC_len (fun _ _ _ => gC_len (fun _ _ _ => gE_len))))
    (fss_cons (fs_set (i := 7) sc_first_lie.nd rfl (by first | exact Or.inl rfl | exact Or.inr rfl) (fe_op do_sub (fb_of (fe_cl C_gain_of (hr.mono (by decide)) hg bx_takes rfl (fa_cons (fe_cl C_with_lie (hr.mono (by decide)) hg bx_takes rfl (fa_cons (fe_var (pv 0)) (fa_cons (fe_var (pv 1)) (fa_cons (fe_var (pv 6)) fa_nil)))) (fa_cons (fe_ix (hu_of hr) (fb_var (pv 0)) (fe_var (pv 1)) (fun _ _ => rfl)) (fa_cons (fe_var (pv 1)) (fa_cons (fe_var (pv 2)) fa_nil)))))) (fb_var (pv 4))))
    (fss_one (fs_if (ft_cmp do_gt (fb_var (pv 7)) (fb_of fe_int) (by rfl))
    (fss_one (fs_ret (fe_tup (fa_cons (fe_var (pv 5)) (fa_cons (fe_var (pv 7)) fa_nil)))))
    fss_nil))))
    (fss_one (fs_ret fe_non)))))
theorem ok_changed (T : Txt P K mg) : CallG P w K mg base 1 "changed" (runF 3 3 g_changed) := T.d_changed.call sc_changed rfl rfl fun f cdv A outer s H E hr hg =>
  (fss_one (fs_ret (fe_of_fn (t := false) (fn_list (t := false) (fa_star (fb_of (fe_slice (fe_var (pv 0)) fo_none (fo_some (fe_var (pv 1))))) (fa_cons (fe_tup (fa_cons (fe_ix (hu_of hr) (fb_of (fe_ix (hu_of hr) (fb_var (pv 0)) (fe_var (pv 1)) (fun _ _ => rfl))) fe_int (fun _ _ => rfl)) (fa_cons (fe_callB (dc_max2 rfl) rfl T.n_max (by rfl) (fab_cons (fb_of fe_int) (fab_cons (fb_of (fe_callB (dc_min2 rfl) rfl T.n_min (by rfl) (fab_cons (fb_of (fe_gint T.c_MOST_WORTH rfl)) (fab_cons (fb_var (pv 2)) fab_nil)))) fab_nil))) fa_nil))) (fa_star (fb_of (fe_slice (fe_var (pv 0)) (fo_some (fe_opE do_add (fe_var (pv 1)) fe_int)) fo_none)) fa_nil)))))))
theorem ok_lies_about (T : Txt P K mg) {F_check_table : List D → R D} {F_normal : List D → R D} {F_worths : List D → R D} {F_tree_of : List D → R D} {F_changed : List D → R D} {F_goods_in : List D → R D} (C_check_table : CallG P w K mg base 3 "check_table" F_check_table) (C_normal : CallG P w K mg base 4 "normal" F_normal) (C_worths : CallG P w K mg base 13 "worths" F_worths) (C_tree_of : CallG P w K mg base 1 "tree_of" F_tree_of) (C_changed : CallG P w K mg base 1 "changed" F_changed) (C_goods_in : CallG P w K mg base 1 "goods_in" F_goods_in) : CallG P w K mg base 14 "lies_about" (runF 8 1 (g_lies_about F_check_table F_normal F_worths F_tree_of F_changed F_goods_in)) := T.d_lies_about.call sc_lies_about rfl rfl fun f cdv A outer s H E hr hg =>
  (fss_cons (fs_expr (fe_cl C_check_table (hr.mono (by decide)) hg bx_takes rfl (fa_cons (fe_var (pv 0)) fa_nil)))
    (fss_cons (fs_set (i := 1) sc_lies_about.nd rfl (by first | exact Or.inl rfl | exact Or.inr rfl) (fe_cl C_normal (hr.mono (by decide)) hg bx_takes rfl (fa_cons (fe_var (pv 0)) fa_nil)))
    (fss_cons (fs_setN (i := 2) sc_lies_about.nd rfl (by first | exact Or.inl rfl | exact Or.inr rfl) (fn_list (t := false) fa_nil))
    (fss_cons (fs_for bx_owns rfl (fi_enum rfl T.n_enumerate (fa_cons (fe_var (pv 1)) fa_nil)) (fg_tup rfl (fgs_cons (fg_name (i := 3) sc_lies_about.nd rfl (by first | exact Or.inl rfl | exact Or.inr rfl)) (fgs_cons (fg_tup rfl (fgs_cons (fg_name (i := 5) sc_lies_about.nd rfl (by first | exact Or.inl rfl | exact Or.inr rfl)) (fgs_cons (fg_name (i := 6) sc_lies_about.nd rfl (by first | exact Or.inl rfl | exact Or.inr rfl)) fgs_nil)) (fun _ _ _ => gC_len (fun _ _ _ => gC_len (fun _ _ _ => gE_len)))) fgs_nil)) (fun _ _ _ => gC_len (fun _ _ _ => gC_len (fun _ _ _ => gE_len))))
    (fss_one (fs_for bx_owns rfl (fi_items (fe_tup (fa_cons fe_int (fa_cons (fe_op do_div (fb_var (pv 6)) (fb_of fe_int)) (fa_cons (fe_op do_sub (fb_var (pv 6)) (fb_of fe_int)) (fa_cons (fe_opE do_add (fe_var (pv 6)) fe_int) (fa_cons (fe_op do_mul (fb_of fe_int) (fb_var (pv 6))) fa_nil))))))) (fg_name (i := 4) sc_lies_about.nd rfl (by first | exact Or.inl rfl | exact Or.inr rfl))
    (fss_cons (fs_set (i := 7) sc_lies_about.nd rfl (by first | exact Or.inl rfl | exact Or.inr rfl) (fe_cl C_worths (hr.mono (by decide)) hg bx_takes rfl (fa_cons (fe_cl C_tree_of (hr.mono (by decide)) hg bx_takes rfl (fa_cons (fe_cl C_changed (hr.mono (by decide)) hg bx_takes rfl (fa_cons (fe_var (pv 1)) (fa_cons (fe_var (pv 3)) (fa_cons (fe_var (pv 4)) fa_nil)))) fa_nil)) (fa_cons (fe_cl C_goods_in (hr.mono (by decide)) hg bx_takes rfl (fa_cons (fe_var (pv 0)) fa_nil)) fa_nil))))
    (fss_one (fs_if (ft_w (fw_and (ft_cmp (do_ne hr.units) (fb_var (pv 7)) (fb_var (pv 0)) (by rfl)) (fw_and1 (ft_inD (do_notin (units65 hr)) (fe_var (pv 7)) (fb_var (pv 2)) (by rfl)))))
    (fss_one (fs_append (pv 2) (fe_var (pv 7))))
    fss_nil))))))
    (fss_one (fs_ret (fe_var (pv 2))))))))
theorem ok_together_gain (T : Txt P K mg) {F_check_word : List D → R D} {F_is_table : List D → R D} {F_with_lie : List D → R D} {F_gain_of : List D → R D} (C_check_word : CallG P w K mg base 4 "check_word" F_check_word) (C_is_table : CallG P w K mg base 2 "is_table" F_is_table) (C_with_lie : CallG P w K mg base 1 "with_lie" F_with_lie) (C_gain_of : CallG P w K mg base 8 "gain_of" F_gain_of) : CallG P w K mg base 9 "together_gain" (runF 10 6 (g_together_gain F_check_word F_is_table F_with_lie F_gain_of)) := T.d_together_gain.call sc_together_gain rfl rfl fun f cdv A outer s H E hr hg =>
  (fss_cons (fs_expr (fe_cl C_check_word (hr.mono (by decide)) hg bx_takes rfl (fa_cons (fe_var (pv 0)) (fa_cons (fe_var (pv 3)) fa_nil))))
    (fss_cons (fs_if (ft_not (ft_chain do_le (do_lt hr.units) (fb_of fe_int) (fb_var (pv 1)) (fb_of (fe_callB (dc_len) rfl T.n_len (by rfl) (fab_cons (fb_var (pv 0)) fab_nil))) (by rfl)))
    (fss_one (fs_raise (c := "BadBidder") rfl T.x_BadBidder rfl hr bx_takes rfl (fe_var (pv 1))))
    fss_nil)
    (fss_cons (fs_if (ft_w (fw_or (ft_not (ft_chain do_le (do_lt hr.units) (fb_of fe_int) (fb_var (pv 2)) (fb_of (fe_callB (dc_len) rfl T.n_len (by rfl) (fab_cons (fb_var (pv 0)) fab_nil))) (by rfl))) (fw_or1 (ft_cmp (do_eq hr.units) (fb_var (pv 1)) (fb_var (pv 2)) (by rfl)))))
    (fss_one (fs_raise (c := "BadBidder") rfl T.x_BadBidder rfl hr bx_takes rfl (fe_var (pv 2))))
    fss_nil)
    (fss_cons (fs_for bx_owns rfl (fi_enumT rfl T.n_enumerate (fa_cons (fe_tup (fa_cons (fe_var (pv 4)) (fa_cons (fe_var (pv 5)) fa_nil))) fa_nil)) (fg_tup rfl (fgs_cons (fg_name (i := 8) sc_together_gain.nd rfl (by first | exact Or.inl rfl | exact Or.inr rfl)) (fgs_cons (fg_name (i := 9) sc_together_gain.nd rfl (by first | exact Or.inl rfl | exact Or.inr rfl)) fgs_nil)) (fun _ _ _ => gC_len (fun _ _ _ => gC_len (fun _ _ _ => gE_len))))
    (fss_one (fs_if (ft_w (fw_or (ft_not (ft_val (fe_cl C_is_table (hr.mono (by decide)) hg bx_takes rfl (fa_cons (fe_var (pv 9)) fa_nil)))) (fw_or1 (ft_cmp (do_ne hr.units) (fb_of (fe_callB (dc_len) rfl T.n_len (by rfl) (fab_cons (fb_var (pv 9)) fab_nil))) (fb_of (fe_callB (dc_len) rfl T.n_len (by rfl) (fab_cons (fb_of (fe_ix (hu_of hr) (fb_var (pv 0)) fe_int (fun _ _ => rfl))) fab_nil))) (by rfl)))))
    (fss_one (fs_raise (c := "BadTable") rfl T.x_BadTable rfl hr bx_takes rfl (fe_var (pv 8))))
    fss_nil)))
    (fss_cons (fs_set (i := 6) sc_together_gain.nd rfl (by first | exact Or.inl rfl | exact Or.inr rfl) (fe_cl C_with_lie (hr.mono (by decide)) hg bx_takes rfl (fa_cons (fe_cl C_with_lie (hr.mono (by decide)) hg bx_takes rfl (fa_cons (fe_var (pv 0)) (fa_cons (fe_var (pv 1)) (fa_cons (fe_var (pv 4)) fa_nil)))) (fa_cons (fe_var (pv 2)) (fa_cons (fe_var (pv 5)) fa_nil)))))
    (fss_cons (fs_set (i := 7) sc_together_gain.nd rfl (by first | exact Or.inl rfl | exact Or.inr rfl) (fe_opE do_add (fe_cl C_gain_of (hr.mono (by decide)) hg bx_takes rfl (fa_cons (fe_var (pv 0)) (fa_cons (fe_ix (hu_of hr) (fb_var (pv 0)) (fe_var (pv 1)) (fun _ _ => rfl)) (fa_cons (fe_var (pv 1)) (fa_cons (fe_var (pv 3)) fa_nil))))) (fe_cl C_gain_of (hr.mono (by decide)) hg bx_takes rfl (fa_cons (fe_var (pv 0)) (fa_cons (fe_ix (hu_of hr) (fb_var (pv 0)) (fe_var (pv 2)) (fun _ _ => rfl)) (fa_cons (fe_var (pv 2)) (fa_cons (fe_var (pv 3)) fa_nil)))))))
    (fss_one (fs_ret (fe_op do_sub (fb_of (fe_opE do_add (fe_cl C_gain_of (hr.mono (by decide)) hg bx_takes rfl (fa_cons (fe_var (pv 6)) (fa_cons (fe_ix (hu_of hr) (fb_var (pv 0)) (fe_var (pv 1)) (fun _ _ => rfl)) (fa_cons (fe_var (pv 1)) (fa_cons (fe_var (pv 3)) fa_nil))))) (fe_cl C_gain_of (hr.mono (by decide)) hg bx_takes rfl (fa_cons (fe_var (pv 6)) (fa_cons (fe_ix (hu_of hr) (fb_var (pv 0)) (fe_var (pv 2)) (fun _ _ => rfl)) (fa_cons (fe_var (pv 2)) (fa_cons (fe_var (pv 3)) fa_nil))))))) (fb_var (pv 7)))))))))))
theorem ok_l_draws (T : Txt P K mg) : CallS P w K mg base 1 "_law_draws" (runS 6 g_l_draws) := T.d_l_draws.callS sc_l_draws rfl fun f cdv A outer s H E hr hg =>
  (fss_cons (fs_setN (i := 1) sc_l_draws.nd rfl (by first | exact Or.inl rfl | exact Or.inr rfl) (fn_list (t := false) fa_nil))
    (fss_cons (fs_for bx_owns rfl (fi_range1 rfl T.n_range (fab_cons (fb_of (fe_callB (dc_min2 rfl) rfl T.n_min (by rfl) (fab_cons (fb_of fe_int) (fab_cons (fb_of (fe_lenS (pv 0) rfl T.n_len)) fab_nil)))) fab_nil)) (fg_name (i := 2) sc_l_draws.nd rfl (by first | exact Or.inl rfl | exact Or.inr rfl))
    (fss_cons (fs_set (i := 3) sc_l_draws.nd rfl (by first | exact Or.inl rfl | exact Or.inr rfl) (fe_callB (dc_abs) rfl T.n_abs (by rfl) (fab_cons (fb_of (fe_ixS (pv 0) (fe_var (pv 2)) (fun _ _ => rfl))) fab_nil)))
    (fss_one (fs_if (ft_cmp do_ge (fb_var (pv 3)) (fb_of (fe_op do_pow (fb_of fe_int) (fb_of fe_int))) (by rfl))
    (fss_one (fs_for bx_owns rfl (fi_range1 rfl T.n_range (fab_cons (fb_of fe_int) fab_nil)) (fg_name (i := 4) sc_l_draws.nd rfl (by first | exact Or.inl rfl | exact Or.inr rfl))
    (fss_one (fs_if (ft_cmp do_gt (fb_var (pv 3)) (fb_of fe_int) (by rfl))
    (fss_cons (fs_append (pv 1) (fe_op do_mod (fb_of (fe_callTy dc_int rfl T.n_int (by rfl) (fab_cons (fb_var (pv 3)) fab_nil))) (fb_of fe_int)))
    (fss_one (fs_set (i := 3) sc_l_draws.nd rfl (by first | exact Or.inl rfl | exact Or.inr rfl) (fe_op do_div (fb_var (pv 3)) (fb_of fe_int)))))
    fss_nil))))
    (fss_cons (fs_set (i := 5) sc_l_draws.nd rfl (by first | exact Or.inl rfl | exact Or.inr rfl) (fe_op do_mod (fb_of (fe_callTy dc_int rfl T.n_int (by rfl) (fab_cons (fb_of (fe_opE do_add (fe_op do_mul (fb_var (pv 3)) (fb_of fe_int)) (fe_op do_mul (fb_of (fe_opE do_add (fe_var (pv 2)) fe_int)) (fb_of fe_int)))) fab_nil))) (fb_of fe_int)))
    (fss_cons (fs_set (i := 5) sc_l_draws.nd rfl (by first | exact Or.inl rfl | exact Or.inr rfl) (fe_op do_mod (fb_of (fe_callTy dc_int rfl T.n_int (by rfl) (fab_cons (fb_of (fe_opE do_add (fe_opE do_add (fe_op do_mul (fb_var (pv 5)) (fb_of fe_int)) (fe_op do_mul (fb_of fe_int) (fb_var (pv 2)))) fe_int)) fab_nil))) (fb_of fe_int)))
    (fss_cons (fs_append (pv 1) (fe_op do_mod (fb_of (fe_callTy dc_int rfl T.n_int (by rfl) (fab_cons (fb_var (pv 5)) fab_nil))) (fb_of fe_int)))
    (fss_one (fs_append (pv 1) (fe_op do_mod (fb_of (fe_callTy dc_int rfl T.n_int (by rfl) (fab_cons (fb_of (fe_op do_div (fb_var (pv 5)) (fb_of fe_int))) fab_nil))) (fb_of fe_int)))))))))))
    (fss_one (fs_ret (fe_var (pv 1))))))
theorem ok_l_mix (T : Txt P K mg) : CallG P w K mg base 1 "_law_mix" (runF 4 3 g_l_mix) := T.d_l_mix.call sc_l_mix rfl rfl fun f cdv A outer s H E hr hg =>
  (fss_cons (fs_set (i := 3) sc_l_mix.nd rfl (by first | exact Or.inl rfl | exact Or.inr rfl) fe_int)
    (fss_cons (fs_if (ft_cmp do_gt (fb_of (fe_callB (dc_len) rfl T.n_len (by rfl) (fab_cons (fb_var (pv 0)) fab_nil))) (fb_of fe_int) (by rfl))
    (fss_one (fs_set (i := 3) sc_l_mix.nd rfl (by first | exact Or.inl rfl | exact Or.inr rfl) (fe_ix (hu_of hr) (fb_var (pv 0)) (fe_op do_mod (fb_of (fe_callTy dc_int rfl T.n_int (by rfl) (fab_cons (fb_var (pv 1)) fab_nil))) (fb_of (fe_callB (dc_len) rfl T.n_len (by rfl) (fab_cons (fb_var (pv 0)) fab_nil)))) (fun _ _ => rfl))))
    fss_nil)
    (fss_cons (fs_if (ft_cmp (do_lt hr.units) (fb_var (pv 1)) (fb_of (fe_callB (dc_len) rfl T.n_len (by rfl) (fab_cons (fb_var (pv 0)) fab_nil))) (by rfl))
    (fss_one (fs_ret (fe_op do_mod (fb_of (fe_callTy dc_int rfl T.n_int (by rfl) (fab_cons (fb_var (pv 3)) fab_nil))) (fb_var (pv 2)))))
    fss_nil)
    (fss_one (fs_ret (fe_op do_mod (fb_of (fe_callTy dc_int rfl T.n_int (by rfl) (fab_cons (fb_of (fe_op do_div (fb_of (fe_callTy dc_int rfl T.n_int (by rfl) (fab_cons (fb_of (fe_opE do_add (fe_op do_mul (fb_var (pv 3)) (fb_of fe_int)) (fe_op do_mul (fb_var (pv 1)) (fb_of fe_int)))) fab_nil))) (fb_of fe_int))) fab_nil))) (fb_var (pv 2))))))))
theorem ok_l_subsets (T : Txt P K mg) : CallG P w K mg base 1 "_law_subsets" (runF 4 1 g_l_subsets) := T.d_l_subsets.call sc_l_subsets rfl rfl fun f cdv A outer s H E hr hg =>
  (fss_cons (fs_set (i := 1) sc_l_subsets.nd rfl (by first | exact Or.inl rfl | exact Or.inr rfl) (fe_of_fn (t := false) (fn_list (t := false) (fa_cons (fe_tup fa_nil) fa_nil))))
    (fss_cons (fs_for bx_owns rfl (fi_range1 rfl T.n_range (fab_cons (fb_var (pv 0)) fab_nil)) (fg_name (i := 2) sc_l_subsets.nd rfl (by first | exact Or.inl rfl | exact Or.inr rfl))
    (fss_one (fs_set (i := 1) sc_l_subsets.nd rfl (by first | exact Or.inl rfl | exact Or.inr rfl) (fe_opE do_add (fe_var (pv 1)) (fe_of_fn (t := false) (fn_lc (t := false) (own := [("bundle", 3)]) (ix := [3]) rfl sc_l_subsets.nd (fi_items (fe_var (pv 1))) (blkOk_by (by kernel_rfl)) (fun _ _ _ _ _ => (fg_name (i := 3) sc_l_subsets.nd rfl (by first | exact Or.inl rfl | exact Or.inr rfl))) (by decide) (fun _ _ _ _ _ => fts_nil) (fun _ _ _ _ _ => (fe_opE do_add (fe_var (pv 3)) (fe_tup (fa_cons (fe_var (pv 2)) fa_nil))))))))))
    (fss_one (fs_ret (fe_var (pv 1))))))
theorem ok_l_at (T : Txt P K mg) : CallG P w K mg base 1 "_law_at" (runF 3 2 g_l_at) := T.d_l_at.call sc_l_at rfl rfl fun f cdv A outer s H E hr hg =>
  (fss_one (fs_ret (fe_ix (hu_of hr) (fb_var (pv 0)) (fe_callB (dc_sum rfl) rfl T.n_sum (by rfl) (fab_cons (fb_of (fe_of_fn (t := false) (fn_lc (t := false) (own := [("good", 2)]) (ix := [2]) rfl sc_l_at.nd (fi_items (fe_var (pv 1))) (blkOk_by (by kernel_rfl)) (fun _ _ _ _ _ => (fg_name (i := 2) sc_l_at.nd rfl (by first | exact Or.inl rfl | exact Or.inr rfl))) (by decide) (fun _ _ _ _ _ => fts_nil) (fun _ _ _ _ _ => (fe_ix (hu_of hr) (fb_of (fe_of_fn (t := false) (fn_list (t := false) (fa_cons fe_int (fa_cons fe_int (fa_cons fe_int (fa_cons fe_int (fa_cons fe_int (fa_cons fe_int fa_nil))))))))) (fe_var (pv 2)) (fun _ _ => rfl)))))) fab_nil)) (fun _ _ => rfl))))
theorem ok_l_drawn (T : Txt P K mg) {F_l_subsets : List D → R D} {F_l_mix : List D → R D} (C_l_subsets : CallG P w K mg base 1 "_law_subsets" F_l_subsets) (C_l_mix : CallG P w K mg base 1 "_law_mix" F_l_mix) : CallG P w K mg base 2 "_law_drawn" (runF 14 3 (g_l_drawn F_l_subsets F_l_mix)) := T.d_l_drawn.call sc_l_drawn rfl rfl fun f cdv A outer s H E hr hg =>
  (fss_cons (fs_set (i := 3) sc_l_drawn.nd rfl (by first | exact Or.inl rfl | exact Or.inr rfl) (fe_cl C_l_subsets (hr.mono (by decide)) hg bx_takes rfl (fa_cons (fe_var (pv 2)) fa_nil)))
    (fss_cons (fs_set (i := 4) sc_l_drawn.nd rfl (by first | exact Or.inl rfl | exact Or.inr rfl) (fe_of_fn (t := false) (fn_lc (t := false) (own := [("good", 12)]) (ix := [12]) rfl sc_l_drawn.nd (fi_range1 rfl T.n_range (fab_cons (fb_var (pv 2)) fab_nil)) (blkOk_by (by kernel_rfl)) (fun _ _ _ _ _ => (fg_name (i := 12) sc_l_drawn.nd rfl (by first | exact Or.inl rfl | exact Or.inr rfl))) (by decide) (fun _ _ _ _ _ => fts_nil) (fun _ _ _ _ _ => (fe_cl C_l_mix (hr.mono (by decide)) hg takes0 rfl (fa_cons (fe_var (pv 0)) (fa_cons (fe_opE do_add (fe_var (pv 1)) (fe_var (pv 12))) (fa_cons fe_int fa_nil))))))))
    (fss_cons (fs_set (i := 5) sc_l_drawn.nd rfl (by first | exact Or.inl rfl | exact Or.inr rfl) (fe_cl C_l_mix (hr.mono (by decide)) hg bx_takes rfl (fa_cons (fe_var (pv 0)) (fa_cons (fe_opE do_add (fe_var (pv 1)) fe_int) (fa_cons fe_int fa_nil)))))
    (fss_cons (fs_setLcV (i := 6) (own := [("good", 12)]) (ix := [12]) rfl sc_l_drawn.nd rfl rfl (by rfl) (fi_range1 rfl T.n_range (fab_cons (fb_var (pv 2)) fab_nil)) (blkOk_by (by kernel_rfl)) (fun _ _ _ _ _ => (fg_name (i := 12) sc_l_drawn.nd rfl (by first | exact Or.inl rfl | exact Or.inr rfl))) (by decide) (fun _ _ _ _ _ => (fts_one (ft_cmp (do_eq hr.units) (fb_of (fe_cl C_l_mix (hr.mono (by decide)) hg takes0 rfl (fa_cons (fe_var (pv 0)) (fa_cons (fe_opE do_add (fe_opE do_add (fe_var (pv 1)) fe_int) (fe_var (pv 12))) (fa_cons fe_int fa_nil))))) (fb_of fe_int) (by rfl)))) (fun _ _ _ _ _ => (fe_var (pv 12))))
    (fss_cons (fs_setN (i := 7) sc_l_drawn.nd rfl (by first | exact Or.inl rfl | exact Or.inr rfl) fn_dnewT)
    (fss_cons (fs_for bx_owns rfl (fi_range1 rfl T.n_range (fab_cons (fb_of (fe_callB (dc_len) rfl T.n_len (by rfl) (fab_cons (fb_var (pv 3)) fab_nil))) fab_nil)) (fg_name (i := 8) sc_l_drawn.nd rfl (by first | exact Or.inl rfl | exact Or.inr rfl))
    (fss_cons (fs_set (i := 9) sc_l_drawn.nd rfl (by first | exact Or.inl rfl | exact Or.inr rfl) (fe_ix (hu_of hr) (fb_var (pv 3)) (fe_var (pv 8)) (fun _ _ => rfl)))
    (fss_cons (fs_setLcV (i := 10) (own := [("good", 12)]) (ix := [12]) rfl sc_l_drawn.nd rfl rfl (by rfl) (fi_items (fe_var (pv 9))) (blkOk_by (by kernel_rfl)) (fun _ _ _ _ _ => (fg_name (i := 12) sc_l_drawn.nd rfl (by first | exact Or.inl rfl | exact Or.inr rfl))) (by decide) (fun _ _ _ _ _ => fts_nil) (fun _ _ _ _ _ => (fe_ix (hu_of hr) (fb_var (pv 7)) (fe_callTyE dc_tuple rfl T.n_tuple (by rfl) (fa_cons (fe_of_fn (t := false) (fn_lc (t := false) (own := [("one", 13)]) (ix := [13]) rfl sc_l_drawn.nd (fi_items (fe_var (pv 9))) (blkOk_by (by kernel_rfl)) (fun _ _ _ _ _ => (fg_name (i := 13) sc_l_drawn.nd rfl (by first | exact Or.inl rfl | exact Or.inr rfl))) (by decide) (fun _ _ _ _ _ => (fts_one (ft_cmp (do_ne hr.units) (fb_var (pv 13)) (fb_var (pv 12)) (by rfl)))) (fun _ _ _ _ _ => (fe_var (pv 13))))) fa_nil)) (fun _ _ => rfl))))
    (fss_cons (fs_set (i := 11) sc_l_drawn.nd rfl (by first | exact Or.inl rfl | exact Or.inr rfl) (fe_cl C_l_mix (hr.mono (by decide)) hg bx_takes rfl (fa_cons (fe_var (pv 0)) (fa_cons (fe_opE do_add (fe_opE do_add (fe_var (pv 1)) fe_int) (fe_var (pv 8))) (fa_cons fe_int fa_nil)))))
    (fss_cons (fs_if (ft_cmp (do_eq hr.units) (fb_var (pv 5)) (fb_of fe_int) (by rfl))
    (fss_one (fs_set (i := 11) sc_l_drawn.nd rfl (by first | exact Or.inl rfl | exact Or.inr rfl) (fe_callB (dc_sum rfl) rfl T.n_sum (by rfl) (fab_cons (fb_of (fe_of_fn (t := false) (fn_lc (t := false) (own := [("good", 12)]) (ix := [12]) rfl sc_l_drawn.nd (fi_items (fe_var (pv 9))) (blkOk_by (by kernel_rfl)) (fun _ _ _ _ _ => (fg_name (i := 12) sc_l_drawn.nd rfl (by first | exact Or.inl rfl | exact Or.inr rfl))) (by decide) (fun _ _ _ _ _ => fts_nil) (fun _ _ _ _ _ => (fe_ix (hu_of hr) (fb_var (pv 4)) (fe_var (pv 12)) (fun _ _ => rfl)))))) fab_nil))))
    (fss_one (fs_if (ft_cmp (do_eq hr.units) (fb_var (pv 5)) (fb_of fe_int) (by rfl))
    (fss_one (fs_set (i := 11) sc_l_drawn.nd rfl (by first | exact Or.inl rfl | exact Or.inr rfl) (fe_callB (dc_sum rfl) rfl T.n_sum (by rfl) (fab_cons (fb_of (fe_slice (fe_rev (fb_of (fe_of_fn (t := false) (fn_callB dc_sorted rfl T.n_sorted (by rfl) (fab_cons (fb_of (fe_of_fn (t := false) (fn_lc (t := false) (own := [("good", 12)]) (ix := [12]) rfl sc_l_drawn.nd (fi_items (fe_var (pv 9))) (blkOk_by (by kernel_rfl)) (fun _ _ _ _ _ => (fg_name (i := 12) sc_l_drawn.nd rfl (by first | exact Or.inl rfl | exact Or.inr rfl))) (by decide) (fun _ _ _ _ _ => fts_nil) (fun _ _ _ _ _ => (fe_ix (hu_of hr) (fb_var (pv 4)) (fe_var (pv 12)) (fun _ _ => rfl)))))) fab_nil))))) fo_none (fo_some (fe_opE do_add fe_int (fe_cl C_l_mix (hr.mono (by decide)) hg bx_takes rfl (fa_cons (fe_var (pv 0)) (fa_cons (fe_opE do_add (fe_var (pv 1)) fe_int) (fa_cons fe_int fa_nil)))))))) fab_nil))))
    (fss_one (fs_if (ft_cmp (do_eq hr.units) (fb_var (pv 5)) (fb_of fe_int) (by rfl))
    (fss_one (fs_set (i := 11) sc_l_drawn.nd rfl (by first | exact Or.inl rfl | exact Or.inr rfl) (fe_op do_sub (fb_of (fe_callB (dc_sum rfl) rfl T.n_sum (by rfl) (fab_cons (fb_of (fe_of_fn (t := false) (fn_lc (t := false) (own := [("good", 12)]) (ix := [12]) rfl sc_l_drawn.nd (fi_items (fe_var (pv 9))) (blkOk_by (by kernel_rfl)) (fun _ _ _ _ _ => (fg_name (i := 12) sc_l_drawn.nd rfl (by first | exact Or.inl rfl | exact Or.inr rfl))) (by decide) (fun _ _ _ _ _ => fts_nil) (fun _ _ _ _ _ => (fe_ix (hu_of hr) (fb_var (pv 4)) (fe_var (pv 12)) (fun _ _ => rfl)))))) fab_nil))) (fb_of (fe_op do_div (fb_of (fe_op do_mul (fb_of (fe_callB (dc_len) rfl T.n_len (by rfl) (fab_cons (fb_var (pv 9)) fab_nil))) (fb_of (fe_op do_sub (fb_of (fe_callB (dc_len) rfl T.n_len (by rfl) (fab_cons (fb_var (pv 9)) fab_nil))) (fb_of fe_int))))) (fb_of fe_int))))))
    (fss_one (fs_if (ft_cmp (do_eq hr.units) (fb_var (pv 5)) (fb_of fe_int) (by rfl))
    (fss_one (fs_set (i := 11) sc_l_drawn.nd rfl (by first | exact Or.inl rfl | exact Or.inr rfl) (fe_op do_mul (fb_of (fe_opE do_add fe_int (fe_ix (hu_of hr) (fb_var (pv 4)) fe_int (fun _ _ => rfl)))) (fb_of (fe_callTy dc_int rfl T.n_int (by rfl) (fab_cons (fb_of (fe_cmp (do_eq hr.units) (fb_of (fe_callB (dc_len) rfl T.n_len (by rfl) (fab_cons (fb_of (fe_of_fn (t := false) (fn_lc (t := false) (own := [("good", 12)]) (ix := [12]) rfl sc_l_drawn.nd (fi_items (fe_var (pv 6))) (blkOk_by (by kernel_rfl)) (fun _ _ _ _ _ => (fg_name (i := 12) sc_l_drawn.nd rfl (by first | exact Or.inl rfl | exact Or.inr rfl))) (by decide) (fun _ _ _ _ _ => (fts_one (ft_inD (do_notin (units65 hr)) (fe_var (pv 12)) (fb_var (pv 9)) (by rfl)))) (fun _ _ _ _ _ => (fe_var (pv 12)))))) fab_nil))) (fb_of fe_int) (by rfl))) fab_nil))))))
    (fss_one (fs_if (ft_cmp (do_eq hr.units) (fb_var (pv 5)) (fb_of fe_int) (by rfl))
    (fss_one (fs_set (i := 11) sc_l_drawn.nd rfl (by first | exact Or.inl rfl | exact Or.inr rfl) (fe_op do_mul (fb_of (fe_op do_mul (fb_of (fe_cl C_l_mix (hr.mono (by decide)) hg bx_takes rfl (fa_cons (fe_var (pv 0)) (fa_cons (fe_opE do_add (fe_var (pv 1)) fe_int) (fa_cons fe_int fa_nil))))) (fb_of (fe_callB (dc_len) rfl T.n_len (by rfl) (fab_cons (fb_var (pv 9)) fab_nil))))) (fb_of (fe_callB (dc_len) rfl T.n_len (by rfl) (fab_cons (fb_var (pv 9)) fab_nil))))))
    fss_nil)))))))))
    (fss_one (fs_setD (hu_of hr) (pv 7) (fe_var (pv 9)) (fe_callB (dc_max rfl) rfl T.n_max (by rfl) (fab_cons (fb_of (fe_opE do_add (fe_opE do_add (fe_of_fn (t := false) (fn_list (t := false) (fa_cons fe_int fa_nil))) (fe_var (pv 10))) (fe_of_fn (t := false) (fn_list (t := false) (fa_cons (fe_op do_mul (fb_var (pv 11)) (fb_of (fe_callTy dc_int rfl T.n_int (by rfl) (fab_cons (fb_of (fe_cmp (do_ne hr.units) (fb_var (pv 9)) (fb_of (fe_tup fa_nil)) (by rfl))) fab_nil)))) fa_nil))))) fab_nil)))))))))
    (fss_one (fs_ret (fe_of_fn (t := false) (fn_lc (t := false) (own := [("bundle", 9)]) (ix := [9]) rfl sc_l_drawn.nd (fi_items (fe_var (pv 3))) (blkOk_by (by kernel_rfl)) (fun _ _ _ _ _ => (fg_name (i := 9) sc_l_drawn.nd rfl (by first | exact Or.inl rfl | exact Or.inr rfl))) (by decide) (fun _ _ _ _ _ => fts_nil) (fun _ _ _ _ _ => (fe_ix (hu_of hr) (fb_var (pv 7)) (fe_var (pv 9)) (fun _ _ => rfl)))))))))))))
theorem ok_l_book (T : Txt P K mg) {F_l_mix : List D → R D} {F_l_drawn : List D → R D} (C_l_mix : CallG P w K mg base 1 "_law_mix" F_l_mix) (C_l_drawn : CallG P w K mg base 2 "_law_drawn" F_l_drawn) : CallG P w K mg base 3 "_law_book" (runF 5 4 (g_l_book F_l_mix F_l_drawn)) := T.d_l_book.call sc_l_book rfl rfl fun f cdv A outer s H E hr hg =>
  (fss_one (fs_ret (fe_of_fn (t := false) (fn_lc (t := false) (own := [("t", 4)]) (ix := [4]) rfl sc_l_book.nd (fi_range1 rfl T.n_range (fab_cons (fb_of (fe_opE do_add fe_int (fe_cl C_l_mix (hr.mono (by decide)) hg bx_takes rfl (fa_cons (fe_var (pv 0)) (fa_cons (fe_opE do_add (fe_var (pv 1)) fe_int) (fa_cons (fe_var (pv 2)) fa_nil)))))) fab_nil)) (blkOk_by (by kernel_rfl)) (fun _ _ _ _ _ => (fg_name (i := 4) sc_l_book.nd rfl (by first | exact Or.inl rfl | exact Or.inr rfl))) (by decide) (fun _ _ _ _ _ => fts_nil) (fun _ _ _ _ _ => (fe_cl C_l_drawn (hr.mono (by decide)) hg takes0 rfl (fa_cons (fe_var (pv 0)) (fa_cons (fe_opE do_add (fe_var (pv 1)) (fe_op do_mul (fb_of fe_int) (fb_var (pv 4)))) (fa_cons (fe_var (pv 3)) fa_nil)))))))))
theorem ok_l_shares (T : Txt P K mg) : CallG P w K mg base 1 "_law_shares" (runF 7 2 g_l_shares) := T.d_l_shares.call sc_l_shares rfl rfl fun f cdv A outer s H E hr hg =>
  (fss_cons (fs_set (i := 2) sc_l_shares.nd rfl (by first | exact Or.inl rfl | exact Or.inr rfl) (fe_of_fn (t := false) (fn_list (t := false) (fa_cons (fe_op do_mul (fb_of (fe_of_fn (t := false) (fn_list (t := false) (fa_cons (fe_tup fa_nil) fa_nil)))) (fb_var (pv 0))) fa_nil))))
    (fss_cons (fs_for bx_owns rfl (fi_range1 rfl T.n_range (fab_cons (fb_var (pv 1)) fab_nil)) (fg_name (i := 3) sc_l_shares.nd rfl (by first | exact Or.inl rfl | exact Or.inr rfl))
    (fss_cons (fs_set (i := 4) sc_l_shares.nd rfl (by first | exact Or.inl rfl | exact Or.inr rfl) (fe_of_fn (t := false) (fn_callTy dc_list rfl T.n_list (by rfl) (fab_cons (fb_var (pv 2)) fab_nil))))
    (fss_cons (fs_for bx_owns rfl (fi_items (fe_var (pv 2))) (fg_name (i := 5) sc_l_shares.nd rfl (by first | exact Or.inl rfl | exact Or.inr rfl))
    (fss_one (fs_set (i := 4) sc_l_shares.nd rfl (by first | exact Or.inl rfl | exact Or.inr rfl) (fe_opE do_add (fe_var (pv 4)) (fe_of_fn (t := false) (fn_lc (t := false) (own := [("k", 6)]) (ix := [6]) rfl sc_l_shares.nd (fi_range1 rfl T.n_range (fab_cons (fb_var (pv 0)) fab_nil)) (blkOk_by (by kernel_rfl)) (fun _ _ _ _ _ => (fg_name (i := 6) sc_l_shares.nd rfl (by first | exact Or.inl rfl | exact Or.inr rfl))) (by decide) (fun _ _ _ _ _ => fts_nil) (fun _ _ _ _ _ => (fe_opE do_add (fe_opE do_add (fe_slice (fe_var (pv 5)) fo_none (fo_some (fe_var (pv 6)))) (fe_of_fn (t := false) (fn_list (t := false) (fa_cons (fe_opE do_add (fe_ix (hu_of hr) (fb_var (pv 5)) (fe_var (pv 6)) (fun _ _ => rfl)) (fe_tup (fa_cons (fe_var (pv 3)) fa_nil))) fa_nil)))) (fe_slice (fe_var (pv 5)) (fo_some (fe_opE do_add (fe_var (pv 6)) fe_int)) fo_none)))))))))
    (fss_one (fs_set (i := 2) sc_l_shares.nd rfl (by first | exact Or.inl rfl | exact Or.inr rfl) (fe_var (pv 4)))))))
    (fss_one (fs_ret (fe_var (pv 2))))))
theorem ok_l_numbers (T : Txt P K mg) : CallG P w K mg base 1 "_law_numbers" (runF 3 1 g_l_numbers) := T.d_l_numbers.call sc_l_numbers rfl rfl fun f cdv A outer s H E hr hg =>
  (fss_one (fs_ret (fe_of_fn (t := false) (fn_lc (t := false) (own := [("bundle", 1)]) (ix := [1]) rfl sc_l_numbers.nd (fi_items (fe_var (pv 0))) (blkOk_by (by kernel_rfl)) (fun _ _ _ _ _ => (fg_name (i := 1) sc_l_numbers.nd rfl (by first | exact Or.inl rfl | exact Or.inr rfl))) (by decide) (fun _ _ _ _ _ => fts_nil) (fun _ _ _ _ _ => (fe_callB (dc_sum rfl) rfl T.n_sum (by rfl) (fab_cons (fb_of (fe_of_fn (t := false) (fn_lc (t := false) (own := [("good", 2)]) (ix := [2]) rfl sc_l_numbers.nd (fi_items (fe_var (pv 1))) (blkOk_by (by kernel_rfl)) (fun _ _ _ _ _ => (fg_name (i := 2) sc_l_numbers.nd rfl (by first | exact Or.inl rfl | exact Or.inr rfl))) (by decide) (fun _ _ _ _ _ => fts_nil) (fun _ _ _ _ _ => (fe_ix (hu_of hr) (fb_of (fe_of_fn (t := false) (fn_list (t := false) (fa_cons fe_int (fa_cons fe_int (fa_cons fe_int (fa_cons fe_int (fa_cons fe_int (fa_cons fe_int fa_nil))))))))) (fe_var (pv 2)) (fun _ _ => rfl)))))) fab_nil)))))))
theorem ok_l_sum (T : Txt P K mg) {F_l_at : List D → R D} (C_l_at : CallG P w K mg base 1 "_law_at" F_l_at) : CallG P w K mg base 2 "_law_sum" (runF 3 2 (g_l_sum F_l_at)) := T.d_l_sum.call sc_l_sum rfl rfl fun f cdv A outer s H E hr hg =>
  (fss_one (fs_ret (fe_callB (dc_sum rfl) rfl T.n_sum (by rfl) (fab_cons (fb_of (fe_of_fn (t := false) (fn_lc (t := false) (own := [("k", 2)]) (ix := [2]) rfl sc_l_sum.nd (fi_range1 rfl T.n_range (fab_cons (fb_of (fe_callB (dc_len) rfl T.n_len (by rfl) (fab_cons (fb_var (pv 0)) fab_nil))) fab_nil)) (blkOk_by (by kernel_rfl)) (fun _ _ _ _ _ => (fg_name (i := 2) sc_l_sum.nd rfl (by first | exact Or.inl rfl | exact Or.inr rfl))) (by decide) (fun _ _ _ _ _ => fts_nil) (fun _ _ _ _ _ => (fe_cl C_l_at (hr.mono (by decide)) hg takes0 rfl (fa_cons (fe_ix (hu_of hr) (fb_var (pv 0)) (fe_var (pv 2)) (fun _ _ => rfl)) (fa_cons (fe_ix (hu_of hr) (fb_var (pv 1)) (fe_var (pv 2)) (fun _ _ => rfl)) fa_nil))))))) fab_nil))))
theorem ok_l_best (T : Txt P K mg) {F_l_shares : List D → R D} {F_l_sum : List D → R D} {F_l_numbers : List D → R D} (C_l_shares : CallG P w K mg base 1 "_law_shares" F_l_shares) (C_l_sum : CallG P w K mg base 2 "_law_sum" F_l_sum) (C_l_numbers : CallG P w K mg base 1 "_law_numbers" F_l_numbers) : CallG P w K mg base 3 "_law_best" (runF 5 2 (g_l_best F_l_shares F_l_sum F_l_numbers)) := T.d_l_best.call sc_l_best rfl rfl fun f cdv A outer s H E hr hg =>
  (fss_cons (fs_if (ft_cmp (do_eq hr.units) (fb_var (pv 0)) (fb_of (fe_of_fn (t := false) (fn_list (t := false) fa_nil))) (by rfl))
    (fss_one (fs_ret (fe_tup (fa_cons (fe_of_fn (t := false) (fn_list (t := false) fa_nil)) (fa_cons fe_int fa_nil)))))
    fss_nil)
    (fss_cons (fs_set (i := 2) sc_l_best.nd rfl (by first | exact Or.inl rfl | exact Or.inr rfl) fe_non)
    (fss_cons (fs_for bx_owns rfl (fi_items (fe_cl C_l_shares (hr.mono (by decide)) hg bx_takes rfl (fa_cons (fe_callB (dc_len) rfl T.n_len (by rfl) (fab_cons (fb_var (pv 0)) fab_nil)) (fa_cons (fe_var (pv 1)) fa_nil)))) (fg_name (i := 3) sc_l_best.nd rfl (by first | exact Or.inl rfl | exact Or.inr rfl))
    (fss_cons (fs_set (i := 4) sc_l_best.nd rfl (by first | exact Or.inl rfl | exact Or.inr rfl) (fe_tup (fa_cons (fe_un du_neg (fb_of (fe_cl C_l_sum (hr.mono (by decide)) hg bx_takes rfl (fa_cons (fe_var (pv 0)) (fa_cons (fe_var (pv 3)) fa_nil))))) (fa_cons (fe_cl C_l_numbers (hr.mono (by decide)) hg bx_takes rfl (fa_cons (fe_var (pv 3)) fa_nil)) fa_nil))))
    (fss_one (fs_if (ft_w (fw_or (ft_cmp do_is (fb_var (pv 2)) (fb_of fe_non) (by rfl)) (fw_or1 (ft_cmp (do_lt hr.units) (fb_var (pv 4)) (fb_of (fe_ix (hu_of hr) (fb_var (pv 2)) fe_int (fun _ _ => rfl))) (by rfl)))))
    (fss_one (fs_set (i := 2) sc_l_best.nd rfl (by first | exact Or.inl rfl | exact Or.inr rfl) (fe_tup (fa_cons (fe_var (pv 4)) (fa_cons (fe_var (pv 3)) fa_nil)))))
    fss_nil))))
    (fss_one (fs_ret (fe_tup (fa_cons (fe_ix (hu_of hr) (fb_var (pv 2)) fe_int (fun _ _ => rfl)) (fa_cons (fe_un du_neg (fb_of (fe_ix (hu_of hr) (fb_of (fe_ix (hu_of hr) (fb_var (pv 2)) fe_int (fun _ _ => rfl))) fe_int (fun _ _ => rfl)))) fa_nil))))))))
theorem ok_l_paid (T : Txt P K mg) {F_l_best : List D → R D} {F_l_at : List D → R D} (C_l_best : CallG P w K mg base 3 "_law_best" F_l_best) (C_l_at : CallG P w K mg base 1 "_law_at" F_l_at) : CallG P w K mg base 4 "_law_paid" (runF 9 3 (g_l_paid F_l_best F_l_at)) := T.d_l_paid.call sc_l_paid rfl rfl fun f cdv A outer s H E hr hg =>
  (fss_cons (fs_asg (fe_cl C_l_best (hr.mono (by decide)) hg bx_takes rfl (fa_cons (fe_var (pv 0)) (fa_cons (fe_var (pv 1)) fa_nil))) (fg_tup rfl (fgs_cons (fg_name (i := 5) sc_l_paid.nd rfl (by first | exact Or.inl rfl | exact Or.inr rfl)) (fgs_cons (fg_name (i := 6) sc_l_paid.nd rfl (by first | exact Or.inl rfl | exact Or.inr rfl)) fgs_nil)) (fun _ _ _ => gC_len (fun _ _ _ => gC_len (fun _ _ _ => gE_len)))))
    (fss_cons (fs_setN (i := 3) sc_l_paid.nd rfl (by first | exact Or.inl rfl | exact Or.inr rfl) (fn_list (t := false) fa_nil))
    (fss_cons (fs_for bx_owns rfl (fi_range1 rfl T.n_range (fab_cons (fb_of (fe_callB (dc_len) rfl T.n_len (by rfl) (fab_cons (fb_var (pv 0)) fab_nil))) fab_nil)) (fg_name (i := 4) sc_l_paid.nd rfl (by first | exact Or.inl rfl | exact Or.inr rfl))
    (fss_cons (fs_set (i := 7) sc_l_paid.nd rfl (by first | exact Or.inl rfl | exact Or.inr rfl) (fe_cl C_l_at (hr.mono (by decide)) hg bx_takes rfl (fa_cons (fe_ix (hu_of hr) (fb_var (pv 0)) (fe_var (pv 4)) (fun _ _ => rfl)) (fa_cons (fe_ix (hu_of hr) (fb_var (pv 5)) (fe_var (pv 4)) (fun _ _ => rfl)) fa_nil))))
    (fss_cons (fs_set (i := 8) sc_l_paid.nd rfl (by first | exact Or.inl rfl | exact Or.inr rfl) fe_int)
    (fss_cons (fs_if (ft_cmp (do_eq hr.units) (fb_var (pv 2)) (fb_of fe_str) (by rfl))
    (fss_one (fs_set (i := 8) sc_l_paid.nd rfl (by first | exact Or.inl rfl | exact Or.inr rfl) (fe_opE do_add (fe_op do_sub (fb_of (fe_ix (hu_of hr) (fb_of (fe_cl C_l_best (hr.mono (by decide)) hg bx_takes rfl (fa_cons (fe_opE do_add (fe_slice (fe_var (pv 0)) fo_none (fo_some (fe_var (pv 4)))) (fe_slice (fe_var (pv 0)) (fo_some (fe_opE do_add (fe_var (pv 4)) fe_int)) fo_none)) (fa_cons (fe_var (pv 1)) fa_nil)))) fe_int (fun _ _ => rfl))) (fb_var (pv 6))) (fe_var (pv 7)))))
    fss_nil)
    (fss_one (fs_append (pv 3) (fe_ix (hu_of hr) (fb_of (fe_of_fn (t := false) (fn_disp (fds_cons (key := (.inr "fair")) pe_str (fe_var (pv 8)) (fds_cons (key := (.inr "bid")) pe_str (fe_var (pv 7)) (fds_cons (key := (.inr "none")) pe_str fe_int fds_nil)))))) (fe_var (pv 2)) (fun _ _ => rfl))))))))
    (fss_one (fs_ret (fe_var (pv 3)))))))
theorem ok_l_gain (T : Txt P K mg) {F_l_at : List D → R D} {F_l_best : List D → R D} {F_l_paid : List D → R D} (C_l_at : CallG P w K mg base 1 "_law_at" F_l_at) (C_l_best : CallG P w K mg base 3 "_law_best" F_l_best) (C_l_paid : CallG P w K mg base 4 "_law_paid" F_l_paid) : CallG P w K mg base 5 "_law_gain" (runF 5 5 (g_l_gain F_l_at F_l_best F_l_paid)) := T.d_l_gain.call sc_l_gain rfl rfl fun f cdv A outer s H E hr hg =>
  (fss_one (fs_ret (fe_op do_sub (fb_of (fe_cl C_l_at (hr.mono (by decide)) hg bx_takes rfl (fa_cons (fe_var (pv 1)) (fa_cons (fe_ix (hu_of hr) (fb_of (fe_ix (hu_of hr) (fb_of (fe_cl C_l_best (hr.mono (by decide)) hg bx_takes rfl (fa_cons (fe_var (pv 0)) (fa_cons (fe_var (pv 2)) fa_nil)))) fe_int (fun _ _ => rfl))) (fe_var (pv 3)) (fun _ _ => rfl)) fa_nil)))) (fb_of (fe_ix (hu_of hr) (fb_of (fe_cl C_l_paid (hr.mono (by decide)) hg bx_takes rfl (fa_cons (fe_var (pv 0)) (fa_cons (fe_var (pv 2)) (fa_cons (fe_var (pv 4)) fa_nil))))) (fe_var (pv 3)) (fun _ _ => rfl))))))
theorem ok_l_lies (T : Txt P K mg) {F_l_subsets : List D → R D} {F_l_at : List D → R D} (C_l_subsets : CallG P w K mg base 1 "_law_subsets" F_l_subsets) (C_l_at : CallG P w K mg base 1 "_law_at" F_l_at) : CallG P w K mg base 2 "_law_lies" (runF 15 2 (g_l_lies F_l_subsets F_l_at)) := T.d_l_lies.call sc_l_lies rfl rfl fun f cdv A outer s H E hr hg =>
  (fss_cons (fs_set (i := 2) sc_l_lies.nd rfl (by first | exact Or.inl rfl | exact Or.inr rfl) (fe_cl C_l_subsets (hr.mono (by decide)) hg bx_takes rfl (fa_cons (fe_var (pv 1)) fa_nil)))
    (fss_cons (fs_setN (i := 3) sc_l_lies.nd rfl (by first | exact Or.inl rfl | exact Or.inr rfl) (fn_list (t := false) fa_nil))
    (fss_cons (fs_for bx_owns rfl (fi_items (fe_slice (fe_var (pv 2)) (fo_some fe_int) fo_none)) (fg_name (i := 4) sc_l_lies.nd rfl (by first | exact Or.inl rfl | exact Or.inr rfl))
    (fss_one (fs_if (ft_cmp do_gt (fb_of (fe_cl C_l_at (hr.mono (by decide)) hg bx_takes rfl (fa_cons (fe_var (pv 0)) (fa_cons (fe_var (pv 4)) fa_nil)))) (fb_of (fe_callB (dc_max rfl) rfl T.n_max (by rfl) (fab_cons (fb_of (fe_of_fn (t := false) (fn_lc (t := false) (own := [("good", 11)]) (ix := [11]) rfl sc_l_lies.nd (fi_items (fe_var (pv 4))) (blkOk_by (by kernel_rfl)) (fun _ _ _ _ _ => (fg_name (i := 11) sc_l_lies.nd rfl (by first | exact Or.inl rfl | exact Or.inr rfl))) (by decide) (fun _ _ _ _ _ => fts_nil) (fun _ _ _ _ _ => (fe_cl C_l_at (hr.mono (by decide)) hg takes0 rfl (fa_cons (fe_var (pv 0)) (fa_cons (fe_callTyE dc_tuple rfl T.n_tuple (by rfl) (fa_cons (fe_of_fn (t := false) (fn_lc (t := false) (own := [("one", 12)]) (ix := [12]) rfl sc_l_lies.nd (fi_items (fe_var (pv 4))) (blkOk_by (by kernel_rfl)) (fun _ _ _ _ _ => (fg_name (i := 12) sc_l_lies.nd rfl (by first | exact Or.inl rfl | exact Or.inr rfl))) (by decide) (fun _ _ _ _ _ => (fts_one (ft_cmp (do_ne hr.units) (fb_var (pv 12)) (fb_var (pv 11)) (by rfl)))) (fun _ _ _ _ _ => (fe_var (pv 12))))) fa_nil)) fa_nil))))))) fab_nil))) (by rfl))
    (fss_one (fs_append (pv 3) (fe_tup (fa_cons (fe_var (pv 4)) (fa_cons (fe_cl C_l_at (hr.mono (by decide)) hg bx_takes rfl (fa_cons (fe_var (pv 0)) (fa_cons (fe_var (pv 4)) fa_nil))) fa_nil)))))
    fss_nil)))
    (fss_cons (fs_setN (i := 5) sc_l_lies.nd rfl (by first | exact Or.inl rfl | exact Or.inr rfl) (fn_list (t := false) fa_nil))
    (fss_cons (fs_for bx_owns rfl (fi_range1 rfl T.n_range (fab_cons (fb_of (fe_callB (dc_len) rfl T.n_len (by rfl) (fab_cons (fb_var (pv 3)) fab_nil))) fab_nil)) (fg_name (i := 6) sc_l_lies.nd rfl (by first | exact Or.inl rfl | exact Or.inr rfl))
    (fss_cons (fs_set (i := 7) sc_l_lies.nd rfl (by first | exact Or.inl rfl | exact Or.inr rfl) (fe_ix (hu_of hr) (fb_of (fe_ix (hu_of hr) (fb_var (pv 3)) (fe_var (pv 6)) (fun _ _ => rfl))) fe_int (fun _ _ => rfl)))
    (fss_one (fs_for bx_owns rfl (fi_items (fe_of_fn (t := false) (fn_list (t := false) (fa_cons fe_int (fa_cons (fe_op do_div (fb_var (pv 7)) (fb_of fe_int)) (fa_cons (fe_op do_sub (fb_var (pv 7)) (fb_of fe_int)) (fa_cons (fe_opE do_add (fe_var (pv 7)) fe_int) (fa_cons (fe_op do_mul (fb_of fe_int) (fb_var (pv 7))) fa_nil)))))))) (fg_name (i := 8) sc_l_lies.nd rfl (by first | exact Or.inl rfl | exact Or.inr rfl))
    (fss_cons (fs_frz 3 (fs_set (i := 9) sc_l_lies.nd rfl (by first | exact Or.inl rfl | exact Or.inr rfl) (fe_opE do_add (fe_opE do_add (fe_slice (fe_var (pv 3)) fo_none (fo_some (fe_var (pv 6)))) (fe_of_fn (t := false) (fn_list (t := false) (fa_cons (fe_tup (fa_cons (fe_ix (hu_of hr) (fb_of (fe_ix (hu_of hr) (fb_var (pv 3)) (fe_var (pv 6)) (fun _ _ => rfl))) fe_int (fun _ _ => rfl)) (fa_cons (fe_callB (dc_min2 rfl) rfl T.n_min (by rfl) (fab_cons (fb_of fe_int) (fab_cons (fb_var (pv 8)) fab_nil))) fa_nil))) fa_nil)))) (fe_slice (fe_var (pv 3)) (fo_some (fe_opE do_add (fe_var (pv 6)) fe_int)) fo_none))))
    (fss_cons (fs_setN (i := 10) sc_l_lies.nd rfl (by first | exact Or.inl rfl | exact Or.inr rfl) (fn_list (t := false) fa_nil))
    (fss_cons (fs_for bx_owns rfl (fi_items (fe_var (pv 2))) (fg_name (i := 4) sc_l_lies.nd rfl (by first | exact Or.inl rfl | exact Or.inr rfl))
    (fss_one (fs_append (pv 10) (fe_callB (dc_max rfl) rfl T.n_max (by rfl) (fab_cons (fb_of (fe_opE do_add (fe_of_fn (t := false) (fn_list (t := false) (fa_cons fe_int fa_nil))) (fe_of_fn (t := false) (fn_lc (t := false) (own := [("part", 13), ("number", 14)]) (ix := [13, 14]) rfl sc_l_lies.nd (fi_items (fe_var (pv 9))) (blkOk_by (by kernel_rfl)) (fun _ _ _ _ _ => (fg_tup rfl (fgs_cons (fg_name (i := 13) sc_l_lies.nd rfl (by first | exact Or.inl rfl | exact Or.inr rfl)) (fgs_cons (fg_name (i := 14) sc_l_lies.nd rfl (by first | exact Or.inl rfl | exact Or.inr rfl)) fgs_nil)) (fun _ _ _ => gC_len (fun _ _ _ => gC_len (fun _ _ _ => gE_len))))) (by decide) (fun _ _ _ _ _ => (fts_one (ft_cmp (do_eq hr.units) (fb_of (fe_of_fn (t := false) (fn_lc (t := false) (own := [("good", 11)]) (ix := [11]) rfl sc_l_lies.nd (fi_items (fe_var (pv 13))) (blkOk_by (by kernel_rfl)) (fun _ _ _ _ _ => (fg_name (i := 11) sc_l_lies.nd rfl (by first | exact Or.inl rfl | exact Or.inr rfl))) (by decide) (fun _ _ _ _ _ => (fts_one (ft_inD (do_notin (units65 hr)) (fe_var (pv 11)) (fb_var (pv 4)) (by rfl)))) (fun _ _ _ _ _ => (fe_var (pv 11)))))) (fb_of (fe_of_fn (t := false) (fn_list (t := false) fa_nil))) (by rfl)))) (fun _ _ _ _ _ => (fe_var (pv 14))))))) fab_nil)))))
    (fss_one (fs_frz 10 (fs_if (ft_w (fw_and (ft_cmp (do_ne hr.units) (fb_var (pv 10)) (fb_var (pv 0)) (by rfl)) (fw_and1 (ft_inD (do_notin (units65 hr)) (fe_var (pv 10)) (fb_var (pv 5)) (by rfl)))))
    (fss_one (fs_frz 10 (fs_append (pv 5) (fe_var (pv 10)))))
    fss_nil))))))))))
    (fss_one (fs_ret (fe_var (pv 5)))))))))
theorem ok_l_with (T : Txt P K mg) : CallG P w K mg base 1 "_law_with" (runF 3 3 g_l_with) := T.d_l_with.call sc_l_with rfl rfl fun f cdv A outer s H E hr hg =>
  (fss_one (fs_ret (fe_opE do_add (fe_opE do_add (fe_slice (fe_var (pv 0)) fo_none (fo_some (fe_var (pv 1)))) (fe_of_fn (t := false) (fn_list (t := false) (fa_cons (fe_var (pv 2)) fa_nil)))) (fe_slice (fe_var (pv 0)) (fo_some (fe_opE do_add (fe_var (pv 1)) fe_int)) fo_none))))
theorem ok_l_fault (T : Txt P K mg) {F_payments : List D → R D} {F_gains : List D → R D} {F_income : List D → R D} {F_gain : List D → R D} {F_first_lie : List D → R D} {F_together_gain : List D → R D} {F_lies_about : List D → R D} (C_payments : CallG P w K mg base 9 "payments" F_payments) (C_gains : CallG P w K mg base 9 "gains" F_gains) (C_income : CallG P w K mg base 10 "income" F_income) (C_gain : CallG P w K mg base 9 "gain" F_gain) (C_first_lie : CallG P w K mg base 9 "first_lie" F_first_lie) (C_together_gain : CallG P w K mg base 9 "together_gain" F_together_gain) (C_lies_about : CallG P w K mg base 14 "lies_about" F_lies_about) : CallG P w K mg base 15 "_law_fault" (runF 6 5 (g_l_fault F_payments F_gains F_income F_gain F_first_lie F_together_gain F_lies_about)) := T.d_l_fault.call sc_l_fault rfl rfl fun f cdv A outer s H E hr hg =>
  (fss_cons (fs_tryAt rfl rfl sc_l_fault.nd (i := 5) rfl rfl bx_takes (.inl rfl) (by decide) (by decide) (fun _ => rfl) (fun _ _ _ _ _ => rfl) (fun _ _ => rfl) (fun W1 pn1 xe1 tk1 own1 => (fss_one (fs_if (ft_cmp (do_eq hr.units) (fb_var (pv 0)) (fb_of fe_int) (by rfl))
    (fss_one (fs_expr (fe_cl C_payments (hr.mono (by decide)) hg tk1 rfl (fa_cons (fe_var (pv 1)) (fa_cons (fe_var (pv 2)) fa_nil)))))
    (fss_one (fs_if (ft_cmp (do_eq hr.units) (fb_var (pv 0)) (fb_of fe_int) (by rfl))
    (fss_one (fs_expr (fe_cl C_gains (hr.mono (by decide)) hg tk1 rfl (fa_cons (fe_var (pv 1)) (fa_cons (fe_var (pv 2)) fa_nil)))))
    (fss_one (fs_if (ft_cmp (do_eq hr.units) (fb_var (pv 0)) (fb_of fe_int) (by rfl))
    (fss_one (fs_expr (fe_cl C_income (hr.mono (by decide)) hg tk1 rfl (fa_cons (fe_var (pv 1)) (fa_cons (fe_var (pv 2)) fa_nil)))))
    (fss_one (fs_if (ft_cmp (do_eq hr.units) (fb_var (pv 0)) (fb_of fe_int) (by rfl))
    (fss_one (fs_expr (fe_cl C_gain (hr.mono (by decide)) hg tk1 rfl (fa_cons (fe_var (pv 1)) (fa_cons (fe_var (pv 3)) (fa_cons (fe_var (pv 2)) (fa_cons (fe_var (pv 4)) fa_nil)))))))
    (fss_one (fs_if (ft_cmp (do_eq hr.units) (fb_var (pv 0)) (fb_of fe_int) (by rfl))
    (fss_one (fs_expr (fe_cl C_first_lie (hr.mono (by decide)) hg tk1 rfl (fa_cons (fe_var (pv 1)) (fa_cons (fe_var (pv 3)) (fa_cons (fe_var (pv 2)) (fa_cons (fe_of_fn (t := false) (fn_list (t := false) (fa_cons (fe_var (pv 4)) fa_nil))) fa_nil)))))))
    (fss_one (fs_if (ft_cmp (do_eq hr.units) (fb_var (pv 0)) (fb_of fe_int) (by rfl))
    (fss_one (fs_expr (fe_cl C_together_gain (hr.mono (by decide)) hg tk1 rfl (fa_cons (fe_var (pv 1)) (fa_cons (fe_var (pv 3)) (fa_cons fe_int (fa_cons (fe_var (pv 2)) (fa_cons (fe_var (pv 4)) (fa_cons (fe_var (pv 4)) fa_nil)))))))))
    (fss_one (fs_expr (fe_cl C_lies_about (hr.mono (by decide)) hg tk1 rfl (fa_cons (fe_var (pv 4)) fa_nil))))))))))))))))) (.cons rfl (by decide) T.x_BadBook.named (fa1 T.m_BadTable_BadBook (fa1 T.m_BadBook_BadBook (fa1 T.m_BadBidder_BadBook (fa1 T.m_BadWord_BadBook fa0)))) (.cons rfl (by decide) T.x_BadTable.named (fa1 T.m_BadTable_BadTable (fa1 T.m_BadBook_BadTable (fa1 T.m_BadBidder_BadTable (fa1 T.m_BadWord_BadTable fa0)))) (.cons rfl (by decide) T.x_BadWord.named (fa1 T.m_BadTable_BadWord (fa1 T.m_BadBook_BadWord (fa1 T.m_BadBidder_BadWord (fa1 T.m_BadWord_BadWord fa0)))) (.cons rfl (by decide) T.x_BadBidder.named (fa1 T.m_BadTable_BadBidder (fa1 T.m_BadBook_BadBidder (fa1 T.m_BadBidder_BadBidder (fa1 T.m_BadWord_BadBidder fa0)))) .nil)))))
    (fss_one (fs_ret (fe_tup (fa_cons fe_str (fa_cons fe_int fa_nil))))))
theorem ok_l_faults (T : Txt P K mg) {F_l_fault : List D → R D} (C_l_fault : CallG P w K mg base 15 "_law_fault" F_l_fault) : CallG P w K mg base 16 "_law_faults" (runF 3 0 (g_l_faults F_l_fault)) := T.d_l_faults.call sc_l_faults rfl rfl fun f cdv A outer s H E hr hg =>
  (fss_cons (fs_set (i := 0) sc_l_faults.nd rfl (by first | exact Or.inl rfl | exact Or.inr rfl) (fe_of_fn (t := false) (fn_list (t := false) (fa_cons fe_int (fa_cons fe_int fa_nil)))))
    (fss_cons (fs_for bx_owns rfl (fi_range1 rfl T.n_range (fab_cons (fb_of fe_int) fab_nil)) (fg_name (i := 1) sc_l_faults.nd rfl (by first | exact Or.inl rfl | exact Or.inr rfl))
    (fss_cons (fs_if (ft_w (fw_or (ft_cmp (do_ne hr.units) (fb_of (fe_cl C_l_fault (hr.mono (by decide)) hg bx_takes rfl (fa_cons (fe_var (pv 1)) (fa_cons (fe_of_fn (t := false) (fn_list (t := false) fa_nil)) (fa_cons fe_str (fa_cons fe_int (fa_cons (fe_of_fn (t := false) (fn_list (t := false) fa_nil)) fa_nil))))))) (fb_of (fe_tup (fa_cons fe_str (fa_cons fe_int fa_nil)))) (by rfl)) (fw_or (ft_cmp (do_ne hr.units) (fb_of (fe_cl C_l_fault (hr.mono (by decide)) hg bx_takes rfl (fa_cons (fe_var (pv 1)) (fa_cons (fe_of_fn (t := false) (fn_list (t := false) (fa_cons (fe_var (pv 0)) (fa_cons (fe_of_fn (t := false) (fn_list (t := false) (fa_cons fe_int (fa_cons fe_int (fa_cons fe_int (fa_cons fe_int fa_nil)))))) fa_nil)))) (fa_cons fe_str (fa_cons fe_int (fa_cons (fe_of_fn (t := false) (fn_list (t := false) fa_nil)) fa_nil))))))) (fb_of (fe_tup (fa_cons fe_str (fa_cons fe_int fa_nil)))) (by rfl)) (fw_or1 (ft_cmp (do_ne hr.units) (fb_of (fe_cl C_l_fault (hr.mono (by decide)) hg bx_takes rfl (fa_cons (fe_var (pv 1)) (fa_cons (fe_of_fn (t := false) (fn_list (t := false) (fa_cons (fe_var (pv 0)) (fa_cons (fe_var (pv 0)) fa_nil)))) (fa_cons fe_str (fa_cons fe_int (fa_cons (fe_of_fn (t := false) (fn_list (t := false) fa_nil)) fa_nil))))))) (fb_of (fe_tup (fa_cons fe_str (fa_cons fe_int fa_nil)))) (by rfl))))))
    (fss_one (fs_ret fe_bl))
    fss_nil)
    (fss_one (fs_if (ft_cmp do_gt (fb_var (pv 1)) (fb_of fe_int) (by rfl))
    (fss_cons (fs_for bx_owns rfl (fi_items (fe_of_fn (t := false) (fn_list (t := false) (fa_cons fe_int (fa_cons (fe_un du_neg (fb_of fe_int)) fa_nil))))) (fg_name (i := 2) sc_l_faults.nd rfl (by first | exact Or.inl rfl | exact Or.inr rfl))
    (fss_one (fs_if (ft_cmp (do_ne hr.units) (fb_of (fe_cl C_l_fault (hr.mono (by decide)) hg bx_takes rfl (fa_cons (fe_var (pv 1)) (fa_cons (fe_of_fn (t := false) (fn_list (t := false) (fa_cons (fe_var (pv 0)) (fa_cons (fe_var (pv 0)) fa_nil)))) (fa_cons fe_str (fa_cons (fe_var (pv 2)) (fa_cons (fe_of_fn (t := false) (fn_list (t := false) fa_nil)) fa_nil))))))) (fb_of (fe_tup (fa_cons fe_str (fa_cons (fe_var (pv 2)) fa_nil)))) (by rfl))
    (fss_one (fs_ret fe_bl))
    fss_nil)))
    (fss_one (fs_if (ft_w (fw_or (ft_cmp (do_ne hr.units) (fb_of (fe_cl C_l_fault (hr.mono (by decide)) hg bx_takes rfl (fa_cons (fe_var (pv 1)) (fa_cons (fe_of_fn (t := false) (fn_list (t := false) (fa_cons (fe_var (pv 0)) (fa_cons (fe_var (pv 0)) fa_nil)))) (fa_cons fe_str (fa_cons fe_int (fa_cons (fe_of_fn (t := false) (fn_list (t := false) (fa_cons fe_int (fa_cons fe_int (fa_cons fe_int (fa_cons fe_int fa_nil)))))) fa_nil))))))) (fb_of (fe_tup (fa_cons fe_str (fa_cons fe_int fa_nil)))) (by rfl)) (fw_or1 (ft_cmp (do_ne hr.units) (fb_of (fe_cl C_l_fault (hr.mono (by decide)) hg bx_takes rfl (fa_cons (fe_var (pv 1)) (fa_cons (fe_of_fn (t := false) (fn_list (t := false) (fa_cons (fe_var (pv 0)) (fa_cons (fe_var (pv 0)) fa_nil)))) (fa_cons fe_str (fa_cons fe_int (fa_cons (fe_of_fn (t := false) (fn_list (t := false) (fa_cons fe_int (fa_cons fe_int fa_nil)))) fa_nil))))))) (fb_of (fe_tup (fa_cons fe_str (fa_cons fe_int fa_nil)))) (by rfl)))))
    (fss_one (fs_ret fe_bl))
    fss_nil)))
    fss_nil))))
    (fss_one (fs_ret (fe_and (fe_cmp (do_eq hr.units) (fb_of (fe_cl C_l_fault (hr.mono (by decide)) hg bx_takes rfl (fa_cons fe_int (fa_cons (fe_of_fn (t := false) (fn_list (t := false) (fa_cons (fe_var (pv 0)) (fa_cons (fe_var (pv 0)) fa_nil)))) (fa_cons fe_str (fa_cons fe_int (fa_cons (fe_var (pv 0)) fa_nil))))))) (fb_of (fe_tup (fa_cons fe_str (fa_cons fe_int fa_nil)))) (by rfl)) (fe_one (fe_cmp (do_eq hr.units) (fb_of (fe_cl C_l_fault (hr.mono (by decide)) hg bx_takes rfl (fa_cons fe_int (fa_cons (fe_of_fn (t := false) (fn_list (t := false) fa_nil)) (fa_cons fe_str (fa_cons fe_int (fa_cons (fe_of_fn (t := false) (fn_list (t := false) (fa_cons fe_int fa_nil))) fa_nil))))))) (fb_of (fe_tup (fa_cons fe_str (fa_cons fe_int fa_nil)))) (by rfl))))))))
theorem ok_l_shown (T : Txt P K mg) {F_first_lie : List D → R D} {F_gains : List D → R D} {F_payments : List D → R D} {F_together_gain : List D → R D} (C_first_lie : CallG P w K mg base 9 "first_lie" F_first_lie) (C_gains : CallG P w K mg base 9 "gains" F_gains) (C_payments : CallG P w K mg base 9 "payments" F_payments) (C_together_gain : CallG P w K mg base 9 "together_gain" F_together_gain) : CallG P w K mg base 10 "_law_shown" (runF 2 0 (g_l_shown F_first_lie F_gains F_payments F_together_gain)) := T.d_l_shown.call sc_l_shown rfl rfl fun f cdv A outer s H E hr hg =>
  (fss_cons (fs_set (i := 0) sc_l_shown.nd rfl (by first | exact Or.inl rfl | exact Or.inr rfl) (fe_of_fn (t := false) (fn_list (t := false) (fa_cons (fe_of_fn (t := false) (fn_list (t := false) (fa_cons fe_int (fa_cons fe_int fa_nil)))) (fa_cons (fe_of_fn (t := false) (fn_list (t := false) (fa_cons fe_int (fa_cons fe_int fa_nil)))) fa_nil)))))
    (fss_cons (fs_if (ft_w (fw_or (ft_cmp (do_ne hr.units) (fb_of (fe_cl C_first_lie (hr.mono (by decide)) hg bx_takes rfl (fa_cons (fe_var (pv 0)) (fa_cons fe_int (fa_cons fe_str (fa_cons (fe_of_fn (t := false) (fn_list (t := false) (fa_cons (fe_of_fn (t := false) (fn_list (t := false) (fa_cons fe_int (fa_cons fe_int fa_nil)))) (fa_cons (fe_of_fn (t := false) (fn_list (t := false) (fa_cons fe_int (fa_cons fe_int fa_nil)))) fa_nil)))) fa_nil)))))) (fb_of (fe_tup (fa_cons fe_int (fa_cons fe_int fa_nil)))) (by rfl)) (fw_or1 (ft_cmp do_isnot (fb_of (fe_cl C_first_lie (hr.mono (by decide)) hg bx_takes rfl (fa_cons (fe_var (pv 0)) (fa_cons fe_int (fa_cons fe_str (fa_cons (fe_of_fn (t := false) (fn_list (t := false) (fa_cons (fe_of_fn (t := false) (fn_list (t := false) (fa_cons fe_int (fa_cons fe_int fa_nil)))) (fa_cons (fe_of_fn (t := false) (fn_list (t := false) (fa_cons fe_int (fa_cons fe_int fa_nil)))) (fa_cons (fe_of_fn (t := false) (fn_list (t := false) (fa_cons fe_int (fa_cons fe_int fa_nil)))) (fa_cons (fe_of_fn (t := false) (fn_list (t := false) (fa_cons fe_int (fa_cons fe_int fa_nil)))) fa_nil)))))) fa_nil)))))) (fb_of fe_non) (by rfl)))))
    (fss_one (fs_ret fe_bl))
    fss_nil)
    (fss_cons (fs_set (i := 1) sc_l_shown.nd rfl (by first | exact Or.inl rfl | exact Or.inr rfl) (fe_of_fn (t := false) (fn_list (t := false) (fa_cons (fe_of_fn (t := false) (fn_list (t := false) (fa_cons fe_int (fa_cons fe_int (fa_cons fe_int (fa_cons fe_int fa_nil)))))) (fa_cons (fe_of_fn (t := false) (fn_list (t := false) (fa_cons fe_int (fa_cons fe_int (fa_cons fe_int (fa_cons fe_int fa_nil)))))) (fa_cons (fe_of_fn (t := false) (fn_list (t := false) (fa_cons fe_int (fa_cons fe_int (fa_cons fe_int (fa_cons fe_int fa_nil)))))) fa_nil))))))
    (fss_cons (fs_if (ft_w (fw_or (ft_cmp (do_ne hr.units) (fb_of (fe_cl C_gains (hr.mono (by decide)) hg bx_takes rfl (fa_cons (fe_var (pv 1)) (fa_cons fe_str fa_nil)))) (fb_of (fe_of_fn (t := false) (fn_list (t := false) (fa_cons fe_int (fa_cons fe_int (fa_cons fe_int fa_nil)))))) (by rfl)) (fw_or1 (ft_cmp (do_ne hr.units) (fb_of (fe_cl C_payments (hr.mono (by decide)) hg bx_takes rfl (fa_cons (fe_var (pv 1)) (fa_cons fe_str fa_nil)))) (fb_of (fe_of_fn (t := false) (fn_list (t := false) (fa_cons fe_int (fa_cons fe_int (fa_cons fe_int fa_nil)))))) (by rfl)))))
    (fss_one (fs_ret fe_bl))
    fss_nil)
    (fss_one (fs_ret (fe_cmp (do_eq hr.units) (fb_of (fe_cl C_together_gain (hr.mono (by decide)) hg bx_takes rfl (fa_cons (fe_var (pv 1)) (fa_cons fe_int (fa_cons fe_int (fa_cons fe_str (fa_cons (fe_of_fn (t := false) (fn_list (t := false) (fa_cons fe_int (fa_cons fe_int (fa_cons fe_int (fa_cons fe_int fa_nil)))))) (fa_cons (fe_of_fn (t := false) (fn_list (t := false) (fa_cons fe_int (fa_cons fe_int (fa_cons fe_int (fa_cons fe_int fa_nil)))))) fa_nil)))))))) (fb_of fe_int) (by rfl))))))))
theorem ok_law (T : Txt P K mg) {F_l_draws : List Int → R D} {F_l_mix : List D → R D} {F_l_book : List D → R D} {F_l_best : List D → R D} {F_l_paid : List D → R D} {F_l_at : List D → R D} {F_payments : List D → R D} {F_gains : List D → R D} {F_income : List D → R D} {F_l_lies : List D → R D} {F_l_drawn : List D → R D} {F_l_gain : List D → R D} {F_l_with : List D → R D} {F_gain : List D → R D} {F_lies_about : List D → R D} {F_first_lie : List D → R D} {F_together_gain : List D → R D} {F_best : List D → R D} {F_l_shown : List D → R D} {F_l_faults : List D → R D} (C_l_draws : CallS P w K mg base 1 "_law_draws" F_l_draws) (C_l_mix : CallG P w K mg base 1 "_law_mix" F_l_mix) (C_l_book : CallG P w K mg base 3 "_law_book" F_l_book) (C_l_best : CallG P w K mg base 3 "_law_best" F_l_best) (C_l_paid : CallG P w K mg base 4 "_law_paid" F_l_paid) (C_l_at : CallG P w K mg base 1 "_law_at" F_l_at) (C_payments : CallG P w K mg base 9 "payments" F_payments) (C_gains : CallG P w K mg base 9 "gains" F_gains) (C_income : CallG P w K mg base 10 "income" F_income) (C_l_lies : CallG P w K mg base 2 "_law_lies" F_l_lies) (C_l_drawn : CallG P w K mg base 2 "_law_drawn" F_l_drawn) (C_l_gain : CallG P w K mg base 5 "_law_gain" F_l_gain) (C_l_with : CallG P w K mg base 1 "_law_with" F_l_with) (C_gain : CallG P w K mg base 9 "gain" F_gain) (C_lies_about : CallG P w K mg base 14 "lies_about" F_lies_about) (C_first_lie : CallG P w K mg base 9 "first_lie" F_first_lie) (C_together_gain : CallG P w K mg base 9 "together_gain" F_together_gain) (C_best : CallG P w K mg base 6 "best" F_best) (C_l_shown : CallG P w K mg base 10 "_law_shown" F_l_shown) (C_l_faults : CallG P w K mg base 16 "_law_faults" F_l_faults) : CallS P w K mg base 17 "law" (runS 21 (g_law F_l_draws F_l_mix F_l_book F_l_best F_l_paid F_l_at F_payments F_gains F_income F_l_lies F_l_drawn F_l_gain F_l_with F_gain F_lies_about F_first_lie F_together_gain F_best F_l_shown F_l_faults)) := T.d_law.callS sc_law rfl fun f cdv A outer s H E hr hg =>
  (fss_cons (fs_set (i := 1) sc_law.nd rfl (by first | exact Or.inl rfl | exact Or.inr rfl) (fe_clS C_l_draws (hr.mono (by decide)) hg bx_takes rfl (pv 0)))
    (fss_cons (fs_set (i := 2) sc_law.nd rfl (by first | exact Or.inl rfl | exact Or.inr rfl) (fe_opE do_add fe_int (fe_cl C_l_mix (hr.mono (by decide)) hg bx_takes rfl (fa_cons (fe_var (pv 1)) (fa_cons fe_int (fa_cons fe_int fa_nil))))))
    (fss_cons (fs_set (i := 3) sc_law.nd rfl (by first | exact Or.inl rfl | exact Or.inr rfl) (fe_cl C_l_book (hr.mono (by decide)) hg bx_takes rfl (fa_cons (fe_var (pv 1)) (fa_cons fe_int (fa_cons fe_int (fa_cons (fe_var (pv 2)) fa_nil))))))
    (fss_cons (fs_set (i := 4) sc_law.nd rfl (by first | exact Or.inl rfl | exact Or.inr rfl) (fe_repr (units65 hr) hg rfl T.n_repr (fe_var (pv 3))))
    (fss_cons (fs_asg (fe_cl C_l_best (hr.mono (by decide)) hg bx_takes rfl (fa_cons (fe_var (pv 3)) (fa_cons (fe_var (pv 2)) fa_nil))) (fg_tup rfl (fgs_cons (fg_name (i := 6) sc_law.nd rfl (by first | exact Or.inl rfl | exact Or.inr rfl)) (fgs_cons (fg_name (i := 7) sc_law.nd rfl (by first | exact Or.inl rfl | exact Or.inr rfl)) fgs_nil)) (fun _ _ _ => gC_len (fun _ _ _ => gC_len (fun _ _ _ => gE_len)))))
    (fss_cons (fs_for bx_owns rfl (fi_items (fe_of_fn (t := false) (fn_list (t := false) (fa_cons fe_str (fa_cons fe_str (fa_cons fe_str fa_nil)))))) (fg_name (i := 5) sc_law.nd rfl (by first | exact Or.inl rfl | exact Or.inr rfl))
    (fss_cons (fs_set (i := 8) sc_law.nd rfl (by first | exact Or.inl rfl | exact Or.inr rfl) (fe_cl C_l_paid (hr.mono (by decide)) hg bx_takes rfl (fa_cons (fe_var (pv 3)) (fa_cons (fe_var (pv 2)) (fa_cons (fe_var (pv 5)) fa_nil)))))
    (fss_cons (fs_set (i := 9) sc_law.nd rfl (by first | exact Or.inl rfl | exact Or.inr rfl) (fe_of_fn (t := false) (fn_lc (t := false) (own := [("k", 10)]) (ix := [10]) rfl sc_law.nd (fi_range1 rfl T.n_range (fab_cons (fb_of (fe_callB (dc_len) rfl T.n_len (by rfl) (fab_cons (fb_var (pv 3)) fab_nil))) fab_nil)) (blkOk_by (by kernel_rfl)) (fun _ _ _ _ _ => (fg_name (i := 10) sc_law.nd rfl (by first | exact Or.inl rfl | exact Or.inr rfl))) (by decide) (fun _ _ _ _ _ => fts_nil) (fun _ _ _ _ _ => (fe_op do_sub (fb_of (fe_cl C_l_at (hr.mono (by decide)) hg takes0 rfl (fa_cons (fe_ix (hu_of hr) (fb_var (pv 3)) (fe_var (pv 10)) (fun _ _ => rfl)) (fa_cons (fe_ix (hu_of hr) (fb_var (pv 6)) (fe_var (pv 10)) (fun _ _ => rfl)) fa_nil)))) (fb_of (fe_ix (hu_of hr) (fb_var (pv 8)) (fe_var (pv 10)) (fun _ _ => rfl))))))))
    (fss_cons (fs_if (ft_w (fw_or (ft_cmp (do_ne hr.units) (fb_of (fe_cl C_payments (hr.mono (by decide)) hg bx_takes rfl (fa_cons (fe_var (pv 3)) (fa_cons (fe_var (pv 5)) fa_nil)))) (fb_var (pv 8)) (by rfl)) (fw_or (ft_cmp (do_ne hr.units) (fb_of (fe_cl C_gains (hr.mono (by decide)) hg bx_takes rfl (fa_cons (fe_var (pv 3)) (fa_cons (fe_var (pv 5)) fa_nil)))) (fb_var (pv 9)) (by rfl)) (fw_or1 (ft_cmp (do_ne hr.units) (fb_of (fe_cl C_income (hr.mono (by decide)) hg bx_takes rfl (fa_cons (fe_var (pv 3)) (fa_cons (fe_var (pv 5)) fa_nil)))) (fb_of (fe_callB (dc_sum rfl) rfl T.n_sum (by rfl) (fab_cons (fb_var (pv 8)) fab_nil))) (by rfl))))))
    (fss_one (fs_ret fe_bl))
    fss_nil)
    (fss_cons (fs_if (ft_cmp (do_ne hr.units) (fb_of (fe_of_fn (t := false) (fn_lc (t := false) (own := [("k", 10)]) (ix := [10]) rfl sc_law.nd (fi_range1 rfl T.n_range (fab_cons (fb_of (fe_callB (dc_len) rfl T.n_len (by rfl) (fab_cons (fb_var (pv 3)) fab_nil))) fab_nil)) (blkOk_by (by kernel_rfl)) (fun _ _ _ _ _ => (fg_name (i := 10) sc_law.nd rfl (by first | exact Or.inl rfl | exact Or.inr rfl))) (by decide) (fun _ _ _ _ _ => (fts_one (ft_not (ft_chain do_le do_le (fb_of fe_int) (fb_of (fe_ix (hu_of hr) (fb_var (pv 8)) (fe_var (pv 10)) (fun _ _ => rfl))) (fb_of (fe_cl C_l_at (hr.mono (by decide)) hg takes0 rfl (fa_cons (fe_ix (hu_of hr) (fb_var (pv 3)) (fe_var (pv 10)) (fun _ _ => rfl)) (fa_cons (fe_ix (hu_of hr) (fb_var (pv 6)) (fe_var (pv 10)) (fun _ _ => rfl)) fa_nil)))) (by rfl))))) (fun _ _ _ _ _ => (fe_var (pv 10)))))) (fb_of (fe_of_fn (t := false) (fn_list (t := false) fa_nil))) (by rfl))
    (fss_one (fs_ret fe_bl))
    fss_nil)
    (fss_cons (fs_set (i := 10) sc_law.nd rfl (by first | exact Or.inl rfl | exact Or.inr rfl) (fe_cl C_l_mix (hr.mono (by decide)) hg bx_takes rfl (fa_cons (fe_var (pv 1)) (fa_cons fe_int (fa_cons (fe_callB (dc_len) rfl T.n_len (by rfl) (fab_cons (fb_var (pv 3)) fab_nil)) fa_nil)))))
    (fss_cons (fs_set (i := 11) sc_law.nd rfl (by first | exact Or.inl rfl | exact Or.inr rfl) (fe_cl C_l_lies (hr.mono (by decide)) hg bx_takes rfl (fa_cons (fe_ix (hu_of hr) (fb_var (pv 3)) (fe_var (pv 10)) (fun _ _ => rfl)) (fa_cons (fe_var (pv 2)) fa_nil))))
    (fss_cons (fs_set (i := 12) sc_law.nd rfl (by first | exact Or.inl rfl | exact Or.inr rfl) (fe_opE do_add (fe_of_fn (t := false) (fn_lc (t := false) (own := [("t", 19)]) (ix := [19]) rfl sc_law.nd (fi_range1 rfl T.n_range (fab_cons (fb_of fe_int) fab_nil)) (blkOk_by (by kernel_rfl)) (fun _ _ _ _ _ => (fg_name (i := 19) sc_law.nd rfl (by first | exact Or.inl rfl | exact Or.inr rfl))) (by decide) (fun _ _ _ _ _ => fts_nil) (fun _ _ _ _ _ => (fe_cl C_l_drawn (hr.mono (by decide)) hg takes0 rfl (fa_cons (fe_var (pv 1)) (fa_cons (fe_opE do_add fe_int (fe_op do_mul (fb_of fe_int) (fb_var (pv 19)))) (fa_cons (fe_var (pv 2)) fa_nil))))))) (fe_slice (fe_var (pv 11)) fo_none (fo_some fe_int))))
    (fss_cons (fs_set (i := 13) sc_law.nd rfl (by first | exact Or.inl rfl | exact Or.inr rfl) (fe_of_fn (t := false) (fn_lc (t := false) (own := [("lie", 18)]) (ix := [18]) rfl sc_law.nd (fi_items (fe_var (pv 12))) (blkOk_by (by kernel_rfl)) (fun _ _ _ _ _ => (fg_name (i := 18) sc_law.nd rfl (by first | exact Or.inl rfl | exact Or.inr rfl))) (by decide) (fun _ _ _ _ _ => fts_nil) (fun _ _ _ _ _ => (fe_op do_sub (fb_of (fe_cl C_l_gain (hr.mono (by decide)) hg takes0 rfl (fa_cons (fe_cl C_l_with (hr.mono (by decide)) hg takes0 rfl (fa_cons (fe_var (pv 3)) (fa_cons (fe_var (pv 10)) (fa_cons (fe_var (pv 18)) fa_nil)))) (fa_cons (fe_ix (hu_of hr) (fb_var (pv 3)) (fe_var (pv 10)) (fun _ _ => rfl)) (fa_cons (fe_var (pv 2)) (fa_cons (fe_var (pv 10)) (fa_cons (fe_var (pv 5)) fa_nil))))))) (fb_of (fe_ix (hu_of hr) (fb_var (pv 9)) (fe_var (pv 10)) (fun _ _ => rfl))))))))
    (fss_cons (fs_if (ft_w (fw_or (ft_cmp (do_ne hr.units) (fb_of (fe_of_fn (t := false) (fn_lc (t := false) (own := [("lie", 18)]) (ix := [18]) rfl sc_law.nd (fi_items (fe_var (pv 12))) (blkOk_by (by kernel_rfl)) (fun _ _ _ _ _ => (fg_name (i := 18) sc_law.nd rfl (by first | exact Or.inl rfl | exact Or.inr rfl))) (by decide) (fun _ _ _ _ _ => fts_nil) (fun _ _ _ _ _ => (fe_cl C_gain (hr.mono (by decide)) hg takes0 rfl (fa_cons (fe_var (pv 3)) (fa_cons (fe_var (pv 10)) (fa_cons (fe_var (pv 5)) (fa_cons (fe_var (pv 18)) fa_nil))))))))) (fb_of (fe_of_fn (t := false) (fn_lc (t := false) (own := [("one", 20)]) (ix := [20]) rfl sc_law.nd (fi_items (fe_var (pv 13))) (blkOk_by (by kernel_rfl)) (fun _ _ _ _ _ => (fg_name (i := 20) sc_law.nd rfl (by first | exact Or.inl rfl | exact Or.inr rfl))) (by decide) (fun _ _ _ _ _ => fts_nil) (fun _ _ _ _ _ => (fe_opE do_add (fe_var (pv 20)) (fe_ix (hu_of hr) (fb_var (pv 9)) (fe_var (pv 10)) (fun _ _ => rfl))))))) (by rfl)) (fw_or1 (ft_cmp (do_ne hr.units) (fb_of (fe_cl C_lies_about (hr.mono (by decide)) hg bx_takes rfl (fa_cons (fe_ix (hu_of hr) (fb_var (pv 3)) (fe_var (pv 10)) (fun _ _ => rfl)) fa_nil))) (fb_var (pv 11)) (by rfl)))))
    (fss_one (fs_ret fe_bl))
    fss_nil)
    (fss_cons (fs_if (ft_w (fw_and (ft_cmp (do_eq hr.units) (fb_var (pv 5)) (fb_of fe_str) (by rfl)) (fw_and1 (ft_cmp do_gt (fb_of (fe_callB (dc_max rfl) rfl T.n_max (by rfl) (fab_cons (fb_of (fe_opE do_add (fe_of_fn (t := false) (fn_list (t := false) (fa_cons fe_int fa_nil))) (fe_var (pv 13)))) fab_nil))) (fb_of fe_int) (by rfl)))))
    (fss_one (fs_ret fe_bl))
    fss_nil)
    (fss_cons (fs_setLcV (i := 14) (own := [("j", 15)]) (ix := [15]) rfl sc_law.nd rfl rfl (by rfl) (fi_range1 rfl T.n_range (fab_cons (fb_of (fe_callB (dc_len) rfl T.n_len (by rfl) (fab_cons (fb_var (pv 12)) fab_nil))) fab_nil)) (blkOk_by (by kernel_rfl)) (fun _ _ _ _ _ => (fg_name (i := 15) sc_law.nd rfl (by first | exact Or.inl rfl | exact Or.inr rfl))) (by decide) (fun _ _ _ _ _ => (fts_one (ft_cmp do_gt (fb_of (fe_ix (hu_of hr) (fb_var (pv 13)) (fe_var (pv 15)) (fun _ _ => rfl))) (fb_of fe_int) (by rfl)))) (fun _ _ _ _ _ => (fe_tup (fa_cons (fe_var (pv 15)) (fa_cons (fe_ix (hu_of hr) (fb_var (pv 13)) (fe_var (pv 15)) (fun _ _ => rfl)) fa_nil)))))
    (fss_cons (fs_if (ft_cmp (do_ne hr.units) (fb_of (fe_repr (units65 hr) hg rfl T.n_repr (fe_cl C_first_lie (hr.mono (by decide)) hg bx_takes rfl (fa_cons (fe_var (pv 3)) (fa_cons (fe_var (pv 10)) (fa_cons (fe_var (pv 5)) (fa_cons (fe_var (pv 12)) fa_nil))))))) (fb_of (fe_repr (units65 hr) hg rfl T.n_repr (fe_ix (hu_of hr) (fb_of (fe_opE do_add (fe_var (pv 14)) (fe_of_fn (t := false) (fn_list (t := false) (fa_cons fe_non fa_nil))))) fe_int (fun _ _ => rfl)))) (by rfl))
    (fss_one (fs_ret fe_bl))
    fss_nil)
    (fss_cons (fs_if (ft_w (fw_and (ft_cmp (do_eq hr.units) (fb_var (pv 5)) (fb_of fe_str) (by rfl)) (fw_and1 (ft_cmp do_isnot (fb_of (fe_cl C_first_lie (hr.mono (by decide)) hg bx_takes rfl (fa_cons (fe_var (pv 3)) (fa_cons (fe_var (pv 10)) (fa_cons (fe_var (pv 5)) (fa_cons (fe_cl C_lies_about (hr.mono (by decide)) hg bx_takes rfl (fa_cons (fe_ix (hu_of hr) (fb_var (pv 3)) (fe_var (pv 10)) (fun _ _ => rfl)) fa_nil)) fa_nil)))))) (fb_of fe_non) (by rfl)))))
    (fss_one (fs_ret fe_bl))
    fss_nil)
    (fss_one (fs_if (ft_cmp do_gt (fb_of (fe_callB (dc_len) rfl T.n_len (by rfl) (fab_cons (fb_var (pv 3)) fab_nil))) (fb_of fe_int) (by rfl))
    (fss_cons (fs_set (i := 15) sc_law.nd rfl (by first | exact Or.inl rfl | exact Or.inr rfl) (fe_op do_mod (fb_of (fe_callTy dc_int rfl T.n_int (by rfl) (fab_cons (fb_of (fe_opE do_add (fe_var (pv 10)) fe_int)) fab_nil))) (fb_of (fe_callB (dc_len) rfl T.n_len (by rfl) (fab_cons (fb_var (pv 3)) fab_nil)))))
    (fss_cons (fs_set (i := 16) sc_law.nd rfl (by first | exact Or.inl rfl | exact Or.inr rfl) (fe_cl C_l_with (hr.mono (by decide)) hg bx_takes rfl (fa_cons (fe_cl C_l_with (hr.mono (by decide)) hg bx_takes rfl (fa_cons (fe_var (pv 3)) (fa_cons (fe_var (pv 10)) (fa_cons (fe_ix (hu_of hr) (fb_var (pv 12)) fe_int (fun _ _ => rfl)) fa_nil)))) (fa_cons (fe_var (pv 15)) (fa_cons (fe_ix (hu_of hr) (fb_var (pv 12)) fe_int (fun _ _ => rfl)) fa_nil)))))
    (fss_cons (fs_set (i := 17) sc_law.nd rfl (by first | exact Or.inl rfl | exact Or.inr rfl) (fe_op do_sub (fb_of (fe_op do_sub (fb_of (fe_opE do_add (fe_cl C_l_gain (hr.mono (by decide)) hg bx_takes rfl (fa_cons (fe_var (pv 16)) (fa_cons (fe_ix (hu_of hr) (fb_var (pv 3)) (fe_var (pv 10)) (fun _ _ => rfl)) (fa_cons (fe_var (pv 2)) (fa_cons (fe_var (pv 10)) (fa_cons (fe_var (pv 5)) fa_nil)))))) (fe_cl C_l_gain (hr.mono (by decide)) hg bx_takes rfl (fa_cons (fe_var (pv 16)) (fa_cons (fe_ix (hu_of hr) (fb_var (pv 3)) (fe_var (pv 15)) (fun _ _ => rfl)) (fa_cons (fe_var (pv 2)) (fa_cons (fe_var (pv 15)) (fa_cons (fe_var (pv 5)) fa_nil)))))))) (fb_of (fe_ix (hu_of hr) (fb_var (pv 9)) (fe_var (pv 10)) (fun _ _ => rfl))))) (fb_of (fe_ix (hu_of hr) (fb_var (pv 9)) (fe_var (pv 15)) (fun _ _ => rfl)))))
    (fss_one (fs_if (ft_cmp (do_ne hr.units) (fb_of (fe_cl C_together_gain (hr.mono (by decide)) hg bx_takes rfl (fa_cons (fe_var (pv 3)) (fa_cons (fe_var (pv 10)) (fa_cons (fe_var (pv 15)) (fa_cons (fe_var (pv 5)) (fa_cons (fe_ix (hu_of hr) (fb_var (pv 12)) fe_int (fun _ _ => rfl)) (fa_cons (fe_ix (hu_of hr) (fb_var (pv 12)) fe_int (fun _ _ => rfl)) fa_nil)))))))) (fb_var (pv 17)) (by rfl))
    (fss_one (fs_ret fe_bl))
    fss_nil)))))
    fss_nil))))))))))))))))
    (fss_one (fs_ret (fe_and (fe_cmp (do_eq hr.units) (fb_of (fe_cl C_best (hr.mono (by decide)) hg bx_takes rfl (fa_cons (fe_var (pv 3)) fa_nil))) (fb_of (fe_tup (fa_cons (fe_var (pv 6)) (fa_cons (fe_var (pv 7)) fa_nil)))) (by rfl)) (fe_and (fe_cmp (do_eq hr.units) (fb_of (fe_repr (units65 hr) hg rfl T.n_repr (fe_var (pv 3)))) (fb_var (pv 4)) (by rfl)) (fe_and (fe_cl0 C_l_shown (hr.mono (by decide)) hg bx_takes rfl) (fe_one (fe_cl0 C_l_faults (hr.mono (by decide)) hg bx_takes rfl)))))))))))))
end
section
variable {P : Program} {w : World} {K : Frg} {mg : MgT} {base : Heap}
theorem c_inner (T : Txt P K mg) : CallG P w K mg base 1 "inner" f_inner := ok_inner T
theorem c_number_of (T : Txt P K mg) : CallG P w K mg base 1 "number_of" f_number_of := ok_number_of T
theorem c_bundle_of (T : Txt P K mg) : CallG P w K mg base 1 "bundle_of" f_bundle_of := ok_bundle_of T
theorem c_within (T : Txt P K mg) : CallG P w K mg base 1 "within" f_within := ok_within T
theorem c_most_of (T : Txt P K mg) : CallG P w K mg base 1 "most_of" f_most_of := ok_most_of T
theorem c_goods_in (T : Txt P K mg) : CallG P w K mg base 1 "goods_in" f_goods_in := ok_goods_in T
theorem c_tree_of (T : Txt P K mg) : CallG P w K mg base 1 "tree_of" f_tree_of := ok_tree_of T
theorem c_with_lie (T : Txt P K mg) : CallG P w K mg base 1 "with_lie" f_with_lie := ok_with_lie T
theorem c_changed (T : Txt P K mg) : CallG P w K mg base 1 "changed" f_changed := ok_changed T
theorem c_l_draws (T : Txt P K mg) : CallS P w K mg base 1 "_law_draws" f_l_draws := ok_l_draws T
theorem c_l_mix (T : Txt P K mg) : CallG P w K mg base 1 "_law_mix" f_l_mix := ok_l_mix T
theorem c_l_subsets (T : Txt P K mg) : CallG P w K mg base 1 "_law_subsets" f_l_subsets := ok_l_subsets T
theorem c_l_at (T : Txt P K mg) : CallG P w K mg base 1 "_law_at" f_l_at := ok_l_at T
theorem c_l_shares (T : Txt P K mg) : CallG P w K mg base 1 "_law_shares" f_l_shares := ok_l_shares T
theorem c_l_numbers (T : Txt P K mg) : CallG P w K mg base 1 "_law_numbers" f_l_numbers := ok_l_numbers T
theorem c_l_with (T : Txt P K mg) : CallG P w K mg base 1 "_law_with" f_l_with := ok_l_with T
theorem c_parts_of (T : Txt P K mg) : CallG P w K mg base 2 "parts_of" f_parts_of := ok_parts_of T (c_within T)
theorem c_is_table (T : Txt P K mg) : CallG P w K mg base 2 "is_table" f_is_table := ok_is_table T (c_bundle_of T)
theorem c_l_drawn (T : Txt P K mg) : CallG P w K mg base 2 "_law_drawn" f_l_drawn := ok_l_drawn T (c_l_subsets T) (c_l_mix T)
theorem c_l_sum (T : Txt P K mg) : CallG P w K mg base 2 "_law_sum" f_l_sum := ok_l_sum T (c_l_at T)
theorem c_l_lies (T : Txt P K mg) : CallG P w K mg base 2 "_law_lies" f_l_lies := ok_l_lies T (c_l_subsets T) (c_l_at T)
theorem c_together (T : Txt P K mg) : CallG P w K mg base 3 "together" f_together := ok_together T (c_parts_of T)
theorem c_check_table (T : Txt P K mg) : CallG P w K mg base 3 "check_table" f_check_table := ok_check_table T (c_is_table T)
theorem c_check_book (T : Txt P K mg) : CallG P w K mg base 3 "check_book" f_check_book := ok_check_book T (c_is_table T)
theorem c_most_at (T : Txt P K mg) : CallG P w K mg base 3 "most_at" f_most_at := ok_most_at T (c_parts_of T)
theorem c_l_book (T : Txt P K mg) : CallG P w K mg base 3 "_law_book" f_l_book := ok_l_book T (c_l_mix T) (c_l_drawn T)
theorem c_l_best (T : Txt P K mg) : CallG P w K mg base 3 "_law_best" f_l_best := ok_l_best T (c_l_shares T) (c_l_sum T) (c_l_numbers T)
theorem c_up_to (T : Txt P K mg) : CallG P w K mg base 4 "up_to" f_up_to := ok_up_to T (c_together T) (c_most_of T)
theorem c_normal (T : Txt P K mg) : CallG P w K mg base 4 "normal" f_normal := ok_normal T (c_check_table T) (c_bundle_of T)
theorem c_rests (T : Txt P K mg) : CallG P w K mg base 4 "rests" f_rests := ok_rests T (c_most_at T)
theorem c_check_word (T : Txt P K mg) : CallG P w K mg base 4 "check_word" f_check_word := ok_check_word T (c_check_book T)
theorem c_l_paid (T : Txt P K mg) : CallG P w K mg base 4 "_law_paid" f_l_paid := ok_l_paid T (c_l_best T) (c_l_at T)
theorem c_best_of (T : Txt P K mg) : CallG P w K mg base 5 "best_of" f_best_of := ok_best_of T (c_rests T) (c_parts_of T) (c_bundle_of T)
theorem c_check_lies (T : Txt P K mg) : CallG P w K mg base 5 "check_lies" f_check_lies := ok_check_lies T (c_check_word T) (c_is_table T)
theorem c_l_gain (T : Txt P K mg) : CallG P w K mg base 5 "_law_gain" f_l_gain := ok_l_gain T (c_l_at T) (c_l_best T) (c_l_paid T)
theorem c_best (T : Txt P K mg) : CallG P w K mg base 6 "best" f_best := ok_best T (c_check_book T) (c_best_of T)
theorem c_sum_without (T : Txt P K mg) : CallG P w K mg base 6 "sum_without" f_sum_without := ok_sum_without T (c_best_of T)
theorem c_paid_by (T : Txt P K mg) : CallG P w K mg base 7 "paid_by" f_paid_by := ok_paid_by T (c_number_of T) (c_sum_without T)
theorem c_all_paid (T : Txt P K mg) : CallG P w K mg base 8 "all_paid" f_all_paid := ok_all_paid T (c_best_of T) (c_paid_by T)
theorem c_gain_of (T : Txt P K mg) : CallG P w K mg base 8 "gain_of" f_gain_of := ok_gain_of T (c_best_of T) (c_number_of T) (c_paid_by T)
theorem c_payments (T : Txt P K mg) : CallG P w K mg base 9 "payments" f_payments := ok_payments T (c_check_word T) (c_all_paid T)
theorem c_gain (T : Txt P K mg) : CallG P w K mg base 9 "gain" f_gain := ok_gain T (c_check_lies T) (c_gain_of T) (c_with_lie T)
theorem c_gains (T : Txt P K mg) : CallG P w K mg base 9 "gains" f_gains := ok_gains T (c_check_word T) (c_gain_of T)
theorem c_first_lie (T : Txt P K mg) : CallG P w K mg base 9 "first_lie" f_first_lie := ok_first_lie T (c_check_lies T) (c_gain_of T) (c_with_lie T)
theorem c_together_gain (T : Txt P K mg) : CallG P w K mg base 9 "together_gain" f_together_gain := ok_together_gain T (c_check_word T) (c_is_table T) (c_with_lie T) (c_gain_of T)
theorem c_income (T : Txt P K mg) : CallG P w K mg base 10 "income" f_income := ok_income T (c_payments T)
theorem c_l_shown (T : Txt P K mg) : CallG P w K mg base 10 "_law_shown" f_l_shown := ok_l_shown T (c_first_lie T) (c_gains T) (c_payments T) (c_together_gain T)
theorem c_worths_n (T : Txt P K mg) : ∀ n : Nat, CallG P w K mg base (5 + n) "worths" (f_worths_n n)
  | 0 => T.d_worths.idle
  | n + 1 => ok_worths T (c_number_of T) (c_within T) (c_inner T) (c_worths_n T n) (c_most_of T) (c_up_to T)
theorem c_worths (T : Txt P K mg) : CallG P w K mg base 13 "worths" f_worths := c_worths_n T 8
theorem c_lies_about (T : Txt P K mg) : CallG P w K mg base 14 "lies_about" f_lies_about := ok_lies_about T (c_check_table T) (c_normal T) (c_worths T) (c_tree_of T) (c_changed T) (c_goods_in T)
theorem c_l_fault (T : Txt P K mg) : CallG P w K mg base 15 "_law_fault" f_l_fault := ok_l_fault T (c_payments T) (c_gains T) (c_income T) (c_gain T) (c_first_lie T) (c_together_gain T) (c_lies_about T)
theorem c_l_faults (T : Txt P K mg) : CallG P w K mg base 16 "_law_faults" f_l_faults := ok_l_faults T (c_l_fault T)
theorem c_law (T : Txt P K mg) : CallS P w K mg base 17 "law" f_law := ok_law T (c_l_draws T) (c_l_mix T) (c_l_book T) (c_l_best T) (c_l_paid T) (c_l_at T) (c_payments T) (c_gains T) (c_income T) (c_l_lies T) (c_l_drawn T) (c_l_gain T) (c_l_with T) (c_gain T) (c_lies_about T) (c_first_lie T) (c_together_gain T) (c_best T) (c_l_shown T) (c_l_faults T)
end
theorem mk_txt {P : Program} {K : Frg} {mg : MgT} {h : Heap} (X : K.In h) (G0 : h.Ns mainGlobals mg) {F_inner : Addr} {oc_inner : Value} {od_inner an_inner : Option Addr} {sl_inner : Array (Option Value)} {kV_inner dc_inner pm_inner cd_inner ct_inner : Value} {F_number_of : Addr} {oc_number_of : Value} {od_number_of an_number_of : Option Addr} {sl_number_of : Array (Option Value)} {kV_number_of dc_number_of pm_number_of cd_number_of ct_number_of : Value} {F_bundle_of : Addr} {oc_bundle_of : Value} {od_bundle_of an_bundle_of : Option Addr} {sl_bundle_of : Array (Option Value)} {kV_bundle_of dc_bundle_of pm_bundle_of cd_bundle_of ct_bundle_of : Value} {F_within : Addr} {oc_within : Value} {od_within an_within : Option Addr} {sl_within : Array (Option Value)} {kV_within dc_within pm_within cd_within ct_within : Value} {F_parts_of : Addr} {oc_parts_of : Value} {od_parts_of an_parts_of : Option Addr} {sl_parts_of : Array (Option Value)} {kV_parts_of dc_parts_of pm_parts_of cd_parts_of ct_parts_of : Value} {F_together : Addr} {oc_together : Value} {od_together an_together : Option Addr} {sl_together : Array (Option Value)} {kV_together dc_together pm_together cd_together ct_together : Value} {F_most_of : Addr} {oc_most_of : Value} {od_most_of an_most_of : Option Addr} {sl_most_of : Array (Option Value)} {kV_most_of dc_most_of pm_most_of cd_most_of ct_most_of : Value} {F_up_to : Addr} {oc_up_to : Value} {od_up_to an_up_to : Option Addr} {sl_up_to : Array (Option Value)} {kV_up_to dc_up_to pm_up_to cd_up_to ct_up_to : Value} {F_worths : Addr} {oc_worths : Value} {od_worths an_worths : Option Addr} {sl_worths : Array (Option Value)} {kV_worths dc_worths pm_worths cd_worths ct_worths : Value} {F_is_table : Addr} {oc_is_table : Value} {od_is_table an_is_table : Option Addr} {sl_is_table : Array (Option Value)} {kV_is_table dc_is_table pm_is_table cd_is_table ct_is_table : Value} {F_check_table : Addr} {oc_check_table : Value} {od_check_table an_check_table : Option Addr} {sl_check_table : Array (Option Value)} {kV_check_table dc_check_table pm_check_table cd_check_table ct_check_table : Value} {F_goods_in : Addr} {oc_goods_in : Value} {od_goods_in an_goods_in : Option Addr} {sl_goods_in : Array (Option Value)} {kV_goods_in dc_goods_in pm_goods_in cd_goods_in ct_goods_in : Value} {F_normal : Addr} {oc_normal : Value} {od_normal an_normal : Option Addr} {sl_normal : Array (Option Value)} {kV_normal dc_normal pm_normal cd_normal ct_normal : Value} {F_tree_of : Addr} {oc_tree_of : Value} {od_tree_of an_tree_of : Option Addr} {sl_tree_of : Array (Option Value)} {kV_tree_of dc_tree_of pm_tree_of cd_tree_of ct_tree_of : Value} {F_check_book : Addr} {oc_check_book : Value} {od_check_book an_check_book : Option Addr} {sl_check_book : Array (Option Value)} {kV_check_book dc_check_book pm_check_book cd_check_book ct_check_book : Value} {F_most_at : Addr} {oc_most_at : Value} {od_most_at an_most_at : Option Addr} {sl_most_at : Array (Option Value)} {kV_most_at dc_most_at pm_most_at cd_most_at ct_most_at : Value} {F_rests : Addr} {oc_rests : Value} {od_rests an_rests : Option Addr} {sl_rests : Array (Option Value)} {kV_rests dc_rests pm_rests cd_rests ct_rests : Value} {F_best_of : Addr} {oc_best_of : Value} {od_best_of an_best_of : Option Addr} {sl_best_of : Array (Option Value)} {kV_best_of dc_best_of pm_best_of cd_best_of ct_best_of : Value} {F_best : Addr} {oc_best : Value} {od_best an_best : Option Addr} {sl_best : Array (Option Value)} {kV_best dc_best pm_best cd_best ct_best : Value} {F_sum_without : Addr} {oc_sum_without : Value} {od_sum_without an_sum_without : Option Addr} {sl_sum_without : Array (Option Value)} {kV_sum_without dc_sum_without pm_sum_without cd_sum_without ct_sum_without : Value} {F_check_word : Addr} {oc_check_word : Value} {od_check_word an_check_word : Option Addr} {sl_check_word : Array (Option Value)} {kV_check_word dc_check_word pm_check_word cd_check_word ct_check_word : Value} {F_paid_by : Addr} {oc_paid_by : Value} {od_paid_by an_paid_by : Option Addr} {sl_paid_by : Array (Option Value)} {kV_paid_by dc_paid_by pm_paid_by cd_paid_by ct_paid_by : Value} {F_all_paid : Addr} {oc_all_paid : Value} {od_all_paid an_all_paid : Option Addr} {sl_all_paid : Array (Option Value)} {kV_all_paid dc_all_paid pm_all_paid cd_all_paid ct_all_paid : Value} {F_payments : Addr} {oc_payments : Value} {od_payments an_payments : Option Addr} {sl_payments : Array (Option Value)} {kV_payments dc_payments pm_payments cd_payments ct_payments : Value} {F_gain_of : Addr} {oc_gain_of : Value} {od_gain_of an_gain_of : Option Addr} {sl_gain_of : Array (Option Value)} {kV_gain_of dc_gain_of pm_gain_of cd_gain_of ct_gain_of : Value} {F_with_lie : Addr} {oc_with_lie : Value} {od_with_lie an_with_lie : Option Addr} {sl_with_lie : Array (Option Value)} {kV_with_lie dc_with_lie pm_with_lie cd_with_lie ct_with_lie : Value} {F_check_lies : Addr} {oc_check_lies : Value} {od_check_lies an_check_lies : Option Addr} {sl_check_lies : Array (Option Value)} {kV_check_lies dc_check_lies pm_check_lies cd_check_lies ct_check_lies : Value} {F_gain : Addr} {oc_gain : Value} {od_gain an_gain : Option Addr} {sl_gain : Array (Option Value)} {kV_gain dc_gain pm_gain cd_gain ct_gain : Value} {F_gains : Addr} {oc_gains : Value} {od_gains an_gains : Option Addr} {sl_gains : Array (Option Value)} {kV_gains dc_gains pm_gains cd_gains ct_gains : Value} {F_income : Addr} {oc_income : Value} {od_income an_income : Option Addr} {sl_income : Array (Option Value)} {kV_income dc_income pm_income cd_income ct_income : Value} {F_first_lie : Addr} {oc_first_lie : Value} {od_first_lie an_first_lie : Option Addr} {sl_first_lie : Array (Option Value)} {kV_first_lie dc_first_lie pm_first_lie cd_first_lie ct_first_lie : Value} {F_changed : Addr} {oc_changed : Value} {od_changed an_changed : Option Addr} {sl_changed : Array (Option Value)} {kV_changed dc_changed pm_changed cd_changed ct_changed : Value} {F_lies_about : Addr} {oc_lies_about : Value} {od_lies_about an_lies_about : Option Addr} {sl_lies_about : Array (Option Value)} {kV_lies_about dc_lies_about pm_lies_about cd_lies_about ct_lies_about : Value} {F_together_gain : Addr} {oc_together_gain : Value} {od_together_gain an_together_gain : Option Addr} {sl_together_gain : Array (Option Value)} {kV_together_gain dc_together_gain pm_together_gain cd_together_gain ct_together_gain : Value} {F_l_draws : Addr} {oc_l_draws : Value} {od_l_draws an_l_draws : Option Addr} {sl_l_draws : Array (Option Value)} {kV_l_draws dc_l_draws pm_l_draws cd_l_draws ct_l_draws : Value} {F_l_mix : Addr} {oc_l_mix : Value} {od_l_mix an_l_mix : Option Addr} {sl_l_mix : Array (Option Value)} {kV_l_mix dc_l_mix pm_l_mix cd_l_mix ct_l_mix : Value} {F_l_subsets : Addr} {oc_l_subsets : Value} {od_l_subsets an_l_subsets : Option Addr} {sl_l_subsets : Array (Option Value)} {kV_l_subsets dc_l_subsets pm_l_subsets cd_l_subsets ct_l_subsets : Value} {F_l_at : Addr} {oc_l_at : Value} {od_l_at an_l_at : Option Addr} {sl_l_at : Array (Option Value)} {kV_l_at dc_l_at pm_l_at cd_l_at ct_l_at : Value} {F_l_drawn : Addr} {oc_l_drawn : Value} {od_l_drawn an_l_drawn : Option Addr} {sl_l_drawn : Array (Option Value)} {kV_l_drawn dc_l_drawn pm_l_drawn cd_l_drawn ct_l_drawn : Value} {F_l_book : Addr} {oc_l_book : Value} {od_l_book an_l_book : Option Addr} {sl_l_book : Array (Option Value)} {kV_l_book dc_l_book pm_l_book cd_l_book ct_l_book : Value} {F_l_shares : Addr} {oc_l_shares : Value} {od_l_shares an_l_shares : Option Addr} {sl_l_shares : Array (Option Value)} {kV_l_shares dc_l_shares pm_l_shares cd_l_shares ct_l_shares : Value} {F_l_numbers : Addr} {oc_l_numbers : Value} {od_l_numbers an_l_numbers : Option Addr} {sl_l_numbers : Array (Option Value)} {kV_l_numbers dc_l_numbers pm_l_numbers cd_l_numbers ct_l_numbers : Value} {F_l_sum : Addr} {oc_l_sum : Value} {od_l_sum an_l_sum : Option Addr} {sl_l_sum : Array (Option Value)} {kV_l_sum dc_l_sum pm_l_sum cd_l_sum ct_l_sum : Value} {F_l_best : Addr} {oc_l_best : Value} {od_l_best an_l_best : Option Addr} {sl_l_best : Array (Option Value)} {kV_l_best dc_l_best pm_l_best cd_l_best ct_l_best : Value} {F_l_paid : Addr} {oc_l_paid : Value} {od_l_paid an_l_paid : Option Addr} {sl_l_paid : Array (Option Value)} {kV_l_paid dc_l_paid pm_l_paid cd_l_paid ct_l_paid : Value} {F_l_gain : Addr} {oc_l_gain : Value} {od_l_gain an_l_gain : Option Addr} {sl_l_gain : Array (Option Value)} {kV_l_gain dc_l_gain pm_l_gain cd_l_gain ct_l_gain : Value} {F_l_lies : Addr} {oc_l_lies : Value} {od_l_lies an_l_lies : Option Addr} {sl_l_lies : Array (Option Value)} {kV_l_lies dc_l_lies pm_l_lies cd_l_lies ct_l_lies : Value} {F_l_with : Addr} {oc_l_with : Value} {od_l_with an_l_with : Option Addr} {sl_l_with : Array (Option Value)} {kV_l_with dc_l_with pm_l_with cd_l_with ct_l_with : Value} {F_l_fault : Addr} {oc_l_fault : Value} {od_l_fault an_l_fault : Option Addr} {sl_l_fault : Array (Option Value)} {kV_l_fault dc_l_fault pm_l_fault cd_l_fault ct_l_fault : Value} {F_l_faults : Addr} {oc_l_faults : Value} {od_l_faults an_l_faults : Option Addr} {sl_l_faults : Array (Option Value)} {kV_l_faults dc_l_faults pm_l_faults cd_l_faults ct_l_faults : Value} {F_l_shown : Addr} {oc_l_shown : Value} {od_l_shown an_l_shown : Option Addr} {sl_l_shown : Array (Option Value)} {kV_l_shown dc_l_shown pm_l_shown cd_l_shown ct_l_shown : Value} {F_law : Addr} {oc_law : Value} {od_law an_law : Option Addr} {sl_law : Array (Option Value)} {kV_law dc_law pm_law cd_law ct_law : Value} {A_POWERS : Addr} {n_POWERS : Nat} {od_POWERS : Option Addr} {sl_POWERS : Array (Option Value)} {t_POWERS_0 t_POWERS_1 t_POWERS_2 t_POWERS_3 t_POWERS_4 t_POWERS_5 t_POWERS_6 : Tok} {A_LENGTHS : Addr} {n_LENGTHS : Nat} {od_LENGTHS : Option Addr} {sl_LENGTHS : Array (Option Value)} {t_LENGTHS_0 t_LENGTHS_1 t_LENGTHS_2 t_LENGTHS_3 t_LENGTHS_4 t_LENGTHS_5 : Tok} {t_MOST_WORTH : Tok} {t_MOST_BIDDERS : Tok} {A_WORDS : Addr} {n_WORDS : Nat} {od_WORDS : Option Addr} {sl_WORDS : Array (Option Value)} {t_WORDS_0 t_WORDS_1 t_WORDS_2 : Tok} {B_LENGTHS : Addr} {m_LENGTHS : Nat} {sm_LENGTHS : Array (Option Value)} {s_LENGTHS_0 s_LENGTHS_1 s_LENGTHS_2 s_LENGTHS_3 s_LENGTHS_4 s_LENGTHS_5 : Tok} {C_BadWord_BadBidder D_BadWord_BadBidder : Addr} {C_BadBidder_BadBidder D_BadBidder_BadBidder : Addr} {C_BadBook_BadBidder D_BadBook_BadBidder : Addr} {C_BadTable_BadBidder D_BadTable_BadBidder : Addr} {C_BadWord_BadWord D_BadWord_BadWord : Addr} {C_BadBidder_BadWord D_BadBidder_BadWord : Addr} {C_BadBook_BadWord D_BadBook_BadWord : Addr} {C_BadTable_BadWord D_BadTable_BadWord : Addr} {C_BadWord_BadTable D_BadWord_BadTable : Addr} {C_BadBidder_BadTable D_BadBidder_BadTable : Addr} {C_BadBook_BadTable D_BadBook_BadTable : Addr} {C_BadTable_BadTable D_BadTable_BadTable : Addr} {C_BadWord_BadBook D_BadWord_BadBook : Addr} {C_BadBidder_BadBook D_BadBidder_BadBook : Addr} {C_BadBook_BadBook D_BadBook_BadBook : Addr} {C_BadTable_BadBook D_BadTable_BadBook : Addr}
    (a_inner : PySem.W.nsIn K mainGlobals "inner" = some (some (.ref F_inner)))
    (l_inner : K.lookup F_inner = some ⟨oc_inner, od_inner, .func (PySem.W.fnOf "inner" "inner" (defArgs s_inner) (defBody s_inner) (defScope s_inner) .none kV_inner dc_inner pm_inner an_inner cd_inner ct_inner), sl_inner⟩)
    (k_inner : PySem.W.codeIn K cd_inner "inner" = true)
    (p_inner : PySem.W.keepIn K (.ref F_inner) = true)
    (a_number_of : PySem.W.nsIn K mainGlobals "number_of" = some (some (.ref F_number_of)))
    (l_number_of : K.lookup F_number_of = some ⟨oc_number_of, od_number_of, .func (PySem.W.fnOf "number_of" "number_of" (defArgs s_number_of) (defBody s_number_of) (defScope s_number_of) .none kV_number_of dc_number_of pm_number_of an_number_of cd_number_of ct_number_of), sl_number_of⟩)
    (k_number_of : PySem.W.codeIn K cd_number_of "number_of" = true)
    (p_number_of : PySem.W.keepIn K (.ref F_number_of) = true)
    (a_bundle_of : PySem.W.nsIn K mainGlobals "bundle_of" = some (some (.ref F_bundle_of)))
    (l_bundle_of : K.lookup F_bundle_of = some ⟨oc_bundle_of, od_bundle_of, .func (PySem.W.fnOf "bundle_of" "bundle_of" (defArgs s_bundle_of) (defBody s_bundle_of) (defScope s_bundle_of) .none kV_bundle_of dc_bundle_of pm_bundle_of an_bundle_of cd_bundle_of ct_bundle_of), sl_bundle_of⟩)
    (k_bundle_of : PySem.W.codeIn K cd_bundle_of "bundle_of" = true)
    (p_bundle_of : PySem.W.keepIn K (.ref F_bundle_of) = true)
    (a_within : PySem.W.nsIn K mainGlobals "within" = some (some (.ref F_within)))
    (l_within : K.lookup F_within = some ⟨oc_within, od_within, .func (PySem.W.fnOf "within" "within" (defArgs s_within) (defBody s_within) (defScope s_within) .none kV_within dc_within pm_within an_within cd_within ct_within), sl_within⟩)
    (k_within : PySem.W.codeIn K cd_within "within" = true)
    (p_within : PySem.W.keepIn K (.ref F_within) = true)
    (a_parts_of : PySem.W.nsIn K mainGlobals "parts_of" = some (some (.ref F_parts_of)))
    (l_parts_of : K.lookup F_parts_of = some ⟨oc_parts_of, od_parts_of, .func (PySem.W.fnOf "parts_of" "parts_of" (defArgs s_parts_of) (defBody s_parts_of) (defScope s_parts_of) .none kV_parts_of dc_parts_of pm_parts_of an_parts_of cd_parts_of ct_parts_of), sl_parts_of⟩)
    (k_parts_of : PySem.W.codeIn K cd_parts_of "parts_of" = true)
    (p_parts_of : PySem.W.keepIn K (.ref F_parts_of) = true)
    (a_together : PySem.W.nsIn K mainGlobals "together" = some (some (.ref F_together)))
    (l_together : K.lookup F_together = some ⟨oc_together, od_together, .func (PySem.W.fnOf "together" "together" (defArgs s_together) (defBody s_together) (defScope s_together) .none kV_together dc_together pm_together an_together cd_together ct_together), sl_together⟩)
    (k_together : PySem.W.codeIn K cd_together "together" = true)
    (p_together : PySem.W.keepIn K (.ref F_together) = true)
    (a_most_of : PySem.W.nsIn K mainGlobals "most_of" = some (some (.ref F_most_of)))
    (l_most_of : K.lookup F_most_of = some ⟨oc_most_of, od_most_of, .func (PySem.W.fnOf "most_of" "most_of" (defArgs s_most_of) (defBody s_most_of) (defScope s_most_of) .none kV_most_of dc_most_of pm_most_of an_most_of cd_most_of ct_most_of), sl_most_of⟩)
    (k_most_of : PySem.W.codeIn K cd_most_of "most_of" = true)
    (p_most_of : PySem.W.keepIn K (.ref F_most_of) = true)
    (a_up_to : PySem.W.nsIn K mainGlobals "up_to" = some (some (.ref F_up_to)))
    (l_up_to : K.lookup F_up_to = some ⟨oc_up_to, od_up_to, .func (PySem.W.fnOf "up_to" "up_to" (defArgs s_up_to) (defBody s_up_to) (defScope s_up_to) .none kV_up_to dc_up_to pm_up_to an_up_to cd_up_to ct_up_to), sl_up_to⟩)
    (k_up_to : PySem.W.codeIn K cd_up_to "up_to" = true)
    (p_up_to : PySem.W.keepIn K (.ref F_up_to) = true)
    (a_worths : PySem.W.nsIn K mainGlobals "worths" = some (some (.ref F_worths)))
    (l_worths : K.lookup F_worths = some ⟨oc_worths, od_worths, .func (PySem.W.fnOf "worths" "worths" (defArgs s_worths) (defBody s_worths) (defScope s_worths) .none kV_worths dc_worths pm_worths an_worths cd_worths ct_worths), sl_worths⟩)
    (k_worths : PySem.W.codeIn K cd_worths "worths" = true)
    (p_worths : PySem.W.keepIn K (.ref F_worths) = true)
    (a_is_table : PySem.W.nsIn K mainGlobals "is_table" = some (some (.ref F_is_table)))
    (l_is_table : K.lookup F_is_table = some ⟨oc_is_table, od_is_table, .func (PySem.W.fnOf "is_table" "is_table" (defArgs s_is_table) (defBody s_is_table) (defScope s_is_table) .none kV_is_table dc_is_table pm_is_table an_is_table cd_is_table ct_is_table), sl_is_table⟩)
    (k_is_table : PySem.W.codeIn K cd_is_table "is_table" = true)
    (p_is_table : PySem.W.keepIn K (.ref F_is_table) = true)
    (a_check_table : PySem.W.nsIn K mainGlobals "check_table" = some (some (.ref F_check_table)))
    (l_check_table : K.lookup F_check_table = some ⟨oc_check_table, od_check_table, .func (PySem.W.fnOf "check_table" "check_table" (defArgs s_check_table) (defBody s_check_table) (defScope s_check_table) .none kV_check_table dc_check_table pm_check_table an_check_table cd_check_table ct_check_table), sl_check_table⟩)
    (k_check_table : PySem.W.codeIn K cd_check_table "check_table" = true)
    (p_check_table : PySem.W.keepIn K (.ref F_check_table) = true)
    (a_goods_in : PySem.W.nsIn K mainGlobals "goods_in" = some (some (.ref F_goods_in)))
    (l_goods_in : K.lookup F_goods_in = some ⟨oc_goods_in, od_goods_in, .func (PySem.W.fnOf "goods_in" "goods_in" (defArgs s_goods_in) (defBody s_goods_in) (defScope s_goods_in) .none kV_goods_in dc_goods_in pm_goods_in an_goods_in cd_goods_in ct_goods_in), sl_goods_in⟩)
    (k_goods_in : PySem.W.codeIn K cd_goods_in "goods_in" = true)
    (p_goods_in : PySem.W.keepIn K (.ref F_goods_in) = true)
    (a_normal : PySem.W.nsIn K mainGlobals "normal" = some (some (.ref F_normal)))
    (l_normal : K.lookup F_normal = some ⟨oc_normal, od_normal, .func (PySem.W.fnOf "normal" "normal" (defArgs s_normal) (defBody s_normal) (defScope s_normal) .none kV_normal dc_normal pm_normal an_normal cd_normal ct_normal), sl_normal⟩)
    (k_normal : PySem.W.codeIn K cd_normal "normal" = true)
    (p_normal : PySem.W.keepIn K (.ref F_normal) = true)
    (a_tree_of : PySem.W.nsIn K mainGlobals "tree_of" = some (some (.ref F_tree_of)))
    (l_tree_of : K.lookup F_tree_of = some ⟨oc_tree_of, od_tree_of, .func (PySem.W.fnOf "tree_of" "tree_of" (defArgs s_tree_of) (defBody s_tree_of) (defScope s_tree_of) .none kV_tree_of dc_tree_of pm_tree_of an_tree_of cd_tree_of ct_tree_of), sl_tree_of⟩)
    (k_tree_of : PySem.W.codeIn K cd_tree_of "tree_of" = true)
    (p_tree_of : PySem.W.keepIn K (.ref F_tree_of) = true)
    (a_check_book : PySem.W.nsIn K mainGlobals "check_book" = some (some (.ref F_check_book)))
    (l_check_book : K.lookup F_check_book = some ⟨oc_check_book, od_check_book, .func (PySem.W.fnOf "check_book" "check_book" (defArgs s_check_book) (defBody s_check_book) (defScope s_check_book) .none kV_check_book dc_check_book pm_check_book an_check_book cd_check_book ct_check_book), sl_check_book⟩)
    (k_check_book : PySem.W.codeIn K cd_check_book "check_book" = true)
    (p_check_book : PySem.W.keepIn K (.ref F_check_book) = true)
    (a_most_at : PySem.W.nsIn K mainGlobals "most_at" = some (some (.ref F_most_at)))
    (l_most_at : K.lookup F_most_at = some ⟨oc_most_at, od_most_at, .func (PySem.W.fnOf "most_at" "most_at" (defArgs s_most_at) (defBody s_most_at) (defScope s_most_at) .none kV_most_at dc_most_at pm_most_at an_most_at cd_most_at ct_most_at), sl_most_at⟩)
    (k_most_at : PySem.W.codeIn K cd_most_at "most_at" = true)
    (p_most_at : PySem.W.keepIn K (.ref F_most_at) = true)
    (a_rests : PySem.W.nsIn K mainGlobals "rests" = some (some (.ref F_rests)))
    (l_rests : K.lookup F_rests = some ⟨oc_rests, od_rests, .func (PySem.W.fnOf "rests" "rests" (defArgs s_rests) (defBody s_rests) (defScope s_rests) .none kV_rests dc_rests pm_rests an_rests cd_rests ct_rests), sl_rests⟩)
    (k_rests : PySem.W.codeIn K cd_rests "rests" = true)
    (p_rests : PySem.W.keepIn K (.ref F_rests) = true)
    (a_best_of : PySem.W.nsIn K mainGlobals "best_of" = some (some (.ref F_best_of)))
    (l_best_of : K.lookup F_best_of = some ⟨oc_best_of, od_best_of, .func (PySem.W.fnOf "best_of" "best_of" (defArgs s_best_of) (defBody s_best_of) (defScope s_best_of) .none kV_best_of dc_best_of pm_best_of an_best_of cd_best_of ct_best_of), sl_best_of⟩)
    (k_best_of : PySem.W.codeIn K cd_best_of "best_of" = true)
    (p_best_of : PySem.W.keepIn K (.ref F_best_of) = true)
    (a_best : PySem.W.nsIn K mainGlobals "best" = some (some (.ref F_best)))
    (l_best : K.lookup F_best = some ⟨oc_best, od_best, .func (PySem.W.fnOf "best" "best" (defArgs s_best) (defBody s_best) (defScope s_best) .none kV_best dc_best pm_best an_best cd_best ct_best), sl_best⟩)
    (k_best : PySem.W.codeIn K cd_best "best" = true)
    (p_best : PySem.W.keepIn K (.ref F_best) = true)
    (a_sum_without : PySem.W.nsIn K mainGlobals "sum_without" = some (some (.ref F_sum_without)))
    (l_sum_without : K.lookup F_sum_without = some ⟨oc_sum_without, od_sum_without, .func (PySem.W.fnOf "sum_without" "sum_without" (defArgs s_sum_without) (defBody s_sum_without) (defScope s_sum_without) .none kV_sum_without dc_sum_without pm_sum_without an_sum_without cd_sum_without ct_sum_without), sl_sum_without⟩)
    (k_sum_without : PySem.W.codeIn K cd_sum_without "sum_without" = true)
    (p_sum_without : PySem.W.keepIn K (.ref F_sum_without) = true)
    (a_check_word : PySem.W.nsIn K mainGlobals "check_word" = some (some (.ref F_check_word)))
    (l_check_word : K.lookup F_check_word = some ⟨oc_check_word, od_check_word, .func (PySem.W.fnOf "check_word" "check_word" (defArgs s_check_word) (defBody s_check_word) (defScope s_check_word) .none kV_check_word dc_check_word pm_check_word an_check_word cd_check_word ct_check_word), sl_check_word⟩)
    (k_check_word : PySem.W.codeIn K cd_check_word "check_word" = true)
    (p_check_word : PySem.W.keepIn K (.ref F_check_word) = true)
    (a_paid_by : PySem.W.nsIn K mainGlobals "paid_by" = some (some (.ref F_paid_by)))
    (l_paid_by : K.lookup F_paid_by = some ⟨oc_paid_by, od_paid_by, .func (PySem.W.fnOf "paid_by" "paid_by" (defArgs s_paid_by) (defBody s_paid_by) (defScope s_paid_by) .none kV_paid_by dc_paid_by pm_paid_by an_paid_by cd_paid_by ct_paid_by), sl_paid_by⟩)
    (k_paid_by : PySem.W.codeIn K cd_paid_by "paid_by" = true)
    (p_paid_by : PySem.W.keepIn K (.ref F_paid_by) = true)
    (a_all_paid : PySem.W.nsIn K mainGlobals "all_paid" = some (some (.ref F_all_paid)))
    (l_all_paid : K.lookup F_all_paid = some ⟨oc_all_paid, od_all_paid, .func (PySem.W.fnOf "all_paid" "all_paid" (defArgs s_all_paid) (defBody s_all_paid) (defScope s_all_paid) .none kV_all_paid dc_all_paid pm_all_paid an_all_paid cd_all_paid ct_all_paid), sl_all_paid⟩)
    (k_all_paid : PySem.W.codeIn K cd_all_paid "all_paid" = true)
    (p_all_paid : PySem.W.keepIn K (.ref F_all_paid) = true)
    (a_payments : PySem.W.nsIn K mainGlobals "payments" = some (some (.ref F_payments)))
    (l_payments : K.lookup F_payments = some ⟨oc_payments, od_payments, .func (PySem.W.fnOf "payments" "payments" (defArgs s_payments) (defBody s_payments) (defScope s_payments) .none kV_payments dc_payments pm_payments an_payments cd_payments ct_payments), sl_payments⟩)
    (k_payments : PySem.W.codeIn K cd_payments "payments" = true)
    (p_payments : PySem.W.keepIn K (.ref F_payments) = true)
    (a_gain_of : PySem.W.nsIn K mainGlobals "gain_of" = some (some (.ref F_gain_of)))
    (l_gain_of : K.lookup F_gain_of = some ⟨oc_gain_of, od_gain_of, .func (PySem.W.fnOf "gain_of" "gain_of" (defArgs s_gain_of) (defBody s_gain_of) (defScope s_gain_of) .none kV_gain_of dc_gain_of pm_gain_of an_gain_of cd_gain_of ct_gain_of), sl_gain_of⟩)
    (k_gain_of : PySem.W.codeIn K cd_gain_of "gain_of" = true)
    (p_gain_of : PySem.W.keepIn K (.ref F_gain_of) = true)
    (a_with_lie : PySem.W.nsIn K mainGlobals "with_lie" = some (some (.ref F_with_lie)))
    (l_with_lie : K.lookup F_with_lie = some ⟨oc_with_lie, od_with_lie, .func (PySem.W.fnOf "with_lie" "with_lie" (defArgs s_with_lie) (defBody s_with_lie) (defScope s_with_lie) .none kV_with_lie dc_with_lie pm_with_lie an_with_lie cd_with_lie ct_with_lie), sl_with_lie⟩)
    (k_with_lie : PySem.W.codeIn K cd_with_lie "with_lie" = true)
    (p_with_lie : PySem.W.keepIn K (.ref F_with_lie) = true)
    (a_check_lies : PySem.W.nsIn K mainGlobals "check_lies" = some (some (.ref F_check_lies)))
    (l_check_lies : K.lookup F_check_lies = some ⟨oc_check_lies, od_check_lies, .func (PySem.W.fnOf "check_lies" "check_lies" (defArgs s_check_lies) (defBody s_check_lies) (defScope s_check_lies) .none kV_check_lies dc_check_lies pm_check_lies an_check_lies cd_check_lies ct_check_lies), sl_check_lies⟩)
    (k_check_lies : PySem.W.codeIn K cd_check_lies "check_lies" = true)
    (p_check_lies : PySem.W.keepIn K (.ref F_check_lies) = true)
    (a_gain : PySem.W.nsIn K mainGlobals "gain" = some (some (.ref F_gain)))
    (l_gain : K.lookup F_gain = some ⟨oc_gain, od_gain, .func (PySem.W.fnOf "gain" "gain" (defArgs s_gain) (defBody s_gain) (defScope s_gain) .none kV_gain dc_gain pm_gain an_gain cd_gain ct_gain), sl_gain⟩)
    (k_gain : PySem.W.codeIn K cd_gain "gain" = true)
    (p_gain : PySem.W.keepIn K (.ref F_gain) = true)
    (a_gains : PySem.W.nsIn K mainGlobals "gains" = some (some (.ref F_gains)))
    (l_gains : K.lookup F_gains = some ⟨oc_gains, od_gains, .func (PySem.W.fnOf "gains" "gains" (defArgs s_gains) (defBody s_gains) (defScope s_gains) .none kV_gains dc_gains pm_gains an_gains cd_gains ct_gains), sl_gains⟩)
    (k_gains : PySem.W.codeIn K cd_gains "gains" = true)
    (p_gains : PySem.W.keepIn K (.ref F_gains) = true)
    (a_income : PySem.W.nsIn K mainGlobals "income" = some (some (.ref F_income)))
    (l_income : K.lookup F_income = some ⟨oc_income, od_income, .func (PySem.W.fnOf "income" "income" (defArgs s_income) (defBody s_income) (defScope s_income) .none kV_income dc_income pm_income an_income cd_income ct_income), sl_income⟩)
    (k_income : PySem.W.codeIn K cd_income "income" = true)
    (p_income : PySem.W.keepIn K (.ref F_income) = true)
    (a_first_lie : PySem.W.nsIn K mainGlobals "first_lie" = some (some (.ref F_first_lie)))
    (l_first_lie : K.lookup F_first_lie = some ⟨oc_first_lie, od_first_lie, .func (PySem.W.fnOf "first_lie" "first_lie" (defArgs s_first_lie) (defBody s_first_lie) (defScope s_first_lie) .none kV_first_lie dc_first_lie pm_first_lie an_first_lie cd_first_lie ct_first_lie), sl_first_lie⟩)
    (k_first_lie : PySem.W.codeIn K cd_first_lie "first_lie" = true)
    (p_first_lie : PySem.W.keepIn K (.ref F_first_lie) = true)
    (a_changed : PySem.W.nsIn K mainGlobals "changed" = some (some (.ref F_changed)))
    (l_changed : K.lookup F_changed = some ⟨oc_changed, od_changed, .func (PySem.W.fnOf "changed" "changed" (defArgs s_changed) (defBody s_changed) (defScope s_changed) .none kV_changed dc_changed pm_changed an_changed cd_changed ct_changed), sl_changed⟩)
    (k_changed : PySem.W.codeIn K cd_changed "changed" = true)
    (p_changed : PySem.W.keepIn K (.ref F_changed) = true)
    (a_lies_about : PySem.W.nsIn K mainGlobals "lies_about" = some (some (.ref F_lies_about)))
    (l_lies_about : K.lookup F_lies_about = some ⟨oc_lies_about, od_lies_about, .func (PySem.W.fnOf "lies_about" "lies_about" (defArgs s_lies_about) (defBody s_lies_about) (defScope s_lies_about) .none kV_lies_about dc_lies_about pm_lies_about an_lies_about cd_lies_about ct_lies_about), sl_lies_about⟩)
    (k_lies_about : PySem.W.codeIn K cd_lies_about "lies_about" = true)
    (p_lies_about : PySem.W.keepIn K (.ref F_lies_about) = true)
    (a_together_gain : PySem.W.nsIn K mainGlobals "together_gain" = some (some (.ref F_together_gain)))
    (l_together_gain : K.lookup F_together_gain = some ⟨oc_together_gain, od_together_gain, .func (PySem.W.fnOf "together_gain" "together_gain" (defArgs s_together_gain) (defBody s_together_gain) (defScope s_together_gain) .none kV_together_gain dc_together_gain pm_together_gain an_together_gain cd_together_gain ct_together_gain), sl_together_gain⟩)
    (k_together_gain : PySem.W.codeIn K cd_together_gain "together_gain" = true)
    (p_together_gain : PySem.W.keepIn K (.ref F_together_gain) = true)
    (a_l_draws : PySem.W.nsIn K mainGlobals "_law_draws" = some (some (.ref F_l_draws)))
    (l_l_draws : K.lookup F_l_draws = some ⟨oc_l_draws, od_l_draws, .func (PySem.W.fnOf "_law_draws" "_law_draws" (defArgs s_l_draws) (defBody s_l_draws) (defScope s_l_draws) .none kV_l_draws dc_l_draws pm_l_draws an_l_draws cd_l_draws ct_l_draws), sl_l_draws⟩)
    (k_l_draws : PySem.W.codeIn K cd_l_draws "_law_draws" = true)
    (p_l_draws : PySem.W.keepIn K (.ref F_l_draws) = true)
    (a_l_mix : PySem.W.nsIn K mainGlobals "_law_mix" = some (some (.ref F_l_mix)))
    (l_l_mix : K.lookup F_l_mix = some ⟨oc_l_mix, od_l_mix, .func (PySem.W.fnOf "_law_mix" "_law_mix" (defArgs s_l_mix) (defBody s_l_mix) (defScope s_l_mix) .none kV_l_mix dc_l_mix pm_l_mix an_l_mix cd_l_mix ct_l_mix), sl_l_mix⟩)
    (k_l_mix : PySem.W.codeIn K cd_l_mix "_law_mix" = true)
    (p_l_mix : PySem.W.keepIn K (.ref F_l_mix) = true)
    (a_l_subsets : PySem.W.nsIn K mainGlobals "_law_subsets" = some (some (.ref F_l_subsets)))
    (l_l_subsets : K.lookup F_l_subsets = some ⟨oc_l_subsets, od_l_subsets, .func (PySem.W.fnOf "_law_subsets" "_law_subsets" (defArgs s_l_subsets) (defBody s_l_subsets) (defScope s_l_subsets) .none kV_l_subsets dc_l_subsets pm_l_subsets an_l_subsets cd_l_subsets ct_l_subsets), sl_l_subsets⟩)
    (k_l_subsets : PySem.W.codeIn K cd_l_subsets "_law_subsets" = true)
    (p_l_subsets : PySem.W.keepIn K (.ref F_l_subsets) = true)
    (a_l_at : PySem.W.nsIn K mainGlobals "_law_at" = some (some (.ref F_l_at)))
    (l_l_at : K.lookup F_l_at = some ⟨oc_l_at, od_l_at, .func (PySem.W.fnOf "_law_at" "_law_at" (defArgs s_l_at) (defBody s_l_at) (defScope s_l_at) .none kV_l_at dc_l_at pm_l_at an_l_at cd_l_at ct_l_at), sl_l_at⟩)
    (k_l_at : PySem.W.codeIn K cd_l_at "_law_at" = true)
    (p_l_at : PySem.W.keepIn K (.ref F_l_at) = true)
    (a_l_drawn : PySem.W.nsIn K mainGlobals "_law_drawn" = some (some (.ref F_l_drawn)))
    (l_l_drawn : K.lookup F_l_drawn = some ⟨oc_l_drawn, od_l_drawn, .func (PySem.W.fnOf "_law_drawn" "_law_drawn" (defArgs s_l_drawn) (defBody s_l_drawn) (defScope s_l_drawn) .none kV_l_drawn dc_l_drawn pm_l_drawn an_l_drawn cd_l_drawn ct_l_drawn), sl_l_drawn⟩)
    (k_l_drawn : PySem.W.codeIn K cd_l_drawn "_law_drawn" = true)
    (p_l_drawn : PySem.W.keepIn K (.ref F_l_drawn) = true)
    (a_l_book : PySem.W.nsIn K mainGlobals "_law_book" = some (some (.ref F_l_book)))
    (l_l_book : K.lookup F_l_book = some ⟨oc_l_book, od_l_book, .func (PySem.W.fnOf "_law_book" "_law_book" (defArgs s_l_book) (defBody s_l_book) (defScope s_l_book) .none kV_l_book dc_l_book pm_l_book an_l_book cd_l_book ct_l_book), sl_l_book⟩)
    (k_l_book : PySem.W.codeIn K cd_l_book "_law_book" = true)
    (p_l_book : PySem.W.keepIn K (.ref F_l_book) = true)
    (a_l_shares : PySem.W.nsIn K mainGlobals "_law_shares" = some (some (.ref F_l_shares)))
    (l_l_shares : K.lookup F_l_shares = some ⟨oc_l_shares, od_l_shares, .func (PySem.W.fnOf "_law_shares" "_law_shares" (defArgs s_l_shares) (defBody s_l_shares) (defScope s_l_shares) .none kV_l_shares dc_l_shares pm_l_shares an_l_shares cd_l_shares ct_l_shares), sl_l_shares⟩)
    (k_l_shares : PySem.W.codeIn K cd_l_shares "_law_shares" = true)
    (p_l_shares : PySem.W.keepIn K (.ref F_l_shares) = true)
    (a_l_numbers : PySem.W.nsIn K mainGlobals "_law_numbers" = some (some (.ref F_l_numbers)))
    (l_l_numbers : K.lookup F_l_numbers = some ⟨oc_l_numbers, od_l_numbers, .func (PySem.W.fnOf "_law_numbers" "_law_numbers" (defArgs s_l_numbers) (defBody s_l_numbers) (defScope s_l_numbers) .none kV_l_numbers dc_l_numbers pm_l_numbers an_l_numbers cd_l_numbers ct_l_numbers), sl_l_numbers⟩)
    (k_l_numbers : PySem.W.codeIn K cd_l_numbers "_law_numbers" = true)
    (p_l_numbers : PySem.W.keepIn K (.ref F_l_numbers) = true)
    (a_l_sum : PySem.W.nsIn K mainGlobals "_law_sum" = some (some (.ref F_l_sum)))
    (l_l_sum : K.lookup F_l_sum = some ⟨oc_l_sum, od_l_sum, .func (PySem.W.fnOf "_law_sum" "_law_sum" (defArgs s_l_sum) (defBody s_l_sum) (defScope s_l_sum) .none kV_l_sum dc_l_sum pm_l_sum an_l_sum cd_l_sum ct_l_sum), sl_l_sum⟩)
    (k_l_sum : PySem.W.codeIn K cd_l_sum "_law_sum" = true)
    (p_l_sum : PySem.W.keepIn K (.ref F_l_sum) = true)
    (a_l_best : PySem.W.nsIn K mainGlobals "_law_best" = some (some (.ref F_l_best)))
    (l_l_best : K.lookup F_l_best = some ⟨oc_l_best, od_l_best, .func (PySem.W.fnOf "_law_best" "_law_best" (defArgs s_l_best) (defBody s_l_best) (defScope s_l_best) .none kV_l_best dc_l_best pm_l_best an_l_best cd_l_best ct_l_best), sl_l_best⟩)
    (k_l_best : PySem.W.codeIn K cd_l_best "_law_best" = true)
    (p_l_best : PySem.W.keepIn K (.ref F_l_best) = true)
    (a_l_paid : PySem.W.nsIn K mainGlobals "_law_paid" = some (some (.ref F_l_paid)))
    (l_l_paid : K.lookup F_l_paid = some ⟨oc_l_paid, od_l_paid, .func (PySem.W.fnOf "_law_paid" "_law_paid" (defArgs s_l_paid) (defBody s_l_paid) (defScope s_l_paid) .none kV_l_paid dc_l_paid pm_l_paid an_l_paid cd_l_paid ct_l_paid), sl_l_paid⟩)
    (k_l_paid : PySem.W.codeIn K cd_l_paid "_law_paid" = true)
    (p_l_paid : PySem.W.keepIn K (.ref F_l_paid) = true)
    (a_l_gain : PySem.W.nsIn K mainGlobals "_law_gain" = some (some (.ref F_l_gain)))
    (l_l_gain : K.lookup F_l_gain = some ⟨oc_l_gain, od_l_gain, .func (PySem.W.fnOf "_law_gain" "_law_gain" (defArgs s_l_gain) (defBody s_l_gain) (defScope s_l_gain) .none kV_l_gain dc_l_gain pm_l_gain an_l_gain cd_l_gain ct_l_gain), sl_l_gain⟩)
    (k_l_gain : PySem.W.codeIn K cd_l_gain "_law_gain" = true)
    (p_l_gain : PySem.W.keepIn K (.ref F_l_gain) = true)
    (a_l_lies : PySem.W.nsIn K mainGlobals "_law_lies" = some (some (.ref F_l_lies)))
    (l_l_lies : K.lookup F_l_lies = some ⟨oc_l_lies, od_l_lies, .func (PySem.W.fnOf "_law_lies" "_law_lies" (defArgs s_l_lies) (defBody s_l_lies) (defScope s_l_lies) .none kV_l_lies dc_l_lies pm_l_lies an_l_lies cd_l_lies ct_l_lies), sl_l_lies⟩)
    (k_l_lies : PySem.W.codeIn K cd_l_lies "_law_lies" = true)
    (p_l_lies : PySem.W.keepIn K (.ref F_l_lies) = true)
    (a_l_with : PySem.W.nsIn K mainGlobals "_law_with" = some (some (.ref F_l_with)))
    (l_l_with : K.lookup F_l_with = some ⟨oc_l_with, od_l_with, .func (PySem.W.fnOf "_law_with" "_law_with" (defArgs s_l_with) (defBody s_l_with) (defScope s_l_with) .none kV_l_with dc_l_with pm_l_with an_l_with cd_l_with ct_l_with), sl_l_with⟩)
    (k_l_with : PySem.W.codeIn K cd_l_with "_law_with" = true)
    (p_l_with : PySem.W.keepIn K (.ref F_l_with) = true)
    (a_l_fault : PySem.W.nsIn K mainGlobals "_law_fault" = some (some (.ref F_l_fault)))
    (l_l_fault : K.lookup F_l_fault = some ⟨oc_l_fault, od_l_fault, .func (PySem.W.fnOf "_law_fault" "_law_fault" (defArgs s_l_fault) (defBody s_l_fault) (defScope s_l_fault) .none kV_l_fault dc_l_fault pm_l_fault an_l_fault cd_l_fault ct_l_fault), sl_l_fault⟩)
    (k_l_fault : PySem.W.codeIn K cd_l_fault "_law_fault" = true)
    (p_l_fault : PySem.W.keepIn K (.ref F_l_fault) = true)
    (a_l_faults : PySem.W.nsIn K mainGlobals "_law_faults" = some (some (.ref F_l_faults)))
    (l_l_faults : K.lookup F_l_faults = some ⟨oc_l_faults, od_l_faults, .func (PySem.W.fnOf "_law_faults" "_law_faults" (defArgs s_l_faults) (defBody s_l_faults) (defScope s_l_faults) .none kV_l_faults dc_l_faults pm_l_faults an_l_faults cd_l_faults ct_l_faults), sl_l_faults⟩)
    (k_l_faults : PySem.W.codeIn K cd_l_faults "_law_faults" = true)
    (p_l_faults : PySem.W.keepIn K (.ref F_l_faults) = true)
    (a_l_shown : PySem.W.nsIn K mainGlobals "_law_shown" = some (some (.ref F_l_shown)))
    (l_l_shown : K.lookup F_l_shown = some ⟨oc_l_shown, od_l_shown, .func (PySem.W.fnOf "_law_shown" "_law_shown" (defArgs s_l_shown) (defBody s_l_shown) (defScope s_l_shown) .none kV_l_shown dc_l_shown pm_l_shown an_l_shown cd_l_shown ct_l_shown), sl_l_shown⟩)
    (k_l_shown : PySem.W.codeIn K cd_l_shown "_law_shown" = true)
    (p_l_shown : PySem.W.keepIn K (.ref F_l_shown) = true)
    (a_law : PySem.W.nsIn K mainGlobals "law" = some (some (.ref F_law)))
    (l_law : K.lookup F_law = some ⟨oc_law, od_law, .func (PySem.W.fnOf "law" "law" (defArgs s_law) (defBody s_law) (defScope s_law) .none kV_law dc_law pm_law an_law cd_law ct_law), sl_law⟩)
    (k_law : PySem.W.codeIn K cd_law "law" = true)
    (p_law : PySem.W.keepIn K (.ref F_law) = true)
    (z_sum : PySem.W.nsIn K mainGlobals "sum" = some none)
    (z_tuple : PySem.W.nsIn K mainGlobals "tuple" = some none)
    (z_range : PySem.W.nsIn K mainGlobals "range" = some none)
    (z_len : PySem.W.nsIn K mainGlobals "len" = some none)
    (z_max : PySem.W.nsIn K mainGlobals "max" = some none)
    (z_list : PySem.W.nsIn K mainGlobals "list" = some none)
    (z_min : PySem.W.nsIn K mainGlobals "min" = some none)
    (z_enumerate : PySem.W.nsIn K mainGlobals "enumerate" = some none)
    (z_abs : PySem.W.nsIn K mainGlobals "abs" = some none)
    (z_int : PySem.W.nsIn K mainGlobals "int" = some none)
    (z_sorted : PySem.W.nsIn K mainGlobals "sorted" = some none)
    (z_repr : PySem.W.nsIn K mainGlobals "repr" = some none)
    (u_POWERS : PySem.W.nsIn K mainGlobals "POWERS" = some (some (.ref A_POWERS)))
    (v_POWERS : K.lookup A_POWERS = some ⟨.type "tuple", od_POWERS, .seq #[.int 1 t_POWERS_0, .int 2 t_POWERS_1, .int 4 t_POWERS_2, .int 8 t_POWERS_3, .int 16 t_POWERS_4, .int 32 t_POWERS_5, .int 64 t_POWERS_6] n_POWERS, sl_POWERS⟩)
    (u_LENGTHS : PySem.W.nsIn K mainGlobals "LENGTHS" = some (some (.ref A_LENGTHS)))
    (v_LENGTHS : K.lookup A_LENGTHS = some ⟨.type "tuple", od_LENGTHS, .seq #[.int 2 t_LENGTHS_0, .int 4 t_LENGTHS_1, .int 8 t_LENGTHS_2, .int 16 t_LENGTHS_3, .int 32 t_LENGTHS_4, .int 64 t_LENGTHS_5] n_LENGTHS, sl_LENGTHS⟩)
    (i_MOST_WORTH : PySem.W.nsIn K mainGlobals "MOST_WORTH" = some (some (.int 1000000 t_MOST_WORTH)))
    (i_MOST_BIDDERS : PySem.W.nsIn K mainGlobals "MOST_BIDDERS" = some (some (.int 6 t_MOST_BIDDERS)))
    (u_WORDS : PySem.W.nsIn K mainGlobals "WORDS" = some (some (.ref A_WORDS)))
    (v_WORDS : K.lookup A_WORDS = some ⟨.type "tuple", od_WORDS, .seq #[.str "fair" t_WORDS_0, .str "bid" t_WORDS_1, .str "none" t_WORDS_2] n_WORDS, sl_WORDS⟩)
    (x_LENGTHS : PySem.W.nsIn K mainGlobals "LENGTHS" = some (some (.ref B_LENGTHS)))
    (y_LENGTHS : K.lookup B_LENGTHS = some ⟨.type "tuple", none, .seq #[.int 2 s_LENGTHS_0, .int 4 s_LENGTHS_1, .int 8 s_LENGTHS_2, .int 16 s_LENGTHS_3, .int 32 s_LENGTHS_4, .int 64 s_LENGTHS_5] m_LENGTHS, sm_LENGTHS⟩)
    (e_BadTable : ErrG P K mg "BadTable")
    (e_BadBook : ErrG P K mg "BadBook")
    (e_BadWord : ErrG P K mg "BadWord")
    (e_BadBidder : ErrG P K mg "BadBidder")
    (ea_BadWord_BadBidder : PySem.W.nsIn K mainGlobals (Str.ofString "BadWord") = some (some (.ref C_BadWord_BadBidder)))
    (eb_BadWord_BadBidder : PySem.W.nsIn K mainGlobals (Str.ofString "BadBidder") = some (some (.ref D_BadWord_BadBidder)))
    (ec_BadWord_BadBidder : PySem.W.exmOne K (.ref C_BadWord_BadBidder) (.ref D_BadWord_BadBidder) = some false)
    (ea_BadBidder_BadBidder : PySem.W.nsIn K mainGlobals (Str.ofString "BadBidder") = some (some (.ref C_BadBidder_BadBidder)))
    (eb_BadBidder_BadBidder : PySem.W.nsIn K mainGlobals (Str.ofString "BadBidder") = some (some (.ref D_BadBidder_BadBidder)))
    (ec_BadBidder_BadBidder : PySem.W.exmOne K (.ref C_BadBidder_BadBidder) (.ref D_BadBidder_BadBidder) = some true)
    (ea_BadBook_BadBidder : PySem.W.nsIn K mainGlobals (Str.ofString "BadBook") = some (some (.ref C_BadBook_BadBidder)))
    (eb_BadBook_BadBidder : PySem.W.nsIn K mainGlobals (Str.ofString "BadBidder") = some (some (.ref D_BadBook_BadBidder)))
    (ec_BadBook_BadBidder : PySem.W.exmOne K (.ref C_BadBook_BadBidder) (.ref D_BadBook_BadBidder) = some false)
    (ea_BadTable_BadBidder : PySem.W.nsIn K mainGlobals (Str.ofString "BadTable") = some (some (.ref C_BadTable_BadBidder)))
    (eb_BadTable_BadBidder : PySem.W.nsIn K mainGlobals (Str.ofString "BadBidder") = some (some (.ref D_BadTable_BadBidder)))
    (ec_BadTable_BadBidder : PySem.W.exmOne K (.ref C_BadTable_BadBidder) (.ref D_BadTable_BadBidder) = some false)
    (ea_BadWord_BadWord : PySem.W.nsIn K mainGlobals (Str.ofString "BadWord") = some (some (.ref C_BadWord_BadWord)))
    (eb_BadWord_BadWord : PySem.W.nsIn K mainGlobals (Str.ofString "BadWord") = some (some (.ref D_BadWord_BadWord)))
    (ec_BadWord_BadWord : PySem.W.exmOne K (.ref C_BadWord_BadWord) (.ref D_BadWord_BadWord) = some true)
    (ea_BadBidder_BadWord : PySem.W.nsIn K mainGlobals (Str.ofString "BadBidder") = some (some (.ref C_BadBidder_BadWord)))
    (eb_BadBidder_BadWord : PySem.W.nsIn K mainGlobals (Str.ofString "BadWord") = some (some (.ref D_BadBidder_BadWord)))
    (ec_BadBidder_BadWord : PySem.W.exmOne K (.ref C_BadBidder_BadWord) (.ref D_BadBidder_BadWord) = some false)
    (ea_BadBook_BadWord : PySem.W.nsIn K mainGlobals (Str.ofString "BadBook") = some (some (.ref C_BadBook_BadWord)))
    (eb_BadBook_BadWord : PySem.W.nsIn K mainGlobals (Str.ofString "BadWord") = some (some (.ref D_BadBook_BadWord)))
    (ec_BadBook_BadWord : PySem.W.exmOne K (.ref C_BadBook_BadWord) (.ref D_BadBook_BadWord) = some false)
    (ea_BadTable_BadWord : PySem.W.nsIn K mainGlobals (Str.ofString "BadTable") = some (some (.ref C_BadTable_BadWord)))
    (eb_BadTable_BadWord : PySem.W.nsIn K mainGlobals (Str.ofString "BadWord") = some (some (.ref D_BadTable_BadWord)))
    (ec_BadTable_BadWord : PySem.W.exmOne K (.ref C_BadTable_BadWord) (.ref D_BadTable_BadWord) = some false)
    (ea_BadWord_BadTable : PySem.W.nsIn K mainGlobals (Str.ofString "BadWord") = some (some (.ref C_BadWord_BadTable)))
    (eb_BadWord_BadTable : PySem.W.nsIn K mainGlobals (Str.ofString "BadTable") = some (some (.ref D_BadWord_BadTable)))
    (ec_BadWord_BadTable : PySem.W.exmOne K (.ref C_BadWord_BadTable) (.ref D_BadWord_BadTable) = some false)
    (ea_BadBidder_BadTable : PySem.W.nsIn K mainGlobals (Str.ofString "BadBidder") = some (some (.ref C_BadBidder_BadTable)))
    (eb_BadBidder_BadTable : PySem.W.nsIn K mainGlobals (Str.ofString "BadTable") = some (some (.ref D_BadBidder_BadTable)))
    (ec_BadBidder_BadTable : PySem.W.exmOne K (.ref C_BadBidder_BadTable) (.ref D_BadBidder_BadTable) = some false)
    (ea_BadBook_BadTable : PySem.W.nsIn K mainGlobals (Str.ofString "BadBook") = some (some (.ref C_BadBook_BadTable)))
    (eb_BadBook_BadTable : PySem.W.nsIn K mainGlobals (Str.ofString "BadTable") = some (some (.ref D_BadBook_BadTable)))
    (ec_BadBook_BadTable : PySem.W.exmOne K (.ref C_BadBook_BadTable) (.ref D_BadBook_BadTable) = some false)
    (ea_BadTable_BadTable : PySem.W.nsIn K mainGlobals (Str.ofString "BadTable") = some (some (.ref C_BadTable_BadTable)))
    (eb_BadTable_BadTable : PySem.W.nsIn K mainGlobals (Str.ofString "BadTable") = some (some (.ref D_BadTable_BadTable)))
    (ec_BadTable_BadTable : PySem.W.exmOne K (.ref C_BadTable_BadTable) (.ref D_BadTable_BadTable) = some true)
    (ea_BadWord_BadBook : PySem.W.nsIn K mainGlobals (Str.ofString "BadWord") = some (some (.ref C_BadWord_BadBook)))
    (eb_BadWord_BadBook : PySem.W.nsIn K mainGlobals (Str.ofString "BadBook") = some (some (.ref D_BadWord_BadBook)))
    (ec_BadWord_BadBook : PySem.W.exmOne K (.ref C_BadWord_BadBook) (.ref D_BadWord_BadBook) = some false)
    (ea_BadBidder_BadBook : PySem.W.nsIn K mainGlobals (Str.ofString "BadBidder") = some (some (.ref C_BadBidder_BadBook)))
    (eb_BadBidder_BadBook : PySem.W.nsIn K mainGlobals (Str.ofString "BadBook") = some (some (.ref D_BadBidder_BadBook)))
    (ec_BadBidder_BadBook : PySem.W.exmOne K (.ref C_BadBidder_BadBook) (.ref D_BadBidder_BadBook) = some false)
    (ea_BadBook_BadBook : PySem.W.nsIn K mainGlobals (Str.ofString "BadBook") = some (some (.ref C_BadBook_BadBook)))
    (eb_BadBook_BadBook : PySem.W.nsIn K mainGlobals (Str.ofString "BadBook") = some (some (.ref D_BadBook_BadBook)))
    (ec_BadBook_BadBook : PySem.W.exmOne K (.ref C_BadBook_BadBook) (.ref D_BadBook_BadBook) = some true)
    (ea_BadTable_BadBook : PySem.W.nsIn K mainGlobals (Str.ofString "BadTable") = some (some (.ref C_BadTable_BadBook)))
    (eb_BadTable_BadBook : PySem.W.nsIn K mainGlobals (Str.ofString "BadBook") = some (some (.ref D_BadTable_BadBook)))
    (ec_BadTable_BadBook : PySem.W.exmOne K (.ref C_BadTable_BadBook) (.ref D_BadTable_BadBook) = some false) : Txt P K mg :=
  ⟨mk_def X G0 a_inner l_inner k_inner p_inner (fun _ _ _ _ _ _ us hl => match us, hl with | [_], _ => rfl),
   mk_def X G0 a_number_of l_number_of k_number_of p_number_of (fun _ _ _ _ _ _ us hl => match us, hl with | [_], _ => rfl),
   mk_def X G0 a_bundle_of l_bundle_of k_bundle_of p_bundle_of (fun _ _ _ _ _ _ us hl => match us, hl with | [_], _ => rfl),
   mk_def X G0 a_within l_within k_within p_within (fun _ _ _ _ _ _ us hl => match us, hl with | [_, _], _ => rfl),
   mk_def X G0 a_parts_of l_parts_of k_parts_of p_parts_of (fun _ _ _ _ _ _ us hl => match us, hl with | [_], _ => rfl),
   mk_def X G0 a_together l_together k_together p_together (fun _ _ _ _ _ _ us hl => match us, hl with | [_, _], _ => rfl),
   mk_def X G0 a_most_of l_most_of k_most_of p_most_of (fun _ _ _ _ _ _ us hl => match us, hl with | [_], _ => rfl),
   mk_def X G0 a_up_to l_up_to k_up_to p_up_to (fun _ _ _ _ _ _ us hl => match us, hl with | [_, _], _ => rfl),
   mk_def X G0 a_worths l_worths k_worths p_worths (fun _ _ _ _ _ _ us hl => match us, hl with | [_, _], _ => rfl),
   mk_def X G0 a_is_table l_is_table k_is_table p_is_table (fun _ _ _ _ _ _ us hl => match us, hl with | [_], _ => rfl),
   mk_def X G0 a_check_table l_check_table k_check_table p_check_table (fun _ _ _ _ _ _ us hl => match us, hl with | [_], _ => rfl),
   mk_def X G0 a_goods_in l_goods_in k_goods_in p_goods_in (fun _ _ _ _ _ _ us hl => match us, hl with | [_], _ => rfl),
   mk_def X G0 a_normal l_normal k_normal p_normal (fun _ _ _ _ _ _ us hl => match us, hl with | [_], _ => rfl),
   mk_def X G0 a_tree_of l_tree_of k_tree_of p_tree_of (fun _ _ _ _ _ _ us hl => match us, hl with | [_], _ => rfl),
   mk_def X G0 a_check_book l_check_book k_check_book p_check_book (fun _ _ _ _ _ _ us hl => match us, hl with | [_], _ => rfl),
   mk_def X G0 a_most_at l_most_at k_most_at p_most_at (fun _ _ _ _ _ _ us hl => match us, hl with | [_, _, _], _ => rfl),
   mk_def X G0 a_rests l_rests k_rests p_rests (fun _ _ _ _ _ _ us hl => match us, hl with | [_], _ => rfl),
   mk_def X G0 a_best_of l_best_of k_best_of p_best_of (fun _ _ _ _ _ _ us hl => match us, hl with | [_], _ => rfl),
   mk_def X G0 a_best l_best k_best p_best (fun _ _ _ _ _ _ us hl => match us, hl with | [_], _ => rfl),
   mk_def X G0 a_sum_without l_sum_without k_sum_without p_sum_without (fun _ _ _ _ _ _ us hl => match us, hl with | [_, _], _ => rfl),
   mk_def X G0 a_check_word l_check_word k_check_word p_check_word (fun _ _ _ _ _ _ us hl => match us, hl with | [_, _], _ => rfl),
   mk_def X G0 a_paid_by l_paid_by k_paid_by p_paid_by (fun _ _ _ _ _ _ us hl => match us, hl with | [_, _, _, _, _], _ => rfl),
   mk_def X G0 a_all_paid l_all_paid k_all_paid p_all_paid (fun _ _ _ _ _ _ us hl => match us, hl with | [_, _], _ => rfl),
   mk_def X G0 a_payments l_payments k_payments p_payments (fun _ _ _ _ _ _ us hl => match us, hl with | [_, _], _ => rfl),
   mk_def X G0 a_gain_of l_gain_of k_gain_of p_gain_of (fun _ _ _ _ _ _ us hl => match us, hl with | [_, _, _, _], _ => rfl),
   mk_def X G0 a_with_lie l_with_lie k_with_lie p_with_lie (fun _ _ _ _ _ _ us hl => match us, hl with | [_, _, _], _ => rfl),
   mk_def X G0 a_check_lies l_check_lies k_check_lies p_check_lies (fun _ _ _ _ _ _ us hl => match us, hl with | [_, _, _, _], _ => rfl),
   mk_def X G0 a_gain l_gain k_gain p_gain (fun _ _ _ _ _ _ us hl => match us, hl with | [_, _, _, _], _ => rfl),
   mk_def X G0 a_gains l_gains k_gains p_gains (fun _ _ _ _ _ _ us hl => match us, hl with | [_, _], _ => rfl),
   mk_def X G0 a_income l_income k_income p_income (fun _ _ _ _ _ _ us hl => match us, hl with | [_, _], _ => rfl),
   mk_def X G0 a_first_lie l_first_lie k_first_lie p_first_lie (fun _ _ _ _ _ _ us hl => match us, hl with | [_, _, _, _], _ => rfl),
   mk_def X G0 a_changed l_changed k_changed p_changed (fun _ _ _ _ _ _ us hl => match us, hl with | [_, _, _], _ => rfl),
   mk_def X G0 a_lies_about l_lies_about k_lies_about p_lies_about (fun _ _ _ _ _ _ us hl => match us, hl with | [_], _ => rfl),
   mk_def X G0 a_together_gain l_together_gain k_together_gain p_together_gain (fun _ _ _ _ _ _ us hl => match us, hl with | [_, _, _, _, _, _], _ => rfl),
   mk_def X G0 a_l_draws l_l_draws k_l_draws p_l_draws (fun _ _ _ _ _ _ us hl => match us, hl with | [_], _ => rfl),
   mk_def X G0 a_l_mix l_l_mix k_l_mix p_l_mix (fun _ _ _ _ _ _ us hl => match us, hl with | [_, _, _], _ => rfl),
   mk_def X G0 a_l_subsets l_l_subsets k_l_subsets p_l_subsets (fun _ _ _ _ _ _ us hl => match us, hl with | [_], _ => rfl),
   mk_def X G0 a_l_at l_l_at k_l_at p_l_at (fun _ _ _ _ _ _ us hl => match us, hl with | [_, _], _ => rfl),
   mk_def X G0 a_l_drawn l_l_drawn k_l_drawn p_l_drawn (fun _ _ _ _ _ _ us hl => match us, hl with | [_, _, _], _ => rfl),
   mk_def X G0 a_l_book l_l_book k_l_book p_l_book (fun _ _ _ _ _ _ us hl => match us, hl with | [_, _, _, _], _ => rfl),
   mk_def X G0 a_l_shares l_l_shares k_l_shares p_l_shares (fun _ _ _ _ _ _ us hl => match us, hl with | [_, _], _ => rfl),
   mk_def X G0 a_l_numbers l_l_numbers k_l_numbers p_l_numbers (fun _ _ _ _ _ _ us hl => match us, hl with | [_], _ => rfl),
   mk_def X G0 a_l_sum l_l_sum k_l_sum p_l_sum (fun _ _ _ _ _ _ us hl => match us, hl with | [_, _], _ => rfl),
   mk_def X G0 a_l_best l_l_best k_l_best p_l_best (fun _ _ _ _ _ _ us hl => match us, hl with | [_, _], _ => rfl),
   mk_def X G0 a_l_paid l_l_paid k_l_paid p_l_paid (fun _ _ _ _ _ _ us hl => match us, hl with | [_, _, _], _ => rfl),
   mk_def X G0 a_l_gain l_l_gain k_l_gain p_l_gain (fun _ _ _ _ _ _ us hl => match us, hl with | [_, _, _, _, _], _ => rfl),
   mk_def X G0 a_l_lies l_l_lies k_l_lies p_l_lies (fun _ _ _ _ _ _ us hl => match us, hl with | [_, _], _ => rfl),
   mk_def X G0 a_l_with l_l_with k_l_with p_l_with (fun _ _ _ _ _ _ us hl => match us, hl with | [_, _, _], _ => rfl),
   mk_def X G0 a_l_fault l_l_fault k_l_fault p_l_fault (fun _ _ _ _ _ _ us hl => match us, hl with | [_, _, _, _, _], _ => rfl),
   mk_def X G0 a_l_faults l_l_faults k_l_faults p_l_faults (fun _ _ _ _ _ _ us hl => match us, hl with | [], _ => rfl),
   mk_def X G0 a_l_shown l_l_shown k_l_shown p_l_shown (fun _ _ _ _ _ _ us hl => match us, hl with | [], _ => rfl),
   mk_def X G0 a_law l_law k_law p_law (fun _ _ _ _ _ _ us hl => match us, hl with | [_], _ => rfl),
   mk_none X G0 z_sum,
   mk_none X G0 z_tuple,
   mk_none X G0 z_range,
   mk_none X G0 z_len,
   mk_none X G0 z_max,
   mk_none X G0 z_list,
   mk_none X G0 z_min,
   mk_none X G0 z_enumerate,
   mk_none X G0 z_abs,
   mk_none X G0 z_int,
   mk_none X G0 z_sorted,
   mk_none X G0 z_repr,
   mk_tup X G0 u_POWERS v_POWERS (.int (.int (.int (.int (.int (.int (.int .nil))))))) (show (7 : Nat) ≤ sizeLine by decide),
   mk_tup X G0 u_LENGTHS v_LENGTHS (.int (.int (.int (.int (.int (.int .nil)))))) (show (6 : Nat) ≤ sizeLine by decide),
   mk_int X G0 i_MOST_WORTH,
   mk_int X G0 i_MOST_BIDDERS,
   mk_tup X G0 u_WORDS v_WORDS (.str (.str (.str .nil))) (show (3 : Nat) ≤ sizeLine by decide),
   mk_tupI X G0 x_LENGTHS y_LENGTHS (.int (.int (.int (.int (.int (.int .nil)))))) (show (6 : Nat) ≤ sizeLine by decide),
   e_BadTable,
   e_BadBook,
   e_BadWord,
   e_BadBidder,
   mk_exm X G0 ea_BadWord_BadBidder eb_BadWord_BadBidder ec_BadWord_BadBidder e_BadWord,
   mk_exm X G0 ea_BadBidder_BadBidder eb_BadBidder_BadBidder ec_BadBidder_BadBidder e_BadBidder,
   mk_exm X G0 ea_BadBook_BadBidder eb_BadBook_BadBidder ec_BadBook_BadBidder e_BadBook,
   mk_exm X G0 ea_BadTable_BadBidder eb_BadTable_BadBidder ec_BadTable_BadBidder e_BadTable,
   mk_exm X G0 ea_BadWord_BadWord eb_BadWord_BadWord ec_BadWord_BadWord e_BadWord,
   mk_exm X G0 ea_BadBidder_BadWord eb_BadBidder_BadWord ec_BadBidder_BadWord e_BadBidder,
   mk_exm X G0 ea_BadBook_BadWord eb_BadBook_BadWord ec_BadBook_BadWord e_BadBook,
   mk_exm X G0 ea_BadTable_BadWord eb_BadTable_BadWord ec_BadTable_BadWord e_BadTable,
   mk_exm X G0 ea_BadWord_BadTable eb_BadWord_BadTable ec_BadWord_BadTable e_BadWord,
   mk_exm X G0 ea_BadBidder_BadTable eb_BadBidder_BadTable ec_BadBidder_BadTable e_BadBidder,
   mk_exm X G0 ea_BadBook_BadTable eb_BadBook_BadTable ec_BadBook_BadTable e_BadBook,
   mk_exm X G0 ea_BadTable_BadTable eb_BadTable_BadTable ec_BadTable_BadTable e_BadTable,
   mk_exm X G0 ea_BadWord_BadBook eb_BadWord_BadBook ec_BadWord_BadBook e_BadWord,
   mk_exm X G0 ea_BadBidder_BadBook eb_BadBidder_BadBook ec_BadBidder_BadBook e_BadBidder,
   mk_exm X G0 ea_BadBook_BadBook eb_BadBook_BadBook ec_BadBook_BadBook e_BadBook,
   mk_exm X G0 ea_BadTable_BadBook eb_BadTable_BadBook ec_BadTable_BadBook e_BadTable⟩
end K04

open PySem PySem.W PyProof.Rows
set_option maxHeartbeats 0 in
theorem PySem.Challenge.cw_truebidsbest_k04_main_no_lie_ever_pays_holds : PySem.Challenge.rw_truebidsbest_k04_main_no_lie_ever_pays.Holds := by
  w_on; o_law; k_head; (case hw => w_witness2)
  k_fill
  refine G.walk_g (l := PySem.Challenge.rw_truebidsbest_k04_main_no_lie_ever_pays) (n := 63) (k := 17) (F := K04.f_law) rfl (by decide) rfl ⟨rfl, by decide, by decide⟩ (fun w h Y => PySem.W.kIn_of Y) ?C K04.good
  case C =>
    intro w mg h KX G0 base KB GB
    refine K04.c_law ?T
    refine' K04.mk_txt KX G0 ?a_inner ?l_inner ?k_inner ?p_inner ?a_number_of ?l_number_of ?k_number_of ?p_number_of ?a_bundle_of ?l_bundle_of ?k_bundle_of ?p_bundle_of ?a_within ?l_within ?k_within ?p_within ?a_parts_of ?l_parts_of ?k_parts_of ?p_parts_of ?a_together ?l_together ?k_together ?p_together ?a_most_of ?l_most_of ?k_most_of ?p_most_of ?a_up_to ?l_up_to ?k_up_to ?p_up_to ?a_worths ?l_worths ?k_worths ?p_worths ?a_is_table ?l_is_table ?k_is_table ?p_is_table ?a_check_table ?l_check_table ?k_check_table ?p_check_table ?a_goods_in ?l_goods_in ?k_goods_in ?p_goods_in ?a_normal ?l_normal ?k_normal ?p_normal ?a_tree_of ?l_tree_of ?k_tree_of ?p_tree_of ?a_check_book ?l_check_book ?k_check_book ?p_check_book ?a_most_at ?l_most_at ?k_most_at ?p_most_at ?a_rests ?l_rests ?k_rests ?p_rests ?a_best_of ?l_best_of ?k_best_of ?p_best_of ?a_best ?l_best ?k_best ?p_best ?a_sum_without ?l_sum_without ?k_sum_without ?p_sum_without ?a_check_word ?l_check_word ?k_check_word ?p_check_word ?a_paid_by ?l_paid_by ?k_paid_by ?p_paid_by ?a_all_paid ?l_all_paid ?k_all_paid ?p_all_paid ?a_payments ?l_payments ?k_payments ?p_payments ?a_gain_of ?l_gain_of ?k_gain_of ?p_gain_of ?a_with_lie ?l_with_lie ?k_with_lie ?p_with_lie ?a_check_lies ?l_check_lies ?k_check_lies ?p_check_lies ?a_gain ?l_gain ?k_gain ?p_gain ?a_gains ?l_gains ?k_gains ?p_gains ?a_income ?l_income ?k_income ?p_income ?a_first_lie ?l_first_lie ?k_first_lie ?p_first_lie ?a_changed ?l_changed ?k_changed ?p_changed ?a_lies_about ?l_lies_about ?k_lies_about ?p_lies_about ?a_together_gain ?l_together_gain ?k_together_gain ?p_together_gain ?a_l_draws ?l_l_draws ?k_l_draws ?p_l_draws ?a_l_mix ?l_l_mix ?k_l_mix ?p_l_mix ?a_l_subsets ?l_l_subsets ?k_l_subsets ?p_l_subsets ?a_l_at ?l_l_at ?k_l_at ?p_l_at ?a_l_drawn ?l_l_drawn ?k_l_drawn ?p_l_drawn ?a_l_book ?l_l_book ?k_l_book ?p_l_book ?a_l_shares ?l_l_shares ?k_l_shares ?p_l_shares ?a_l_numbers ?l_l_numbers ?k_l_numbers ?p_l_numbers ?a_l_sum ?l_l_sum ?k_l_sum ?p_l_sum ?a_l_best ?l_l_best ?k_l_best ?p_l_best ?a_l_paid ?l_l_paid ?k_l_paid ?p_l_paid ?a_l_gain ?l_l_gain ?k_l_gain ?p_l_gain ?a_l_lies ?l_l_lies ?k_l_lies ?p_l_lies ?a_l_with ?l_l_with ?k_l_with ?p_l_with ?a_l_fault ?l_l_fault ?k_l_fault ?p_l_fault ?a_l_faults ?l_l_faults ?k_l_faults ?p_l_faults ?a_l_shown ?l_l_shown ?k_l_shown ?p_l_shown ?a_law ?l_law ?k_law ?p_law ?z_sum ?z_tuple ?z_range ?z_len ?z_max ?z_list ?z_min ?z_enumerate ?z_abs ?z_int ?z_sorted ?z_repr ?u_POWERS ?v_POWERS ?u_LENGTHS ?v_LENGTHS ?i_MOST_WORTH ?i_MOST_BIDDERS ?u_WORDS ?v_WORDS ?x_LENGTHS ?y_LENGTHS ?e_BadTable ?e_BadBook ?e_BadWord ?e_BadBidder ?ea_BadWord_BadBidder ?eb_BadWord_BadBidder ?ec_BadWord_BadBidder ?ea_BadBidder_BadBidder ?eb_BadBidder_BadBidder ?ec_BadBidder_BadBidder ?ea_BadBook_BadBidder ?eb_BadBook_BadBidder ?ec_BadBook_BadBidder ?ea_BadTable_BadBidder ?eb_BadTable_BadBidder ?ec_BadTable_BadBidder ?ea_BadWord_BadWord ?eb_BadWord_BadWord ?ec_BadWord_BadWord ?ea_BadBidder_BadWord ?eb_BadBidder_BadWord ?ec_BadBidder_BadWord ?ea_BadBook_BadWord ?eb_BadBook_BadWord ?ec_BadBook_BadWord ?ea_BadTable_BadWord ?eb_BadTable_BadWord ?ec_BadTable_BadWord ?ea_BadWord_BadTable ?eb_BadWord_BadTable ?ec_BadWord_BadTable ?ea_BadBidder_BadTable ?eb_BadBidder_BadTable ?ec_BadBidder_BadTable ?ea_BadBook_BadTable ?eb_BadBook_BadTable ?ec_BadBook_BadTable ?ea_BadTable_BadTable ?eb_BadTable_BadTable ?ec_BadTable_BadTable ?ea_BadWord_BadBook ?eb_BadWord_BadBook ?ec_BadWord_BadBook ?ea_BadBidder_BadBook ?eb_BadBidder_BadBook ?ec_BadBidder_BadBook ?ea_BadBook_BadBook ?eb_BadBook_BadBook ?ec_BadBook_BadBook ?ea_BadTable_BadBook ?eb_BadTable_BadBook ?ec_BadTable_BadBook
    (case a_inner => k_is)
    (case l_inner => k_is)
    (case k_inner => k_is)
    (case p_inner => k_is)
    (case a_number_of => k_is)
    (case l_number_of => k_is)
    (case k_number_of => k_is)
    (case p_number_of => k_is)
    (case a_bundle_of => k_is)
    (case l_bundle_of => k_is)
    (case k_bundle_of => k_is)
    (case p_bundle_of => k_is)
    (case a_within => k_is)
    (case l_within => k_is)
    (case k_within => k_is)
    (case p_within => k_is)
    (case a_parts_of => k_is)
    (case l_parts_of => k_is)
    (case k_parts_of => k_is)
    (case p_parts_of => k_is)
    (case a_together => k_is)
    (case l_together => k_is)
    (case k_together => k_is)
    (case p_together => k_is)
    (case a_most_of => k_is)
    (case l_most_of => k_is)
    (case k_most_of => k_is)
    (case p_most_of => k_is)
    (case a_up_to => k_is)
    (case l_up_to => k_is)
    (case k_up_to => k_is)
    (case p_up_to => k_is)
    (case a_worths => k_is)
    (case l_worths => k_is)
    (case k_worths => k_is)
    (case p_worths => k_is)
    (case a_is_table => k_is)
    (case l_is_table => k_is)
    (case k_is_table => k_is)
    (case p_is_table => k_is)
    (case a_check_table => k_is)
    (case l_check_table => k_is)
    (case k_check_table => k_is)
    (case p_check_table => k_is)
    (case a_goods_in => k_is)
    (case l_goods_in => k_is)
    (case k_goods_in => k_is)
    (case p_goods_in => k_is)
    (case a_normal => k_is)
    (case l_normal => k_is)
    (case k_normal => k_is)
    (case p_normal => k_is)
    (case a_tree_of => k_is)
    (case l_tree_of => k_is)
    (case k_tree_of => k_is)
    (case p_tree_of => k_is)
    (case a_check_book => k_is)
    (case l_check_book => k_is)
    (case k_check_book => k_is)
    (case p_check_book => k_is)
    (case a_most_at => k_is)
    (case l_most_at => k_is)
    (case k_most_at => k_is)
    (case p_most_at => k_is)
    (case a_rests => k_is)
    (case l_rests => k_is)
    (case k_rests => k_is)
    (case p_rests => k_is)
    (case a_best_of => k_is)
    (case l_best_of => k_is)
    (case k_best_of => k_is)
    (case p_best_of => k_is)
    (case a_best => k_is)
    (case l_best => k_is)
    (case k_best => k_is)
    (case p_best => k_is)
    (case a_sum_without => k_is)
    (case l_sum_without => k_is)
    (case k_sum_without => k_is)
    (case p_sum_without => k_is)
    (case a_check_word => k_is)
    (case l_check_word => k_is)
    (case k_check_word => k_is)
    (case p_check_word => k_is)
    (case a_paid_by => k_is)
    (case l_paid_by => k_is)
    (case k_paid_by => k_is)
    (case p_paid_by => k_is)
    (case a_all_paid => k_is)
    (case l_all_paid => k_is)
    (case k_all_paid => k_is)
    (case p_all_paid => k_is)
    (case a_payments => k_is)
    (case l_payments => k_is)
    (case k_payments => k_is)
    (case p_payments => k_is)
    (case a_gain_of => k_is)
    (case l_gain_of => k_is)
    (case k_gain_of => k_is)
    (case p_gain_of => k_is)
    (case a_with_lie => k_is)
    (case l_with_lie => k_is)
    (case k_with_lie => k_is)
    (case p_with_lie => k_is)
    (case a_check_lies => k_is)
    (case l_check_lies => k_is)
    (case k_check_lies => k_is)
    (case p_check_lies => k_is)
    (case a_gain => k_is)
    (case l_gain => k_is)
    (case k_gain => k_is)
    (case p_gain => k_is)
    (case a_gains => k_is)
    (case l_gains => k_is)
    (case k_gains => k_is)
    (case p_gains => k_is)
    (case a_income => k_is)
    (case l_income => k_is)
    (case k_income => k_is)
    (case p_income => k_is)
    (case a_first_lie => k_is)
    (case l_first_lie => k_is)
    (case k_first_lie => k_is)
    (case p_first_lie => k_is)
    (case a_changed => k_is)
    (case l_changed => k_is)
    (case k_changed => k_is)
    (case p_changed => k_is)
    (case a_lies_about => k_is)
    (case l_lies_about => k_is)
    (case k_lies_about => k_is)
    (case p_lies_about => k_is)
    (case a_together_gain => k_is)
    (case l_together_gain => k_is)
    (case k_together_gain => k_is)
    (case p_together_gain => k_is)
    (case a_l_draws => k_is)
    (case l_l_draws => k_is)
    (case k_l_draws => k_is)
    (case p_l_draws => k_is)
    (case a_l_mix => k_is)
    (case l_l_mix => k_is)
    (case k_l_mix => k_is)
    (case p_l_mix => k_is)
    (case a_l_subsets => k_is)
    (case l_l_subsets => k_is)
    (case k_l_subsets => k_is)
    (case p_l_subsets => k_is)
    (case a_l_at => k_is)
    (case l_l_at => k_is)
    (case k_l_at => k_is)
    (case p_l_at => k_is)
    (case a_l_drawn => k_is)
    (case l_l_drawn => k_is)
    (case k_l_drawn => k_is)
    (case p_l_drawn => k_is)
    (case a_l_book => k_is)
    (case l_l_book => k_is)
    (case k_l_book => k_is)
    (case p_l_book => k_is)
    (case a_l_shares => k_is)
    (case l_l_shares => k_is)
    (case k_l_shares => k_is)
    (case p_l_shares => k_is)
    (case a_l_numbers => k_is)
    (case l_l_numbers => k_is)
    (case k_l_numbers => k_is)
    (case p_l_numbers => k_is)
    (case a_l_sum => k_is)
    (case l_l_sum => k_is)
    (case k_l_sum => k_is)
    (case p_l_sum => k_is)
    (case a_l_best => k_is)
    (case l_l_best => k_is)
    (case k_l_best => k_is)
    (case p_l_best => k_is)
    (case a_l_paid => k_is)
    (case l_l_paid => k_is)
    (case k_l_paid => k_is)
    (case p_l_paid => k_is)
    (case a_l_gain => k_is)
    (case l_l_gain => k_is)
    (case k_l_gain => k_is)
    (case p_l_gain => k_is)
    (case a_l_lies => k_is)
    (case l_l_lies => k_is)
    (case k_l_lies => k_is)
    (case p_l_lies => k_is)
    (case a_l_with => k_is)
    (case l_l_with => k_is)
    (case k_l_with => k_is)
    (case p_l_with => k_is)
    (case a_l_fault => k_is)
    (case l_l_fault => k_is)
    (case k_l_fault => k_is)
    (case p_l_fault => k_is)
    (case a_l_faults => k_is)
    (case l_l_faults => k_is)
    (case k_l_faults => k_is)
    (case p_l_faults => k_is)
    (case a_l_shown => k_is)
    (case l_l_shown => k_is)
    (case k_l_shown => k_is)
    (case p_l_shown => k_is)
    (case a_law => k_is)
    (case l_law => k_is)
    (case k_law => k_is)
    (case p_law => k_is)
    (case z_sum => k_is)
    (case z_tuple => k_is)
    (case z_range => k_is)
    (case z_len => k_is)
    (case z_max => k_is)
    (case z_list => k_is)
    (case z_min => k_is)
    (case z_enumerate => k_is)
    (case z_abs => k_is)
    (case z_int => k_is)
    (case z_sorted => k_is)
    (case z_repr => k_is)
    (case u_POWERS => k_is)
    (case v_POWERS => k_is)
    (case u_LENGTHS => k_is)
    (case v_LENGTHS => k_is)
    (case i_MOST_WORTH => k_is)
    (case i_MOST_BIDDERS => k_is)
    (case u_WORDS => k_is)
    (case v_WORDS => k_is)
    (case x_LENGTHS => k_is)
    (case y_LENGTHS => k_is)
    (case e_BadTable => refine' PySem.AeX.mk_err KX G0 ?gC ?cls ?hbm ?sa ?ga ?gg ?noN ?iC ?tC ?kC ?exC ?tyC ?hdC ?sup ?isD ?veC ?opq ?clD ?nsu ?top ?fn ?hcd ?hev ?code ?hvs ?hfile ?cell; (case gC => k_is); (case cls => k_is); (case hbm => rfl); (case sa => k_is); (case ga => k_is); (case gg => k_is); (case noN => k_is); (case iC => k_is); (case tC => k_is); (case kC => k_is); (case exC => k_is); (case tyC => k_is); (case hdC => k_is); (case veC => k_is); (case opq => k_is); (case nsu => k_is); (case top => rfl); (case fn => k_is); (case hcd => k_is); (case hev => exact fun _ => ⟨_, rfl⟩); (case code => k_is); (case hvs => rfl); (case hfile => rfl); (case cell => k_is); (case sup => ks_is); (case isD => k_is); (case clD => k_is))
    (case e_BadBook => refine' PySem.AeX.mk_err KX G0 ?gC ?cls ?hbm ?sa ?ga ?gg ?noN ?iC ?tC ?kC ?exC ?tyC ?hdC ?sup ?isD ?veC ?opq ?clD ?nsu ?top ?fn ?hcd ?hev ?code ?hvs ?hfile ?cell; (case gC => k_is); (case cls => k_is); (case hbm => rfl); (case sa => k_is); (case ga => k_is); (case gg => k_is); (case noN => k_is); (case iC => k_is); (case tC => k_is); (case kC => k_is); (case exC => k_is); (case tyC => k_is); (case hdC => k_is); (case veC => k_is); (case opq => k_is); (case nsu => k_is); (case top => rfl); (case fn => k_is); (case hcd => k_is); (case hev => exact fun _ => ⟨_, rfl⟩); (case code => k_is); (case hvs => rfl); (case hfile => rfl); (case cell => k_is); (case sup => ks_is); (case isD => k_is); (case clD => k_is))
    (case e_BadWord => refine' PySem.AeX.mk_err KX G0 ?gC ?cls ?hbm ?sa ?ga ?gg ?noN ?iC ?tC ?kC ?exC ?tyC ?hdC ?sup ?isD ?veC ?opq ?clD ?nsu ?top ?fn ?hcd ?hev ?code ?hvs ?hfile ?cell; (case gC => k_is); (case cls => k_is); (case hbm => rfl); (case sa => k_is); (case ga => k_is); (case gg => k_is); (case noN => k_is); (case iC => k_is); (case tC => k_is); (case kC => k_is); (case exC => k_is); (case tyC => k_is); (case hdC => k_is); (case veC => k_is); (case opq => k_is); (case nsu => k_is); (case top => rfl); (case fn => k_is); (case hcd => k_is); (case hev => exact fun _ => ⟨_, rfl⟩); (case code => k_is); (case hvs => rfl); (case hfile => rfl); (case cell => k_is); (case sup => ks_is); (case isD => k_is); (case clD => k_is))
    (case e_BadBidder => refine' PySem.AeX.mk_err KX G0 ?gC ?cls ?hbm ?sa ?ga ?gg ?noN ?iC ?tC ?kC ?exC ?tyC ?hdC ?sup ?isD ?veC ?opq ?clD ?nsu ?top ?fn ?hcd ?hev ?code ?hvs ?hfile ?cell; (case gC => k_is); (case cls => k_is); (case hbm => rfl); (case sa => k_is); (case ga => k_is); (case gg => k_is); (case noN => k_is); (case iC => k_is); (case tC => k_is); (case kC => k_is); (case exC => k_is); (case tyC => k_is); (case hdC => k_is); (case veC => k_is); (case opq => k_is); (case nsu => k_is); (case top => rfl); (case fn => k_is); (case hcd => k_is); (case hev => exact fun _ => ⟨_, rfl⟩); (case code => k_is); (case hvs => rfl); (case hfile => rfl); (case cell => k_is); (case sup => ks_is); (case isD => k_is); (case clD => k_is))
    (case ea_BadWord_BadBidder => k_is)
    (case eb_BadWord_BadBidder => k_is)
    (case ec_BadWord_BadBidder => kts_exm)
    (case ea_BadBidder_BadBidder => k_is)
    (case eb_BadBidder_BadBidder => k_is)
    (case ec_BadBidder_BadBidder => kts_exm)
    (case ea_BadBook_BadBidder => k_is)
    (case eb_BadBook_BadBidder => k_is)
    (case ec_BadBook_BadBidder => kts_exm)
    (case ea_BadTable_BadBidder => k_is)
    (case eb_BadTable_BadBidder => k_is)
    (case ec_BadTable_BadBidder => kts_exm)
    (case ea_BadWord_BadWord => k_is)
    (case eb_BadWord_BadWord => k_is)
    (case ec_BadWord_BadWord => kts_exm)
    (case ea_BadBidder_BadWord => k_is)
    (case eb_BadBidder_BadWord => k_is)
    (case ec_BadBidder_BadWord => kts_exm)
    (case ea_BadBook_BadWord => k_is)
    (case eb_BadBook_BadWord => k_is)
    (case ec_BadBook_BadWord => kts_exm)
    (case ea_BadTable_BadWord => k_is)
    (case eb_BadTable_BadWord => k_is)
    (case ec_BadTable_BadWord => kts_exm)
    (case ea_BadWord_BadTable => k_is)
    (case eb_BadWord_BadTable => k_is)
    (case ec_BadWord_BadTable => kts_exm)
    (case ea_BadBidder_BadTable => k_is)
    (case eb_BadBidder_BadTable => k_is)
    (case ec_BadBidder_BadTable => kts_exm)
    (case ea_BadBook_BadTable => k_is)
    (case eb_BadBook_BadTable => k_is)
    (case ec_BadBook_BadTable => kts_exm)
    (case ea_BadTable_BadTable => k_is)
    (case eb_BadTable_BadTable => k_is)
    (case ec_BadTable_BadTable => kts_exm)
    (case ea_BadWord_BadBook => k_is)
    (case eb_BadWord_BadBook => k_is)
    (case ec_BadWord_BadBook => kts_exm)
    (case ea_BadBidder_BadBook => k_is)
    (case eb_BadBidder_BadBook => k_is)
    (case ec_BadBidder_BadBook => kts_exm)
    (case ea_BadBook_BadBook => k_is)
    (case eb_BadBook_BadBook => k_is)
    (case ec_BadBook_BadBook => kts_exm)
    (case ea_BadTable_BadBook => k_is)
    (case eb_BadTable_BadBook => k_is)
    (case ec_BadTable_BadBook => kts_exm)

