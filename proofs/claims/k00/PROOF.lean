import PyProof.Rows.All
import Wide.All
import OpenK.AllK
import Wide.FinOn
import HandS.ForMost
import HandS.ForExc
import HandS.TupAny
import HandS.TupLe
import HandS.Style
import HandS.Wide
import HandS.Deep
import KE.LtData
import HandS.Star
import HandS.SortInts
import HandS.More
import HandS.SortRule
import HandS.Small
import HandS.Zip
import HandS.CallSlots
import HandS.ExcOwn
import HandS.ExcCtx
import HandS.Ends
import HandS.SetFor
import HandS.Strs
import HandS.TupSets
import HandS.RaiseMore
import KE.KIndexOf
import KE.OsSetLaws
import PyProof.ReprRoads
import HandS.ForSpec
import KE.KExcSuper
import HandS.ExcSuper
import HandS.TryMany
import KE.GoesEnum
import KE.GoesMore
import HandS.TryOnly
import KE.SortData
import KE.DataMinMax
import PyProof.SumWalkG
import HandS.HotCalls
import KE.KExcIs
import HandS.Text
import KE.RegKIsAll
import HandS.ExcValue
import HandS.IsInst
import KE.RegKSuper
import KE.RegKTryMore
import PySem.Challenge.RW_truebidsbest_k00_errors_are_apart
set_option Elab.async false
set_option linter.all false
set_option maxRecDepth 100000
namespace G
open PySem PySem.Spec PyProof.Rows L2

abbrev D := PyData
abbrev Frg := PySem.W.Frag
abbrev MgT := Str → Option Value
abbrev St := L2.St

/-- what running a piece comes to: a value, an own error with its number, or nothing told -/
inductive R (α : Type) where
  | ok (a : α)
  | ex (c : String) (n : Int)
  | no
def R.bind {α β : Type} : R α → (α → R β) → R β
  | .ok a, f => f a
  | .ex c n, _ => .ex c n
  | .no, _ => .no
def R.map {α β : Type} (f : α → β) : R α → R β
  | .ok a => .ok (f a)
  | .ex c n => .ex c n
  | .no => .no
@[simp] theorem R.bind_ok {α β : Type} (a : α) (f : α → R β) : (R.ok a).bind f = f a := rfl
@[simp] theorem R.bind_ex {α β : Type} (c : String) (n : Int) (f : α → R β) : (R.ex c n).bind f = .ex c n := rfl
@[simp] theorem R.bind_no {α β : Type} (f : α → R β) : (R.no : R α).bind f = .no := rfl

/-- a slot: data that nobody changes any more; a list or dict that this frame alone holds; a caught error -/
inductive Sl where
  | v (d : D)
  | own (t : Bool) (d : D)
  | er (c : String) (n : Int)
  | sc (ns : List Int)
abbrev En := List (Option Sl)

/-! ### data in the abstract heap -/
def kD : Key → D
  | .inl i => .int i
  | .inr z => .str z
def TupK (K : Frg) (a : Addr) (vs : List V) : Prop :=
  ∃ (o : Obj) (its : Array Value) (n : Nat), K.lookup a = some o ∧ o.cls = .type "tuple" ∧ o.data = .seq its n ∧ its.size ≤ sizeLine ∧ Vals vs its.toList
/-- the written pairs (0, 1) and (1, 1) -/
def ZT (K : Frg) (a : Addr) (vs : List V) : Prop := TupK K a vs ∧ (vs = [.int 0, .int 1] ∨ vs = [.int 1, .int 1])
/-- an own error as a value: the object at a, of the class at C, its dict at dd -/
def XO (C dd a : Addr) : HO := .ext fun h => ∃ oe vs, h.get? a = some oe ∧ Zc (.ref C) (some dd) oe ∧ oe.data = .fields vs
mutual
inductive Rep (K : Frg) (H : Hp) (A : List Addr) : V → D → Prop
  | non : Rep K H A .non .none
  | bl (b : Bool) : Rep K H A (.bl b) (.bool b)
  | int (i : Int) : Rep K H A (.int i) (.int i)
  | str (z : Str) : Rep K H A (.str z) (.str z)
  | lst {a : Addr} {vs : List V} {ds : List D} : a ∉ A → H a = some (.lst vs) → RepL K H A vs ds → Rep K H A (.ref a) (.list ds)
  | tup {a : Addr} {vs : List V} {ds : List D} : a ∉ A → H a = some (.tup vs) → RepL K H A vs ds → Rep K H A (.ref a) (.tuple ds)
  | kt {a : Addr} {vs : List V} {ds : List D} : ZT K a vs → RepL K H A vs ds → Rep K H A (.ref a) (.tuple ds)
  | dk {a : Addr} {kvs : List (Key × V)} {ds : List (D × D)} : a ∉ A → Rd H a (.dK kvs) → RepK K H A kvs ds → Rep K H A (.ref a) (.dict ds)
  | dt {a : Addr} {kvs : List (List Key × V)} {ds : List (D × D)} : a ∉ A → Rd H a (.dT kvs) → RepT K H A kvs ds → Rep K H A (.ref a) (.dict ds)
  | xo {a dd C : Addr} {n : Int} : a ∉ A → dd ∉ A → H a = some (XO C dd a) → H dd = some (.xd [("at", .int n)]) → Rep K H A (.ref a) (.dict [(.none, .int C), (.int 0, .int n)])
inductive RepL (K : Frg) (H : Hp) (A : List Addr) : List V → List D → Prop
  | nil : RepL K H A [] []
  | cons {v : V} {vs : List V} {d : D} {ds : List D} : Rep K H A v d → RepL K H A vs ds → RepL K H A (v :: vs) (d :: ds)
inductive RepK (K : Frg) (H : Hp) (A : List Addr) : List (Key × V) → List (D × D) → Prop
  | nil : RepK K H A [] []
  | cons {k : Key} {v : V} {vs : List (Key × V)} {d : D} {ds : List (D × D)} : Rep K H A v d → RepK K H A vs ds → RepK K H A ((k, v) :: vs) ((kD k, d) :: ds)
inductive RepT (K : Frg) (H : Hp) (A : List Addr) : List (List Key × V) → List (D × D) → Prop
  | nil : RepT K H A [] []
  | cons {k : List Key} {v : V} {vs : List (List Key × V)} {d : D} {ds : List (D × D)} : Rep K H A v d → RepT K H A vs ds → RepT K H A ((k, v) :: vs) ((.tuple (k.map kD), d) :: ds)
end

/-- from one state to a later one: what is not ours alone stays; what is ours alone later was so, or is new -/
structure Tr (A : List Addr) (H : Hp) (A' : List Addr) (H' : Hp) : Prop where
  keep : ∀ b o, H b = some o → b ∉ A → H' b = some o
  new : ∀ a ∈ A', a ∈ A ∨ H a = none
theorem Tr.refl (A : List Addr) (H : Hp) : Tr A H A H := ⟨fun _ _ h _ => h, fun _ h => .inl h⟩
theorem Tr.same {A : List Addr} {H H' : Hp} (h : Same H H') : Tr A H A H' := ⟨fun b o q _ => h b o q, fun _ h => .inl h⟩
theorem Tr.out {A A' : List Addr} {H H' : Hp} (t : Tr A H A' H') {b : Addr} {o : HO} (h : H b = some o) (n : b ∉ A) : b ∉ A' := fun q => by
  rcases t.new b q with z | z
  · exact n z
  · rw [h] at z; cases z
theorem Tr.trans {A A1 A2 : List Addr} {H H1 H2 : Hp} (t : Tr A H A1 H1) (u : Tr A1 H1 A2 H2) : Tr A H A2 H2 where
  keep := fun b o h n => u.keep b o (t.keep b o h n) (t.out h n)
  new := fun a ha => by
    rcases u.new a ha with z | z
    · exact t.new a z
    · by_cases hA : a ∈ A
      · exact .inl hA
      · refine .inr ?_
        cases q : H a with
        | none => rfl
        | some o => rw [t.keep a o q hA] at z; cases z
theorem Tr.write {A : List Addr} {H : Hp} {a : Addr} {x : HO} (h : a ∈ A) : Tr A H A (upd H a x) := ⟨fun c y q n => by rw [upd_ne (show c ≠ a from fun z => n (by rw [z]; exact h))]; exact q, fun c hc => .inl hc⟩
theorem Tr.sub {A A' : List Addr} {H : Hp} (h : ∀ a ∈ A', a ∈ A) : Tr A H A' H := ⟨fun _ _ h _ => h, fun a ha => .inl (h a ha)⟩

/-- the law's script: a list of ints that is only read -/
def LRep (K : Frg) (H : Hp) (A : List Addr) (a : Addr) (vs : List V) : Prop := (a ∉ A ∧ Rd H a (.lst vs)) ∨
  ∃ (o : Obj) (its : Array Value) (n : Nat), K.lookup a = some o ∧ o.cls = .type "list" ∧ o.dict = none ∧ o.data = .seq its n ∧ its.size ≤ sizeLine ∧ Vals vs its.toList
theorem LRep.sq {K : Frg} {H : Hp} {A : List Addr} {a : Addr} {vs : List V} : LRep K H A a vs → SqL K H a vs
  | .inl h => .inl h.2
  | .inr h => .inr h
section
variable {K : Frg} {H H' : Hp} {A A' : List Addr}
theorem LRep.tr (t : Tr A H A' H') {a : Addr} {vs : List V} : LRep K H A a vs → LRep K H' A' a vs
  | .inl ⟨n, .inl h⟩ => .inl ⟨t.out h n, .inl (t.keep _ _ h n)⟩
  | .inl ⟨n, .inr ⟨o, h⟩⟩ => .inl ⟨t.out h n, .inr ⟨o, t.keep _ _ h n⟩⟩
  | .inr h => .inr h
mutual
theorem Rep.tr (t : Tr A H A' H') : ∀ {v : V} {d : D}, Rep K H A v d → Rep K H' A' v d
  | _, _, .non => .non
  | _, _, .bl b => .bl b
  | _, _, .int i => .int i
  | _, _, .str z => .str z
  | _, _, .lst n h r => .lst (t.out h n) (t.keep _ _ h n) (RepL.tr t r)
  | _, _, .tup n h r => .tup (t.out h n) (t.keep _ _ h n) (RepL.tr t r)
  | _, _, .kt z r => .kt z (RepL.tr t r)
  | _, _, .dk n h r => .dk (by rcases h with h | ⟨o, h⟩ <;> exact t.out h n) (by rcases h with h | ⟨o, h⟩; exact .inl (t.keep _ _ h n); exact .inr ⟨o, t.keep _ _ h n⟩) (RepK.tr t r)
  | _, _, .dt n h r => .dt (by rcases h with h | ⟨o, h⟩ <;> exact t.out h n) (by rcases h with h | ⟨o, h⟩; exact .inl (t.keep _ _ h n); exact .inr ⟨o, t.keep _ _ h n⟩) (RepT.tr t r)
  | _, _, .xo n n2 h h2 => .xo (t.out h n) (t.out h2 n2) (t.keep _ _ h n) (t.keep _ _ h2 n2)
theorem RepL.tr (t : Tr A H A' H') : ∀ {v : List V} {d : List D}, RepL K H A v d → RepL K H' A' v d
  | _, _, .nil => .nil
  | _, _, .cons a b => .cons (Rep.tr t a) (RepL.tr t b)
theorem RepK.tr (t : Tr A H A' H') : ∀ {v : List (Key × V)} {d : List (D × D)}, RepK K H A v d → RepK K H' A' v d
  | _, _, .nil => .nil
  | _, _, .cons a b => .cons (Rep.tr t a) (RepK.tr t b)
theorem RepT.tr (t : Tr A H A' H') : ∀ {v : List (List Key × V)} {d : List (D × D)}, RepT K H A v d → RepT K H' A' v d
  | _, _, .nil => .nil
  | _, _, .cons a b => .cons (Rep.tr t a) (RepT.tr t b)
end
theorem Rep.same (s : Same H H') {v : V} {d : D} (h : Rep K H A v d) : Rep K H' A v d := h.tr (Tr.same s)
theorem RepL.same (s : Same H H') {v : List V} {d : List D} (h : RepL K H A v d) : RepL K H' A v d := h.tr (Tr.same s)
theorem Rep.sub (s : ∀ a ∈ A', a ∈ A) {v : V} {d : D} (h : Rep K H A v d) : Rep K H A' v d := h.tr (Tr.sub s)
theorem RepL.sub (s : ∀ a ∈ A', a ∈ A) {v : List V} {d : List D} (h : RepL K H A v d) : RepL K H A' v d := h.tr (Tr.sub s)
theorem RepL.length : ∀ {vs : List V} {ds : List D}, RepL K H A vs ds → vs.length = ds.length
  | _, _, .nil => rfl
  | _, _, .cons _ t => by rw [List.length_cons, List.length_cons, RepL.length t]
theorem RepL.get : ∀ {vs : List V} {ds : List D} {i : Nat} {d : D}, RepL K H A vs ds → ds[i]? = some d → ∃ v, vs[i]? = some v ∧ Rep K H A v d
  | _, _, _, _, .nil, h => by simp at h
  | _, _, 0, _, .cons a _, h => by simp at h; subst h; exact ⟨_, rfl, a⟩
  | _, _, i + 1, _, .cons _ t, h => by
    obtain ⟨v, h1, h2⟩ := RepL.get (i := i) t (by simpa using h)
    exact ⟨v, by simpa using h1, h2⟩
theorem RepL.append : ∀ {vs us : List V} {ds es : List D}, RepL K H A vs ds → RepL K H A us es → RepL K H A (vs ++ us) (ds ++ es)
  | _, _, _, _, .nil, s => s
  | _, _, _, _, .cons a t, s => .cons a (RepL.append t s)
theorem RepL.set : ∀ {vs : List V} {ds : List D} {v : V} {d : D} (i : Nat), RepL K H A vs ds → Rep K H A v d → RepL K H A (vs.set i v) (ds.set i d)
  | _, _, _, _, _, .nil, _ => .nil
  | _, _, _, _, 0, .cons _ t, r => .cons r t
  | _, _, _, _, i + 1, .cons a t, r => .cons a (RepL.set i t r)
theorem RepL.take : ∀ {vs : List V} {ds : List D} (n : Nat), RepL K H A vs ds → RepL K H A (vs.take n) (ds.take n)
  | _, _, 0, _ => by rw [List.take_zero, List.take_zero]; exact .nil
  | _, _, _ + 1, .nil => .nil
  | _, _, n + 1, .cons r t => .cons r (RepL.take n t)
theorem RepL.drop : ∀ {vs : List V} {ds : List D} (n : Nat), RepL K H A vs ds → RepL K H A (vs.drop n) (ds.drop n)
  | _, _, 0, r => r
  | _, _, _ + 1, .nil => .nil
  | _, _, n + 1, .cons _ t => RepL.drop n t
theorem RepL.reverse : ∀ {vs : List V} {ds : List D}, RepL K H A vs ds → RepL K H A vs.reverse ds.reverse
  | _, _, .nil => .nil
  | _, _, .cons a t => by rw [List.reverse_cons, List.reverse_cons]; exact (RepL.reverse t).append (.cons a .nil)
theorem RepL.one {v : V} {d : D} (h : Rep K H A v d) : RepL K H A [v] [d] := .cons h .nil
theorem RepL.flatRep {vs : List V} {ds : List D} (h : RepL K H A vs ds) : ∀ n : Nat, RepL K H A (List.replicate n vs).flatten (List.replicate n ds).flatten
  | 0 => .nil
  | n + 1 => by rw [List.replicate_succ, List.replicate_succ, List.flatten_cons, List.flatten_cons]; exact h.append (flatRep h n)
theorem RepL.getV : ∀ {vs : List V} {ds : List D} {i : Nat} {v : V}, RepL K H A vs ds → vs[i]? = some v → ∃ d, ds[i]? = some d ∧ Rep K H A v d
  | _, _, _, _, .nil, h => by simp at h
  | _, _, 0, _, .cons a _, h => by simp at h; subst h; exact ⟨_, rfl, a⟩
  | _, _, i + 1, _, .cons _ t, h => by
    obtain ⟨v, h1, h2⟩ := RepL.getV (i := i) t (by simpa using h)
    exact ⟨v, by simpa using h1, h2⟩

/-- a list or dict of which the frame alone holds the object (t: a dict whose keys are tuples) -/
def ORep (K : Frg) (H : Hp) (A : List Addr) (a : Addr) (t : Bool) : D → Prop
  | .list ds => ∃ vs, H a = some (.lst vs) ∧ RepL K H A vs ds
  | .dict ds => (t = false ∧ ∃ kvs, H a = some (.dK kvs) ∧ RepK K H A kvs ds) ∨ (t = true ∧ ∃ kvs, H a = some (.dT kvs) ∧ RepT K H A kvs ds)
  | _ => False
/-- read, not kept -/
def RepB (K : Frg) (H : Hp) (A : List Addr) (v : V) (d : D) : Prop := Rep K H A v d ∨ (∃ a, v = .ref a ∧ a ∈ A ∧ ∃ t, ORep K H A a t d) ∨ ∃ a vs ds, v = .ref a ∧ d = .tuple ds ∧ TupK K a vs ∧ RepL K H A vs ds
theorem ORep.tr (s : Same H H') (u : Tr A H A' H') {a : Addr} {t : Bool} : ∀ {d : D}, ORep K H A a t d → ORep K H' A' a t d
  | .list _, ⟨vs, h, r⟩ => ⟨vs, s _ _ h, r.tr u⟩
  | .dict _, .inl ⟨e, vs, h, r⟩ => .inl ⟨e, vs, s _ _ h, r.tr u⟩
  | .dict _, .inr ⟨e, vs, h, r⟩ => .inr ⟨e, vs, s _ _ h, r.tr u⟩
  | .none, h => h.elim
  | .bool _, h => h.elim
  | .int _, h => h.elim
  | .str _, h => h.elim
  | .tuple _, h => h.elim
theorem ORep.same (s : Same H H') {a : Addr} {t : Bool} {d : D} (h : ORep K H A a t d) : ORep K H' A a t d := h.tr s (Tr.same s)
theorem RepB.same (s : Same H H') {v : V} {d : D} : RepB K H A v d → RepB K H' A v d
  | .inl h => .inl (h.same s)
  | .inr (.inl ⟨a, e, m, t, h⟩) => .inr (.inl ⟨a, e, m, t, h.same s⟩)
  | .inr (.inr ⟨a, vs, ds, e, e2, h, r⟩) => .inr (.inr ⟨a, vs, ds, e, e2, h, r.same s⟩)
theorem ORep.some {a : Addr} {t : Bool} : ∀ {d : D}, ORep K H A a t d → ∃ o, H a = Option.some o ∧ Mut (Option.some o)
  | .list _, ⟨vs, h, r⟩ => ⟨_, h, trivial⟩
  | .dict _, .inl ⟨_, vs, h, r⟩ => ⟨_, h, trivial⟩
  | .dict _, .inr ⟨_, vs, h, r⟩ => ⟨_, h, trivial⟩
  | .none, h => h.elim
  | .bool _, h => h.elim
  | .int _, h => h.elim
  | .str _, h => h.elim
  | .tuple _, h => h.elim
/-- the object at another place was changed -/
theorem ORep.other {a b : Addr} {t : Bool} {o : HO} (n : a ≠ b) (hb : b ∈ A) : ∀ {d : D}, ORep K H A a t d → ORep K (upd H b o) A a t d := by
  have u : Tr A H A (upd H b o) := ⟨fun c x h q => by rw [upd_ne (show c ≠ b from fun z => q (by rw [z]; exact hb))]; exact h, fun c h => .inl h⟩
  intro d h
  cases d with
  | list ds => obtain ⟨vs, h, r⟩ := h; exact ⟨vs, by rw [upd_ne n]; exact h, r.tr u⟩
  | dict ds =>
    rcases h with ⟨e, vs, h, r⟩ | ⟨e, vs, h, r⟩
    · exact .inl ⟨e, vs, by rw [upd_ne n]; exact h, r.tr u⟩
    · exact .inr ⟨e, vs, by rw [upd_ne n]; exact h, r.tr u⟩
  | _ => exact h.elim
/-- let go: from now on it is data that nobody changes -/
theorem ORep.free {a : Addr} {t : Bool} (ha : a ∉ A') (s : ∀ b ∈ A', b ∈ A) : ∀ {d : D}, ORep K H A a t d → Rep K H A' (.ref a) d
  | .list _, ⟨vs, h, r⟩ => .lst ha h (r.sub s)
  | .dict _, .inl ⟨_, vs, h, r⟩ => .dk ha (.inl h) (r.tr (Tr.sub s))
  | .dict _, .inr ⟨_, vs, h, r⟩ => .dt ha (.inl h) (r.tr (Tr.sub s))
  | .none, h => h.elim
  | .bool _, h => h.elim
  | .int _, h => h.elim
  | .str _, h => h.elim
  | .tuple _, h => h.elim
theorem ORep.sub {a : Addr} {t : Bool} (s : ∀ b ∈ A', b ∈ A) {d : D} (h : ORep K H A a t d) : ORep K H A' a t d := h.tr (Same.refl H) (Tr.sub s)
end

/-! ### the state as the meanings see it -/
def SRep (K : Frg) (H0 : Hp) (A0 A : List Addr) (H : Hp) (v : V) : Sl → Prop
  | .v d => Rep K H A v d
  | .own t d => ∃ a, v = .ref a ∧ a ∈ A ∧ (H0 a = none ∧ a ∉ A0) ∧ ORep K H A a t d
  | .er _ _ => True
  | .sc ns => ∃ a, v = .ref a ∧ LRep K H A a (ns.map V.int)
structure Ok (K : Frg) (H0 : Hp) (A0 A : List Addr) (ρ : En) (σ : St) (H : Hp) : Prop where
  len : σ.length = ρ.length
  ext : Same H0 H
  sub : ∀ a ∈ A0, a ∈ A
  new : ∀ a ∈ A, a ∈ A0 ∨ H0 a = none
  has : ∀ a ∈ A, H a ≠ none
  slot : ∀ (i : Nat) (s : Sl), ρ[i]? = some (some s) → ∃ v, σ[i]? = some (some v) ∧ SRep K H0 A0 A H v s
  dis : ∀ (i j : Nat) (a : Addr) (t t' : Bool) (d d' : D), i ≠ j → ρ[i]? = some (some (.own t d)) → ρ[j]? = some (some (.own t' d')) → σ[i]? = some (some (.ref a)) → σ[j]? ≠ some (some (.ref a))
theorem SRep.same {K : Frg} {H0 H H' : Hp} {A0 A : List Addr} (s : Same H H') {v : V} : ∀ {x : Sl}, SRep K H0 A0 A H v x → SRep K H0 A0 A H' v x
  | .v _, h => Rep.same s h
  | .own _ _, ⟨a, e, m, n, h⟩ => ⟨a, e, m, n, h.same s⟩
  | .er _ _, _ => trivial
  | .sc _, ⟨a, e, h⟩ => ⟨a, e, h.tr (Tr.same s)⟩
theorem Ok.same {K : Frg} {H0 H H' : Hp} {A0 A : List Addr} {ρ : En} {σ : St} (o : Ok K H0 A0 A ρ σ H) (s : Same H H') : Ok K H0 A0 A ρ σ H' :=
  ⟨o.len, o.ext.trans s, o.sub, o.new, fun a ha z => o.has a ha (s.free z), fun i x h => let ⟨v, h1, h2⟩ := o.slot i x h; ⟨v, h1, h2.same s⟩, o.dis⟩
theorem Ok.fresh {K : Frg} {H0 H : Hp} {A0 A : List Addr} {ρ : En} {σ : St} (o : Ok K H0 A0 A ρ σ H) {p : Addr} (h : H p = none) : p ∉ A := fun z => o.has p z h

/-! ### meanings -/
section
variable (K : Frg) (mg : MgT) (W : WX)
/-- an own error of the class named c, its number n, in the later heap H' -/
def ErrAt (c : String) (n : Int) (u : Value) (p : Addr) (H' : Hp) : Prop := mg (Str.ofString c) = some u ∧ H' p = some (.xd [("at", .int n)])
def Post {α : Type} (σ : St) (H : Hp) (P : α → Hp → Prop) : R α → Prop
  | .ok a => ∀ H', Same H H' → P a H'
  | .ex c n => ∀ u p H', Same H H' → H p = none → ErrAt mg c n u p H' → W u (some p) σ H'
  | .no => False
end
section
variable {mg : MgT} {W : WX} {α β : Type} {σ : St} {H H1 : Hp} {P P' : α → Hp → Prop} {r : R α}
theorem Post.same (h : Post mg W σ H P r) (s : Same H H1) : Post mg W σ H1 P r := by
  cases r with
  | ok a => exact fun H' s' => h H' (s.trans s')
  | ex c n => exact fun u p H' s' f e => h u p H' (s.trans s') (s.free f) e
  | no => exact h
theorem Post.mono (h : Post mg W σ H P r) (m : ∀ a H1, Same H H1 → P a H1 → P' a H1) : Post mg W σ H P' r := by
  cases r with
  | ok a => exact fun H' s' => m a H' s' (h H' s')
  | ex c n => exact h
  | no => exact h
theorem Post.bind {Pb : β → Hp → Prop} {k : α → R β} (h : Post mg W σ H Pb (r.bind k)) : Post mg W σ H (fun a H1 => Post mg W σ H1 Pb (k a)) r := by
  cases r with
  | ok a => exact fun H' s' => Post.same (r := k a) h s'
  | ex c n => exact h
  | no => exact h
theorem Post.at {a : α} (h : Post mg W σ H P (.ok a)) : P a H := h H (Same.refl H)
end
section
variable (K : Frg) (mg : MgT) (W : WX)
def tF (f : En → R D) : TE := fun σ H Q => ∃ H0 A0 A ρ, Ok K H0 A0 A ρ σ H ∧ Post mg W σ H (fun d H' => ∀ v, Rep K H' A v d → Q v H') (f ρ)
def tFB (f : En → R D) : TE := fun σ H Q => ∃ H0 A0 A ρ, Ok K H0 A0 A ρ σ H ∧ Post mg W σ H (fun d H' => ∀ v, RepB K H' A v d → Q v H') (f ρ)
/-- a new list or dict, which nothing else holds -/
def RepN (K : Frg) (t : Bool) (H H' : Hp) (A : List Addr) (v : V) (d : D) : Prop := ∃ a, v = .ref a ∧ H a = none ∧ ORep K H' (a :: A) a t d
def tFN (t : Bool) (f : En → R D) : TE := fun σ H Q => ∃ H0 A0 A ρ, Ok K H0 A0 A ρ σ H ∧ Post mg W σ H (fun d H' => ∀ v, RepN K t H H' A v d → Q v H') (f ρ)
def tFT (f : En → R Bool) : TT := fun σ H Q => ∃ H0 A0 A ρ, Ok K H0 A0 A ρ σ H ∧ Post mg W σ H (fun b H' => Q b H') (f ρ)
def tFA (f : En → R (List D)) : TA := fun σ H Q => ∃ H0 A0 A ρ, Ok K H0 A0 A ρ σ H ∧ Post mg W σ H (fun ds H' => ∀ vs, RepL K H' A vs ds → Q vs H') (f ρ)
def tFAB (f : En → R (List D)) : TA := fun σ H Q => ∃ H0 A0 A ρ, Ok K H0 A0 A ρ σ H ∧ Post mg W σ H (fun ds H' => ∀ vs, Paired (RepB K H' A) vs ds → Q vs H') (f ρ)
end
/-- what a statement comes to -/
inductive SR where
  | nx (ρ : En)
  | rt (d : D)
  | bk (ρ : En)
  | ct (ρ : En)
  | ex (c : String) (n : Int) (ρ : En)
  | no
section
variable (K : Frg) (mg : MgT) (W : WX)
/-- new, and not kept for what is around -/
def Fr1 (H0 : Hp) (A0 : List Addr) (p : Addr) : Prop := H0 p = none ∧ p ∉ A0
def PostS (H0 : Hp) (A0 A : List Addr) (H : Hp) (E : Ends) : SR → Prop
  | .nx ρ' => ∀ σ' H' A', Ok K H0 A0 A' ρ' σ' H' → Tr A H A' H' → E.nx σ' H'
  | .rt d => ∀ v H', Same H0 H' → Rep K H' A0 v d → E.rt v H'
  | .bk ρ' => ∀ σ' H' A', Ok K H0 A0 A' ρ' σ' H' → Tr A H A' H' → E.bk σ' H'
  | .ct ρ' => ∀ σ' H' A', Ok K H0 A0 A' ρ' σ' H' → Tr A H A' H' → E.ct σ' H'
  | .ex c n ρ' => ∀ u p σ' H' A', Ok K H0 A0 A' ρ' σ' H' → Tr A H A' H' → Fr1 H0 A0 p → ErrAt mg c n u p H' → W u (some p) σ' H'
  | .no => False
def tFS (g : En → SR) : TS := fun E σ H => ∃ H0 A0 A ρ, Ok K H0 A0 A ρ σ H ∧ PostS K mg W H0 A0 A H E (g ρ)
end
abbrev FE (X : Cx) (W : WX) (e : Expr) (f : En → R D) : Prop := PE X e (tF X.K X.mg W f)
abbrev FB (X : Cx) (W : WX) (e : Expr) (f : En → R D) : Prop := PE X e (tFB X.K X.mg W f)
abbrev FN (X : Cx) (W : WX) (t : Bool) (e : Expr) (f : En → R D) : Prop := PE X e (tFN X.K X.mg W t f)
abbrev FT (X : Cx) (W : WX) (e : Expr) (f : En → R Bool) : Prop := PT X e (tFT X.K X.mg W f)
abbrev FA (X : Cx) (W : WX) (es : List Expr) (f : En → R (List D)) : Prop := PA X es (tFA X.K X.mg W f)
abbrev FAB (X : Cx) (W : WX) (es : List Expr) (f : En → R (List D)) : Prop := PA X es (tFAB X.K X.mg W f)
abbrev FS (X : Cx) (W : WX) (st : Stmt) (g : En → SR) : Prop := PS X st (tFS X.K X.mg W g)
abbrev FSs (X : Cx) (W : WX) (st : List Stmt) (g : En → SR) : Prop := PSs X st (tFS X.K X.mg W g)

section
variable {X : Cx}
theorem impE {e : Expr} {t t' : TE} (h : PE X e t) (i : ∀ σ H Q, t' σ H Q → t σ H Q) : PE X e t' := ⟨fun pins s σ H Q I q => h.run pins s σ H Q I (i _ _ _ q)⟩
theorem impT {e : Expr} {t t' : TT} (h : PT X e t) (i : ∀ σ H Q, t' σ H Q → t σ H Q) : PT X e t' := ⟨fun pins s σ H Q I q => h.run pins s σ H Q I (i _ _ _ q)⟩
theorem impW {e : Expr} {t t' : TT} (h : PW X e t) (i : ∀ σ H Q, t' σ H Q → t σ H Q) : PW X e t' := ⟨fun wh pins s σ H Q I q => h.run wh pins s σ H Q I (i _ _ _ q)⟩
theorem impA {e : List Expr} {t t' : TA} (h : PA X e t) (i : ∀ σ H Q, t' σ H Q → t σ H Q) : PA X e t' := ⟨fun pos pins s σ H Q I q => h.run pos pins s σ H Q I (i _ _ _ q)⟩
theorem impS {e : Stmt} {t t' : TS} (h : PS X e t) (i : ∀ D σ H, t' D σ H → t D σ H) : PS X e t' := ⟨fun pins s σ H D I q => h.run pins s σ H D I (i _ _ _ q)⟩
theorem impSs {e : List Stmt} {t t' : TS} (h : PSs X e t) (i : ∀ D σ H, t' D σ H → t D σ H) : PSs X e t' := ⟨fun pins s σ H D I q => h.run pins s σ H D I (i _ _ _ q)⟩
end

/-! ### reading shapes off -/
section
variable {K : Frg} {H : Hp} {A : List Addr} {v : V}
theorem RepB.of {d : D} (h : Rep K H A v d) : RepB K H A v d := .inl h
theorem RepB.int {i : Int} (h : RepB K H A v (.int i)) : v = .int i := by
  rcases h with h | ⟨a, _, _, _, h⟩ | ⟨_, _, _, _, e, _⟩
  · cases h; rfl
  · exact h.elim
  · cases e
theorem RepB.bool {i : Bool} (h : RepB K H A v (.bool i)) : v = .bl i := by
  rcases h with h | ⟨a, _, _, _, h⟩ | ⟨_, _, _, _, e, _⟩
  · cases h; rfl
  · exact h.elim
  · cases e
theorem RepB.str {i : Str} (h : RepB K H A v (.str i)) : v = .str i := by
  rcases h with h | ⟨a, _, _, _, h⟩ | ⟨_, _, _, _, e, _⟩
  · cases h; rfl
  · exact h.elim
  · cases e
theorem RepB.non (h : RepB K H A v .none) : v = .non := by
  rcases h with h | ⟨a, _, _, _, h⟩ | ⟨_, _, _, _, e, _⟩
  · cases h; rfl
  · exact h.elim
  · cases e
theorem RepB.lst {ds : List D} (h : RepB K H A v (.list ds)) : ∃ a vs, v = .ref a ∧ H a = some (.lst vs) ∧ RepL K H A vs ds := by
  rcases h with h | ⟨a, e, _, _, vs, h, r⟩ | ⟨_, _, _, _, e, _⟩
  · cases h with
    | lst n h r => exact ⟨_, _, rfl, h, r⟩
  · exact ⟨a, vs, e, h, r⟩
  · cases e
theorem RepB.tup {ds : List D} (h : RepB K H A v (.tuple ds)) : ∃ a vs, v = .ref a ∧ SqT K H a vs ∧ RepL K H A vs ds := by
  rcases h with h | ⟨a, e, _, _, h⟩ | ⟨a, vs, _, e, e2, h, r⟩
  · cases h with
    | tup n h r => exact ⟨_, _, rfl, .inl (.inl h), r⟩
    | kt z r => exact ⟨_, _, rfl, .inr z.1, r⟩
  · exact h.elim
  · cases e2
    exact ⟨a, vs, e, .inr h, r⟩
theorem RepB.dict {ds : List (D × D)} (h : RepB K H A v (.dict ds)) : ∃ a, v = .ref a ∧ ((∃ kvs, Rd H a (.dK kvs) ∧ RepK K H A kvs ds) ∨ (∃ kvs, Rd H a (.dT kvs) ∧ RepT K H A kvs ds) ∨ ∃ (C : Addr) (n : Int), ds = [(.none, .int C), (.int 0, .int n)]) := by
  rcases h with h | ⟨a, e, _, _, h⟩ | ⟨_, _, _, _, e, _⟩
  · cases h with
    | dk n h r => exact ⟨_, rfl, .inl ⟨_, h, r⟩⟩
    | dt n h r => exact ⟨_, rfl, .inr (.inl ⟨_, h, r⟩)⟩
    | xo n n2 h h2 => exact ⟨_, rfl, .inr (.inr ⟨_, _, rfl⟩)⟩
  · rcases h with ⟨_, kvs, h, r⟩ | ⟨_, kvs, h, r⟩
    · exact ⟨a, e, .inl ⟨kvs, .inl h, r⟩⟩
    · exact ⟨a, e, .inr (.inl ⟨kvs, .inl h, r⟩)⟩
  · cases e
mutual
/-- data without dicts, as the kit's own relation has it -/
theorem Rep.dp : ∀ {v : V} {d : D}, Rep K H A v d → d.hasDict = false → Dp K H v d
  | _, _, .non, _ => .non
  | _, _, .bl b, _ => .bl b
  | _, _, .int i, _ => .int i
  | _, _, .str z, _ => .str z
  | _, _, .lst _ h r, q => .lst (SqL.of h) (RepL.dp r (by simpa only [PyData.hasDict] using q))
  | _, _, .tup _ h r, q => .tup (.inl (.inl h)) (RepL.dp r (by simpa only [PyData.hasDict] using q))
  | _, _, .kt z r, q => .tup (.inr z.1) (RepL.dp r (by simpa only [PyData.hasDict] using q))
  | _, _, .dk _ _ _, q => by simp [PyData.hasDict] at q
  | _, _, .dt _ _ _, q => by simp [PyData.hasDict] at q
  | _, _, .xo _ _ _ _, q => by simp [PyData.hasDict] at q
theorem RepL.dp : ∀ {v : List V} {d : List D}, RepL K H A v d → PyData.hasDictAll d = false → DpAll K H v d
  | _, _, .nil, _ => .nil
  | _, _, .cons a b, q => by
    simp only [PyData.hasDictAll, Bool.or_eq_false_iff] at q
    exact .cons (Rep.dp a q.1) (RepL.dp b q.2)
end
theorem RepB.dp {d : D} (h : RepB K H A v d) (q : SeqAt.shaped d = true) : Dp K H v d := by
  have q' : d.hasDict = false := PyData.hasDict_of_canLay d (SeqAt.canLay_of_shaped q)
  rcases h with h | ⟨a, e, _, _, h⟩ | ⟨a, vs, ds, rfl, rfl, h, r⟩
  · exact h.dp q'
  rotate_left
  · exact .tup (.inr h) (r.dp (by simpa only [PyData.hasDict] using q'))
  · cases d with
    | list ds =>
      obtain ⟨vs, h, r⟩ := h
      subst e
      exact .lst (SqL.of h) (r.dp (by simpa only [PyData.hasDict] using q'))
    | dict ds => simp [PyData.hasDict] at q'
    | none => exact h.elim
    | bool _ => exact h.elim
    | int _ => exact h.elim
    | str _ => exact h.elim
    | tuple _ => exact h.elim
end
/-! ### new objects -/
theorem same_upd {H : Hp} {p : Addr} {o : HO} (h : H p = none) : Same H (upd H p o) := fun b x e => by
  rw [upd_ne (ne_of_none e h)]
  exact e
section
variable {K : Frg} {H : Hp} {A : List Addr} {p : Addr} {vs : List V} {ds : List D}
/-- what stood before the new object does not reach it -/
theorem Tr.new1 {o : HO} (hp : H p = none) : Tr A H (p :: A) (upd H p o) := ⟨fun b x e _ => same_upd hp b x e, fun a ha => by
  rcases List.mem_cons.mp ha with rfl | h
  · exact .inr hp
  · exact .inl h⟩
theorem orep_lst {t : Bool} (hp : H p = none) (r : RepL K H A vs ds) : ORep K (upd H p (.lst vs)) (p :: A) p t (.list ds) := ⟨vs, upd_same, r.tr (Tr.new1 hp)⟩
theorem rep_tup (ha : p ∉ A) (hp : H p = none) (r : RepL K H A vs ds) : Rep K (upd H p (.tup vs)) A (.ref p) (.tuple ds) := .tup ha upd_same (r.same (same_upd hp))
theorem rep_lst (ha : p ∉ A) (hp : H p = none) (r : RepL K H A vs ds) : Rep K (upd H p (.lst vs)) A (.ref p) (.list ds) := .lst ha upd_same (r.same (same_upd hp))
end
/-- no such pair is a key here -/
def noZ : List Key → Bool
  | [.inl 0, .inl 1] => false
  | [.inl 1, .inl 1] => false
  | _ => true
theorem zt_key {K : Frg} {H : Hp} {A : List Addr} {a : Addr} {vs : List V} (z : ZT K a vs) : ∀ {ks : List Key}, RepL K H A vs (ks.map kD) → noZ ks = false
  | [], r => by
    rcases z.2 with e | e <;> (subst e; cases r)
  | [_], r => by
    rcases z.2 with e | e <;> (subst e; cases r; rename_i t; cases t)
  | [k1, k2], r => by
    rcases z.2 with e | e <;> subst e
    all_goals
      cases r
      rename_i r1 t
      cases t
      rename_i r2 t
      cases k1 with
      | inr _ => cases r1
      | inl n1 =>
        cases k2 with
        | inr _ => cases r2
        | inl n2 =>
          cases r1
          cases r2
          rfl
  | _ :: _ :: _ :: _, r => by
    rcases z.2 with e | e <;> (subst e; cases r; rename_i t; cases t; rename_i t; cases t)
end G

namespace G
open PySem PySem.Spec PyProof.Rows L2

/-! ### names and constants -/
def cVar (i : Nat) : En → R D := fun ρ => match ρ[i]? with | some (some (.v d)) => .ok d | _ => .no
def cVarB (i : Nat) : En → R D := fun ρ => match ρ[i]? with | some (some (.v d)) => .ok d | some (some (.own _ d)) => .ok d | _ => .no
def cK (d : D) : En → R D := fun _ => .ok d
section
variable {X : Cx} {W : WX}
theorem fe_var {i : Nat} {x : Str} {pos : Pos} (h : PE X (.Name x pos) (tVar i)) : FE X W (.Name x pos) (cVar i)   := impE h fun σ H Q ⟨H0, A0, A, ρ, o, P⟩ => by
  unfold cVar at P
  split at P
  · rename_i d e
    obtain ⟨v, h1, h2⟩ := o.slot i _ e
    exact ⟨v, h1, P.at v h2⟩
  · exact P.elim
theorem fb_var {i : Nat} {x : Str} {pos : Pos} (h : PE X (.Name x pos) (tVar i)) : FB X W (.Name x pos) (cVarB i)   := impE h fun σ H Q ⟨H0, A0, A, ρ, o, P⟩ => by
  unfold cVarB at P
  split at P
  · rename_i d e
    obtain ⟨v, h1, h2⟩ := o.slot i _ e
    exact ⟨v, h1, P.at v (.inl h2)⟩
  · rename_i d e
    obtain ⟨v, h1, a, e2, m, n, h2⟩ := o.slot i _ e
    exact ⟨v, h1, P.at v (.inr (.inl ⟨a, e2, m, _, h2⟩))⟩
  · exact P.elim
theorem fe_k {e : Expr} {v : V} {d : D} (h : PE X e (tC v)) (r : ∀ H A, Rep X.K H A v d) : FE X W e (cK d)   := impE h fun σ H Q ⟨H0, A0, A, ρ, o, P⟩ => P.at v (r _ _)
theorem fe_int {i : Int} {j : Nat} {pos : Pos} : FE X W (.Constant (.int i) j pos) (cK (.int i)) := fe_k pe_int fun _ _ => .int i
theorem fe_bl {i : Bool} {j : Nat} {pos : Pos} : FE X W (.Constant (.bool i) j pos) (cK (.bool i)) := fe_k pe_bl fun _ _ => .bl i
theorem fe_str {i : Str} {j : Nat} {pos : Pos} : FE X W (.Constant (.str i) j pos) (cK (.str i)) := fe_k pe_str fun _ _ => .str i
theorem fe_non {j : Nat} {pos : Pos} : FE X W (.Constant .none j pos) (cK .none) := fe_k pe_non fun _ _ => .non
theorem fb_of {e : Expr} {f : En → R D} (h : FE X W e f) : FB X W e f := impE h fun σ H Q ⟨H0, A0, A, ρ, o, P⟩ => ⟨H0, A0, A, ρ, o, P.mono fun d H1 _ q v r => q v (.inl r)⟩
theorem fe_of_fn {t : Bool} {e : Expr} {f : En → R D} (h : FN X W t e f) : FE X W e f := impE h fun σ H Q ⟨H0, A0, A, ρ, o, P⟩ => ⟨H0, A0, A, ρ, o, P.mono fun d H1 _ q v ⟨a, e, n, r⟩ => q v (by
  rw [e]
  exact r.free (o.fresh n) fun b hb => List.mem_cons_of_mem _ hb)⟩
end

/-! ### operators -/
def ofO {α : Type} : Option α → R α
  | some a => .ok a
  | none => .no
@[simp] theorem ofO_some {α : Type} (a : α) : ofO (some a) = R.ok a := rfl
@[simp] theorem ofO_none {α : Type} : ofO (none : Option α) = R.no := rfl
theorem Post.ofO {mg : MgT} {W : WX} {α : Type} {σ : St} {H : Hp} {P : α → Hp → Prop} {o : Option α} (h : Post mg W σ H P (ofO o)) : ∃ a, o = some a ∧ ∀ H', Same H H' → P a H' := by
  cases o with
  | none => exact h.elim
  | some a => exact ⟨a, rfl, h⟩
def cBin (dop : D → D → Option D) (f g : En → R D) : En → R D := fun ρ => (f ρ).bind fun x => (g ρ).bind fun y => ofO (dop x y)
def cUn (dop : D → Option D) (f : En → R D) : En → R D := fun ρ => (f ρ).bind fun x => ofO (dop x)
/-- an operator of values does on data what dop says -/
def DOp (X : Cx) (F : Value → Value → Sem Value) (dop : D → D → Option D) : Prop :=
  ∃ r : R2, OpR X F r ∧ ∀ (H : Hp) (A : List Addr) (x y : V) (d1 d2 d : D) (Q : VK), (∀ a ∈ A, H a ≠ none) → RepB X.K H A x d1 → RepB X.K H A y d2 → dop d1 d2 = some d → (∀ v H', Same H H' → Rep X.K H' A v d → Q v H') → r x y H Q
/-- .. operands that are data nobody changes -/
def DOpE (X : Cx) (F : Value → Value → Sem Value) (dop : D → D → Option D) : Prop :=
  ∃ r : R2, OpR X F r ∧ ∀ (H : Hp) (A : List Addr) (x y : V) (d1 d2 d : D) (Q : VK), (∀ a ∈ A, H a ≠ none) → Rep X.K H A x d1 → Rep X.K H A y d2 → dop d1 d2 = some d → (∀ v H', Same H H' → Rep X.K H' A v d → Q v H') → r x y H Q
def DUn (X : Cx) (F : Value → Sem Value) (dop : D → Option D) : Prop :=
  ∃ r : V → Hp → VK → Prop, UnR X F r ∧ ∀ (H : Hp) (A : List Addr) (x : V) (d1 d : D) (Q : VK), (∀ a ∈ A, H a ≠ none) → RepB X.K H A x d1 → dop d1 = some d → (∀ v H', Same H H' → Rep X.K H' A v d → Q v H') → r x H Q
section
variable {X : Cx} {W : WX} {a b c : Expr} {f g h : En → R D} {dop dop' : D → D → Option D} {op op' : CmpOp} {pos : Pos}
theorem op_read {r : R2} (hs : ∀ (H : Hp) (A : List Addr) (x y : V) (d1 d2 d : D) (Q : VK), (∀ a ∈ A, H a ≠ none) → RepB X.K H A x d1 → RepB X.K H A y d2 → dop d1 d2 = some d → (∀ v H', Same H H' → Rep X.K H' A v d → Q v H') → r x y H Q)
    (σ : St) (H : Hp) (Q : VK) (q : tF X.K X.mg W (cBin dop f g) σ H Q) : tOp r (tFB X.K X.mg W f) (tFB X.K X.mg W g) σ H Q := by
  obtain ⟨H0, A0, A, ρ, o, P⟩ := q
  refine ⟨H0, A0, A, ρ, o, P.bind.mono fun d1 H1 s1 P1 x hx => ?_⟩
  refine ⟨H0, A0, A, ρ, o.same s1, P1.bind.mono fun d2 H2 s2 P2 y hy => ?_⟩
  obtain ⟨d, e, P3⟩ := P2.ofO
  exact hs H2 A x y d1 d2 d Q ((o.same s1).same s2).has (hx.same s2) hy e fun v H' s3 hv => P3 H' s3 v hv
theorem fe_op {op : Operator} (ho : DOp X (binaryOp op) dop) (ha : FB X W a f) (hb : FB X W b g) : FE X W (.BinOp a op b pos) (cBin dop f g) := by
  obtain ⟨r, hr, hs⟩ := ho
  exact impE (pe_op hr ha hb) (op_read hs)
theorem fe_opE {op : Operator} (ho : DOpE X (binaryOp op) dop) (ha : FE X W a f) (hb : FE X W b g) : FE X W (.BinOp a op b pos) (cBin dop f g) := by
  obtain ⟨r, hr, hs⟩ := ho
  refine impE (pe_op hr ha hb) fun σ H Q ⟨H0, A0, A, ρ, o, P⟩ => ?_
  refine ⟨H0, A0, A, ρ, o, P.bind.mono fun d1 H1 s1 P1 x hx => ?_⟩
  refine ⟨H0, A0, A, ρ, o.same s1, P1.bind.mono fun d2 H2 s2 P2 y hy => ?_⟩
  obtain ⟨d, e, P3⟩ := P2.ofO
  exact hs H2 A x y d1 d2 d Q ((o.same s1).same s2).has (hx.same s2) hy e fun v H' s3 hv => P3 H' s3 v hv
theorem fe_un {op : UnaryOp} {dop : D → Option D} (ho : DUn X (unaryOp op) dop) (ha : FB X W a f) : FE X W (.UnaryOp op a pos) (cUn dop f) := by
  obtain ⟨r, hr, hs⟩ := ho
  refine impE (pe_un hr ha) fun σ H Q ⟨H0, A0, A, ρ, o, P⟩ => ?_
  refine ⟨H0, A0, A, ρ, o, P.bind.mono fun d1 H1 s1 P1 x hx => ?_⟩
  obtain ⟨d, e, P3⟩ := P1.ofO
  exact hs H1 A x d1 d Q (o.same s1).has hx e fun v H' s3 hv => P3 H' s3 v hv
theorem fe_cmp (ho : DOp X (compareOp op) dop) (ha : FB X W a f) (hb : FB X W b g) (hm : behindInMarks op b = false) : FE X W (.Compare a [op] [b] pos) (cBin dop f g) := by
  obtain ⟨r, hr, hs⟩ := ho
  exact impE (pe_cmpR hr ha hb hm) (op_read hs)
def toB : D → Option Bool
  | .bool b => some b
  | _ => none
def cBinT (dop : D → D → Option D) (f g : En → R D) : En → R Bool := fun ρ => (f ρ).bind fun x => (g ρ).bind fun y => ofO ((dop x y).bind toB)
theorem toB_some {d : D} {k : Bool} (h : toB d = some k) : d = .bool k := by
  cases d <;> simp [toB] at h
  rw [h]
theorem ft_cmp (ho : DOp X (compareOp op) dop) (ha : FB X W a f) (hb : FB X W b g) (hm : behindInMarks op b = false) : FT X W (.Compare a [op] [b] pos) (cBinT dop f g) := by
  obtain ⟨r, hr, hs⟩ := ho
  refine impT (pt_cmpR hr ha hb hm) fun σ H Q ⟨H0, A0, A, ρ, o, P⟩ => ?_
  refine ⟨H0, A0, A, ρ, o, P.bind.mono fun d1 H1 s1 P1 x hx => ?_⟩
  refine ⟨H0, A0, A, ρ, o.same s1, P1.bind.mono fun d2 H2 s2 P2 y hy => ?_⟩
  obtain ⟨k, e, P3⟩ := P2.ofO
  obtain ⟨d, e1, e2⟩ := Option.bind_eq_some_iff.mp e
  obtain rfl := toB_some e2
  exact hs H2 A x y d1 d2 _ _ ((o.same s1).same s2).has (hx.same s2) hy e1 fun v H' s3 hv => ⟨k, (RepB.of hv).bool, P3 H' s3⟩
/-- a < b < c -/
def cChain (dop dop' : D → D → Option D) (f g h : En → R D) : En → R D := fun ρ => (f ρ).bind fun x => (g ρ).bind fun y => (ofO ((dop x y).bind toB)).bind fun k =>
  if k = true then (h ρ).bind fun z => ofO (dop' y z) else .ok (.bool false)
def cChainT (dop dop' : D → D → Option D) (f g h : En → R D) : En → R Bool := fun ρ => (f ρ).bind fun x => (g ρ).bind fun y => (ofO ((dop x y).bind toB)).bind fun k =>
  if k = true then (h ρ).bind fun z => ofO ((dop' y z).bind toB) else .ok false
theorem fe_chain (ho : DOp X (compareOp op) dop) (ho' : DOp X (compareOp op') dop') (ha : FB X W a f) (hb : FB X W b g) (hc : FB X W c h) (hm : lastMarks [op, op'] [b, c] = false) : FE X W (.Compare a [op, op'] [b, c] pos) (cChain dop dop' f g h) := by
  obtain ⟨r, hr, hs⟩ := ho
  obtain ⟨r', hr', hs'⟩ := ho'
  refine impE (pe_chain hr hr' ha hb hc hm) fun σ H Q ⟨H0, A0, A, ρ, o, P⟩ => ?_
  refine ⟨H0, A0, A, ρ, o, P.bind.mono fun d1 H1 s1 P1 x hx => ?_⟩
  have o1 := o.same s1
  refine ⟨H0, A0, A, ρ, o1, P1.bind.mono fun d2 H2 s2 P2 y hy => ?_⟩
  have o2 := o1.same s2
  have P2' := P2.bind
  obtain ⟨k, e, P3⟩ := P2'.ofO
  obtain ⟨d, e1, e2⟩ := Option.bind_eq_some_iff.mp e
  obtain rfl := toB_some e2
  refine hs H2 A x y d1 d2 _ _ o2.has (hx.same s2) hy e1 fun v H3 s3 hv => ⟨k, (RepB.of hv).bool, ?_⟩
  have P4 := P3 H3 s3
  have o3 := o2.same s3
  cases k with
  | false => exact Post.at (a := PyData.bool false) (P := fun d H' => ∀ v, Rep X.K H' A v d → Q v H') P4 _ (.bl false)
  | true =>
    refine ⟨H0, A0, A, ρ, o3, Post.mono (Post.bind (k := fun z => ofO (dop' d2 z)) P4) fun d3 H4 s4 P5 z hz => ?_⟩
    obtain ⟨d4, e4, P6⟩ := P5.ofO
    exact hs' H4 A y z d2 d3 d4 Q (o3.same s4).has ((hy.same s3).same s4) hz e4 fun v H' s5 hv => P6 H' s5 v hv
theorem ft_chain (ho : DOp X (compareOp op) dop) (ho' : DOp X (compareOp op') dop') (ha : FB X W a f) (hb : FB X W b g) (hc : FB X W c h) (hm : lastMarks [op, op'] [b, c] = false) : FT X W (.Compare a [op, op'] [b, c] pos) (cChainT dop dop' f g h) := by
  obtain ⟨r, hr, hs⟩ := ho
  obtain ⟨r', hr', hs'⟩ := ho'
  refine impT (pt_chain hr hr' ha hb hc hm) fun σ H Q ⟨H0, A0, A, ρ, o, P⟩ => ?_
  refine ⟨H0, A0, A, ρ, o, P.bind.mono fun d1 H1 s1 P1 x hx => ?_⟩
  have o1 := o.same s1
  refine ⟨H0, A0, A, ρ, o1, P1.bind.mono fun d2 H2 s2 P2 y hy => ?_⟩
  have o2 := o1.same s2
  have P2' := P2.bind
  obtain ⟨k, e, P3⟩ := P2'.ofO
  obtain ⟨d, e1, e2⟩ := Option.bind_eq_some_iff.mp e
  obtain rfl := toB_some e2
  refine hs H2 A x y d1 d2 _ _ o2.has (hx.same s2) hy e1 fun v H3 s3 hv => ⟨k, (RepB.of hv).bool, ?_⟩
  have P4 := P3 H3 s3
  have o3 := o2.same s3
  cases k with
  | false => exact ⟨false, rfl, Post.at (a := false) (P := fun b H' => Q b H') P4⟩
  | true =>
    refine ⟨H0, A0, A, ρ, o3, Post.mono (Post.bind (k := fun z => ofO ((dop' d2 z).bind toB)) P4) fun d3 H4 s4 P5 z hz => ?_⟩
    obtain ⟨k4, e4, P6⟩ := P5.ofO
    obtain ⟨d4, e5, e6⟩ := Option.bind_eq_some_iff.mp e4
    obtain rfl := toB_some e6
    exact hs' H4 A y z d2 d3 _ _ (o3.same s4).has ((hy.same s3).same s4) hz e5 fun v H' s5 hv => ⟨k4, (RepB.of hv).bool, P6 H' s5⟩
end

/-! ### the operators on data -/
def dAdd : D → D → Option D
  | .int i, .int j => some (.int (i + j))
  | .list xs, .list ys => if xs.length + ys.length ≤ sizeLine then some (.list (xs ++ ys)) else none
  | .tuple xs, .tuple ys => if xs.length + ys.length ≤ sizeLine then some (.tuple (xs ++ ys)) else none
  | .str x, .str y => if x.length + y.length ≤ sizeLine then some (.str (x ++ y)) else none
  | _, _ => none
def dAddB : D → D → Option D
  | .int i, .int j => some (.int (i + j))
  | .list xs, .list ys => if xs.length + ys.length ≤ sizeLine then some (.list (xs ++ ys)) else none
  | _, _ => none
def dSub : D → D → Option D
  | .int i, .int j => some (.int (i - j))
  | _, _ => none
def dMul : D → D → Option D
  | .int i, .int j => if i.natAbs.log2 + j.natAbs.log2 < 1000000 then some (.int (i * j)) else none
  | .list xs, .int k => if k < 1000000 ∧ xs.length * k.toNat ≤ sizeLine ∧ -1000000 < k then some (.list (List.replicate k.toNat xs).flatten) else none
  | _, _ => none
def dDiv : D → D → Option D
  | .int i, .int j => if j ≠ 0 ∧ j.natAbs.log2 < 9000 then some (.int (i.fdiv j)) else none
  | _, _ => none
def dMod : D → D → Option D
  | .int i, .int j => if j ≠ 0 then some (.int (i.fmod j)) else none
  | _, _ => none
def dNeg : D → Option D
  | .int i => some (.int (-i))
  | _ => none
def dLt : D → D → Option D
  | .int i, .int j => some (.bool (decide (i < j)))
  | x, y => if PySem.W.alike x y = true ∧ x.depth ≤ 64 ∧ SeqAt.shaped x = true ∧ SeqAt.shaped y = true ∧ PyData.eqv x .none = false then some (.bool (PySem.W.dataLt x y)) else none
def dLe : D → D → Option D
  | .int i, .int j => some (.bool (decide (i ≤ j)))
  | _, _ => none
def dGt : D → D → Option D
  | .int i, .int j => some (.bool (decide (j < i)))
  | _, _ => none
def dGe : D → D → Option D
  | .int i, .int j => some (.bool (decide (j ≤ i)))
  | _, _ => none
def dEq (x y : D) : Option D := if SeqAt.shaped x = true ∧ SeqAt.shaped y = true then some (.bool (PyData.eqv x y)) else none
def dNe (x y : D) : Option D := if SeqAt.shaped x = true ∧ SeqAt.shaped y = true then some (.bool (!PyData.eqv x y)) else none
/-- is: of None, of truth values -/
def dIs : D → D → Option D
  | .bool a, .bool b => some (.bool (decide (a = b)))
  | .none, .none => some (.bool true)
  | _, .none => some (.bool false)
  | _, _ => none
def dIsNot : D → D → Option D
  | .bool a, .bool b => some (.bool (!decide (a = b)))
  | .none, .none => some (.bool false)
  | _, .none => some (.bool true)
  | _, _ => none
section
variable {X : Cx}
theorem do_add : DOpE X (binaryOp .Add) dAdd := by
  refine ⟨_, OpR.or op_add (OpR.or op_cat (OpR.or op_catA op_add_str)), fun H A x y d1 d2 d Q ha hxr hyr e q => ?_⟩
  have hx := RepB.of hxr
  have hy := RepB.of hyr
  unfold dAdd at e
  split at e
  · cases e
    obtain rfl := hx.int
    obtain rfl := hy.int
    exact .inl ⟨_, _, rfl, rfl, q _ H (Same.refl H) (.int _)⟩
  · split at e
    · rename_i hl
      cases e
      obtain ⟨a, vs, rfl, h1, r1⟩ := hx.lst
      obtain ⟨b, us, rfl, h2, r2⟩ := hy.lst
      refine .inr (.inl ⟨a, b, vs, us, rfl, rfl, h1, h2, by rw [r1.length, r2.length]; exact hl, fun p hp => q _ _ (same_upd hp) (rep_lst (fun z => ha p z hp) hp (r1.append r2))⟩)
    · cases e
  · split at e
    · rename_i hl
      cases e
      obtain ⟨a, vs, rfl, h1, r1⟩ := hx.tup
      obtain ⟨b, us, rfl, h2, r2⟩ := hy.tup
      refine .inr (.inr (.inl ⟨a, b, vs, us, rfl, rfl, h1, h2, by rw [r1.length, r2.length]; exact hl, fun z => ?_, fun _ z => ?_, fun _ _ p hp => q _ _ (same_upd hp) (rep_tup (fun z => ha p z hp) hp (r1.append r2))⟩))
      · subst z
        cases r1
        exact q _ H (Same.refl H) hyr
      · subst z
        cases r2
        rw [List.append_nil] at q
        exact q _ H (Same.refl H) hxr
    · cases e
  · split at e
    · rename_i hl
      cases e
      obtain rfl := hx.str
      obtain rfl := hy.str
      exact .inr (.inr (.inr ⟨_, _, rfl, rfl, hl, q _ H (Same.refl H) (.str _)⟩))
    · cases e
  · cases e
theorem do_addB : DOp X (binaryOp .Add) dAddB := by
  refine ⟨_, OpR.or op_add op_cat, fun H A x y d1 d2 d Q ha hx hy e q => ?_⟩
  unfold dAddB at e
  split at e
  · cases e
    obtain rfl := hx.int
    obtain rfl := hy.int
    exact .inl ⟨_, _, rfl, rfl, q _ H (Same.refl H) (.int _)⟩
  · split at e
    · rename_i hl
      cases e
      obtain ⟨a, vs, rfl, h1, r1⟩ := hx.lst
      obtain ⟨b, us, rfl, h2, r2⟩ := hy.lst
      refine .inr ⟨a, b, vs, us, rfl, rfl, h1, h2, by rw [r1.length, r2.length]; exact hl, fun p hp => q _ _ (same_upd hp) (rep_lst (fun z => ha p z hp) hp (r1.append r2))⟩
    · cases e
  · cases e
theorem do_sub : DOp X (binaryOp .Sub) dSub := by
  refine ⟨_, op_sub, fun H A x y d1 d2 d Q ha hx hy e q => ?_⟩
  unfold dSub at e
  split at e
  · cases e
    obtain rfl := hx.int
    obtain rfl := hy.int
    exact ⟨_, _, rfl, rfl, q _ H (Same.refl H) (.int _)⟩
  · cases e
theorem do_mul : DOp X (binaryOp .Mult) dMul := by
  refine ⟨_, OpR.or op_mulW op_rep, fun H A x y d1 d2 d Q ha hx hy e q => ?_⟩
  unfold dMul at e
  split at e
  · split at e
    · rename_i hl
      cases e
      obtain rfl := hx.int
      obtain rfl := hy.int
      exact .inl ⟨_, _, rfl, rfl, hl, q _ H (Same.refl H) (.int _)⟩
    · cases e
  · split at e
    · rename_i hl
      cases e
      obtain ⟨a, vs, rfl, h1, r1⟩ := hx.lst
      obtain rfl := hy.int
      obtain ⟨h2, h3, h4⟩ := hl
      exact .inr ⟨a, _, vs, rfl, rfl, h1, by omega, by omega, by rw [r1.length]; exact h3, fun p hp => q _ _ (same_upd hp) (rep_lst (fun z => ha p z hp) hp (r1.flatRep _))⟩
    · cases e
  · cases e
def CDivX (_ j : Int) : Prop := j ≠ 0 ∧ j.natAbs.log2 < 9000
theorem op_fdivX : OpR X (binaryOp .FloorDiv) (rI CDivX fun i j => .int (i.fdiv j)) := opI fun i j _ _ _ _ _ hc q => floordiv_int hc.1 q (.inl (PyProof.noPylong_of_log2 hc.2))
theorem do_div : DOp X (binaryOp .FloorDiv) dDiv := by
  refine ⟨_, op_fdivX, fun H A x y d1 d2 d Q ha hx hy e q => ?_⟩
  unfold dDiv at e
  split at e
  · split at e
    · rename_i hl
      cases e
      obtain rfl := hx.int
      obtain rfl := hy.int
      exact ⟨_, _, rfl, rfl, hl, q _ H (Same.refl H) (.int _)⟩
    · cases e
  · cases e
theorem do_mod : DOp X (binaryOp .Mod) dMod := by
  refine ⟨_, op_modN, fun H A x y d1 d2 d Q ha hx hy e q => ?_⟩
  unfold dMod at e
  split at e
  · split at e
    · rename_i hl
      cases e
      obtain rfl := hx.int
      obtain rfl := hy.int
      exact ⟨_, _, rfl, rfl, hl, q _ H (Same.refl H) (.int _)⟩
    · cases e
  · cases e
theorem du_neg : DUn X (unaryOp .USub) dNeg := by
  refine ⟨_, un_neg, fun H A x d1 d Q ha hx e q => ?_⟩
  unfold dNeg at e
  split at e
  · cases e
    obtain rfl := hx.int
    exact ⟨_, rfl, q _ H (Same.refl H) (.int _)⟩
  · cases e
theorem do_le : DOp X (compareOp .LtE) dLe := by
  refine ⟨_, op_le, fun H A x y d1 d2 d Q ha hx hy e q => ?_⟩
  unfold dLe at e
  split at e
  · cases e
    obtain rfl := hx.int
    obtain rfl := hy.int
    exact ⟨_, _, rfl, rfl, q _ H (Same.refl H) (.bl _)⟩
  · cases e
theorem do_gt : DOp X (compareOp .Gt) dGt := by
  refine ⟨_, op_gt, fun H A x y d1 d2 d Q ha hx hy e q => ?_⟩
  unfold dGt at e
  split at e
  · cases e
    obtain rfl := hx.int
    obtain rfl := hy.int
    exact ⟨_, _, rfl, rfl, q _ H (Same.refl H) (.bl _)⟩
  · cases e
theorem do_ge : DOp X (compareOp .GtE) dGe := by
  refine ⟨_, op_ge, fun H A x y d1 d2 d Q ha hx hy e q => ?_⟩
  unfold dGe at e
  split at e
  · cases e
    obtain rfl := hx.int
    obtain rfl := hy.int
    exact ⟨_, _, rfl, rfl, q _ H (Same.refl H) (.bl _)⟩
  · cases e
theorem do_eq (hu : X.A.units + 64 < cLine) : DOp X (compareOp .Eq) dEq := by
  refine ⟨_, op_eqD hu, fun H A x y d1 d2 d Q ha hx hy e q => ?_⟩
  unfold dEq at e
  split at e
  · rename_i hs
    cases e
    exact ⟨d1, d2, hx.dp hs.1, hy.dp hs.2, hs.1, hs.2, q _ H (Same.refl H) (.bl _)⟩
  · cases e
theorem do_ne (hu : X.A.units + 64 < cLine) : DOp X (compareOp .NotEq) dNe := by
  refine ⟨_, op_neD hu, fun H A x y d1 d2 d Q ha hx hy e q => ?_⟩
  unfold dNe at e
  split at e
  · rename_i hs
    cases e
    exact ⟨d1, d2, hx.dp hs.1, hy.dp hs.2, hs.1, hs.2, q _ H (Same.refl H) (.bl _)⟩
  · cases e
def rLtD (K : Frg) : R2 := fun x y H Q => ∃ d e, Dp K H x d ∧ Dp K H y e ∧ PySem.W.alike d e = true ∧ d ≠ .none ∧ d.depth ≤ 64 ∧ Q (.bl (PySem.W.dataLt d e)) H
theorem op_ltD (hu : X.A.units + 64 < cLine) : OpR X (compareOp .Lt) (rLtD X.K) := by
  intro pins s σ H x y v u Q I rx ry h
  obtain ⟨d, e, hd, he, ha, hn, hdp, q⟩ := h
  obtain ⟨as, r1⟩ := Dp.reads I d x v hd rx
  obtain ⟨bs, r2⟩ := Dp.reads I e y u he ry
  have hm : min d.depth e.depth ≤ d.depth := Nat.min_le_left _ _
  exact PySem.W.rcLt_alike d e X.A s v u as bs r1 r2 ha hn (by omega) _ _ _ _ ⟨.bl _, H, I, rfl, q⟩
theorem do_lt (hu : X.A.units + 64 < cLine) : DOp X (compareOp .Lt) dLt := by
  refine ⟨_, OpR.or op_lt (op_ltD hu), fun H A x y d1 d2 d Q ha hx hy e q => ?_⟩
  unfold dLt at e
  split at e
  · cases e
    obtain rfl := hx.int
    obtain rfl := hy.int
    exact .inl ⟨_, _, rfl, rfl, q _ H (Same.refl H) (.bl _)⟩
  · split at e
    · rename_i hs
      cases e
      obtain ⟨h1, h2, h3, h4, h5⟩ := hs
      refine .inr ⟨d1, d2, hx.dp h3, hy.dp h4, h1, fun z => ?_, h2, q _ H (Same.refl H) (.bl _)⟩
      rw [z] at h5
      simp [PyData.eqv] at h5
    · cases e
theorem nnon {K : Frg} {H : Hp} {A : List Addr} {x : V} {d : D} (h : RepB K H A x d) (n : d ≠ .none) : decide (x = V.non) = false := by
  rcases h with h | ⟨a, e, _, _, _⟩ | ⟨a, _, _, e, _⟩
  · cases h <;> first | rfl | exact absurd rfl n
  · rw [e]; rfl
  · rw [e]; rfl
theorem do_is : DOp X (compareOp .Is) dIs := by
  refine ⟨_, OpR.or op_isN op_is_bl, fun H A x y d1 d2 d Q ha hx hy e q => ?_⟩
  unfold dIs at e
  split at e
  · cases e
    obtain rfl := hx.bool
    obtain rfl := hy.bool
    exact .inr ⟨_, _, rfl, rfl, q _ H (Same.refl H) (.bl _)⟩
  · cases e
    obtain rfl := hx.non
    obtain rfl := hy.non
    exact .inl ⟨rfl, q _ H (Same.refl H) (.bl _)⟩
  · rename_i n
    cases e
    obtain rfl := hy.non
    refine .inl ⟨rfl, ?_⟩
    rw [nnon hx n]
    exact q _ H (Same.refl H) (.bl _)
  · cases e
theorem do_isnot : DOp X (compareOp .IsNot) dIsNot := by
  refine ⟨_, OpR.or op_notN op_isnot_bl, fun H A x y d1 d2 d Q ha hx hy e q => ?_⟩
  unfold dIsNot at e
  split at e
  · cases e
    obtain rfl := hx.bool
    obtain rfl := hy.bool
    exact .inr ⟨_, _, rfl, rfl, q _ H (Same.refl H) (.bl _)⟩
  · cases e
    obtain rfl := hx.non
    obtain rfl := hy.non
    exact .inl ⟨rfl, q _ H (Same.refl H) (.bl _)⟩
  · rename_i n
    cases e
    obtain rfl := hy.non
    refine .inl ⟨rfl, ?_⟩
    rw [nnon hx n]
    exact q _ H (Same.refl H) (.bl _)
  · cases e
end
end G

namespace G
open PySem PySem.Spec PyProof.Rows L2
set_option maxHeartbeats 1000000
section
variable {X : Cx} {W : WX} {a b c e : Expr} {es rest : List Expr} {f g h : En → R D} {p q : En → R Bool} {pos : Pos}

/-! ### tests -/
def cTest (f : En → R D) : En → R Bool := fun ρ => (f ρ).bind fun d => ofO (toB d)
theorem ft_val (h : FE X W e f) (he : ∀ whole, isTrue e X.env whole = (do let v ← whole; standAt e.pos; holding [v] (truthy v)) := by intro _; rfl) : FT X W e (cTest f) := impT (pt_val h he) fun σ H Q ⟨H0, A0, A, ρ, o, P⟩ => by
  refine ⟨H0, A0, A, ρ, o, P.bind.mono fun d H1 s1 P1 v hv => ?_⟩
  obtain ⟨k, e1, P2⟩ := P1.ofO
  obtain rfl := toB_some e1
  exact ⟨k, (RepB.of hv).bool, P2 H1 (Same.refl _)⟩
def cNot (p : En → R Bool) : En → R Bool := fun ρ => (p ρ).bind fun k => .ok (!k)
def cAnd (p q : En → R Bool) : En → R Bool := fun ρ => (p ρ).bind fun k => if k = true then q ρ else .ok false
def cOr (p q : En → R Bool) : En → R Bool := fun ρ => (p ρ).bind fun k => if k = true then .ok true else q ρ
theorem ft_not (h : FT X W a p) : FT X W (.UnaryOp .Not a pos) (cNot p) := impT (pt_not h) fun σ H Q ⟨H0, A0, A, ρ, o, P⟩ => by
  refine ⟨H0, A0, A, ρ, o, P.bind.mono fun k H1 s1 P1 => P1.at⟩
abbrev FW (X : Cx) (W : WX) (e : Expr) (f : En → R Bool) : Prop := PW X e (tFT X.K X.mg W f)
theorem fw_and1 (h : FT X W a p) : FW X W (.BoolOp .And [a] pos) p := pw_and1 h
theorem fw_or1 (h : FT X W a p) : FW X W (.BoolOp .Or [a] pos) p := pw_or1 h
theorem fw_and (ha : FT X W a p) (hb : FW X W (.BoolOp .And (b :: rest) pos) q) : FW X W (.BoolOp .And (a :: b :: rest) pos) (cAnd p q) := impW (pw_and ha hb) fun σ H Q ⟨H0, A0, A, ρ, o, P⟩ => by
  refine ⟨H0, A0, A, ρ, o, P.bind.mono fun k H1 s1 P1 => ?_⟩
  cases k with
  | true => exact ⟨H0, A0, A, ρ, o.same s1, P1⟩
  | false => exact P1.at
theorem fw_or (ha : FT X W a p) (hb : FW X W (.BoolOp .Or (b :: rest) pos) q) : FW X W (.BoolOp .Or (a :: b :: rest) pos) (cOr p q) := impW (pw_or ha hb) fun σ H Q ⟨H0, A0, A, ρ, o, P⟩ => by
  refine ⟨H0, A0, A, ρ, o, P.bind.mono fun k H1 s1 P1 => ?_⟩
  cases k with
  | true => exact P1.at
  | false => exact ⟨H0, A0, A, ρ, o.same s1, P1⟩
theorem ft_w (h : FW X W e p) : FT X W e p := PW.pt h

/-! ### and, or, not, if as values -/
def cAndV (f g : En → R D) : En → R D := fun ρ => (cTest f ρ).bind fun k => if k = true then g ρ else .ok (.bool false)
def cOrV (f g : En → R D) : En → R D := fun ρ => (cTest f ρ).bind fun k => if k = true then .ok (.bool true) else g ρ
def cNotV (f : En → R D) : En → R D := fun ρ => (cTest f ρ).bind fun k => .ok (.bool (!k))
def cIf (p : En → R Bool) (f g : En → R D) : En → R D := fun ρ => (p ρ).bind fun k => if k = true then f ρ else g ρ
theorem fe_one {op} (h : FE X W a f) : FE X W (.BoolOp op [a] pos) f := pe_one h
theorem bind_test {α : Type} {f : En → R D} {ρ : En} {k : Bool → R α} : (cTest f ρ).bind k = (f ρ).bind fun d => (ofO (toB d)).bind k := by
  unfold cTest
  cases f ρ <;> rfl
theorem fe_and (ha : FE X W a f) (hb : FE X W (.BoolOp .And (b :: rest) pos) g) : FE X W (.BoolOp .And (a :: b :: rest) pos) (cAndV f g) := impE (pe_and ha hb) fun σ H Q ⟨H0, A0, A, ρ, o, P⟩ => by
  unfold cAndV at P
  rw [bind_test] at P
  refine ⟨H0, A0, A, ρ, o, P.bind.mono fun d H1 s1 P1 v hv => ?_⟩
  obtain ⟨k, e1, P2⟩ := P1.bind.ofO
  obtain rfl := toB_some e1
  refine ⟨k, (RepB.of hv).bool, ?_⟩
  have P3 := P2 H1 (Same.refl _)
  cases k with
  | true => exact ⟨H0, A0, A, ρ, o.same s1, P3⟩
  | false => exact Post.at (P := fun d H' => ∀ v, Rep X.K H' A v d → Q v H') (a := .bool false) P3 _ (.bl false)
theorem fe_or (ha : FE X W a f) (hb : FE X W (.BoolOp .Or (b :: rest) pos) g) : FE X W (.BoolOp .Or (a :: b :: rest) pos) (cOrV f g) := impE (pe_or ha hb) fun σ H Q ⟨H0, A0, A, ρ, o, P⟩ => by
  unfold cOrV at P
  rw [bind_test] at P
  refine ⟨H0, A0, A, ρ, o, P.bind.mono fun d H1 s1 P1 v hv => ?_⟩
  obtain ⟨k, e1, P2⟩ := P1.bind.ofO
  obtain rfl := toB_some e1
  refine ⟨k, (RepB.of hv).bool, ?_⟩
  have P3 := P2 H1 (Same.refl _)
  cases k with
  | false => exact ⟨H0, A0, A, ρ, o.same s1, P3⟩
  | true => exact Post.at (P := fun d H' => ∀ v, Rep X.K H' A v d → Q v H') (a := .bool true) P3 _ (.bl true)
theorem fe_not (ha : FE X W a f) : FE X W (.UnaryOp .Not a pos) (cNotV f) := impE (pe_not ha) fun σ H Q ⟨H0, A0, A, ρ, o, P⟩ => by
  unfold cNotV at P
  rw [bind_test] at P
  refine ⟨H0, A0, A, ρ, o, P.bind.mono fun d H1 s1 P1 v hv => ?_⟩
  obtain ⟨k, e1, P2⟩ := P1.bind.ofO
  obtain rfl := toB_some e1
  exact ⟨k, (RepB.of hv).bool, Post.at (P := fun d H' => ∀ v, Rep X.K H' A v d → Q v H') (a := .bool (!k)) (P2 H1 (Same.refl _)) _ (.bl _)⟩
theorem fe_if (hc : FT X W c p) (ha : FE X W a f) (hb : FE X W b g) : FE X W (.IfExp c a b pos) (cIf p f g) := impE (pe_ifExp hc ha hb) fun σ H Q ⟨H0, A0, A, ρ, o, P⟩ => by
  refine ⟨H0, A0, A, ρ, o, P.bind.mono fun k H1 s1 P1 => ?_⟩
  cases k with
  | true => exact ⟨H0, A0, A, ρ, o.same s1, P1⟩
  | false => exact ⟨H0, A0, A, ρ, o.same s1, P1⟩

/-! ### rows of expressions, displays -/
def cNil : En → R (List D) := fun _ => .ok []
def cCons (f : En → R D) (l : En → R (List D)) : En → R (List D) := fun ρ => (f ρ).bind fun d => (l ρ).bind fun ds => .ok (d :: ds)
def itemsOf : D → Option (List D)
  | .list xs => some xs
  | .tuple xs => some xs
  | _ => none
def cStar (f : En → R D) (l : En → R (List D)) : En → R (List D) := fun ρ => (f ρ).bind fun d => (ofO (itemsOf d)).bind fun xs => (l ρ).bind fun ds => .ok (xs ++ ds)
variable {l : En → R (List D)}
theorem fa_nil : FA X W [] cNil := impA pa_nil fun σ H Q ⟨H0, A0, A, ρ, o, P⟩ => Post.at (P := fun ds H' => ∀ vs, RepL X.K H' A vs ds → Q vs H') (a := []) P _ .nil
theorem fab_nil : FAB X W [] cNil := impA pa_nil fun σ H Q ⟨H0, A0, A, ρ, o, P⟩ => Post.at (P := fun ds H' => ∀ vs, Paired (RepB X.K H' A) vs ds → Q vs H') (a := []) P _ .nil
theorem fa_cons (ha : FE X W e f) (hr : FA X W es l) (hs : starEach (e :: es) X.env = (false, eval e X.env) :: starEach es X.env := by rfl) : FA X W (e :: es) (cCons f l) := impA (pa_cons ha hr hs) fun σ H Q ⟨H0, A0, A, ρ, o, P⟩ => by
  refine ⟨H0, A0, A, ρ, o, P.bind.mono fun d H1 s1 P1 v hv => ?_⟩
  refine ⟨H0, A0, A, ρ, o.same s1, P1.bind.mono fun ds H2 s2 P2 vs hvs => ?_⟩
  exact Post.at (P := fun ds H' => ∀ vs, RepL X.K H' A vs ds → Q vs H') (a := d :: ds) P2 _ (.cons (hv.same s2) hvs)
theorem fa_star (ha : FB X W e f) (hr : FA X W es l) (hs : starEach (.Starred e pos :: es) X.env = (true, eval e X.env) :: starEach es X.env := by rfl) : FA X W (.Starred e pos :: es) (cStar f l) := impA (StX.pa_star ha hr hs) fun σ H Q ⟨H0, A0, A, ρ, o, P⟩ => by
  refine ⟨H0, A0, A, ρ, o, P.bind.mono fun d H1 s1 P1 v hv => ?_⟩
  obtain ⟨xs, e1, P2⟩ := P1.bind.ofO
  have P3 := (P2 H1 (Same.refl _)).bind
  have key : ∀ us : List V, RepL X.K H1 A us xs → Post X.mg W σ H1 (fun ds H' => ∀ vs, RepL X.K H' A vs ds → Q (us ++ vs) H') (l ρ) := fun us r => P3.mono fun ds H2 s2 P4 vs hvs =>
    Post.at (P := fun ds H' => ∀ vs, RepL X.K H' A vs ds → Q vs H') (a := xs ++ ds) P4 _ ((r.same s2).append hvs)
  cases d with
  | list ys =>
    obtain ⟨a, us, rfl, h1, r⟩ := hv.lst
    cases e1
    exact ⟨a, us, rfl, .inr (SqL.of h1), H0, A0, A, ρ, o.same s1, key us r⟩
  | tuple ys =>
    obtain ⟨a, us, rfl, h1, r⟩ := hv.tup
    cases e1
    exact ⟨a, us, rfl, .inl h1, H0, A0, A, ρ, o.same s1, key us r⟩
  | _ => cases e1
theorem fab_cons (ha : FB X W e f) (hr : FAB X W es l) (hs : starEach (e :: es) X.env = (false, eval e X.env) :: starEach es X.env := by rfl) : FAB X W (e :: es) (cCons f l) := impA (pa_cons ha hr hs) fun σ H Q ⟨H0, A0, A, ρ, o, P⟩ => by
  refine ⟨H0, A0, A, ρ, o, P.bind.mono fun d H1 s1 P1 v hv => ?_⟩
  refine ⟨H0, A0, A, ρ, o.same s1, P1.bind.mono fun ds H2 s2 P2 vs hvs => ?_⟩
  exact Post.at (P := fun ds H' => ∀ vs, Paired (RepB X.K H' A) vs ds → Q vs H') (a := d :: ds) P2 _ (.cons (hv.same s2) hvs)
def cList (l : En → R (List D)) : En → R D := fun ρ => (l ρ).bind fun ds => if ds.length ≤ sizeLine then .ok (.list ds) else .no
def cTup (l : En → R (List D)) : En → R D := fun ρ => (l ρ).bind fun ds => if ds.length ≤ sizeLine then .ok (.tuple ds) else .no
theorem fn_list {t : Bool} (h : FA X W es l) : FN X W t (.List es pos) (cList l) := impE (pe_lst h) fun σ H Q ⟨H0, A0, A, ρ, o, P⟩ => by
  refine ⟨H0, A0, A, ρ, o, P.bind.mono fun ds H1 s1 P1 vs hvs => ?_⟩
  split at P1
  · rename_i hl
    exact ⟨by rw [hvs.length]; exact hl, fun p hp => P1 _ (same_upd hp) _ ⟨p, rfl, s1.free hp, orep_lst hp hvs⟩⟩
  · exact P1.elim
theorem fe_tup {x1} (h : FA X W es l) : FE X W (.Tuple es x1 pos) (cTup l) := impE (pe_tup h) fun σ H Q ⟨H0, A0, A, ρ, o, P⟩ => by
  refine ⟨H0, A0, A, ρ, o, P.bind.mono fun ds H1 s1 P1 vs hvs => ?_⟩
  split at P1
  · rename_i hl
    exact ⟨by rw [hvs.length]; exact hl, fun p hp => P1 _ (same_upd hp) _ (rep_tup ((o.same s1).fresh hp) hp hvs)⟩
  · exact P1.elim

/-! ### subscripts, slices -/
/-- a key of a dict, as data -/
def keyD : D → Option Key
  | .int i => some (.inl i)
  | .str z => some (.inr z)
  | _ => none
def keysD : List D → Option (List Key)
  | [] => some []
  | d :: ds => (keyD d).bind fun k => (keysD ds).map fun ks => k :: ks
theorem keyD_some {d : D} {k : Key} (h : keyD d = some k) : d = kD k := by
  cases d <;> simp [keyD] at h <;> subst h <;> rfl
theorem keysD_some : ∀ {ds : List D} {ks : List Key}, keysD ds = some ks → ds = ks.map kD
  | [], ks, h => by cases h; rfl
  | d :: ds, ks, h => by
    unfold keysD at h
    obtain ⟨k, h1, h2⟩ := Option.bind_eq_some_iff.mp h
    obtain ⟨r, h3, h4⟩ := Option.map_eq_some_iff.mp h2
    subst h4
    rw [keyD_some h1, keysD_some h3, List.map_cons]
/-- what a dict's rows hold under a key -/
def getK : List (D × D) → Key → Option D
  | [], _ => none
  | (d, v) :: r, k => if keyD d = some k then some v else getK r k
def getT : List (D × D) → List Key → Option D
  | [], _ => none
  | (d, v) :: r, k => if (match d with | .tuple ds => keysD ds | _ => none) = some k then some v else getT r k
theorem keyD_kD (k : Key) : keyD (kD k) = some k := by cases k <;> rfl
theorem keysD_map (k : List Key) : keysD (k.map kD) = some k := by
  induction k with
  | nil => rfl
  | cons a r ih => rw [List.map_cons]; unfold keysD; rw [keyD_kD, Option.bind_some, ih]; rfl
theorem getK_rep {K : Frg} {H : Hp} {A : List Addr} {k : Key} : ∀ {kvs : List (Key × V)} {ds : List (D × D)}, RepK K H A kvs ds → (∀ d, getK ds k = some d → ∃ v, valV kvs k = some v ∧ Rep K H A v d) ∧ (getK ds k = none → valV kvs k = none)
  | _, _, .nil => ⟨fun d h => by simp [getK] at h, fun _ => rfl⟩
  | _, _, .cons (k := k') (v := v) (d := d) r t => by
    have ih := getK_rep (k := k) t
    unfold getK valV
    rw [keyD_kD]
    by_cases e : k' = k
    · subst e
      simp only [if_true, List.find?_cons, decide_true, Option.map_some, Option.some.injEq]
      exact ⟨fun d' h => ⟨v, rfl, h ▸ r⟩, fun h => by cases h⟩
    · have e' : ¬ (some k' = some k) := fun z => e (Option.some.inj z)
      rw [if_neg e', List.find?_cons, decide_eq_false e]
      exact ih
theorem getT_rep {K : Frg} {H : Hp} {A : List Addr} {k : List Key} : ∀ {kvs : List (List Key × V)} {ds : List (D × D)}, RepT K H A kvs ds → (∀ d, getT ds k = some d → ∃ v, valV kvs k = some v ∧ Rep K H A v d) ∧ (getT ds k = none → valV kvs k = none)
  | _, _, .nil => ⟨fun d h => by simp [getT] at h, fun _ => rfl⟩
  | _, _, .cons (k := k') (v := v) (d := d) r t => by
    have ih := getT_rep (k := k) t
    unfold getT valV
    simp only [keysD_map]
    by_cases e : k' = k
    · subst e
      simp only [if_true, List.find?_cons, decide_true, Option.map_some, Option.some.injEq]
      exact ⟨fun d' h => ⟨v, rfl, h ▸ r⟩, fun h => by cases h⟩
    · have e' : ¬ (some k' = some k) := fun z => e (Option.some.inj z)
      rw [if_neg e', List.find?_cons, decide_eq_false e]
      exact ih
/-- a row's item, by a place of either sign -/
def dIx : D → D → Option D
  | .list xs, .int i => atI xs i
  | .tuple xs, .int i => atI xs i
  | .str z, .int i => if z.length ≤ sizeLine then (atI z.cps.toList i).map fun c => .str ⟨#[c]⟩ else none
  | .dict kvs, .int i => if (kvs.all fun kv => (keyD kv.1).isSome) = true then getK kvs (.inl i) else none
  | .dict kvs, .str z => if (kvs.all fun kv => (keyD kv.1).isSome) = true then getK kvs (.inr z) else none
  | .dict kvs, .tuple ds => (keysD ds).bind fun ks => if (kvs.all fun kv => (keyD kv.1).isNone) = true ∧ noZ ks = true then getT kvs ks else none
  | _, _ => none
theorem repK_keys {K : Frg} {H : Hp} {A : List Addr} : ∀ {kvs : List (Key × V)} {ds : List (D × D)}, RepK K H A kvs ds → (ds.all fun kv => (keyD kv.1).isSome) = true
  | _, _, .nil => rfl
  | _, _, .cons r t => by rw [List.all_cons, keyD_kD, repK_keys t]; rfl
theorem repT_keys {K : Frg} {H : Hp} {A : List Addr} : ∀ {kvs : List (List Key × V)} {ds : List (D × D)}, RepT K H A kvs ds → (ds.all fun kv => (keyD kv.1).isNone) = true
  | _, _, .nil => rfl
  | _, _, .cons r t => by rw [List.all_cons, repT_keys t]; rfl
theorem repK_of_T {K : Frg} {H : Hp} {A : List Addr} {kvs : List (List Key × V)} {ds : List (D × D)} (r : RepT K H A kvs ds) (h : (ds.all fun kv => (keyD kv.1).isSome) = true) : ds = [] := by
  cases r with
  | nil => rfl
  | cons a t => rw [List.all_cons] at h; simp [keyD] at h
theorem repT_of_K {K : Frg} {H : Hp} {A : List Addr} {kvs : List (Key × V)} {ds : List (D × D)} (r : RepK K H A kvs ds) (h : (ds.all fun kv => (keyD kv.1).isNone) = true) : ds = [] := by
  cases r with
  | nil => rfl
  | cons a t => rw [List.all_cons, keyD_kD] at h; simp at h
theorem atI_rep {K : Frg} {H : Hp} {A : List Addr} {vs : List V} {ds : List D} {i : Int} {d : D} (r : RepL K H A vs ds) (h : atI ds i = some d) : ∃ v, atI vs i = some v ∧ Rep K H A v d := by
  unfold atI at h ⊢
  rw [r.length]
  obtain ⟨j, h1, h2⟩ := Option.bind_eq_some_iff.mp h
  obtain ⟨v, h3, h4⟩ := r.get h2
  exact ⟨v, by rw [h1, Option.bind_some, h3], h4⟩
def rIxDc : R2 := fun x y H Q => ∃ a v, x = .ref a ∧ DGet H a y (some v) ∧ Q v H
theorem ix_dict (hu : X.A.units + 1 < cLine) : IxR X rIxDc := by
  intro value slice pins s σ H x y v u Q I rx ry h hs
  obtain ⟨a, z, rfl, hg, q⟩ := h
  cases rx
  exact tail_any (dict_typeIs I hg) PySem.F.slot_dict_getitem.lookup (d_getItem hu I hg ry fun w' s' I' r' => ⟨z, H, I', r', q⟩) hs
theorem rep_key {K : Frg} {H : Hp} {A : List Addr} {ks : List Key} : ∀ {vs : List V}, RepL K H A vs (ks.map kD) → vs = ks.map kV := by
  induction ks with
  | nil => intro vs r; cases r; rfl
  | cons k ks ih =>
    intro vs r
    rw [List.map_cons] at r
    cases r with
    | cons a t =>
      rw [List.map_cons, ← ih t]
      cases k with
      | inl i => cases a; rfl
      | inr i => cases a; rfl
theorem fe_ix (hu : X.A.units + 1 < cLine) (ha : FB X W a f) (hb : FE X W b g) (hs : PlainIx b) : FE X W (.Subscript a b pos) (cBin dIx f g) := by
  refine impE (pe_ix (IxR.or ix_seq (ix_dict hu)) ha hb hs) fun σ H Q ⟨H0, A0, A, ρ, o, P⟩ => ?_
  refine ⟨H0, A0, A, ρ, o, P.bind.mono fun d1 H1 s1 P1 x hx => ?_⟩
  refine ⟨H0, A0, A, ρ, o.same s1, P1.bind.mono fun d2 H2 s2 P2 y hy => ?_⟩
  obtain ⟨d, e, P3⟩ := P2.ofO
  have q := P3 H2 (Same.refl _)
  have hx := hx.same s2
  unfold dIx at e
  split at e
  · obtain ⟨p, vs, rfl, h1, r⟩ := hx.lst
    obtain rfl := (RepB.of hy).int
    obtain ⟨v, h2, h3⟩ := atI_rep r e
    exact .inl (.inl ⟨p, vs, _, v, rfl, rfl, SqL.of h1, h2, q v h3⟩)
  · obtain ⟨p, vs, rfl, h1, r⟩ := hx.tup
    obtain rfl := (RepB.of hy).int
    obtain ⟨v, h2, h3⟩ := atI_rep r e
    exact .inl (.inr (.inl ⟨p, vs, _, v, rfl, rfl, h1, h2, q v h3⟩))
  · split at e
    · rename_i hz
      obtain rfl := hx.str
      obtain rfl := (RepB.of hy).int
      obtain ⟨c, h1, h2⟩ := Option.map_eq_some_iff.mp e
      subst h2
      exact .inl (.inr (.inr ⟨_, _, c, rfl, rfl, hz, h1, q _ (.str _)⟩))
    · cases e
  · split at e
    · rename_i hk
      obtain rfl := (RepB.of hy).int
      obtain ⟨p, rfl, ⟨kvs, h1, r⟩ | ⟨kvs, h1, r⟩ | ⟨C0, n0, rfl⟩⟩ := hx.dict
      · obtain ⟨v, h2, h3⟩ := (getK_rep r).1 d e
        exact .inr ⟨p, v, rfl, .inl ⟨kvs, .inl _, h1, rfl, h2.symm⟩, q v h3⟩
      · rw [repK_of_T r hk] at e; cases e
      · exact Bool.noConfusion (show false = true from hk)
    · cases e
  · split at e
    · rename_i hk
      obtain rfl := (RepB.of hy).str
      obtain ⟨p, rfl, ⟨kvs, h1, r⟩ | ⟨kvs, h1, r⟩ | ⟨C0, n0, rfl⟩⟩ := hx.dict
      · obtain ⟨v, h2, h3⟩ := (getK_rep r).1 d e
        exact .inr ⟨p, v, rfl, .inl ⟨kvs, .inr _, h1, rfl, h2.symm⟩, q v h3⟩
      · rw [repK_of_T r hk] at e; cases e
      · exact Bool.noConfusion (show false = true from hk)
    · cases e
  · obtain ⟨ks, h0, e2⟩ := Option.bind_eq_some_iff.mp e
    clear e
    have h0 := keysD_some h0
    subst h0
    split at e2
    · rename_i hk
      obtain ⟨p, rfl, ⟨kvs, h1, r⟩ | ⟨kvs, h1, r⟩ | ⟨C0, n0, rfl⟩⟩ := hx.dict
      · rw [repT_of_K r hk.1] at e2; cases e2
      · obtain ⟨v, h2, h3⟩ := (getT_rep r).1 d e2
        cases hy with
        | tup n hb2 rk =>
          rw [rep_key rk] at hb2
          exact .inr ⟨p, v, rfl, .inr ⟨kvs, ks, _, h1, rfl, hb2, h2.symm⟩, q v h3⟩
        | kt z rk =>
          have := zt_key z rk
          rw [this] at hk
          exact absurd hk.2 (by decide)
      · exact Bool.noConfusion (show false = true from hk.1)
    · cases e2
  · cases e
end
end G

namespace G
open PySem PySem.Spec PyProof.Rows L2

/-! ### slices -/
def cutL (xs : List D) (lo hi : Option Int) : List D := (xs.drop (HT.sIx xs.length 0 lo)).take (HT.sIx xs.length xs.length hi - HT.sIx xs.length 0 lo)
def cutZ (z : Str) (lo hi : Option Int) : Str := ⟨((z.cps.toList.drop (HT.sIx z.length 0 lo)).take (HT.sIx z.length z.length hi - HT.sIx z.length 0 lo)).toArray⟩
def cPartN : En → R (Option Int) := fun _ => .ok none
def toI : D → Option Int
  | .int i => some i
  | _ => none
theorem toI_some {d : D} {i : Int} (h : toI d = some i) : d = .int i := by
  cases d <;> simp [toI] at h
  rw [h]
def cPart (f : En → R D) : En → R (Option Int) := fun ρ => (f ρ).bind fun d => (ofO (toI d)).bind fun i => .ok (some i)
def dCut (d : D) (lo hi : Option Int) : Option D := match d with
  | .list xs => some (.list (cutL xs lo hi))
  | .tuple xs => some (.tuple (cutL xs lo hi))
  | .str z => if z.length ≤ sizeLine then some (.str (cutZ z lo hi)) else none
  | _ => none
def cSlice (f : En → R D) (l h : En → R (Option Int)) : En → R D := fun ρ => (f ρ).bind fun d => (l ρ).bind fun lo => (h ρ).bind fun hi => ofO (dCut d lo hi)
def dRev : D → Option D
  | .list xs => some (.list xs.reverse)
  | _ => none
def cRev (f : En → R D) : En → R D := fun ρ => (f ρ).bind fun d => ofO (dRev d)
theorem RepL.cut {K : Frg} {H : Hp} {A : List Addr} {vs : List V} {ds : List D} (r : RepL K H A vs ds) (lo hi : Option Int) : RepL K H A (cutV vs lo hi) (cutL ds lo hi) := by
  unfold cutV cutL
  rw [r.length]
  exact (r.drop _).take _
section
variable {X : Cx} {W : WX} {a b c e : Expr} {es rest : List Expr} {f g h : En → R D} {p q : En → R Bool} {l : En → R (List D)} {lo hi : Option Expr} {pl ph : En → R (Option Int)} {pos p1 p2 p3 p4 : Pos}
/-- a slice's end -/
def tFO (K : Frg) (mg : MgT) (W : WX) (f : En → R (Option Int)) : TO := fun σ H Q => ∃ H0 A0 A ρ, Ok K H0 A0 A ρ σ H ∧ Post mg W σ H (fun o H' => Q o H') (f ρ)
abbrev FO (X : Cx) (W : WX) (o : Option Expr) (f : En → R (Option Int)) : Prop := PO X o (tFO X.K X.mg W f)
theorem impO {o : Option Expr} {t t' : TO} (h : PO X o t) (i : ∀ σ H Q, t' σ H Q → t σ H Q) : PO X o t' := ⟨fun pins s σ H Q I q => h.run pins s σ H Q I (i _ _ _ q)⟩
theorem fo_none : FO X W none cPartN := impO po_none fun σ H Q ⟨H0, A0, A, ρ, o, P⟩ => Post.at (a := (none : Option Int)) (P := fun o H' => Q o H') P
theorem fo_some (ha : FE X W a f) : FO X W (some a) (cPart f) := impO (po_some ha) fun σ H Q ⟨H0, A0, A, ρ, o, P⟩ => by
  refine ⟨H0, A0, A, ρ, o, P.bind.mono fun d H1 s1 P1 v hv => ?_⟩
  obtain ⟨i, e1, P2⟩ := P1.bind.ofO
  obtain rfl := toI_some e1
  exact ⟨i, (RepB.of hv).int, Post.at (a := some i) (P := fun o H' => Q o H') (P2 H1 (Same.refl _))⟩
theorem sl_all : SlR X (fun x l u H Q => rSlL X.K x l u H Q ∨ rSlA X.K x l u H Q ∨ rSlS x l u H Q) := SlR.or sl_list (SlR.or sl_tupA sl_str)
theorem fe_slice (ha : FE X W a f) (hl : FO X W lo pl) (hh : FO X W hi ph) : FE X W (.Subscript a (.Slice lo hi none p2) pos) (cSlice f pl ph) := impE (pe_slice sl_all ha hl hh) fun σ H Q ⟨H0, A0, A, ρ, o, P⟩ => by
  refine ⟨H0, A0, A, ρ, o, P.bind.mono fun d H1 s1 P1 v hv => ?_⟩
  refine ⟨H0, A0, A, ρ, o.same s1, P1.bind.mono fun l1 H2 s2 P2 => ?_⟩
  refine ⟨H0, A0, A, ρ, (o.same s1).same s2, P2.bind.mono fun l2 H3 s3 P3 => ?_⟩
  obtain ⟨d3, e3, P4⟩ := P3.ofO
  have hv := (hv.same s2).same s3
  have o3 := ((o.same s1).same s2).same s3
  unfold dCut at e3
  split at e3
  · cases e3
    obtain ⟨p, vs, rfl, h1, r⟩ := (RepB.of hv).lst
    exact .inl ⟨p, vs, rfl, SqL.of h1, fun p hp => P4 _ (same_upd hp) _ (rep_lst (o3.fresh hp) hp (r.cut l1 l2))⟩
  · cases e3
    obtain ⟨p, vs, rfl, h1, r⟩ := (RepB.of hv).tup
    refine .inr (.inl ⟨p, vs, rfl, h1, fun z => P4 _ (Same.refl _) _ ?_, fun z p hp => P4 _ (same_upd hp) _ (rep_tup (o3.fresh hp) hp (r.cut l1 l2))⟩)
    have e : ∀ xs : List D, xs.length = vs.length → cutL xs l1 l2 = xs := fun xs hx => by
      unfold cutL
      rw [hx, z.1, z.2, List.drop_zero, Nat.sub_zero, ← hx, List.take_length]
    rw [e _ r.length.symm]
    exact hv
  · split at e3
    · rename_i hz
      cases e3
      obtain rfl := (RepB.of hv).str
      exact .inr (.inr ⟨_, rfl, hz, P4 _ (Same.refl _) _ (.str _)⟩)
    · cases e3
  · cases e3
theorem fe_rev {k : Nat} (ha : FB X W a f) : FE X W (.Subscript a (.Slice none none (some (.UnaryOp .USub (.Constant (.int 1) k p1) p2)) p3) pos) (cRev f) := impE (pe_revL ha) fun σ H Q ⟨H0, A0, A, ρ, o, P⟩ => by
  refine ⟨H0, A0, A, ρ, o, P.bind.mono fun d H1 s1 P1 v hv => ?_⟩
  obtain ⟨d3, e3, P4⟩ := P1.ofO
  unfold dRev at e3
  split at e3
  · cases e3
    obtain ⟨p, vs, rfl, h1, r⟩ := hv.lst
    exact ⟨p, vs, rfl, SqL.of h1, fun p hp => P4 _ (same_upd hp) _ (rep_lst ((o.same s1).fresh hp) hp r.reverse)⟩
  · cases e3

/-! ### built-in functions -/
def cCall (df : List D → Option D) (l : En → R (List D)) : En → R D := fun ρ => (l ρ).bind fun ds => ofO (df ds)
def DCall (X : Cx) (F : Value) (df : List D → Option D) : Prop :=
  ∃ r : List V → Hp → VK → Prop, CallR X F r ∧ ∀ (H : Hp) (A : List Addr) (vs : List V) (ds : List D) (d : D) (Q : VK), (∀ a ∈ A, H a ≠ none) → Paired (RepB X.K H A) vs ds → df ds = some d → (∀ v H', Same H H' → Rep X.K H' A v d → Q v H') → r vs H Q
/-- .. data that nobody changes -/
def DCallE (X : Cx) (F : Value) (df : List D → Option D) : Prop :=
  ∃ r : List V → Hp → VK → Prop, CallR X F r ∧ ∀ (H : Hp) (A : List Addr) (vs : List V) (ds : List D) (d : D) (Q : VK), (∀ a ∈ A, H a ≠ none) → RepL X.K H A vs ds → df ds = some d → (∀ v H', Same H H' → Rep X.K H' A v d → Q v H') → r vs H Q
/-- .. that hand back a new list -/
def DCallN (X : Cx) (F : Value) (df : List D → Option D) : Prop :=
  ∃ r : List V → Hp → VK → Prop, CallR X F r ∧ ∀ (H : Hp) (A : List Addr) (vs : List V) (ds : List D) (d : D) (Q : VK), (∀ a ∈ A, H a ≠ none) → Paired (RepB X.K H A) vs ds → df ds = some d → (∀ v H', Same H H' → RepN X.K false H H' A v d → Q v H') → r vs H Q
theorem repN_rep {t : Bool} {K : Frg} {H H' : Hp} {A : List Addr} (ha : ∀ a ∈ A, H a ≠ none) {v : V} {d : D} (h : RepN K t H H' A v d) : Rep K H' A v d := by
  obtain ⟨a, e, n, r⟩ := h
  rw [e]
  exact r.free (fun z => ha a z n) fun b hb => List.mem_cons_of_mem _ hb
theorem DCallN.call {F : Value} {df : List D → Option D} (h : DCallN X F df) : DCall X F df := by
  obtain ⟨r, hr, hs⟩ := h
  exact ⟨r, hr, fun H A vs ds d Q ha hv e q => hs H A vs ds d Q ha hv e fun v H' s n => q v H' s (repN_rep ha n)⟩
theorem DCall.orE {F : Value} {df dg : List D → Option D} (h : DCall X F df) (h' : DCall X F dg) : DCall X F (fun ds => (df ds).orElse fun _ => dg ds) := by
  obtain ⟨r, hr, hs⟩ := h
  obtain ⟨r', hr', hs'⟩ := h'
  refine ⟨_, CallR.or hr hr', fun H A vs ds d Q ha hv e q => ?_⟩
  have e : ((df ds).orElse fun _ => dg ds) = some d := e
  cases e1 : df ds with
  | some d1 => rw [e1] at e; cases e; exact .inl (hs H A vs ds _ Q ha hv e1 q)
  | none => rw [e1] at e; exact .inr (hs' H A vs ds _ Q ha hv e q)
variable {x : Str} {id T : String} {df : List D → Option D}
theorem call_read {F : Value} {r : List V → Hp → VK → Prop} (hs : ∀ (H : Hp) (A : List Addr) (vs : List V) (ds : List D) (d : D) (Q : VK), (∀ a ∈ A, H a ≠ none) → Paired (RepB X.K H A) vs ds → df ds = some d → (∀ v H', Same H H' → Rep X.K H' A v d → Q v H') → r vs H Q)
    (σ : St) (H : Hp) (Q : VK) (hq : tF X.K X.mg W (cCall df l) σ H Q) : tCB r (tFAB X.K X.mg W l) σ H Q := by
  obtain ⟨H0, A0, A, ρ, o, P⟩ := hq
  refine ⟨H0, A0, A, ρ, o, P.bind.mono fun ds H1 s1 P1 vs hvs => ?_⟩
  obtain ⟨d, e, P2⟩ := P1.ofO
  exact hs H1 A vs ds d Q (o.same s1).has hvs e fun v H' s hv => P2 H' s v hv
theorem fe_callB (hc : DCall X (.builtin id) df) (hg : Gl X x) (hm : X.mg x = none) (hv : bootBuiltins x = some (.builtin id)) (ha : FAB X W (e :: es) l) (hn : x ≠ "__name__" := by decide) (hdb : (x == ("__debug__" : Str)) = false := by decide)
    (he : starEach (e :: es) X.env = (false, eval e X.env) :: starEach es X.env := by rfl) (hpl : (backTo pos (starEach es X.env)).any (·.1) = false := by rfl) : FE X W (.Call (.Name x p1) (e :: es) [] pos) (cCall df l) := by
  obtain ⟨r, hr, hs⟩ := hc
  exact impE (pe_callB hr hg hm hv ha hn hdb he hpl) (call_read (F := .builtin id) hs)
theorem fe_callTy (hc : DCall X (.type T) df) (hg : Gl X x) (hm : X.mg x = none) (hv : bootBuiltins x = some (.type T)) (ha : FAB X W (e :: es) l) (hn : x ≠ "__name__" := by decide) (hdb : (x == ("__debug__" : Str)) = false := by decide)
    (he : starEach (e :: es) X.env = (false, eval e X.env) :: starEach es X.env := by rfl) (hpl : (backTo pos (starEach es X.env)).any (·.1) = false := by rfl) : FE X W (.Call (.Name x p1) (e :: es) [] pos) (cCall df l) := by
  obtain ⟨r, hr, hs⟩ := hc
  exact impE (pe_callTy hr hg hm hv ha hn hdb he hpl) (call_read (F := .type T) hs)
theorem fe_callTyE (hc : DCallE X (.type T) df) (hg : Gl X x) (hm : X.mg x = none) (hv : bootBuiltins x = some (.type T)) (ha : FA X W (e :: es) l) (hn : x ≠ "__name__" := by decide) (hdb : (x == ("__debug__" : Str)) = false := by decide)
    (he : starEach (e :: es) X.env = (false, eval e X.env) :: starEach es X.env := by rfl) (hpl : (backTo pos (starEach es X.env)).any (·.1) = false := by rfl) : FE X W (.Call (.Name x p1) (e :: es) [] pos) (cCall df l) := by
  obtain ⟨r, hr, hs⟩ := hc
  refine impE (pe_callTy hr hg hm hv ha hn hdb he hpl) fun σ H Q ⟨H0, A0, A, ρ, o, P⟩ => ?_
  refine ⟨H0, A0, A, ρ, o, P.bind.mono fun ds H1 s1 P1 vs hvs => ?_⟩
  obtain ⟨d, e, P2⟩ := P1.ofO
  exact hs H1 A vs ds d Q (o.same s1).has hvs e fun v H' s hv => P2 H' s v hv
theorem fn_callTy (hc : DCallN X (.type T) df) (hg : Gl X x) (hm : X.mg x = none) (hv : bootBuiltins x = some (.type T)) (ha : FAB X W (e :: es) l) (hn : x ≠ "__name__" := by decide) (hdb : (x == ("__debug__" : Str)) = false := by decide)
    (he : starEach (e :: es) X.env = (false, eval e X.env) :: starEach es X.env := by rfl) (hpl : (backTo pos (starEach es X.env)).any (·.1) = false := by rfl) : FN X W false (.Call (.Name x p1) (e :: es) [] pos) (cCall df l) := by
  obtain ⟨r, hr, hs⟩ := hc
  refine impE (pe_callTy hr hg hm hv ha hn hdb he hpl) fun σ H Q ⟨H0, A0, A, ρ, o, P⟩ => ?_
  refine ⟨H0, A0, A, ρ, o, P.bind.mono fun ds H1 s1 P1 vs hvs => ?_⟩
  obtain ⟨d, e, P2⟩ := P1.ofO
  refine hs H1 A vs ds d Q (o.same s1).has hvs e fun v H' s hv => P2 H' s v ?_
  obtain ⟨p, e, n, r⟩ := hv
  exact ⟨p, e, s1.free n, r⟩

theorem pair1 {α β : Type} {F : α → β → Prop} {vs : List α} {d : β} (h : Paired F vs [d]) : ∃ v, vs = [v] ∧ F v d := by
  cases h with
  | cons a t => cases t; exact ⟨_, rfl, a⟩
theorem pair2 {α β : Type} {F : α → β → Prop} {vs : List α} {d d2 : β} (h : Paired F vs [d, d2]) : ∃ v v2, vs = [v, v2] ∧ F v d ∧ F v2 d2 := by
  cases h with
  | cons a t =>
    obtain ⟨v2, rfl, b⟩ := pair1 t
    exact ⟨_, _, rfl, a, b⟩
def dLen : List D → Option D
  | [.list xs] => some (.int xs.length)
  | [.tuple xs] => some (.int xs.length)
  | [.str z] => if z.length ≤ sizeLine then some (.int z.length) else none
  | _ => none
theorem dc_len : DCall X (.builtin "len") dLen := by
  refine ⟨_, CallR.or call_len_seq call_len_str, fun H A vs ds d Q ha hv e q => ?_⟩
  unfold dLen at e
  split at e
  · cases e
    obtain ⟨v, rfl, h⟩ := pair1 hv
    obtain ⟨p, us, rfl, h1, r⟩ := h.lst
    exact .inl ⟨p, us, rfl, .inl (SqL.of h1), by rw [r.length]; exact q _ H (Same.refl H) (.int _)⟩
  · cases e
    obtain ⟨v, rfl, h⟩ := pair1 hv
    obtain ⟨p, us, rfl, h1, r⟩ := h.tup
    exact .inl ⟨p, us, rfl, .inr h1, by rw [r.length]; exact q _ H (Same.refl H) (.int _)⟩
  · split at e
    · rename_i hz
      cases e
      obtain ⟨v, rfl, h⟩ := pair1 hv
      obtain rfl := h.str
      exact .inr ⟨_, rfl, hz, q _ H (Same.refl H) (.int _)⟩
    · cases e
  · cases e
/-- whole numbers -/
def intsOf : List D → Option (List Int)
  | [] => some []
  | .int i :: r => (intsOf r).map fun ns => i :: ns
  | _ => none
@[simp] theorem intsOf_map (ns : List Int) : intsOf (ns.map PyData.int) = some ns := by
  induction ns with
  | nil => rfl
  | cons a r ih => rw [List.map_cons]; unfold intsOf; rw [ih]; rfl
theorem intsOf_rep {K : Frg} {H : Hp} {A : List Addr} : ∀ {vs : List V} {ds : List D} {ns : List Int}, RepL K H A vs ds → intsOf ds = some ns → vs = ns.map V.int
  | _, _, ns, .nil, h => by cases h; rfl
  | _, _, ns, .cons (d := d) a t, h => by
    cases d with
    | int i =>
      unfold intsOf at h
      obtain ⟨r, h1, h2⟩ := Option.map_eq_some_iff.mp h
      subst h2
      rw [List.map_cons, ← intsOf_rep t h1, (RepB.of a).int]
    | _ => cases h
def boolsOf : List D → Option (List Bool)
  | [] => some []
  | .bool i :: r => (boolsOf r).map fun ns => i :: ns
  | _ => none
@[simp] theorem boolsOf_map (ns : List Bool) : boolsOf (ns.map PyData.bool) = some ns := by
  induction ns with
  | nil => rfl
  | cons a r ih => rw [List.map_cons]; unfold boolsOf; rw [ih]; rfl
theorem boolsOf_rep {K : Frg} {H : Hp} {A : List Addr} : ∀ {vs : List V} {ds : List D} {ns : List Bool}, RepL K H A vs ds → boolsOf ds = some ns → vs = ns.map V.bl
  | _, _, ns, .nil, h => by cases h; rfl
  | _, _, ns, .cons (d := d) a t, h => by
    cases d with
    | bool i =>
      unfold boolsOf at h
      obtain ⟨r, h1, h2⟩ := Option.map_eq_some_iff.mp h
      subst h2
      rw [List.map_cons, ← boolsOf_rep t h1, (RepB.of a).bool]
    | _ => cases h
def dSum : List D → Option D
  | [.list xs] => (intsOf xs).map fun ns => .int ns.sum
  | _ => none
theorem dc_sum (hc : X.calm = true) : DCall X (.builtin "sum") dSum := by
  refine ⟨_, cr_sum hc, fun H A vs ds d Q ha hv e q => ?_⟩
  unfold dSum at e
  split at e
  · obtain ⟨ns, h1, h2⟩ := Option.map_eq_some_iff.mp e
    cases h2
    obtain ⟨v, rfl, h⟩ := pair1 hv
    obtain ⟨p, us, rfl, h3, r⟩ := h.lst
    exact ⟨p, ns, rfl, SqL.of (by rw [← intsOf_rep r h1]; exact h3), q _ H (Same.refl H) (.int _)⟩
  · cases e
def maxI : List Int → Option Int
  | [] => none
  | n :: r => some (r.foldl max n)
def minI : List Int → Option Int
  | [] => none
  | n :: r => some (r.foldl min n)
theorem foldl_max (n : Int) (r : List Int) : (r.foldl max n ∈ n :: r) ∧ ∀ y ∈ n :: r, y ≤ r.foldl max n := by
  induction r generalizing n with
  | nil => exact ⟨List.mem_cons_self, fun y hy => by simp at hy; simp [hy]⟩
  | cons a r ih =>
    obtain ⟨h1, h2⟩ := ih (max n a)
    rw [List.foldl_cons]
    refine ⟨?_, fun y hy => ?_⟩
    · rcases List.mem_cons.mp h1 with z | z
      · rw [z]
        rcases Int.le_total n a with w | w
        · rw [Int.max_eq_right w]; simp
        · rw [Int.max_eq_left w]; simp
      · exact List.mem_cons_of_mem _ (List.mem_cons_of_mem _ z)
    · have h3 := h2 (max n a) List.mem_cons_self
      rcases List.mem_cons.mp hy with z | z
      · rw [z]; omega
      · rcases List.mem_cons.mp z with z | z
        · rw [z]; omega
        · exact h2 y (List.mem_cons_of_mem _ z)
theorem foldl_min (n : Int) (r : List Int) : (r.foldl min n ∈ n :: r) ∧ ∀ y ∈ n :: r, r.foldl min n ≤ y := by
  induction r generalizing n with
  | nil => exact ⟨List.mem_cons_self, fun y hy => by simp at hy; simp [hy]⟩
  | cons a r ih =>
    obtain ⟨h1, h2⟩ := ih (min n a)
    rw [List.foldl_cons]
    refine ⟨?_, fun y hy => ?_⟩
    · rcases List.mem_cons.mp h1 with z | z
      · rw [z]
        rcases Int.le_total n a with w | w
        · rw [Int.min_eq_left w]; simp
        · rw [Int.min_eq_right w]; simp
      · exact List.mem_cons_of_mem _ (List.mem_cons_of_mem _ z)
    · have h3 := h2 (min n a) List.mem_cons_self
      rcases List.mem_cons.mp hy with z | z
      · rw [z]; omega
      · rcases List.mem_cons.mp z with z | z
        · rw [z]; omega
        · exact h2 y (List.mem_cons_of_mem _ z)
def dMax : List D → Option D
  | [.list xs] => ((intsOf xs).bind maxI).map .int
  | [.int i, .int j] => some (.int (max i j))
  | _ => none
def dMin : List D → Option D
  | [.list xs] => ((intsOf xs).bind minI).map .int
  | [.int i, .int j] => some (.int (min i j))
  | _ => none
theorem dc_max (hc : X.calm = true) : DCall X (.builtin "max") dMax := by
  refine ⟨_, CallR.or (cr_max hc) (call_max2 hc), fun H A vs ds d Q ha hv e q => ?_⟩
  unfold dMax at e
  split at e
  · obtain ⟨m, h1, h2⟩ := Option.map_eq_some_iff.mp e
    cases h2
    obtain ⟨ns, h3, h4⟩ := Option.bind_eq_some_iff.mp h1
    obtain ⟨v, rfl, h⟩ := pair1 hv
    obtain ⟨p, us, rfl, h5, r⟩ := h.lst
    cases ns with
    | nil => cases h4
    | cons n r2 =>
      cases h4
      obtain ⟨f1, f2⟩ := foldl_max n r2
      refine .inl ⟨p, n :: r2, rfl, SqL.of (by rw [← intsOf_rep r h3]; exact h5), by simp, fun m hm1 hm2 => ?_⟩
      have e1 := hm2 _ f1
      have e2 := f2 m hm1
      have : m = r2.foldl max n := by omega
      rw [this]
      exact q _ H (Same.refl H) (.int _)
  · cases e
    obtain ⟨v, v2, rfl, h, h'⟩ := pair2 hv
    obtain rfl := h.int
    obtain rfl := h'.int
    rename_i i j
    refine .inr ⟨i, j, rfl, ?_⟩
    have e : (if j > i then j else i) = max i j := by split <;> omega
    rw [e]
    exact q _ H (Same.refl H) (.int _)
  · cases e
theorem dc_min (hc : X.calm = true) : DCall X (.builtin "min") dMin := by
  refine ⟨_, CallR.or (cr_min hc) (call_min2 hc), fun H A vs ds d Q ha hv e q => ?_⟩
  unfold dMin at e
  split at e
  · obtain ⟨m, h1, h2⟩ := Option.map_eq_some_iff.mp e
    cases h2
    obtain ⟨ns, h3, h4⟩ := Option.bind_eq_some_iff.mp h1
    obtain ⟨v, rfl, h⟩ := pair1 hv
    obtain ⟨p, us, rfl, h5, r⟩ := h.lst
    cases ns with
    | nil => cases h4
    | cons n r2 =>
      cases h4
      obtain ⟨f1, f2⟩ := foldl_min n r2
      refine .inl ⟨p, n :: r2, rfl, SqL.of (by rw [← intsOf_rep r h3]; exact h5), by simp, fun m hm1 hm2 => ?_⟩
      have e1 := hm2 _ f1
      have e2 := f2 m hm1
      have : m = r2.foldl min n := by omega
      rw [this]
      exact q _ H (Same.refl H) (.int _)
  · cases e
    obtain ⟨v, v2, rfl, h, h'⟩ := pair2 hv
    obtain rfl := h.int
    obtain rfl := h'.int
    rename_i i j
    refine .inr ⟨i, j, rfl, ?_⟩
    have e : (if j < i then j else i) = min i j := by split <;> omega
    rw [e]
    exact q _ H (Same.refl H) (.int _)
  · cases e
def dAbs : List D → Option D
  | [.int i] => some (.int (i.natAbs : Int))
  | _ => none
theorem dc_abs : DCall X (.builtin "abs") dAbs := by
  refine ⟨_, call_abs, fun H A vs ds d Q ha hv e q => ?_⟩
  unfold dAbs at e
  split at e
  · cases e
    obtain ⟨v, rfl, h⟩ := pair1 hv
    obtain rfl := h.int
    rename_i i
    refine ⟨i, rfl, ?_⟩
    have e : (if i < 0 then -i else i) = (i.natAbs : Int) := by split <;> omega
    rw [e]
    exact q _ H (Same.refl H) (.int _)
  · cases e
def dInt : List D → Option D
  | [.int i] => some (.int i)
  | [.bool b] => some (.int (if b then 1 else 0))
  | _ => none
theorem dc_int : DCall X (.type "int") dInt := by
  refine ⟨_, call_int1, fun H A vs ds d Q ha hv e q => ?_⟩
  unfold dInt at e
  split at e
  · cases e
    obtain ⟨v, rfl, h⟩ := pair1 hv
    obtain rfl := h.int
    exact .inl ⟨_, rfl, q _ H (Same.refl H) (.int _)⟩
  · cases e
    obtain ⟨v, rfl, h⟩ := pair1 hv
    obtain rfl := h.bool
    exact .inr ⟨_, rfl, q _ H (Same.refl H) (.int _)⟩
  · cases e
def dAny : List D → Option D
  | [.list xs] => (boolsOf xs).map fun bs => .bool (bs.any fun b => b)
  | _ => none
def dAll : List D → Option D
  | [.list xs] => (boolsOf xs).map fun bs => .bool (bs.all fun b => b)
  | _ => none
theorem dc_any (hc : X.calm = true) : DCall X (.builtin "any") dAny := by
  refine ⟨_, cr_any hc, fun H A vs ds d Q ha hv e q => ?_⟩
  unfold dAny at e
  split at e
  · obtain ⟨ns, h1, h2⟩ := Option.map_eq_some_iff.mp e
    cases h2
    obtain ⟨v, rfl, h⟩ := pair1 hv
    obtain ⟨p, us, rfl, h3, r⟩ := h.lst
    exact ⟨p, ns, rfl, SqL.of (by rw [← boolsOf_rep r h1]; exact h3), q _ H (Same.refl H) (.bl _)⟩
  · cases e
theorem dc_all (hc : X.calm = true) : DCall X (.builtin "all") dAll := by
  refine ⟨_, cr_all hc, fun H A vs ds d Q ha hv e q => ?_⟩
  unfold dAll at e
  split at e
  · obtain ⟨ns, h1, h2⟩ := Option.map_eq_some_iff.mp e
    cases h2
    obtain ⟨v, rfl, h⟩ := pair1 hv
    obtain ⟨p, us, rfl, h3, r⟩ := h.lst
    exact ⟨p, ns, rfl, SqL.of (by rw [← boolsOf_rep r h1]; exact h3), q _ H (Same.refl H) (.bl _)⟩
  · cases e
def dListOf : List D → Option D
  | [.list xs] => some (.list xs)
  | [.tuple xs] => some (.list xs)
  | _ => none
theorem dc_list : DCallN X (.type "list") dListOf := by
  refine ⟨_, call_list_of, fun H A vs ds d Q ha hv e q => ?_⟩
  unfold dListOf at e
  split at e
  · cases e
    obtain ⟨v, rfl, h⟩ := pair1 hv
    obtain ⟨p, us, rfl, h1, r⟩ := h.lst
    exact ⟨p, us, rfl, .inl (SqL.of h1), fun n hn => q _ _ (same_upd hn) ⟨n, rfl, hn, orep_lst hn r⟩⟩
  · cases e
    obtain ⟨v, rfl, h⟩ := pair1 hv
    obtain ⟨p, us, rfl, h1, r⟩ := h.tup
    exact ⟨p, us, rfl, .inr h1, fun n hn => q _ _ (same_upd hn) ⟨n, rfl, hn, orep_lst hn r⟩⟩
  · cases e
def dTupOf : List D → Option D
  | [.list xs] => some (.tuple xs)
  | [.tuple xs] => some (.tuple xs)
  | _ => none
theorem dc_tuple : DCallE X (.type "tuple") dTupOf := by
  refine ⟨_, call_tuple_of, fun H A vs ds d Q ha hv e q => ?_⟩
  unfold dTupOf at e
  split at e
  · cases e
    cases hv with
    | cons h t =>
      cases t
      obtain ⟨p, us, rfl, h1, r⟩ := (RepB.of h).lst
      exact ⟨p, us, rfl, .inl ⟨SqL.of h1, fun n hn => q _ _ (same_upd hn) (rep_tup (fun z => ha n z hn) hn r)⟩⟩
  · cases e
    cases hv with
    | cons h t =>
      cases t
      obtain ⟨p, us, rfl, h1, r⟩ := (RepB.of h).tup
      exact ⟨p, us, rfl, .inr ⟨h1, q _ _ (Same.refl H) h⟩⟩
  · cases e
end
end G

namespace G
open PySem PySem.Spec PyProof.Rows L2

/-! ### how the state changes -/
section
variable {K : Frg} {H0 H H' : Hp} {A0 A A' : List Addr} {ρ : En} {σ : St} {i : Nat} {v : V} {d : D} {a : Addr} {t : Bool}
theorem SRep.tr (s : Same H H') (u : Tr A H A' H') (m : ∀ b ∈ A, b ∈ A') : ∀ {x : Sl}, SRep K H0 A0 A H v x → SRep K H0 A0 A' H' v x
  | .v _, h => Rep.tr u h
  | .own _ _, ⟨a, e, m1, n, h⟩ => ⟨a, e, m a m1, n, h.tr s u⟩
  | .er _ _, _ => trivial
  | .sc _, ⟨a, e, h⟩ => ⟨a, e, h.tr u⟩
theorem get_set_some {α : Type} {l : List α} {i j : Nat} {x y : α} (h : (l.set i x)[j]? = some y) : (j = i ∧ i < l.length ∧ x = y) ∨ (j ≠ i ∧ l[j]? = some y) := by
  by_cases e : j = i
  · subst e
    by_cases hl : j < l.length
    · rw [List.getElem?_set_self hl] at h
      exact .inl ⟨rfl, hl, Option.some.inj h⟩
    · rw [List.getElem?_eq_none (by simpa using hl)] at h; cases h
  · rw [List.getElem?_set_ne (Ne.symm e)] at h
    exact .inr ⟨e, h⟩
/-- a name gets data -/
theorem Ok.set (o : Ok K H0 A0 A ρ σ H) (i : Nat) (r : Rep K H A v d) : Ok K H0 A0 A (ρ.set i (some (.v d))) (σ.set i (some v)) H where
  len := by rw [List.length_set, List.length_set]; exact o.len
  ext := o.ext
  sub := o.sub
  new := o.new
  has := o.has
  slot := fun j s h => by
    rcases get_set_some h with ⟨e, hl, e2⟩ | ⟨e, h⟩
    · subst e
      cases e2
      exact ⟨v, by rw [List.getElem?_set_self (by rw [o.len]; exact hl)], r⟩
    · obtain ⟨v', h1, h2⟩ := o.slot j s h
      exact ⟨v', by rw [List.getElem?_set_ne (Ne.symm e)]; exact h1, h2⟩
  dis := fun j k b t t' d1 d2 ne h1 h2 h3 => by
    rcases get_set_some h1 with ⟨_, _, e2⟩ | ⟨e, h1⟩
    · cases e2
    · rcases get_set_some h2 with ⟨_, _, e2⟩ | ⟨e', h2⟩
      · cases e2
      · rw [List.getElem?_set_ne (Ne.symm e)] at h3
        rw [List.getElem?_set_ne (Ne.symm e')]
        exact o.dis j k b t t' d1 d2 ne h1 h2 h3
/-- a name is forgotten -/
theorem Ok.forget (o : Ok K H0 A0 A ρ σ H) (i : Nat) : Ok K H0 A0 A (ρ.set i none) σ H where
  len := by rw [List.length_set]; exact o.len
  ext := o.ext
  sub := o.sub
  new := o.new
  has := o.has
  slot := fun j s h => by
    rcases get_set_some h with ⟨_, _, e2⟩ | ⟨e, h⟩
    · cases e2
    · exact o.slot j s h
  dis := fun j k b t t' d1 d2 ne h1 h2 h3 => by
    rcases get_set_some h1 with ⟨_, _, e2⟩ | ⟨e, h1⟩
    · cases e2
    · rcases get_set_some h2 with ⟨_, _, e2⟩ | ⟨e', h2⟩
      · cases e2
      · exact o.dis j k b t t' d1 d2 ne h1 h2 h3
/-- a name gets an object that it alone holds -/
theorem Ok.setOwn (o : Ok K H0 A0 A ρ σ H) (s : Same H H') (i : Nat) (n : H a = none) (r : ORep K H' (a :: A) a t d) : Ok K H0 A0 (a :: A) (ρ.set i (some (.own t d))) (σ.set i (some (.ref a))) H' := by
  have u : Tr A H (a :: A) H' := ⟨fun b x h _ => s b x h, fun b hb => by
    rcases List.mem_cons.mp hb with rfl | hb
    · exact .inr n
    · exact .inl hb⟩
  have n0 : H0 a = none := o.ext.free n
  have old : ∀ (j : Nat) (t' : Bool) (d' : D), ρ[j]? = some (some (.own t' d')) → σ[j]? ≠ some (some (.ref a)) := fun j t' d' h z => by
    obtain ⟨v', h1, b, e, hb, _, _⟩ := o.slot j _ h
    rw [h1] at z
    cases z
    cases e
    exact o.has _ hb n
  exact {
    len := by rw [List.length_set, List.length_set]; exact o.len
    ext := o.ext.trans s
    sub := fun b hb => List.mem_cons_of_mem _ (o.sub b hb)
    new := fun b hb => by
      rcases List.mem_cons.mp hb with rfl | hb
      · exact .inr n0
      · exact o.new b hb
    has := fun b hb z => by
      rcases List.mem_cons.mp hb with rfl | hb
      · obtain ⟨x, h, _⟩ := r.some
        rw [h] at z; cases z
      · exact o.has b hb (s.free z)
    slot := fun j x h => by
      rcases get_set_some h with ⟨e, hl, e2⟩ | ⟨e, h⟩
      · subst e
        cases e2
        exact ⟨.ref a, by rw [List.getElem?_set_self (by rw [o.len]; exact hl)], a, rfl, List.mem_cons_self, ⟨n0, fun z => o.has a (o.sub a z) n⟩, r⟩
      · obtain ⟨v', h1, h2⟩ := o.slot j x h
        exact ⟨v', by rw [List.getElem?_set_ne (Ne.symm e)]; exact h1, h2.tr s u fun b hb => List.mem_cons_of_mem _ hb⟩
    dis := fun j k b t1 t2 d1 d2 ne h1 h2 h3 => by
      rcases get_set_some h1 with ⟨e, hl, e2⟩ | ⟨e, h1⟩
      · subst e
        rw [List.getElem?_set_self (by rw [o.len]; exact hl)] at h3
        cases h3
        rcases get_set_some h2 with ⟨e', _, _⟩ | ⟨e', h2⟩
        · exact absurd e'.symm ne
        · rw [List.getElem?_set_ne (Ne.symm e')]
          exact old k t2 d2 h2
      · rw [List.getElem?_set_ne (Ne.symm e)] at h3
        rcases get_set_some h2 with ⟨e', hl, _⟩ | ⟨e', h2⟩
        · rw [e', List.getElem?_set_self (by rw [o.len]; exact hl)]
          intro z
          cases z
          exact old j t1 d1 h1 h3
        · rw [List.getElem?_set_ne (Ne.symm e')]
          exact o.dis j k b t1 t2 d1 d2 ne h1 h2 h3 }
/-- the object that a name alone holds is changed -/
theorem Ok.mut {x : HO} {d' : D} (o : Ok K H0 A0 A ρ σ H) (h : ρ[i]? = some (some (.own t d))) (hv : σ[i]? = some (some (.ref a))) (r : ORep K (upd H a x) A a t d') :
    Ok K H0 A0 A (ρ.set i (some (.own t d'))) σ (upd H a x) ∧ Tr A H A (upd H a x) := by
  obtain ⟨v', h1, b, e, hb, n0, r0⟩ := o.slot i _ h
  rw [hv] at h1
  cases h1
  cases e
  have u : Tr A H A (upd H a x) := ⟨fun c y q n => by rw [upd_ne (show c ≠ a from fun z => n (by rw [z]; exact hb))]; exact q, fun c hc => .inl hc⟩
  refine ⟨⟨by rw [List.length_set]; exact o.len, fun c y q => ?_, o.sub, o.new, fun c hc z => ?_, fun j s q => ?_, fun j k c t1 t2 d1 d2 ne q1 q2 q3 => ?_⟩, u⟩
  · rw [upd_ne (show c ≠ a from fun z => by rw [z, n0.1] at q; cases q)]
    exact o.ext c y q
  · by_cases e : c = a
    · subst e; rw [upd_same] at z; cases z
    · rw [upd_ne e] at z; exact o.has c hc z
  · rcases get_set_some q with ⟨e, _, e2⟩ | ⟨e, q⟩
    · subst e
      cases e2
      exact ⟨_, hv, a, rfl, hb, n0, r⟩
    · obtain ⟨v', h1, h2⟩ := o.slot j s q
      refine ⟨v', h1, ?_⟩
      cases s with
      | v d1 => exact Rep.tr u h2
      | own t1 d1 =>
        obtain ⟨c, e1, hc, nc, rc⟩ := h2
        subst e1
        exact ⟨c, rfl, hc, nc, rc.other (fun z => by
          subst z
          exact o.dis i j c t t1 d d1 (Ne.symm e) h q hv h1) hb⟩
      | er _ _ => exact trivial
      | sc ns =>
        obtain ⟨c, e1, h3⟩ := h2
        exact ⟨c, e1, h3.tr u⟩
  · rcases get_set_some q1 with ⟨e, hl, e2⟩ | ⟨e, q1⟩
    · subst e
      rcases get_set_some q2 with ⟨e', _, _⟩ | ⟨e', q2⟩
      · exact absurd e'.symm ne
      · exact o.dis j k c t t2 d d2 ne h q2 q3
    · rcases get_set_some q2 with ⟨e', _, _⟩ | ⟨e', q2⟩
      · rw [e']
        exact o.dis j i c t1 t d1 d e q1 h q3
      · exact o.dis j k c t1 t2 d1 d2 ne q1 q2 q3
/-- a name's object is let go: shared data from now on -/
def frz (i : Nat) (ρ : En) : En := match ρ[i]? with
  | some (some (.own _ d)) => ρ.set i (some (.v d))
  | _ => ρ
theorem Ok.frz (o : Ok K H0 A0 A ρ σ H) (i : Nat) : ∃ A', Ok K H0 A0 A' (frz i ρ) σ H ∧ Tr A H A' H := by
  unfold G.frz
  split
  · rename_i t d h
    obtain ⟨v, h1, a, e, ha, n0, r⟩ := o.slot i _ h
    subst e
    have hs : ∀ b ∈ A.filter (fun b => decide (b ≠ a)), b ∈ A := fun b hb => (List.mem_filter.mp hb).1
    have hna : a ∉ A.filter (fun b => decide (b ≠ a)) := fun hb => by simpa using (List.mem_filter.mp hb).2
    refine ⟨A.filter fun b => decide (b ≠ a), ⟨by rw [List.length_set]; exact o.len, o.ext, fun b hb => ?_, fun b hb => o.new b (hs b hb), fun b hb => o.has b (hs b hb), fun j s q => ?_, fun j k c t1 t2 d1 d2 ne q1 q2 q3 => ?_⟩, Tr.sub hs⟩
    · refine List.mem_filter.mpr ⟨o.sub b hb, decide_eq_true fun z => ?_⟩
      subst z
      exact n0.2 hb
    · rcases get_set_some q with ⟨e, _, e2⟩ | ⟨e, q⟩
      · subst e
        cases e2
        exact ⟨_, h1, r.free hna hs⟩
      · obtain ⟨v', g1, g2⟩ := o.slot j s q
        refine ⟨v', g1, ?_⟩
        cases s with
        | v d1 => exact Rep.sub hs g2
        | own t1 d1 =>
          obtain ⟨c, e1, hc, nc, rc⟩ := g2
          subst e1
          exact ⟨c, rfl, List.mem_filter.mpr ⟨hc, decide_eq_true fun z => by
            subst z
            exact o.dis i j c t t1 d d1 (Ne.symm e) h q h1 g1⟩, nc, rc.sub hs⟩
        | er _ _ => exact trivial
        | sc ns =>
          obtain ⟨c, e1, h3⟩ := g2
          exact ⟨c, e1, h3.tr (Tr.sub hs)⟩
    · rcases get_set_some q1 with ⟨_, _, e2⟩ | ⟨_, q1⟩
      · cases e2
      · rcases get_set_some q2 with ⟨_, _, e2⟩ | ⟨_, q2⟩
        · cases e2
        · exact o.dis j k c t1 t2 d1 d2 ne q1 q2 q3
  · exact ⟨A, o, Tr.refl A H⟩
/-- all objects are let go -/
def letGo : Option Sl → Option Sl
  | some (.own _ d) => some (.v d)
  | s => s
def disown (ρ : En) : En := ρ.map letGo
theorem Ok.disown (o : Ok K H0 A0 A ρ σ H) : Ok K H0 A0 A0 (disown ρ) σ H where
  len := by unfold G.disown; rw [List.length_map]; exact o.len
  ext := o.ext
  sub := fun _ h => h
  new := fun _ h => .inl h
  has := fun a h => o.has a (o.sub a h)
  slot := fun j s h => by
    unfold G.disown at h
    rw [List.getElem?_map] at h
    obtain ⟨x, h1, h2⟩ := Option.map_eq_some_iff.mp h
    cases x with
    | none => cases h2
    | some x =>
      obtain ⟨v, g1, g2⟩ := o.slot j x h1
      refine ⟨v, g1, ?_⟩
      cases x with
      | v d => cases h2; exact Rep.sub o.sub g2
      | own t d =>
        cases h2
        obtain ⟨a, e, ha, n0, r⟩ := g2
        subst e
        exact r.free n0.2 o.sub
      | er c n => cases h2; exact trivial
      | sc ns =>
        cases h2
        obtain ⟨c, e1, h3⟩ := g2
        exact ⟨c, e1, h3.tr (Tr.sub o.sub)⟩
  dis := fun j k c t1 t2 d1 d2 ne q1 q2 q3 => by
    unfold G.disown at q1
    rw [List.getElem?_map] at q1
    obtain ⟨x, h1, h2⟩ := Option.map_eq_some_iff.mp q1
    cases x with
    | none => cases h2
    | some x => cases x <;> cases h2
theorem flat_rep {w : V} : ∀ {d : D}, Rep K H A w d → (match d with | .list _ => false | .tuple _ => false | .dict _ => false | _ => true) = true → Rep K H A' w d
  | .none, .non, _ => .non
  | .bool _, .bl b, _ => .bl b
  | .int _, .int b, _ => .int b
  | .str _, .str b, _ => .str b
end

/-- the same but at the places ix -/
def Agree (ix : List Nat) (σ σ' : St) : Prop := σ'.length = σ.length ∧ ∀ j, j ∉ ix → σ'[j]? = σ[j]?
/-- names of a block forgotten -/
def wipeE (ρ : En) : List Nat → En
  | [] => ρ
  | v :: vs => (wipeE ρ vs).set v none
theorem wipe_out {σ : St} {i : Nat} : ∀ {vs : List Nat}, i ∉ vs → (wipe σ vs)[i]? = σ[i]?
  | [], _ => rfl
  | v :: vs, h => by
    unfold wipe
    rw [List.getElem?_set_ne (fun z => h (by simp [z])), wipe_out fun z => h (List.mem_cons_of_mem _ z)]
theorem wipe_in {σ : St} {i : Nat} : ∀ {vs : List Nat}, i ∈ vs → (wipe σ vs)[i]? = if i < σ.length then some none else none
  | v :: vs, h => by
    unfold wipe
    by_cases e : v = i
    · subst e
      by_cases hl : v < σ.length
      · rw [List.getElem?_set_self (by rw [wipe_length]; exact hl), if_pos hl]
      · rw [List.getElem?_eq_none (by rw [List.length_set, wipe_length]; omega), if_neg hl]
    · rw [List.getElem?_set_ne e]
      rcases List.mem_cons.mp h with z | z
      · exact absurd z.symm e
      · exact wipe_in z
theorem wipe_agree {ix vs : List Nat} {σ σ' : St} (h : ∀ i ∈ ix, i ∈ vs) (a : Agree ix σ σ') : wipe σ' vs = wipe σ vs := by
  refine List.ext_getElem? fun i => ?_
  by_cases e : i ∈ vs
  · rw [wipe_in e, wipe_in e, a.1]
  · rw [wipe_out e, wipe_out e]
    exact a.2 i fun z => e (h i z)
theorem wipe_wipe {vs : List Nat} {σ : St} : wipe (wipe σ vs) vs = wipe σ vs := by
  refine List.ext_getElem? fun i => ?_
  by_cases e : i ∈ vs
  · rw [wipe_in e, wipe_in e, wipe_length]
  · rw [wipe_out e, wipe_out e]
theorem wipeE_length (ρ : En) : ∀ vs : List Nat, (wipeE ρ vs).length = ρ.length
  | [] => rfl
  | v :: vs => by unfold wipeE; rw [List.length_set, wipeE_length ρ vs]
theorem Ok.wipe {K : Frg} {H0 H : Hp} {A0 A : List Addr} {ρ : En} {σ : St} (o : Ok K H0 A0 A ρ σ H) : ∀ vs : List Nat, Ok K H0 A0 A (wipeE ρ vs) (L2.wipe σ vs) H
  | [] => o
  | v :: vs => by
    have p := (o.wipe vs).forget v
    refine ⟨by rw [L2.wipe_length, wipeE_length]; exact o.len, o.ext, o.sub, o.new, o.has, fun i s h => ?_, fun i j a t t' d d' ne h1 h2 h3 => ?_⟩
    · have h' : ((wipeE ρ vs).set v none)[i]? = some (some s) := h
      obtain ⟨x, h1, h2⟩ := p.slot i s h'
      refine ⟨x, ?_, h2⟩
      unfold L2.wipe
      rcases get_set_some h' with ⟨_, _, e⟩ | ⟨e, _⟩
      · cases e
      · rw [List.getElem?_set_ne (Ne.symm e)]; exact h1
    · have h1' : ((wipeE ρ vs).set v none)[i]? = some (some (.own t d)) := h1
      have h2' : ((wipeE ρ vs).set v none)[j]? = some (some (.own t' d')) := h2
      have hi : i ≠ v := by
        rcases get_set_some h1' with ⟨_, _, e⟩ | ⟨e, _⟩
        · cases e
        · exact e
      have hj : j ≠ v := by
        rcases get_set_some h2' with ⟨_, _, e⟩ | ⟨e, _⟩
        · cases e
        · exact e
      unfold L2.wipe at h3 ⊢
      rw [List.getElem?_set_ne (Ne.symm hi)] at h3
      rw [List.getElem?_set_ne (Ne.symm hj)]
      exact p.dis i j a t t' d d' ne h1' h2' h3
/-- one more object that is ours alone, kept for what is around -/
theorem Ok.grow {K : Frg} {H0 H H' : Hp} {A0 A : List Addr} {ρ : En} {σ : St} {l : Addr} (o : Ok K H0 A0 A ρ σ H) (s : Same H H') (n : H l = none) (y : H' l ≠ none) : Ok K H0 (l :: A0) (l :: A) ρ σ H' := by
  have u : Tr A H (l :: A) H' := ⟨fun b x h _ => s b x h, fun b hb => by
    rcases List.mem_cons.mp hb with rfl | hb
    · exact .inr n
    · exact .inl hb⟩
  refine ⟨o.len, o.ext.trans s, fun b hb => ?_, fun b hb => ?_, fun b hb z => ?_, fun i x h => ?_, o.dis⟩
  · rcases List.mem_cons.mp hb with rfl | hb
    · exact List.mem_cons_self
    · exact List.mem_cons_of_mem _ (o.sub b hb)
  · rcases List.mem_cons.mp hb with rfl | hb
    · exact .inl List.mem_cons_self
    · rcases o.new b hb with h | h
      · exact .inl (List.mem_cons_of_mem _ h)
      · exact .inr h
  · rcases List.mem_cons.mp hb with rfl | hb
    · exact y z
    · exact o.has b hb (s.free z)
  · obtain ⟨v, h1, h2⟩ := o.slot i x h
    refine ⟨v, h1, ?_⟩
    cases x with
    | v d => exact Rep.tr u h2
    | er c n => exact trivial
    | sc ns =>
      obtain ⟨c, e1, h3⟩ := h2
      exact ⟨c, e1, h3.tr u⟩
    | own t d =>
      obtain ⟨a, e, ha, n0, r⟩ := h2
      exact ⟨a, e, List.mem_cons_of_mem _ ha, ⟨n0.1, fun z => by
        rcases List.mem_cons.mp z with z | z
        · exact o.has a ha (by rw [z]; exact n)
        · exact n0.2 z⟩, r.tr s u⟩
/-- what is kept for what is around is changed -/
theorem Ok.touch {K : Frg} {H0 H : Hp} {A0 A : List Addr} {ρ : En} {σ : St} {l : Addr} {x : HO} (o : Ok K H0 A0 A ρ σ H) (hl : l ∈ A0) (n : H0 l = none) : Ok K H0 A0 A ρ σ (upd H l x) := by
  have hA := o.sub l hl
  refine ⟨o.len, fun c y q => ?_, o.sub, o.new, fun b hb z => ?_, fun i s h => ?_, o.dis⟩
  · rw [upd_ne (show c ≠ l from fun z => by rw [z, n] at q; cases q)]
    exact o.ext c y q
  · by_cases e : b = l
    · subst e; rw [upd_same] at z; cases z
    · rw [upd_ne e] at z; exact o.has b hb z
  · obtain ⟨v, h1, h2⟩ := o.slot i s h
    refine ⟨v, h1, ?_⟩
    cases s with
    | v d => exact Rep.tr (Tr.write hA) h2
    | er c n => exact trivial
    | sc ns =>
      obtain ⟨c, e1, h3⟩ := h2
      exact ⟨c, e1, h3.tr (Tr.write hA)⟩
    | own t d =>
      obtain ⟨a, e, ha, n0, r⟩ := h2
      exact ⟨a, e, ha, n0, r.other (fun z => n0.2 (by rw [z]; exact hl)) hA⟩

/-! ### what follows a piece -/
def SR.of {α : Type} (r : R α) (ρ : En) (k : α → SR) : SR := match r with
  | .ok a => k a
  | .ex c n => .ex c n ρ
  | .no => .no
@[simp] theorem SR.of_ok {α : Type} (a : α) (ρ : En) (k : α → SR) : SR.of (.ok a) ρ k = k a := rfl
@[simp] theorem SR.of_ex {α : Type} (c : String) (n : Int) (ρ : En) (k : α → SR) : SR.of (.ex c n : R α) ρ k = .ex c n ρ := rfl
@[simp] theorem SR.of_no {α : Type} (ρ : En) (k : α → SR) : SR.of (.no : R α) ρ k = .no := rfl
section
variable {K : Frg} {mg : MgT} {W : WX} {H0 H H1 : Hp} {A0 A A1 : List Addr} {E : Ends} {ρ : En} {σ : St}
theorem PostS.tr {r : SR} (h : PostS K mg W H0 A0 A H E r) (u : Tr A H A1 H1) : PostS K mg W H0 A0 A1 H1 E r := by
  cases r with
  | nx ρ' => exact fun σ' H' A' o t => h σ' H' A' o (u.trans t)
  | rt d => exact h
  | bk ρ' => exact fun σ' H' A' o t => h σ' H' A' o (u.trans t)
  | ct ρ' => exact fun σ' H' A' o t => h σ' H' A' o (u.trans t)
  | ex c n ρ' => exact fun u' p σ' H' A' o t => h u' p σ' H' A' o (u.trans t)
  | no => exact h
theorem PostS.same {r : SR} (h : PostS K mg W H0 A0 A H E r) (s : Same H H1) : PostS K mg W H0 A0 A H1 E r := h.tr (Tr.same s)
theorem PostS.of {α : Type} {r : R α} {k : α → SR} (o : Ok K H0 A0 A ρ σ H) (h : PostS K mg W H0 A0 A H E (SR.of r ρ k)) : Post mg W σ H (fun a _ => PostS K mg W H0 A0 A H E (k a)) r := by
  cases r with
  | ok a => exact fun H1 s => h
  | ex c n => exact fun u p H1 s f e => h u p σ H1 A (o.same s) (Tr.same s) ⟨o.ext.free f, fun y => o.has p (o.sub p y) f⟩ e
  | no => exact h
/-- the end of a piece replaced -/
theorem PostS.seq {r : SR} {g2 : En → SR} (h : PostS K mg W H0 A0 A H E (match r with | .nx ρ' => g2 ρ' | r => r)) : PostS K mg W H0 A0 A H { E with nx := tFS K mg W g2 E } r := by
  cases r with
  | nx ρ' => exact fun σ' H' A' o t => ⟨H0, A0, A', ρ', o, PostS.tr (r := g2 ρ') h t⟩
  | rt d => exact h
  | bk ρ' => exact h
  | ct ρ' => exact h
  | ex c n ρ' => exact h
  | no => exact h
end

/-! ### statements -/
def sNext : En → SR := fun ρ => .nx ρ
def sSeq (g1 g2 : En → SR) : En → SR := fun ρ => match g1 ρ with
  | .nx ρ' => g2 ρ'
  | r => r
def sExpr (f : En → R D) : En → SR := fun ρ => .of (f ρ) ρ fun _ => .nx ρ
def sRet (f : En → R D) : En → SR := fun ρ => .of (f (disown ρ)) (disown ρ) .rt
def sRetN : En → SR := fun ρ => .rt .none
def sIf (p : En → R Bool) (g1 g2 : En → SR) : En → SR := fun ρ => .of (p ρ) ρ fun b => if b = true then g1 ρ else g2 ρ
def sSet (i : Nat) (f : En → R D) : En → SR := fun ρ => .of (f ρ) ρ fun d => .nx (ρ.set i (some (.v d)))
def sSetN (i : Nat) (t : Bool) (f : En → R D) : En → SR := fun ρ => .of (f ρ) ρ fun d => .nx (ρ.set i (some (.own t d)))
def sFrz (i : Nat) (g : En → SR) : En → SR := fun ρ => g (frz i ρ)
section
variable {X : Cx} {W : WX} {e a b c : Expr} {f h : En → R D} {p : En → R Bool} {g g1 g2 : En → SR} {st : Stmt} {rest s1 s2 : List Stmt} {pos pos' : Pos} {x : Str} {i : Nat} {t : Bool}
theorem fss_nil : FSs X W [] sNext := impSs pss_nil fun D σ H ⟨H0, A0, A, ρ, o, P⟩ => P σ H A o (Tr.refl A H)
theorem fss_cons (h1 : FS X W st g1) (h2 : FSs X W rest g2) : FSs X W (st :: rest) (sSeq g1 g2) := impSs (pss_cons h1 h2) fun D σ H ⟨H0, A0, A, ρ, o, P⟩ => ⟨H0, A0, A, ρ, o, PostS.seq P⟩
theorem fss_one (h1 : FS X W st g1) : FSs X W [st] g1 := pss_one h1
theorem fs_pass : FS X W (.Pass pos) sNext := impS ps_pass fun D σ H ⟨H0, A0, A, ρ, o, P⟩ => P σ H A o (Tr.refl A H)
theorem fs_doc {z : Str} {j : Nat} : FS X W (.Expr (.Constant (.str z) j pos) pos') sNext := impS ps_doc fun D σ H ⟨H0, A0, A, ρ, o, P⟩ => P σ H A o (Tr.refl A H)
theorem fs_break : FS X W (.Break pos) (fun ρ => .bk ρ) := impS ps_break fun D σ H ⟨H0, A0, A, ρ, o, P⟩ => P σ H A o (Tr.refl A H)
theorem fs_continue : FS X W (.Continue pos) (fun ρ => .ct ρ) := impS ps_continue fun D σ H ⟨H0, A0, A, ρ, o, P⟩ => P σ H A o (Tr.refl A H)
theorem fs_expr (he : FE X W e f) (hs : swapsWith e none pos.line X.env = pure false := by rfl) : FS X W (.Expr e pos) (sExpr f) := impS (ps_expr he hs) fun D σ H ⟨H0, A0, A, ρ, o, P⟩ =>
  ⟨H0, A0, A, ρ, o, (P.of o).mono fun d H1 s1 P1 v _ => P1 σ H1 A (o.same s1) (Tr.same s1)⟩
theorem fs_ret (he : FE X W e f) : FS X W (.Return (some e) pos) (sRet f) := impS (ps_ret he) fun D σ H ⟨H0, A0, A, ρ, o, P⟩ => by
  have P' : PostS X.K X.mg W H0 A0 A0 H D (SR.of (f (disown ρ)) (disown ρ) .rt) := PostS.tr (r := sRet f ρ) P (Tr.sub o.sub)
  exact ⟨H0, A0, A0, disown ρ, o.disown, (P'.of o.disown).mono fun d H1 s1 P1 v r => P1 v H1 (o.ext.trans s1) r⟩
theorem fs_retN : FS X W (.Return none pos) sRetN := impS ps_retN fun D σ H ⟨H0, A0, A, ρ, o, P⟩ => P _ H o.ext .non
theorem fs_if (hc : FT X W c p) (ha : FSs X W s1 g1) (hb : FSs X W s2 g2) : FS X W (.If c s1 s2 pos) (sIf p g1 g2) := impS (ps_if hc ha hb) fun D σ H ⟨H0, A0, A, ρ, o, P⟩ => by
  refine ⟨H0, A0, A, ρ, o, (P.of o).mono fun b H1 s1 P1 => ?_⟩
  cases b with
  | true => exact ⟨H0, A0, A, ρ, o.same s1, PostS.same (r := g1 ρ) P1 s1⟩
  | false => exact ⟨H0, A0, A, ρ, o.same s1, PostS.same (r := g2 ρ) P1 s1⟩
theorem fs_set (hN : X.N.Nodup) (hi : X.N[i]? = some x) (hx : Loc X.env.scope x) (he : FE X W e f) (hs : swapsWith e (some (.Name x pos')) pos.line X.env = pure false := by rfl) (hf : X.fn x = true ∨ X.env.scope.names.lookup x = some .local := by first | exact .inl rfl | exact .inr rfl | assumption) :
    FS X W (.Assign [.Name x pos'] e pos) (sSet i f) := impS (ps_set hN hi hx he hs hf) fun D σ H ⟨H0, A0, A, ρ, o, P⟩ =>
  ⟨H0, A0, A, ρ, o, (P.of o).mono fun d H1 s1 P1 v r => P1 _ H1 A ((o.same s1).set i r) (Tr.same s1)⟩
theorem fs_setN (hN : X.N.Nodup) (hi : X.N[i]? = some x) (hx : Loc X.env.scope x) (he : FN X W t e f) (hs : swapsWith e (some (.Name x pos')) pos.line X.env = pure false := by rfl) (hf : X.fn x = true ∨ X.env.scope.names.lookup x = some .local := by first | exact .inl rfl | exact .inr rfl | assumption) :
    FS X W (.Assign [.Name x pos'] e pos) (sSetN i t f) := impS (ps_set hN hi hx he hs hf) fun D σ H ⟨H0, A0, A, ρ, o, P⟩ =>
  ⟨H0, A0, A, ρ, o, (P.of o).mono fun d H1 s1 P1 v ⟨a, e, n, r⟩ => by
    subst e
    exact P1 _ H1 (a :: A) (o.setOwn s1 i n r) ⟨fun b x h _ => s1 b x h, fun b hb => by
      rcases List.mem_cons.mp hb with rfl | hb
      · exact .inr n
      · exact .inl hb⟩⟩
theorem fs_frz (i : Nat) (hs : FS X W st g) : FS X W st (sFrz i g) := impS hs fun D σ H ⟨H0, A0, A, ρ, o, P⟩ => by
  obtain ⟨A', o', u⟩ := o.frz i
  exact ⟨H0, A0, A', _, o', PostS.tr (r := g (frz i ρ)) P u⟩
theorem fss_frz (i : Nat) (hs : FSs X W s1 g) : FSs X W s1 (sFrz i g) := impSs hs fun D σ H ⟨H0, A0, A, ρ, o, P⟩ => by
  obtain ⟨A', o', u⟩ := o.frz i
  exact ⟨H0, A0, A', _, o', PostS.tr (r := g (frz i ρ)) P u⟩
/-- a call that hands back nothing that could hold what it was handed -/
def flatD : D → Bool
  | .list _ => false
  | .tuple _ => false
  | .dict _ => false
  | _ => true
def cFlat (f : En → R D) : En → R D := fun ρ => (f (disown ρ)).bind fun d => if flatD d = true then .ok d else .no
theorem fe_flat (he : FE X W e f) : FE X W e (cFlat f) := impE he fun σ H Q ⟨H0, A0, A, ρ, o, P⟩ => by
  refine ⟨H0, A0, A0, disown ρ, o.disown, P.bind.mono fun d H1 s1 P1 v r => ?_⟩
  split at P1
  · rename_i hf
    exact P1 H1 (Same.refl _) v (flat_rep r hf)
  · exact P1.elim

/-! ### targets -/
abbrev TgF := D → En → Option En
def tFG (K : Frg) (ix : List Nat) (t : TgF) : TG := fun v σ H Q => ∃ H0 A0 A ρ d ρ', Ok K H0 A0 A ρ σ H ∧ Rep K H A v d ∧ t d ρ = some ρ' ∧ ∀ σ', Ok K H0 A0 A ρ' σ' H → Agree ix σ σ' → Q σ' H
abbrev FG (X : Cx) (tg : Expr) (ix : List Nat) (t : TgF) : Prop := PG X tg (tFG X.K ix t)
def tFGs (K : Frg) (ix : List Nat) (t : List D → En → Option En) : TGs := fun vs σ H Q => ∃ H0 A0 A ρ ds ρ', Ok K H0 A0 A ρ σ H ∧ RepL K H A vs ds ∧ t ds ρ = some ρ' ∧ ∀ σ', Ok K H0 A0 A ρ' σ' H → Agree ix σ σ' → Q σ' H
abbrev FGs (X : Cx) (tg : List Expr) (ix : List Nat) (t : List D → En → Option En) : Prop := PGs X tg (tFGs X.K ix t)
theorem impG {e : Expr} {t t' : TG} (h : PG X e t) (i : ∀ v σ H Q, t' v σ H Q → t v σ H Q) : PG X e t' := ⟨fun pins s σ H v u Q I r q => h.run pins s σ H v u Q I r (i _ _ _ _ q)⟩
theorem impGs {e : List Expr} {t t' : TGs} (h : PGs X e t) (i : ∀ v σ H Q, t' v σ H Q → t v σ H Q) : PGs X e t' := ⟨fun pins s σ H v u Q I r q => h.run pins s σ H v u Q I r (i _ _ _ _ q)⟩
def gN (i : Nat) : TgF := fun d ρ => some (ρ.set i (some (.v d)))
def gT (t : List D → En → Option En) : TgF := fun d ρ => match d with
  | .tuple ds => t ds ρ
  | _ => none
def gE : List D → En → Option En := fun ds ρ => match ds with
  | [] => some ρ
  | _ => none
def gC (t : TgF) (u : List D → En → Option En) : List D → En → Option En := fun ds ρ => match ds with
  | d :: ds => (t d ρ).bind (u ds)
  | [] => none
theorem fg_name (hN : X.N.Nodup) (hi : X.N[i]? = some x) (hx : Loc X.env.scope x) (hf : X.fn x = true ∨ X.env.scope.names.lookup x = some .local := by first | exact .inl rfl | exact .inr rfl | assumption) : FG X (.Name x pos) [i] (gN i) :=
  impG (pg_name hN hi hx hf) fun v σ H Q ⟨H0, A0, A, ρ, d, ρ', o, r, e, q⟩ => by
    cases e
    exact q _ (o.set i r) ⟨List.length_set, fun j hj => List.getElem?_set_ne (fun z => hj (by simp [z]))⟩
theorem fgs_nil : FGs X [] [] gE := impGs pgs_nil fun vs σ H Q ⟨H0, A0, A, ρ, ds, ρ', o, r, e, q⟩ => by
  cases r with
  | nil => cases e; exact ⟨rfl, q _ o ⟨rfl, fun _ _ => rfl⟩⟩
  | cons _ _ => cases e
theorem fgs_cons {es : List Expr} {ix1 ix2 : List Nat} {tg : TgF} {tgs : List D → En → Option En} (h1 : FG X e ix1 tg) (h2 : FGs X es ix2 tgs)
    (hs : (assignEach (e :: es) X.env).map (·.2) = assign e X.env :: (assignEach es X.env).map (·.2) := by rfl) : FGs X (e :: es) (ix1 ++ ix2) (gC tg tgs) := impGs (pgs_cons h1 h2 hs) fun vs σ H Q ⟨H0, A0, A, ρ, ds, ρ', o, r, e, q⟩ => by
  cases r with
  | nil => cases e
  | cons a t =>
    obtain ⟨ρ1, e1, e2⟩ := Option.bind_eq_some_iff.mp (show (tg _ ρ).bind (tgs _) = some ρ' from e)
    exact ⟨_, _, rfl, H0, A0, A, ρ, _, ρ1, o, a, e1, fun σ1 o1 g1 => ⟨H0, A0, A, ρ1, _, ρ', o1, t, e2, fun σ2 o2 g2 => q σ2 o2 ⟨g2.1.trans g1.1, fun j hj => (g2.2 j fun z => hj (List.mem_append_right _ z)).trans (g1.2 j fun z => hj (List.mem_append_left _ z))⟩⟩⟩
theorem fg_tup {es : List Expr} {k n : Nat} {ix : List Nat} {tgs : List D → En → Option En} (hc : X.calm = true) (hg : FGs X es ix tgs) (hl : ∀ ds ρ ρ', tgs ds ρ = some ρ' → ds.length = n)
    (hn : (assignEach es X.env).length = n := by rfl) (hst : (assignEach es X.env).findIdx? (·.1) = none := by rfl) : FG X (.Tuple es k pos) ix (gT tgs) := impG (pg_tup hc hg hn hst) fun v σ H Q ⟨H0, A0, A, ρ, d, ρ', o, r, e, q⟩ => by
  unfold gT at e
  split at e
  · obtain ⟨a, vs, rfl, h1, r1⟩ := (RepB.of r).tup
    exact ⟨a, vs, rfl, h1, by rw [r1.length]; exact hl _ _ _ e, H0, A0, A, ρ, _, ρ', o, r1, e, q⟩
  · cases e
theorem gE_len {ds : List D} {ρ ρ' : En} (h : gE ds ρ = some ρ') : ds.length = 0 := by
  cases ds with
  | nil => rfl
  | cons _ _ => cases h
theorem gC_len {tg : TgF} {tgs : List D → En → Option En} {n : Nat} (h : ∀ ds ρ ρ', tgs ds ρ = some ρ' → ds.length = n) {ds : List D} {ρ ρ' : En} (q : gC tg tgs ds ρ = some ρ') : ds.length = n + 1 := by
  cases ds with
  | nil => cases q
  | cons d ds =>
    obtain ⟨ρ1, e1, e2⟩ := Option.bind_eq_some_iff.mp (show (tg d ρ).bind (tgs ds) = some ρ' from q)
    rw [List.length_cons, h _ _ _ e2]
/-- target = e -/
def sAsg (t : TgF) (f : En → R D) : En → SR := fun ρ => .of (f ρ) ρ fun d => match t d ρ with
  | some ρ' => .nx ρ'
  | none => .no
theorem fs_asg {tg : Expr} {ix : List Nat} {t : TgF} (he : FE X W e f) (hg : FG X tg ix t) (hs : swapsWithSole [tg] e pos.line X.env = pure false := by rfl) (hw : swappedStores [tg] e X.env = pure none := by rfl)
    (h1 : (assignEach [tg] X.env).map (·.2) = [assign tg X.env] := by rfl) : FS X W (.Assign [tg] e pos) (sAsg t f) := impS (ps_asg he hg hs hw h1) fun D σ H ⟨H0, A0, A, ρ, o, P⟩ => by
  refine ⟨H0, A0, A, ρ, o, (P.of o).mono fun d H1 s1 P1 v r => ?_⟩
  split at P1
  · rename_i ρ' e
    exact ⟨H0, A0, A, ρ, d, ρ', o.same s1, r, e, fun σ' o' _ => P1 σ' H1 A o' (Tr.same s1)⟩
  · exact P1.elim
/-- a, b = e1, e2: two plain local names -/
def sPar (i j : Nat) (l : En → R (List D)) : En → SR := fun ρ => .of (l ρ) ρ fun ds => match ds with
  | [d, d2] => .nx ((ρ.set i (some (.v d))).set j (some (.v d2)))
  | _ => .no
theorem fs_par {j : Nat} {y : Str} {px py pt : Pos} {kt k2 pt2} {l : En → R (List D)} (hc : X.calm = true) (hN : X.N.Nodup) (hi : X.N[i]? = some x) (hj : X.N[j]? = some y) (hij : i ≠ j)
    (hx : X.env.scope.names.lookup x = some .local) (hy : X.env.scope.names.lookup y = some .local) (ha : FA X W [a, b] l)
    (hw : swappedStores [.Tuple [.Name x px, .Name y py] kt pt] (.Tuple [a, b] k2 pt2) X.env = pure (some [x, y]))
    (hs : swapsWithSole [.Tuple [.Name x px, .Name y py] kt pt] (.Tuple [a, b] k2 pt2) pos.line X.env = pure false := by rfl) :
    FS X W (.Assign [.Tuple [.Name x px, .Name y py] kt pt] (.Tuple [a, b] k2 pt2) pos) (sPar i j l) := impS (ps_par hc hN hi hj hij hx hy ha hw hs) fun D σ H ⟨H0, A0, A, ρ, o, P⟩ => by
  refine ⟨H0, A0, A, ρ, o, (P.of o).mono fun ds H1 s1 P1 vs r => ?_⟩
  split at P1
  · cases r with
    | cons r1 t1 =>
      cases t1 with
      | cons r2 t2 =>
        cases t2
        exact ⟨_, _, rfl, P1 _ H1 A (((o.same s1).set i r1).set j r2) (Tr.same s1)⟩
  · exact P1.elim

/-! ### objects that the frame alone holds, changed -/
/-- the list that a name alone holds -/
def ownL (ρ : En) (i : Nat) : Option (Bool × List D) := match ρ[i]? with
  | some (some (.own t (.list ds))) => some (t, ds)
  | _ => none
def ownD (ρ : En) (i : Nat) : Option (Bool × List (D × D)) := match ρ[i]? with
  | some (some (.own t (.dict ds))) => some (t, ds)
  | _ => none
theorem ownL_some {ρ : En} {t : Bool} {ds : List D} (h : ownL ρ i = some (t, ds)) : ρ[i]? = some (some (.own t (.list ds))) := by
  unfold ownL at h
  split at h
  · rename_i e; cases h; exact e
  · cases h
theorem ownD_some {ρ : En} {t : Bool} {ds : List (D × D)} (h : ownD ρ i = some (t, ds)) : ρ[i]? = some (some (.own t (.dict ds))) := by
  unfold ownD at h
  split at h
  · rename_i e; cases h; exact e
  · cases h
def sAppend (i : Nat) (f : En → R D) : En → SR := fun ρ => match ownL ρ i with
  | some (t, ds) => .of (f ρ) ρ fun d => if ds.length < sizeLine then .nx (ρ.set i (some (.own t (.list (ds ++ [d]))))) else .no
  | none => .no
/-- x[k] = e on a list, in bounds -/
def sSetL (i : Nat) (fi f : En → R D) : En → SR := fun ρ => match ownL ρ i with
  | some (t, ds) => .of ((f ρ).bind fun d => (fi ρ).bind fun k => ofO ((toI k).bind fun k => (ixN ds.length k).map fun j => (j, d))) ρ fun q => .nx (ρ.set i (some (.own t (.list (ds.set q.1 q.2)))))
  | none => .no
/-- rows with one more, or one changed -/
def putD (p : D → Bool) (k v : D) (ds : List (D × D)) : List (D × D) :=
  if (ds.any fun kv => p kv.1) = true then ds.map (fun kv => if p kv.1 = true then (kv.1, v) else kv) else ds ++ [(k, v)]
def isK (k : Key) (d : D) : Bool := decide (keyD d = some k)
def isT (k : List Key) (d : D) : Bool := match d with
  | .tuple ds => decide (keysD ds = some k)
  | _ => false
def dPut (t : Bool) (ds : List (D × D)) (k v : D) : Option (List (D × D)) :=
  if ds.length < sizeLine then (match t, k with
    | false, k => (keyD k).map fun q => putD (isK q) k v ds
    | true, .tuple ks => ((keysD ks).bind fun q => if noZ q = true then some q else none).map fun q => putD (isT q) k v ds
    | _, _ => none) else none
/-- x[k] = e on a dict -/
def sSetD (i : Nat) (fi f : En → R D) : En → SR := fun ρ => match ownD ρ i with
  | some (t, ds) => .of ((f ρ).bind fun d => (fi ρ).bind fun k => ofO (dPut t ds k d)) ρ fun q => .nx (ρ.set i (some (.own t (.dict q))))
  | none => .no
end
end G

namespace G
open PySem PySem.Spec PyProof.Rows L2
section
variable {X : Cx} {W : WX} {e a b c o i e1 : Expr} {f fo fi : En → R D} {p : En → R Bool} {g g1 g2 : En → SR} {st : Stmt} {rest s1 s2 : List Stmt} {pos pos' p1 p2 p3 : Pos} {x : Str} {ix : Nat} {t : Bool}

/-! ### x.append(e), x[i] = e of objects that the frame alone holds -/
theorem fs_append {apos cpos : Pos} (hv : PE X (.Name x p1) (tVar ix)) (he : FE X W e f)
    (hbase : attributeBase (.Name x p1) "append" X.env (eval (.Name x p1) X.env) = eval (.Name x p1) X.env := by rfl)
    (hfew : ((backTo cpos (starEach (e :: []) X.env)).all (fun x => !x.1) && (backToKw cpos (keywordEach [] X.env)).all (fun x => x.1.isSome)
      && decide ((e :: []).length + ([] : List Keyword).length + (if ([] : List Keyword).isEmpty then 0 else 1) < 30)) = true := by rfl)
    (hline : (apos.endLine == cpos.line) = true := by rfl) (hs : starEach (e :: []) X.env = (false, eval e X.env) :: starEach [] X.env := by rfl) (hplain : (backTo cpos (starEach [] X.env)).any (·.1) = false := by rfl)
    (hsw : swapsWith (.Call (.Attribute (.Name x p1) "append" apos) [e] [] cpos) none pos.line X.env = pure false := by rfl) :
    FS X W (.Expr (.Call (.Attribute (.Name x p1) "append" apos) [e] [] cpos) pos) (sAppend ix f) := by
  refine impS (ps_expr (pe_bm PySem.F.plainAttrs_list PySem.F.slot_list_append PySem.F.type_list_append mt_append hv (pa_cons he pa_nil hs) hbase hfew hline hs hplain) hsw) fun Ee σ H ⟨H0, A0, A, ρ, ok, P⟩ => ?_
  unfold sAppend at P
  split at P
  · rename_i t ds hh
    have h := ownL_some hh
    obtain ⟨v, h1, l, e2, hl, n0, vs, h2, r⟩ := ok.slot ix _ h
    subst e2
    refine ⟨_, h1, Or.inl ⟨rfl, vs, SqL.of h2⟩, H0, A0, A, ρ, ok, (P.of ok).mono fun d H1 s1 P2 y hy => ?_⟩
    split at P2
    · rename_i hz
      refine ⟨l, vs, y, rfl, rfl, s1 _ _ h2, by rw [r.length]; exact hz, ?_⟩
      obtain ⟨o', u⟩ := (ok.same s1).mut (x := .lst (vs ++ [y])) (d' := .list (ds ++ [d])) h h1 ⟨_, upd_same, ((r.same s1).append (.one hy)).tr (Tr.write hl)⟩
      exact P2 _ _ A o' ((Tr.same s1).trans u)
    · exact P2.elim
  · exact P.elim
theorem PSet.or {t t' : TSet} (h : PSet X t) (h' : PSet X t') : PSet X (fun o i v H Q => t o i v H Q ∨ t' o i v H Q) := by
  intro pins s σ H o i v ov iv u Q I ro ri rv q
  rcases q with q | q
  · exact h pins s σ H o i v ov iv u Q I ro ri rv q
  · exact h' pins s σ H o i v ov iv u Q I ro ri rv q
theorem fs_setL (hv : PE X (.Name x p1) (tVar ix)) (hi : FE X W i fi) (he : FE X W e f)
    (ha : ∀ v, assign (.Subscript (.Name x p1) i p2) X.env v = (do
      let ov ← holding [v] (eval (.Name x p1) X.env)
      let iv ← holding [v, ov] (eval i X.env)
      standAt p2
      holding [v, ov, iv] (setItem ov iv v)
      release [v, ov, iv] []) := by intro _; rfl)
    (hs : swapsWithSole [.Subscript (.Name x p1) i p2] e pos.line X.env = pure false := by rfl) (hw : swappedStores [.Subscript (.Name x p1) i p2] e X.env = pure none := by rfl)
    (h1 : (assignEach [.Subscript (.Name x p1) i p2] X.env).map (·.2) = [assign (.Subscript (.Name x p1) i p2) X.env] := by rfl) :
    FS X W (.Assign [.Subscript (.Name x p1) i p2] e pos) (sSetL ix fi f) := by
  refine impS (ps_asg he (pg_sub hv hi set_list ha) hs hw h1) fun Ee σ H ⟨H0, A0, A, ρ, ok, P⟩ => ?_
  unfold sSetL at P
  split at P
  · rename_i t ds hh
    have h := ownL_some hh
    obtain ⟨v, h1, l, e2, hl, n0, vs, h2, r⟩ := ok.slot ix _ h
    subst e2
    refine ⟨H0, A0, A, ρ, ok, (P.of ok).bind.mono fun d H1 s1 P2 y hy => ⟨_, h1, H0, A0, A, ρ, ok.same s1, P2.bind.mono fun k H2 s2 P3 z hz => ?_⟩⟩
    obtain ⟨q, e3, P4⟩ := P3.ofO
    have P4 := P4 H2 (Same.refl _)
    obtain ⟨k', e4, e5⟩ := Option.bind_eq_some_iff.mp e3
    obtain ⟨j, e6, e7⟩ := Option.map_eq_some_iff.mp e5
    obtain rfl := toI_some e4
    subst e7
    refine ⟨l, vs, k', j, rfl, (RepB.of hz).int, s2 _ _ (s1 _ _ h2), by rw [r.length]; exact e6, ?_⟩
    obtain ⟨o', u⟩ := ((ok.same s1).same s2).mut (x := .lst (vs.set j y)) (d' := .list (ds.set j d)) h h1 ⟨_, upd_same, (RepL.set j ((r.same s1).same s2) (hy.same s2)).tr (Tr.write hl)⟩
    exact P4 _ _ A o' (((Tr.same s1).trans (Tr.same s2)).trans u)
  · exact P.elim
theorem any_repK {K : Frg} {H : Hp} {A : List Addr} {k : Key} : ∀ {kvs : List (Key × V)} {ds : List (D × D)}, RepK K H A kvs ds → (kvs.any fun kv => decide (kv.1 = k)) = (ds.any fun kv => isK k kv.1)
  | _, _, .nil => rfl
  | _, _, .cons (k := k') r t => by
    rw [List.any_cons, List.any_cons, any_repK t]
    congr 1
    show _ = decide (keyD (kD k') = some k)
    rw [keyD_kD]
    by_cases e : k' = k
    · subst e; simp
    · rw [decide_eq_false e, decide_eq_false (show ¬ some k' = some k from fun z => e (Option.some.inj z))]
theorem any_repT {K : Frg} {H : Hp} {A : List Addr} {k : List Key} : ∀ {kvs : List (List Key × V)} {ds : List (D × D)}, RepT K H A kvs ds → (kvs.any fun kv => decide (kv.1 = k)) = (ds.any fun kv => isT k kv.1)
  | _, _, .nil => rfl
  | _, _, .cons (k := k') r t => by
    rw [List.any_cons, List.any_cons, any_repT t]
    congr 1
    show _ = decide (keysD (k'.map kD) = some k)
    rw [keysD_map]
    by_cases e : k' = k
    · subst e; simp
    · rw [decide_eq_false e, decide_eq_false (show ¬ some k' = some k from fun z => e (Option.some.inj z))]
theorem map_repK {K : Frg} {H : Hp} {A : List Addr} {k : Key} {v : V} {d : D} (hv : Rep K H A v d) : ∀ {kvs : List (Key × V)} {ds : List (D × D)}, RepK K H A kvs ds → RepK K H A (kvs.map fun kv => if kv.1 = k then (kv.1, v) else kv) (ds.map fun kv => if isK k kv.1 = true then (kv.1, d) else kv)
  | _, _, .nil => .nil
  | _, _, .cons (k := k') r t => by
    rw [List.map_cons, List.map_cons]
    have e : isK k (kD k') = decide (k' = k) := by
      unfold isK
      rw [keyD_kD]
      by_cases e : k' = k
      · subst e; simp
      · rw [decide_eq_false e, decide_eq_false (show ¬ some k' = some k from fun z => e (Option.some.inj z))]
    by_cases q : k' = k
    · rw [if_pos (show k' = k from q), if_pos (show isK k (kD k') = true by rw [e]; exact decide_eq_true q)]
      exact .cons hv (map_repK hv t)
    · rw [if_neg (show ¬ k' = k from q), if_neg (show ¬ isK k (kD k') = true by rw [e]; simpa using q)]
      exact .cons r (map_repK hv t)
theorem map_repT {K : Frg} {H : Hp} {A : List Addr} {k : List Key} {v : V} {d : D} (hv : Rep K H A v d) : ∀ {kvs : List (List Key × V)} {ds : List (D × D)}, RepT K H A kvs ds → RepT K H A (kvs.map fun kv => if kv.1 = k then (kv.1, v) else kv) (ds.map fun kv => if isT k kv.1 = true then (kv.1, d) else kv)
  | _, _, .nil => .nil
  | _, _, .cons (k := k') r t => by
    rw [List.map_cons, List.map_cons]
    have e : isT k (.tuple (k'.map kD)) = decide (k' = k) := by
      show decide (keysD (k'.map kD) = some k) = _
      rw [keysD_map]
      by_cases e : k' = k
      · subst e; simp
      · rw [decide_eq_false e, decide_eq_false (show ¬ some k' = some k from fun z => e (Option.some.inj z))]
    by_cases q : k' = k
    · rw [if_pos (show k' = k from q), if_pos (show isT k (.tuple (k'.map kD)) = true by rw [e]; exact decide_eq_true q)]
      exact .cons hv (map_repT hv t)
    · rw [if_neg (show ¬ k' = k from q), if_neg (show ¬ isT k (.tuple (k'.map kD)) = true by rw [e]; simpa using q)]
      exact .cons r (map_repT hv t)
theorem RepK.append {K : Frg} {H : Hp} {A : List Addr} : ∀ {a b : List (Key × V)} {ds es : List (D × D)}, RepK K H A a ds → RepK K H A b es → RepK K H A (a ++ b) (ds ++ es)
  | _, _, _, _, .nil, s => s
  | _, _, _, _, .cons a t, s => .cons a (RepK.append t s)
theorem RepT.append {K : Frg} {H : Hp} {A : List Addr} : ∀ {a b : List (List Key × V)} {ds es : List (D × D)}, RepT K H A a ds → RepT K H A b es → RepT K H A (a ++ b) (ds ++ es)
  | _, _, _, _, .nil, s => s
  | _, _, _, _, .cons a t, s => .cons a (RepT.append t s)
theorem put_repK {K : Frg} {H : Hp} {A : List Addr} {k : Key} {v : V} {d : D} (hv : Rep K H A v d) {kvs : List (Key × V)} {ds : List (D × D)} (r : RepK K H A kvs ds) : RepK K H A (putK kvs k v) (putD (isK k) (kD k) d ds) := by
  unfold putK putD
  rw [any_repK r]
  split
  · exact map_repK hv r
  · exact r.append (.cons hv .nil)
theorem put_repT {K : Frg} {H : Hp} {A : List Addr} {k : List Key} {v : V} {d : D} (hv : Rep K H A v d) {kvs : List (List Key × V)} {ds : List (D × D)} (r : RepT K H A kvs ds) : RepT K H A (putK kvs k v) (putD (isT k) (.tuple (k.map kD)) d ds) := by
  unfold putK putD
  rw [any_repT r]
  split
  · exact map_repT hv r
  · exact r.append (.cons hv .nil)
theorem RepK.length {K : Frg} {H : Hp} {A : List Addr} : ∀ {a : List (Key × V)} {ds : List (D × D)}, RepK K H A a ds → a.length = ds.length
  | _, _, .nil => rfl
  | _, _, .cons _ t => by rw [List.length_cons, List.length_cons, RepK.length t]
theorem RepT.length {K : Frg} {H : Hp} {A : List Addr} : ∀ {a : List (List Key × V)} {ds : List (D × D)}, RepT K H A a ds → a.length = ds.length
  | _, _, .nil => rfl
  | _, _, .cons _ t => by rw [List.length_cons, List.length_cons, RepT.length t]
theorem fs_setD (hu : X.A.units + 1 < cLine) (hv : PE X (.Name x p1) (tVar ix)) (hi : FE X W i fi) (he : FE X W e f)
    (ha : ∀ v, assign (.Subscript (.Name x p1) i p2) X.env v = (do
      let ov ← holding [v] (eval (.Name x p1) X.env)
      let iv ← holding [v, ov] (eval i X.env)
      standAt p2
      holding [v, ov, iv] (setItem ov iv v)
      release [v, ov, iv] []) := by intro _; rfl)
    (hs : swapsWithSole [.Subscript (.Name x p1) i p2] e pos.line X.env = pure false := by rfl) (hw : swappedStores [.Subscript (.Name x p1) i p2] e X.env = pure none := by rfl)
    (h1 : (assignEach [.Subscript (.Name x p1) i p2] X.env).map (·.2) = [assign (.Subscript (.Name x p1) i p2) X.env] := by rfl) :
    FS X W (.Assign [.Subscript (.Name x p1) i p2] e pos) (sSetD ix fi f) := by
  refine impS (ps_asg he (pg_sub hv hi (set_dict hu) ha) hs hw h1) fun Ee σ H ⟨H0, A0, A, ρ, ok, P⟩ => ?_
  unfold sSetD at P
  split at P
  · rename_i t ds hh
    have h := ownD_some hh
    obtain ⟨v, h1, l, e2, hl, n0, hr⟩ := ok.slot ix _ h
    subst e2
    refine ⟨H0, A0, A, ρ, ok, (P.of ok).bind.mono fun d H1 s1 P2 y hy => ⟨_, h1, H0, A0, A, ρ, ok.same s1, P2.bind.mono fun k H2 s2 P3 z hz => ?_⟩⟩
    obtain ⟨q, e3, P4⟩ := P3.ofO
    have P4 := P4 H2 (Same.refl _)
    have hy2 := hy.same s2
    unfold dPut at e3
    split at e3
    · rename_i hlen
      rcases hr with ⟨rfl, kvs, h2, r⟩ | ⟨rfl, kvs, h2, r⟩
      · obtain ⟨k', e4, e5⟩ := Option.map_eq_some_iff.mp e3
        obtain rfl := keyD_some e4
        subst e5
        have ez : z = kV k' := by
          cases k' with
          | inl n => exact (RepB.of hz).int
          | inr n => exact (RepB.of hz).str
        have r2 : RepK X.K H2 A kvs ds := (r.tr (Tr.same s1)).tr (Tr.same s2)
        refine ⟨l, _, rfl, .inl ⟨kvs, k', s2 _ _ (s1 _ _ h2), ez, by rw [r.length]; exact hlen, rfl⟩, ?_⟩
        obtain ⟨o', u⟩ := ((ok.same s1).same s2).mut (x := .dK (putK kvs k' y)) (d' := .dict (putD (isK k') (kD k') d ds)) h h1 (.inl ⟨rfl, _, upd_same, (put_repK hy2 r2).tr (Tr.write hl)⟩)
        exact P4 _ _ A o' (((Tr.same s1).trans (Tr.same s2)).trans u)
      · cases k with
        | tuple ks =>
          obtain ⟨k', e4, e5⟩ := Option.map_eq_some_iff.mp (show ((keysD ks).bind _).map _ = some q from e3)
          obtain ⟨k2, e4, e6⟩ := Option.bind_eq_some_iff.mp e4
          split at e6
          rotate_left
          · cases e6
          rename_i hnz
          cases e6
          obtain rfl := keysD_some e4
          subst e5
          have r2 : RepT X.K H2 A kvs ds := (r.tr (Tr.same s1)).tr (Tr.same s2)
          cases hz with
          | tup nz hb rk =>
            rw [rep_key rk] at hb
            refine ⟨l, _, rfl, .inr ⟨kvs, k', _, s2 _ _ (s1 _ _ h2), rfl, hb, by rw [r.length]; exact hlen, rfl⟩, ?_⟩
            obtain ⟨o', u⟩ := ((ok.same s1).same s2).mut (x := .dT (putK kvs k' y)) (d' := .dict (putD (isT k') (.tuple (k'.map kD)) d ds)) h h1 (.inr ⟨rfl, _, upd_same, (put_repT hy2 r2).tr (Tr.write hl)⟩)
            exact P4 _ _ A o' (((Tr.same s1).trans (Tr.same s2)).trans u)
          | kt z rk =>
            rw [zt_key z rk] at hnz
            cases hnz
        | _ => cases e3
    · cases e3
  · exact P.elim

/-! ### loops -/
def loopL (tgt : TgF) (body : En → SR) : List D → En → SR
  | [], ρ => .nx ρ
  | d :: ds, ρ => match tgt d ρ with
    | none => .no
    | some ρ1 => match body ρ1 with
      | .nx ρ2 => loopL tgt body ds ρ2
      | .ct ρ2 => loopL tgt body ds ρ2
      | .bk ρ2 => .nx ρ2
      | r => r
def whileL (c : En → R Bool) (body : En → SR) : Nat → En → SR
  | 0, _ => .no
  | n + 1, ρ => .of (c ρ) ρ fun b => if b = true then (match body ρ with
      | .nx ρ2 => whileL c body n ρ2
      | .ct ρ2 => whileL c body n ρ2
      | .bk ρ2 => .nx ρ2
      | r => r) else .nx ρ
/-- an iterator that yields these data, one after another, as long as they stand -/
def WalkJ (K : Frg) (A : List Addr) (J : It) (H : Hp) (ds : List D) : Prop :=
  ∀ A' H', Tr A H A' H' → (∀ a ∈ A', H' a ≠ none) → (∀ (i : Nat) (d : D), ds[i]? = some d → J.go i H' ∧ ∀ x H'', J.yld i H' x H'' → Same H' H'' ∧ Rep K H'' A' x d) ∧ J.stop ds.length H'
def tFI (K : Frg) (mg : MgT) (W : WX) (f : En → R (List D)) : TI := fun σ H Rr => ∃ H0 A0 A ρ, Ok K H0 A0 A ρ σ H ∧ Post mg W σ H (fun ds H1 => ∀ J, WalkJ K A J H1 ds → Rr J H1) (f ρ)
abbrev FI (X : Cx) (W : WX) (tg iter : Expr) (f : En → R (List D)) : Prop := PI X tg iter (tFI X.K X.mg W f)
theorem impI {tg iter : Expr} {t t' : TI} (h : PI X tg iter t) (i : ∀ σ H Q, t' σ H Q → t σ H Q) : PI X tg iter t' := ⟨fun pins s σ H R I q => h.run pins s σ H R I (i _ _ _ q)⟩
def sFor (tgt : TgF) (l : En → R (List D)) (body : En → SR) : En → SR := fun ρ => .of (l ρ) ρ fun ds => loopL tgt body ds ρ
theorem fs_for {tg iter : Expr} {body : List Stmt} {l : En → R (List D)} {tgt : TgF} {gb : En → SR} {jx : List Nat} (hp : PassesOwn (model X.prog X.w) X.A X.env X.xe) (hc : X.calm = true) (hi : FI X W tg iter l) (hg : FG X tg jx tgt) (hb : FSs X W body gb)
    (hs : ∀ x, foldedSetIterable iter X.env x = pure x := by intro _; rfl) : FS X W (.For tg iter body [] pos) (sFor tgt l gb) := by
  refine impS (ps_for hp hc hi hg hb hs) fun Ee σ H ⟨H0, A0, A, ρ, ok, P⟩ => ?_
  refine ⟨H0, A0, A, ρ, ok, (P.of ok).mono fun ds H1 s1 P1 J hJ => ?_⟩
  refine ⟨fun i m σ2 H2 => m = ds.length - i ∧ i ≤ ds.length ∧ ∃ A2 ρ2, Ok X.K H0 A0 A2 ρ2 σ2 H2 ∧ Tr A H1 A2 H2 ∧ PostS X.K X.mg W H0 A0 A2 H2 Ee (loopL tgt gb (ds.drop i) ρ2), ⟨ds.length, rfl, Nat.zero_le _, A, ρ, ok.same s1, Tr.refl _ _, PostS.same (r := loopL tgt gb ds ρ) P1 s1⟩, ?_⟩
  rintro i m σ2 H2 ⟨rfl, hi, A2, ρ2, ok2, u2, P2⟩
  obtain ⟨hgo, hst⟩ := hJ A2 H2 u2 ok2.has
  by_cases hlt : i < ds.length
  · refine .inr ⟨(hgo i ds[i] (by simp [hlt])).1, fun σ' H' => ∃ A' ρ', Ok X.K H0 A0 A' ρ' σ' H' ∧ Tr A H1 A' H' ∧ PostS X.K X.mg W H0 A0 A' H' Ee (loopL tgt gb (ds.drop (i + 1)) ρ'), fun σ' H' ⟨A', ρ', h1, h2, h3⟩ => ⟨ds.length - (i + 1), by omega, rfl, hlt, A', ρ', h1, h2, h3⟩, fun x H' hy => ?_⟩
    obtain ⟨sx, rx⟩ := (hgo i ds[i] (by simp [hlt])).2 x H' hy
    rw [List.drop_eq_getElem_cons hlt] at P2
    unfold loopL at P2
    split at P2
    · exact P2.elim
    · rename_i ρ3 e3
      refine ⟨H0, A0, A2, ρ2, ds[i], ρ3, ok2.same sx, rx, e3, fun σ3 o3 _ => ⟨H0, A0, A2, ρ3, o3, ?_⟩⟩
      have u3 : Tr A H1 A2 H' := u2.trans (Tr.same sx)
      have back : ∀ (ρ4 : En), PostS X.K X.mg W H0 A0 A2 H2 Ee (loopL tgt gb (ds.drop (i + 1)) ρ4) → ∀ σ' H'' A', Ok X.K H0 A0 A' ρ4 σ' H'' → Tr A2 H' A' H'' → ∃ A' ρ', Ok X.K H0 A0 A' ρ' σ' H'' ∧ Tr A H1 A' H'' ∧ PostS X.K X.mg W H0 A0 A' H'' Ee (loopL tgt gb (ds.drop (i + 1)) ρ') :=
        fun ρ4 q σ' H'' A' o' t => ⟨A', ρ4, o', u3.trans t, PostS.tr q ((Tr.same sx).trans t)⟩
      cases hb : gb ρ3 with
      | nx ρ4 => rw [hb] at P2; exact fun σ' H'' A' o' t => back ρ4 P2 σ' H'' A' o' t
      | ct ρ4 => rw [hb] at P2; exact fun σ' H'' A' o' t => back ρ4 P2 σ' H'' A' o' t
      | bk ρ4 => rw [hb] at P2; exact fun σ' H'' A' o' t => P2 σ' H'' A' o' ((Tr.same sx).trans t)
      | rt d => rw [hb] at P2; exact P2
      | ex cc n ρ4 => rw [hb] at P2; exact fun u p σ' H'' A' o' t => P2 u p σ' H'' A' o' ((Tr.same sx).trans t)
      | no => rw [hb] at P2; exact P2
  · have e : i = ds.length := by omega
    subst e
    rw [List.drop_length] at P2
    exact .inl ⟨hst, P2 σ2 H2 A2 ok2 (Tr.refl _ _)⟩
def sWhile (n : Nat) (c : En → R Bool) (body : En → SR) : En → SR := whileL c body n
theorem fs_while {n : Nat} {body : List Stmt} {gb : En → SR} (hp : PassesOwn (model X.prog X.w) X.A X.env X.xe) (hc : FT X W c p) (hb : FSs X W body gb) : FS X W (.While c body [] pos) (sWhile n p gb) := by
  refine impS (ps_while hp hc hb) fun Ee σ H ⟨H0, A0, A, ρ, ok, P⟩ => ?_
  refine ⟨fun m σ2 H2 => ∃ A2 ρ2, Ok X.K H0 A0 A2 ρ2 σ2 H2 ∧ PostS X.K X.mg W H0 A0 A2 H2 Ee (whileL p gb m ρ2), ⟨n, A, ρ, ok, P⟩, ?_⟩
  rintro m σ2 H2 ⟨A2, ρ2, ok2, P2⟩
  cases m with
  | zero => exact P2.elim
  | succ m =>
    unfold whileL at P2
    refine ⟨H0, A0, A2, ρ2, ok2, (P2.of ok2).mono fun b H3 s3 P3 => ?_⟩
    cases b with
    | false => exact P3 σ2 H3 A2 (ok2.same s3) (Tr.same s3)
    | true =>
      refine ⟨fun σ' H' => ∃ A' ρ', Ok X.K H0 A0 A' ρ' σ' H' ∧ PostS X.K X.mg W H0 A0 A' H' Ee (whileL p gb m ρ'), fun σ' H' ⟨A', ρ', h1, h2⟩ => ⟨m, Nat.lt_succ_self _, A', ρ', h1, h2⟩, H0, A0, A2, ρ2, ok2.same s3, ?_⟩
      cases hb : gb ρ2 with
      | nx ρ4 => rw [hb] at P3; exact fun σ' H'' A' o' t => ⟨A', ρ4, o', PostS.tr (r := whileL p gb m ρ4) P3 ((Tr.same s3).trans t)⟩
      | ct ρ4 => rw [hb] at P3; exact fun σ' H'' A' o' t => ⟨A', ρ4, o', PostS.tr (r := whileL p gb m ρ4) P3 ((Tr.same s3).trans t)⟩
      | bk ρ4 => rw [hb] at P3; exact fun σ' H'' A' o' t => P3 σ' H'' A' o' ((Tr.same s3).trans t)
      | rt d => rw [hb] at P3; exact P3
      | ex cc n ρ4 => rw [hb] at P3; exact fun u p σ' H'' A' o' t => P3 u p σ' H'' A' o' ((Tr.same s3).trans t)
      | no => rw [hb] at P3; exact P3
end
end G

namespace G
open PySem PySem.Spec PyProof.Rows L2 RZ
section
variable {X : Cx} {W : WX} {e a b c o i elt tg iter tg1 iter1 : Expr} {ifs ifs1 : List Expr} {es : List Expr} {f fo fi : En → R D} {p p1 : En → R Bool} {l l1 : En → R (List D)} {tgt tgt1 : TgF} {pos pos' q1 q2 q3 : Pos} {x : Str}
theorem PI.or {t t' : TI} (h : PI X tg iter t) (h' : PI X tg iter t') : PI X tg iter (fun σ H R => t σ H R ∨ t' σ H R) := ⟨fun pins s σ H R I q => by
  rcases q with q | q
  · exact h.run pins s σ H R I q
  · exact h'.run pins s σ H R I q⟩

/-! ### what a for goes through -/
def cItems (f : En → R D) : En → R (List D) := fun ρ => (f ρ).bind fun d => ofO (itemsOf d)
theorem rep_listAt {K : Frg} {H H' : Hp} {A A' : List Addr} {v : V} {ds : List D} (r : Rep K H A v (.list ds)) : ∃ a vs, v = .ref a ∧ H a = some (.lst vs) ∧ RepL K H A vs ds ∧ a ∉ A := by
  cases r with
  | lst n h r => exact ⟨_, _, rfl, h, r, n⟩
theorem rep_tupAt {K : Frg} {H H' : Hp} {A A' : List Addr} {v : V} {ds : List D} (r : Rep K H A v (.tuple ds)) : ∃ a vs, v = .ref a ∧ SqT K H a vs ∧ RepL K H A vs ds ∧ True := by
  cases r with
  | tup n h r => exact ⟨_, _, rfl, SqT.of h, r, True.intro⟩
  | kt z r => exact ⟨_, _, rfl, .inr z.1, r, True.intro⟩
theorem sql_uniq {K : Frg} {H : Hp} {a : Addr} {vs : List V} {I : Nat} {x : V} (h : ∀ xs, SqL K H a xs → xs[I]? = some x) (e : H a = some (.lst vs)) : vs[I]? = some x := h vs (SqL.of e)
theorem walk_itl {K : Frg} {A : List Addr} {H : Hp} {a : Addr} {ds : List D} (r : Rep K H A (.ref a) (.list ds)) : WalkJ K A (Itl K a) H ds := fun A' H' u _ => by
  have r' := r.tr u
  obtain ⟨b, vs, e, h, rl, _⟩ := rep_listAt (H' := H') (A' := A') r'
  cases e
  refine ⟨fun i d hd => ?_, vs, SqL.of h, by rw [rl.length]; exact Nat.le_refl _⟩
  obtain ⟨v, h1, h2⟩ := rl.get hd
  refine ⟨⟨vs, v, SqL.of h, h1⟩, fun x H'' ⟨e2, y⟩ => ?_⟩
  subst e2
  have := sql_uniq y h
  rw [h1] at this
  cases this
  exact ⟨Same.refl _, h2⟩
theorem walk_itt {K : Frg} {A : List Addr} {H : Hp} {a : Addr} {ds : List D} (r : Rep K H A (.ref a) (.tuple ds)) : WalkJ K A (Itt K a) H ds := fun A' H' u _ => by
  have r' := r.tr u
  obtain ⟨b, vs, e, h, rl, _⟩ := rep_tupAt (H' := H') (A' := A') r'
  cases e
  refine ⟨fun i d hd => ?_, vs, h, by rw [rl.length]; exact Nat.le_refl _⟩
  obtain ⟨v, h1, h2⟩ := rl.get hd
  refine ⟨⟨vs, v, h, h1⟩, fun x H'' ⟨e2, y⟩ => ?_⟩
  subst e2
  have := y vs (h)
  rw [h1] at this
  cases this
  exact ⟨Same.refl _, h2⟩
theorem fi_items (he : FE X W e f) : FI X W tg e (cItems f) := impI (PI.or (pi_list he) (pi_tup he)) fun σ H Q ⟨H0, A0, A, ρ, ok, P⟩ => by
  have P1 := P.bind
  cases hf : f ρ with
  | no => rw [hf] at P1; exact P1.elim
  | ex cc n =>
    rw [hf] at P1
    exact .inl ⟨H0, A0, A, ρ, ok, by rw [hf]; exact P1⟩
  | ok d =>
    rw [hf] at P1
    have P2 : ∀ H1, Same H H1 → ∃ ds, itemsOf d = some ds ∧ ∀ J, WalkJ X.K A J H1 ds → Q J H1 := fun H1 s => by
      obtain ⟨ds, e1, e2⟩ := Post.ofO (P1 H1 s)
      exact ⟨ds, e1, e2 H1 (Same.refl _)⟩
    cases d with
    | list ds =>
      refine .inl ⟨H0, A0, A, ρ, ok, ?_⟩
      rw [hf]
      refine fun H1 s v r => ?_
      obtain ⟨a, vs, e, h, rl, _⟩ := rep_listAt (H' := H1) (A' := A) r
      subst e
      obtain ⟨ds', e1, q⟩ := P2 H1 s
      cases e1
      exact ⟨a, rfl, ⟨vs, SqL.of h⟩, q _ (walk_itl r)⟩
    | tuple ds =>
      refine .inr ⟨H0, A0, A, ρ, ok, ?_⟩
      rw [hf]
      refine fun H1 s v r => ?_
      obtain ⟨a, vs, e, h, rl, _⟩ := rep_tupAt (H' := H1) (A' := A) r
      subst e
      obtain ⟨ds', e1, q⟩ := P2 H1 s
      cases e1
      exact ⟨a, rfl, ⟨vs, h⟩, q _ (walk_itt r)⟩
    | _ =>
      obtain ⟨ds', e1, q⟩ := P2 H (Same.refl _)
      cases e1
/-- a, a + 1, .. : n of them -/
def rangeD (lo : Int) (n : Nat) : List D := (List.range n).map fun k => .int (lo + (k : Nat))
def dRange1 : List D → Option (List D)
  | [.int j] => if -(2 ^ 62) ≤ j ∧ j < 2 ^ 62 then some (rangeD 0 j.toNat) else none
  | _ => none
def dRange2 : List D → Option (List D)
  | [.int i, .int j] => if -(2 ^ 62) ≤ i ∧ i < 2 ^ 62 ∧ -(2 ^ 62) ≤ j ∧ j < 2 ^ 62 then some (rangeD i (j - i).toNat) else none
  | _ => none
def cIter (df : List D → Option (List D)) (l : En → R (List D)) : En → R (List D) := fun ρ => (l ρ).bind fun ds => ofO (df ds)
theorem walk_itr {K : Frg} {A : List Addr} {H : Hp} (lo : Int) (n : Nat) : WalkJ K A (Itr lo n) H (rangeD lo n) := fun A' H' u _ => by
  refine ⟨fun i d hd => ?_, by unfold rangeD; rw [List.length_map, List.length_range]; exact Nat.le_refl n⟩
  unfold rangeD at hd
  rw [List.getElem?_map] at hd
  obtain ⟨k, h1, h2⟩ := Option.map_eq_some_iff.mp hd
  have hk : i < n := by
    have := (List.getElem?_eq_some_iff.mp h1).1
    rwa [List.length_range] at this
  have e : k = i := by
    rw [List.getElem?_range hk] at h1
    exact (Option.some.inj h1).symm
  subst e
  subst h2
  refine ⟨hk, fun x H'' ⟨e2, y⟩ => ?_⟩
  subst e2
  subst y
  exact ⟨Same.refl _, .int _⟩
theorem fi_range1 (hg : Gl X "range") (hm : X.mg "range" = none) (ha : FAB X W [a] l) (hs : starEach [a] X.env = [(false, eval a X.env)] := by rfl) : FI X W tg (.Call (.Name "range" q1) [a] [] pos) (cIter dRange1 l) := impI (pi_range1 hg hm ha hs) fun σ H Q ⟨H0, A0, A, ρ, ok, P⟩ => by
  refine ⟨H0, A0, A, ρ, ok, P.bind.mono fun ds H1 s1 P1 vs hv => ?_⟩
  obtain ⟨es, e1, q⟩ := P1.ofO
  unfold dRange1 at e1
  split at e1
  · split at e1
    · rename_i hj
      cases e1
      obtain ⟨v, e2, h⟩ := pair1 hv
      obtain rfl := h.int
      exact ⟨_, e2, hj.1, hj.2, q H1 (Same.refl _) _ (walk_itr 0 _)⟩
    · cases e1
  · cases e1
theorem fi_range2 (hg : Gl X "range") (hm : X.mg "range" = none) (ha : FAB X W [a, b] l) (hs : starEach [a, b] X.env = [(false, eval a X.env), (false, eval b X.env)] := by rfl) (hs2 : starEach [b] X.env = [(false, eval b X.env)] := by rfl) :
    FI X W tg (.Call (.Name "range" q1) [a, b] [] pos) (cIter dRange2 l) := impI (pi_range2 hg hm ha hs hs2) fun σ H Q ⟨H0, A0, A, ρ, ok, P⟩ => by
  refine ⟨H0, A0, A, ρ, ok, P.bind.mono fun ds H1 s1 P1 vs hv => ?_⟩
  obtain ⟨es, e1, q⟩ := P1.ofO
  unfold dRange2 at e1
  split at e1
  · split at e1
    · rename_i hj
      cases e1
      obtain ⟨v, v2, e2, h, h2⟩ := pair2 hv
      obtain rfl := h.int
      obtain rfl := h2.int
      exact ⟨_, _, e2, hj, q H1 (Same.refl _) _ (walk_itr _ _)⟩
    · cases e1
  · cases e1
/-- with its place ahead -/
def enumL (k : Nat) : List D → List D
  | [] => []
  | d :: ds => .tuple [.int (k : Nat), d] :: enumL (k + 1) ds
theorem enumL_get : ∀ {ds : List D} {k i : Nat}, (enumL k ds)[i]? = ds[i]?.map fun d => .tuple [.int ((k + i : Nat) : Int), d]
  | [], _, _ => by simp [enumL]
  | d :: ds, k, 0 => by simp [enumL]
  | d :: ds, k, i + 1 => by
    unfold enumL
    rw [List.getElem?_cons_succ, List.getElem?_cons_succ, enumL_get, show k + 1 + i = k + (i + 1) by omega]
theorem enumL_length : ∀ (ds : List D) (k : Nat), (enumL k ds).length = ds.length
  | [], _ => rfl
  | d :: ds, k => by unfold enumL; rw [List.length_cons, List.length_cons, enumL_length ds]
def dEnum : List D → Option (List D)
  | [.list xs] => some (enumL 0 xs)
  | _ => none
theorem walk_ite {K : Frg} {A : List Addr} {H : Hp} {a : Addr} {ds : List D} (r : Rep K H A (.ref a) (.list ds)) : WalkJ K A (Ite K a) H (enumL 0 ds) := fun A' H' u hA => by
  have r' := r.tr u
  obtain ⟨b, vs, e, h, rl, _⟩ := rep_listAt (H' := H') (A' := A') r'
  cases e
  refine ⟨fun i d hd => ?_, vs, SqL.of h, by rw [rl.length, enumL_length]; exact Nat.le_refl _⟩
  rw [enumL_get] at hd
  obtain ⟨d1, h1, h2⟩ := Option.map_eq_some_iff.mp hd
  subst h2
  obtain ⟨v, h3, h4⟩ := rl.get h1
  refine ⟨⟨vs, v, SqL.of h, h3⟩, fun x H'' ⟨T, x1, e1, n, e2, y⟩ => ?_⟩
  subst e1
  subst e2
  have := sql_uniq y h
  rw [h3] at this
  cases this
  refine ⟨same_upd n, rep_tup (fun z => hA T z n) n (.cons ?_ (.one h4))⟩
  rw [Nat.zero_add]
  exact .int _
theorem fi_enum {elts : List Expr} {kk : Nat} {tpos : Pos} (hg : Gl X "enumerate") (hm : X.mg "enumerate" = none) (ha : FA X W [e] l) (hs : starEach [e] X.env = [(false, eval e X.env)] := by rfl) :
    FI X W (.Tuple elts kk tpos) (.Call (.Name "enumerate" q1) [e] [] pos) (cIter dEnum l) := impI (pi_enum hg hm ha hs) fun σ H Q ⟨H0, A0, A, ρ, ok, P⟩ => by
  refine ⟨H0, A0, A, ρ, ok, P.bind.mono fun ds H1 s1 P1 vs hv => ?_⟩
  obtain ⟨es, e1, q⟩ := P1.ofO
  unfold dEnum at e1
  split at e1
  · cases e1
    cases hv with
    | cons r t =>
      cases t
      obtain ⟨p, us, rfl, h1, rl, _⟩ := rep_listAt (H' := H1) (A' := A) r
      exact ⟨p, us, rfl, SqL.of h1, q H1 (Same.refl _) _ (walk_ite r)⟩
  · cases e1
def zipL : List D → List D → List D
  | a :: as, b :: bs => .tuple [a, b] :: zipL as bs
  | _, _ => []
theorem zipL_get : ∀ {as bs : List D} {i : Nat} {d : D}, (zipL as bs)[i]? = some d → ∃ x y, as[i]? = some x ∧ bs[i]? = some y ∧ d = .tuple [x, y]
  | [], _, _, _, h => by simp [zipL] at h
  | _ :: _, [], _, _, h => by simp [zipL] at h
  | a :: as, b :: bs, 0, d, h => ⟨a, b, rfl, rfl, by simpa [zipL] using h.symm⟩
  | a :: as, b :: bs, i + 1, d, h => by
    unfold zipL at h
    rw [List.getElem?_cons_succ] at h
    obtain ⟨x, y, h1, h2, h3⟩ := zipL_get h
    exact ⟨x, y, by rw [List.getElem?_cons_succ]; exact h1, by rw [List.getElem?_cons_succ]; exact h2, h3⟩
theorem zipL_length : ∀ (as bs : List D), (zipL as bs).length = min as.length bs.length
  | [], bs => by simp [zipL]
  | _ :: _, [] => by simp [zipL]
  | a :: as, b :: bs => by unfold zipL; rw [List.length_cons, List.length_cons, List.length_cons, zipL_length as bs]; omega
def dZip : List D → Option (List D)
  | [.list xs, .list ys] => some (zipL xs ys)
  | [.tuple xs, .tuple ys] => some (zipL xs ys)
  | _ => none
theorem walk_itz {K : Frg} {A : List Addr} {H : Hp} {a a2 : Addr} {ds es : List D} (r : Rep K H A (.ref a) (.list ds)) (r2 : Rep K H A (.ref a2) (.list es)) : WalkJ K A (Itz K a a2) H (zipL ds es) := fun A' H' u hA => by
  obtain ⟨b, vs, e, h, rl, _⟩ := rep_listAt (H' := H') (A' := A') (r.tr u)
  cases e
  obtain ⟨b, us, e, h', rl', _⟩ := rep_listAt (H' := H') (A' := A') (r2.tr u)
  cases e
  refine ⟨fun i d hd => ?_, vs, us, SqL.of h, SqL.of h', by rw [rl.length, rl'.length, zipL_length]; omega⟩
  obtain ⟨x, y, h1, h2, rfl⟩ := zipL_get hd
  obtain ⟨v, h3, h4⟩ := rl.get h1
  obtain ⟨v', h3', h4'⟩ := rl'.get h2
  refine ⟨⟨vs, us, v, v', SqL.of h, SqL.of h', h3, h3'⟩, fun x H'' ⟨T, x1, x2, e1, n, e2, y1, y2⟩ => ?_⟩
  subst e1
  subst e2
  have := sql_uniq y1 h
  rw [h3] at this
  cases this
  have := sql_uniq y2 h'
  rw [h3'] at this
  cases this
  exact ⟨same_upd n, rep_tup (fun z => hA T z n) n (.cons h4 (.one h4'))⟩
theorem walk_itzT {K : Frg} {A : List Addr} {H : Hp} {a a2 : Addr} {ds es : List D} (r : Rep K H A (.ref a) (.tuple ds)) (r2 : Rep K H A (.ref a2) (.tuple es)) : WalkJ K A (ItzT K a a2) H (zipL ds es) := fun A' H' u hA => by
  obtain ⟨b, vs, e, h, rl, _⟩ := rep_tupAt (H' := H') (A' := A') (r.tr u)
  cases e
  obtain ⟨b, us, e, h', rl', _⟩ := rep_tupAt (H' := H') (A' := A') (r2.tr u)
  cases e
  refine ⟨fun i d hd => ?_, vs, us, h, h', by rw [rl.length, rl'.length, zipL_length]; omega⟩
  obtain ⟨x, y, h1, h2, rfl⟩ := zipL_get hd
  obtain ⟨v, h3, h4⟩ := rl.get h1
  obtain ⟨v', h3', h4'⟩ := rl'.get h2
  refine ⟨⟨vs, us, v, v', h, h', h3, h3'⟩, fun x H'' ⟨T, x1, x2, e1, n, e2, y1, y2⟩ => ?_⟩
  subst e1
  subst e2
  have := y1 vs (h)
  rw [h3] at this
  cases this
  have := y2 us (h')
  rw [h3'] at this
  cases this
  exact ⟨same_upd n, rep_tup (fun z => hA T z n) n (.cons h4 (.one h4'))⟩
theorem repL1 {K : Frg} {H : Hp} {A : List Addr} {vs : List V} {d : D} (h : RepL K H A vs [d]) : ∃ v, vs = [v] ∧ Rep K H A v d := by
  cases h with
  | cons a t => cases t; exact ⟨_, rfl, a⟩
theorem repL2 {K : Frg} {H : Hp} {A : List Addr} {vs : List V} {d d2 : D} (h : RepL K H A vs [d, d2]) : ∃ v v2, vs = [v, v2] ∧ Rep K H A v d ∧ Rep K H A v2 d2 := by
  cases h with
  | cons a t =>
    obtain ⟨v2, rfl, b⟩ := repL1 t
    exact ⟨_, _, rfl, a, b⟩
theorem fi_zip {elts : List Expr} {kk : Nat} {tpos : Pos} (hg : Gl X "zip") (hm : X.mg "zip" = none) (ha : FA X W [a, b] l) (hs : starEach [a, b] X.env = (false, eval a X.env) :: starEach [b] X.env := by rfl) (hpl : (backTo pos (starEach [b] X.env)).any (·.1) = false := by rfl) :
    FI X W (.Tuple elts kk tpos) (.Call (.Name "zip" q1) [a, b] [] pos) (cIter dZip l) := impI (pi_zipA hg hm ha hs hpl) fun σ H Q ⟨H0, A0, A, ρ, ok, P⟩ => by
  refine ⟨H0, A0, A, ρ, ok, P.bind.mono fun ds H1 s1 P1 vs hv => ?_⟩
  obtain ⟨es, e1, q⟩ := P1.ofO
  unfold dZip at e1
  split at e1
  · cases e1
    obtain ⟨v, v2, rfl, r, r2⟩ := repL2 hv
    obtain ⟨p, us, rfl, h1, _⟩ := rep_listAt (H' := H1) (A' := A) r
    obtain ⟨p2, us2, rfl, h2, _⟩ := rep_listAt (H' := H1) (A' := A) r2
    exact ⟨p, p2, us, us2, rfl, .inl ⟨SqL.of h1, SqL.of h2, q H1 (Same.refl _) _ (walk_itz r r2)⟩⟩
  · cases e1
    obtain ⟨v, v2, rfl, r, r2⟩ := repL2 hv
    obtain ⟨p, us, rfl, h1, _⟩ := rep_tupAt (H' := H1) (A' := A) r
    obtain ⟨p2, us2, rfl, h2, _⟩ := rep_tupAt (H' := H1) (A' := A) r2
    exact ⟨p, p2, us, us2, rfl, .inr ⟨h1, h2, q H1 (Same.refl _) _ (walk_itzT r r2)⟩⟩
  · cases e1

/-! ### comprehensions -/
def wNo : WX := fun _ _ _ _ => False
def noX {α : Type} : R α → Option α
  | .ok a => some a
  | _ => none
@[simp] theorem noX_ok {α : Type} (a : α) : noX (R.ok a) = some a := rfl
theorem Post.noX {mg : MgT} {α : Type} {σ : St} {H : Hp} {P : α → Hp → Prop} {r : R α} {a : α} (h : G.noX r = some a) (q : ∀ H', Same H H' → P a H') : Post mg wNo σ H P r := by
  cases r with
  | ok b => cases h; exact q
  | ex c n => cases h
  | no => cases h
def cTrue : En → R Bool := fun _ => .ok true
abbrev FTs (X : Cx) (W : WX) (ifs : List Expr) (p : En → R Bool) : Prop := PTs X ifs (tFT X.K X.mg W p)
theorem impTs {ifs : List Expr} {t t' : TT} (h : PTs X ifs t) (i : ∀ σ H Q, t' σ H Q → t σ H Q) : PTs X ifs t' := ⟨fun pins s σ H Q I q => h.run pins s σ H Q I (i _ _ _ q)⟩
theorem fts_nil : FTs X W [] cTrue := impTs pts_nil fun σ H Q ⟨H0, A0, A, ρ, ok, P⟩ => Post.at (a := true) (P := fun b H' => Q b H') P
theorem fts_one {c : Expr} (h : FT X W c p) : FTs X W [c] p := pts_one h
def lcL (tgt : TgF) (p : En → R Bool) (f : En → R D) (ρ : En) : List D → Option (List D)
  | [] => some []
  | d :: ds => (tgt d ρ).bind fun ρ1 => (noX (p ρ1)).bind fun b => if b = true then (noX (f ρ1)).bind fun y => (lcL tgt p f ρ ds).map fun ys => y :: ys else lcL tgt p f ρ ds
def cLc (vs : List Nat) (l : En → R (List D)) (tgt : TgF) (p : En → R Bool) (f : En → R D) : En → R D := fun ρ => (l ρ).bind fun ds =>
  ofO ((lcL tgt p f (wipeE ρ vs) ds).bind fun ys => if ys.length ≤ sizeLine then some (.list ys) else none)
theorem lc_read {t : Bool} {own : List (Str × Nat)} {ix : List Nat} (hix : ∀ i ∈ ix, i ∈ own.map (·.2)) (σ : St) (H : Hp) (Q : VK) (hq : tFN X.K X.mg W t (cLc (own.map (·.2)) l tgt p f) σ H Q) :
    tLc (tFI X.K X.mg W l) (tFG X.K ix tgt) (tFT X.K X.mg wNo p) (tF X.K X.mg wNo f) (own.map (·.2)) σ H Q := by
  obtain ⟨H0, A0, A, ρ, ok, P⟩ := hq
  refine ⟨H0, A0, A, ρ, ok, P.bind.mono fun ds H1 s1 P1 J hJ L hL => ?_⟩
  obtain ⟨d, e1, q⟩ := P1.ofO
  obtain ⟨ys, e2, e3⟩ := Option.bind_eq_some_iff.mp e1
  split at e3
  rotate_left
  · cases e3
  rename_i hsz
  cases e3
  have hLa : H L = none := s1.free hL
  have ok1 := ok.same s1
  refine ⟨fun i m H2 => m = ds.length - i ∧ i ≤ ds.length ∧ Same H1 H2 ∧ ∃ vs ys1 ys2, H2 L = some (.lst vs) ∧ RepL X.K H2 (L :: A) vs ys1 ∧ lcL tgt p f (wipeE ρ (own.map (·.2))) (ds.drop i) = some ys2 ∧ ys = ys1 ++ ys2,
    ⟨ds.length, rfl, Nat.zero_le _, same_upd hL, [], [], ys, upd_same, .nil, e2, rfl⟩, ?_⟩
  rintro i m H2 ⟨rfl, hile, sm, vs, ys1, ys2, hLv, rl, el, ey⟩
  have okg : Ok X.K H0 (L :: A0) (L :: A) ρ σ H2 := ok1.grow sm hL (by rw [hLv]; intro z; cases z)
  have okw := okg.wipe (own.map (·.2))
  obtain ⟨hgo, hst⟩ := hJ (L :: A) H2 ⟨fun b x h _ => sm b x h, fun b hb => by
    rcases List.mem_cons.mp hb with rfl | hb
    · exact .inr hL
    · exact .inl hb⟩ okg.has
  by_cases hlt : i < ds.length
  · refine .inr ⟨(hgo i ds[i] (by simp [hlt])).1, fun H' => Same H1 H' ∧ ∃ vs ys1 ys2, H' L = some (.lst vs) ∧ RepL X.K H' (L :: A) vs ys1 ∧ lcL tgt p f (wipeE ρ (own.map (·.2))) (ds.drop (i + 1)) = some ys2 ∧ ys = ys1 ++ ys2,
      fun H' h => ⟨ds.length - (i + 1), by omega, rfl, hlt, h⟩, fun x H3 hy => ?_⟩
    obtain ⟨sx, rx⟩ := (hgo i ds[i] (by simp [hlt])).2 x H3 hy
    rw [List.drop_eq_getElem_cons hlt] at el
    unfold lcL at el
    obtain ⟨ρ1, g1, el⟩ := Option.bind_eq_some_iff.mp el
    obtain ⟨bb, g2, el⟩ := Option.bind_eq_some_iff.mp el
    refine ⟨H0, L :: A0, L :: A, wipeE ρ (own.map (·.2)), ds[i], ρ1, okw.same sx, rx, g1, fun σ2 o2 ag => ⟨(wipe_agree hix ag).trans wipe_wipe, H0, L :: A0, L :: A, ρ1, o2, Post.noX g2 fun H4 s4 => ?_⟩⟩
    cases bb with
    | false =>
      rw [if_neg (by decide)] at el
      rw [if_neg (by decide)]
      exact ⟨(sm.trans sx).trans s4, vs, ys1, ys2, s4 _ _ (sx _ _ hLv), (rl.same sx).same s4, el, ey⟩
    | true =>
      rw [if_pos rfl] at el
      rw [if_pos rfl]
      obtain ⟨y, g3, el⟩ := Option.bind_eq_some_iff.mp el
      obtain ⟨zs, g4, g5⟩ := Option.map_eq_some_iff.mp el
      subst g5
      refine ⟨H0, L :: A0, L :: A, ρ1, o2.same s4, Post.noX g3 fun H5 s5 v hv => ⟨vs, s5 _ _ (s4 _ _ (sx _ _ hLv)), ?_, fun b z hb => ?_, vs ++ [v], ys1 ++ [y], zs, upd_same, ((((rl.same sx).same s4).same s5).append (.one hv)).tr (Tr.write List.mem_cons_self), g4, by rw [ey]; simp⟩⟩
      · rw [rl.length]
        have : ys.length = ys1.length + (y :: zs).length := by rw [ey, List.length_append]
        rw [List.length_cons] at this
        omega
      · rw [upd_ne (ne_of_none hb hL)]
        exact s5 _ _ (s4 _ _ (sx _ _ (sm _ _ hb)))
  · have e : i = ds.length := by omega
    subst e
    rw [List.drop_length] at el
    cases el
    rw [List.append_nil] at ey
    subst ey
    exact .inl ⟨hst, q H2 sm _ ⟨L, rfl, hLa, vs, hLv, rl⟩⟩
theorem fn_lc {t : Bool} {scope : Scope} {own : List (Str × Nat)} {ix : List Nat} (hc : X.calm = true) (hN : X.N.Nodup) (hi : FI X W tg iter l) (okb : BlkOk X.N X.env.scope scope own)
    (hg : ∀ (s : Shared) (H : Hp) (C : Addr) (cl : List (Str × Addr)) (fp : List Addr), FG (X.blk s H scope (compEnvC scope cl C X.env) fp) tg ix tgt) (hix : ∀ i ∈ ix, i ∈ own.map (·.2))
    (ht : ∀ (s : Shared) (H : Hp) (C : Addr) (cl : List (Str × Addr)) (fp : List Addr), FTs (X.blk s H scope (compEnvC scope cl C X.env) fp) wNo ifs p)
    (he : ∀ (s : Shared) (H : Hp) (C : Addr) (cl : List (Str × Addr)) (fp : List Addr), FE (X.blk s H scope (compEnvC scope cl C X.env) fp) wNo elt f) (hs : ∀ x, foldedSetIterable iter X.env x = pure x := by intro _; rfl) :
    FN X W t (.ListComp elt [⟨tg, iter, ifs, 0⟩] scope pos) (cLc (own.map (·.2)) l tgt p f) :=
  impE (pe_lc (g := tFG X.K ix tgt) (tt := tFT X.K X.mg wNo p) (te := tF X.K X.mg wNo f) hc hN hi okb hg ht he hs) (lc_read hix)
theorem fs_setLcN {t : Bool} {i : Nat} {y : Str} {py spos : Pos} {scope : Scope} {own : List (Str × Nat)} {ix : List Nat} (hc : X.calm = true) (hN : X.N.Nodup) (hy : X.N[i]? = some y) (hyl : X.env.scope.names.lookup y = some .local) (hsw : swapsWith (.ListComp elt [⟨tg, iter, ifs, 0⟩] scope pos) (some (.Name y py)) spos.line X.env = pure true) (hi : FI X W tg iter l) (okb : BlkOk X.N X.env.scope scope own)
    (hg : ∀ (s : Shared) (H : Hp) (C : Addr) (cl : List (Str × Addr)) (fp : List Addr), FG (X.blk s H scope (compEnvC scope cl C X.env) fp) tg ix tgt) (hix : ∀ i ∈ ix, i ∈ own.map (·.2))
    (ht : ∀ (s : Shared) (H : Hp) (C : Addr) (cl : List (Str × Addr)) (fp : List Addr), FTs (X.blk s H scope (compEnvC scope cl C X.env) fp) wNo ifs p)
    (he : ∀ (s : Shared) (H : Hp) (C : Addr) (cl : List (Str × Addr)) (fp : List Addr), FE (X.blk s H scope (compEnvC scope cl C X.env) fp) wNo elt f) (hs : ∀ x, foldedSetIterable iter X.env x = pure x := by intro _; rfl) :
    FS X W (.Assign [.Name y py] (.ListComp elt [⟨tg, iter, ifs, 0⟩] scope pos) spos) (sSetN i t (cLc (own.map (·.2)) l tgt p f)) := impS (ps_setLc (g := tFG X.K ix tgt) (tt := tFT X.K X.mg wNo p) (te := tF X.K X.mg wNo f) hc hN hy hyl hsw hi okb hg ht he hs) fun D σ H ⟨H0, A0, A, ρ, o, P⟩ => lc_read (t := t) hix σ H _ ⟨H0, A0, A, ρ, o, (P.of o).mono fun d H1 s1 P1 v ⟨a, e, n, r⟩ => by
    subst e
    exact P1 _ H1 (a :: A) (o.setOwn s1 i n r) ⟨fun b x h _ => s1 b x h, fun b hb => by
      rcases List.mem_cons.mp hb with rfl | hb
      · exact .inr n
      · exact .inl hb⟩⟩
theorem fs_setLcV {i : Nat} {y : Str} {py spos : Pos} {scope : Scope} {own : List (Str × Nat)} {ix : List Nat} (hc : X.calm = true) (hN : X.N.Nodup) (hy : X.N[i]? = some y) (hyl : X.env.scope.names.lookup y = some .local) (hsw : swapsWith (.ListComp elt [⟨tg, iter, ifs, 0⟩] scope pos) (some (.Name y py)) spos.line X.env = pure true) (hi : FI X W tg iter l) (okb : BlkOk X.N X.env.scope scope own)
    (hg : ∀ (s : Shared) (H : Hp) (C : Addr) (cl : List (Str × Addr)) (fp : List Addr), FG (X.blk s H scope (compEnvC scope cl C X.env) fp) tg ix tgt) (hix : ∀ i ∈ ix, i ∈ own.map (·.2))
    (ht : ∀ (s : Shared) (H : Hp) (C : Addr) (cl : List (Str × Addr)) (fp : List Addr), FTs (X.blk s H scope (compEnvC scope cl C X.env) fp) wNo ifs p)
    (he : ∀ (s : Shared) (H : Hp) (C : Addr) (cl : List (Str × Addr)) (fp : List Addr), FE (X.blk s H scope (compEnvC scope cl C X.env) fp) wNo elt f) (hs : ∀ x, foldedSetIterable iter X.env x = pure x := by intro _; rfl) :
    FS X W (.Assign [.Name y py] (.ListComp elt [⟨tg, iter, ifs, 0⟩] scope pos) spos) (sSet i (cLc (own.map (·.2)) l tgt p f)) := impS (ps_setLc (g := tFG X.K ix tgt) (tt := tFT X.K X.mg wNo p) (te := tF X.K X.mg wNo f) hc hN hy hyl hsw hi okb hg ht he hs) fun D σ H ⟨H0, A0, A, ρ, o, P⟩ => lc_read (t := false) hix σ H _ ⟨H0, A0, A, ρ, o, (P.of o).mono fun d H1 s1 P1 v ⟨a, e, n, r⟩ => by
    subst e
    exact P1 _ H1 A ((o.same s1).set i (r.free (fun z => o.has a z n) fun b hb => List.mem_cons_of_mem _ hb)) (Tr.same s1)⟩
def lcL2 (tgt : TgF) (p : En → R Bool) (l1 : En → R (List D)) (vs1 : List Nat) (tgt1 : TgF) (p1 : En → R Bool) (f : En → R D) (ρ : En) : List D → Option (List D)
  | [] => some []
  | d :: ds => (tgt d ρ).bind fun ρ1 => (noX (p ρ1)).bind fun b => if b = true then (noX (l1 ρ1)).bind fun es => (lcL tgt1 p1 f (wipeE ρ1 vs1) es).bind fun ys => (lcL2 tgt p l1 vs1 tgt1 p1 f ρ ds).map fun zs => ys ++ zs
    else lcL2 tgt p l1 vs1 tgt1 p1 f ρ ds
def cLc2 (vs vs1 : List Nat) (l : En → R (List D)) (tgt : TgF) (p : En → R Bool) (l1 : En → R (List D)) (tgt1 : TgF) (p1 : En → R Bool) (f : En → R D) : En → R D := fun ρ => (l ρ).bind fun ds =>
  ofO ((lcL2 tgt p l1 vs1 tgt1 p1 f (wipeE ρ vs) ds).bind fun ys => if ys.length ≤ sizeLine then some (.list ys) else none)
theorem lc2_read {t : Bool} {own : List (Str × Nat)} {vs1 ix ix1 : List Nat} (hix : ∀ i ∈ ix, i ∈ own.map (·.2)) (hix1 : ∀ i ∈ ix1, i ∈ vs1) (σ : St) (H : Hp) (Q : VK) (hq : tFN X.K X.mg W t (cLc2 (own.map (·.2)) vs1 l tgt p l1 tgt1 p1 f) σ H Q) :
    tLc2 (tFI X.K X.mg W l) (tFG X.K ix tgt) (tFT X.K X.mg wNo p) (tFI X.K X.mg wNo l1) (tFG X.K ix1 tgt1) (tFT X.K X.mg wNo p1) (tF X.K X.mg wNo f) (own.map (·.2)) vs1 σ H Q := by
  obtain ⟨H0, A0, A, ρ, ok, P⟩ := hq
  refine ⟨H0, A0, A, ρ, ok, P.bind.mono fun ds H1 s1 P1 J hJ L hL => ?_⟩
  obtain ⟨d, e1, q⟩ := P1.ofO
  obtain ⟨ys, e2, e3⟩ := Option.bind_eq_some_iff.mp e1
  split at e3
  rotate_left
  · cases e3
  rename_i hsz
  cases e3
  have hLa : H L = none := s1.free hL
  have ok1 := ok.same s1
  refine ⟨fun i m H2 => m = ds.length - i ∧ i ≤ ds.length ∧ Same H1 H2 ∧ ∃ vs ys1 ys2, H2 L = some (.lst vs) ∧ RepL X.K H2 (L :: A) vs ys1 ∧ lcL2 tgt p l1 vs1 tgt1 p1 f (wipeE ρ (own.map (·.2))) (ds.drop i) = some ys2 ∧ ys = ys1 ++ ys2,
    ⟨ds.length, rfl, Nat.zero_le _, same_upd hL, [], [], ys, upd_same, .nil, e2, rfl⟩, ?_⟩
  rintro i m H2 ⟨rfl, hile, sm, vs, ys1, ys2, hLv, rl, el, ey⟩
  have okg : Ok X.K H0 (L :: A0) (L :: A) ρ σ H2 := ok1.grow sm hL (by rw [hLv]; intro z; cases z)
  have okw := okg.wipe (own.map (·.2))
  have trL : ∀ {H3 : Hp}, Same H1 H3 → Tr A H1 (L :: A) H3 := fun {H3} s3 => ⟨fun b x h _ => s3 b x h, fun b hb => by
    rcases List.mem_cons.mp hb with rfl | hb
    · exact .inr hL
    · exact .inl hb⟩
  obtain ⟨hgo, hst⟩ := hJ (L :: A) H2 (trL sm) okg.has
  by_cases hlt : i < ds.length
  · refine .inr ⟨(hgo i ds[i] (by simp [hlt])).1, fun H' => Same H1 H' ∧ ∃ vs ys1 ys2, H' L = some (.lst vs) ∧ RepL X.K H' (L :: A) vs ys1 ∧ lcL2 tgt p l1 vs1 tgt1 p1 f (wipeE ρ (own.map (·.2))) (ds.drop (i + 1)) = some ys2 ∧ ys = ys1 ++ ys2,
      fun H' h => ⟨ds.length - (i + 1), by omega, rfl, hlt, h⟩, fun x H3 hy => ?_⟩
    obtain ⟨sx, rx⟩ := (hgo i ds[i] (by simp [hlt])).2 x H3 hy
    rw [List.drop_eq_getElem_cons hlt] at el
    unfold lcL2 at el
    obtain ⟨ρ1, g1, el⟩ := Option.bind_eq_some_iff.mp el
    obtain ⟨bb, g2, el⟩ := Option.bind_eq_some_iff.mp el
    refine ⟨H0, L :: A0, L :: A, wipeE ρ (own.map (·.2)), ds[i], ρ1, okw.same sx, rx, g1, fun σ2 o2 ag => ⟨(wipe_agree hix ag).trans wipe_wipe, H0, L :: A0, L :: A, ρ1, o2, Post.noX g2 fun H4 s4 => ?_⟩⟩
    cases bb with
    | false =>
      rw [if_neg (by decide)] at el
      rw [if_neg (by decide)]
      exact ⟨(sm.trans sx).trans s4, vs, ys1, ys2, s4 _ _ (sx _ _ hLv), (rl.same sx).same s4, el, ey⟩
    | true =>
      rw [if_pos rfl] at el
      rw [if_pos rfl]
      obtain ⟨es, g3, el⟩ := Option.bind_eq_some_iff.mp el
      obtain ⟨us, g4, el⟩ := Option.bind_eq_some_iff.mp el
      obtain ⟨zs, g5, g6⟩ := Option.map_eq_some_iff.mp el
      subst g6
      refine ⟨H0, L :: A0, L :: A, ρ1, o2.same s4, Post.noX g3 fun H5 s5 J1 hJ1 => ?_⟩
      have sm5 : Same H1 H5 := ((sm.trans sx).trans s4).trans s5
      -- the inner loop: us are told already by ws1, still to be told ws2
      refine ⟨fun j k H6 => k = es.length - j ∧ j ≤ es.length ∧ Same H1 H6 ∧ Tr (L :: A) H5 (L :: A) H6 ∧ Ok X.K H0 (L :: A0) (L :: A) ρ1 σ2 H6 ∧ ∃ vs ws1 ws2, H6 L = some (.lst vs) ∧ RepL X.K H6 (L :: A) vs (ys1 ++ ws1) ∧ lcL tgt1 p1 f (wipeE ρ1 vs1) (es.drop j) = some ws2 ∧ us = ws1 ++ ws2,
        ⟨es.length, rfl, Nat.zero_le _, sm5, Tr.refl _ _, (o2.same s4).same s5, vs, [], us, s5 _ _ (s4 _ _ (sx _ _ hLv)), by rw [List.append_nil]; exact ((rl.same sx).same s4).same s5, g4, rfl⟩, ?_⟩
      rintro j k H6 ⟨rfl, hjle, sm6, u6, o6, vs6, ws1, ws2, hLv6, rl6, el6, ey6⟩
      obtain ⟨hgo1, hst1⟩ := hJ1 (L :: A) H6 u6 o6.has
      by_cases hlt1 : j < es.length
      · refine .inr ⟨(hgo1 j es[j] (by simp [hlt1])).1, fun H' => Same H1 H' ∧ Tr (L :: A) H5 (L :: A) H' ∧ Ok X.K H0 (L :: A0) (L :: A) ρ1 σ2 H' ∧ ∃ vs ws1 ws2, H' L = some (.lst vs) ∧ RepL X.K H' (L :: A) vs (ys1 ++ ws1) ∧ lcL tgt1 p1 f (wipeE ρ1 vs1) (es.drop (j + 1)) = some ws2 ∧ us = ws1 ++ ws2,
          fun H' h => ⟨es.length - (j + 1), by omega, rfl, hlt1, h⟩, fun x1 H7 hy1 => ?_⟩
        obtain ⟨sx1, rx1⟩ := (hgo1 j es[j] (by simp [hlt1])).2 x1 H7 hy1
        rw [List.drop_eq_getElem_cons hlt1] at el6
        unfold lcL at el6
        obtain ⟨ρ2, k1, el6⟩ := Option.bind_eq_some_iff.mp el6
        obtain ⟨b2, k2, el6⟩ := Option.bind_eq_some_iff.mp el6
        refine ⟨H0, L :: A0, L :: A, wipeE ρ1 vs1, es[j], ρ2, (o6.same sx1).wipe vs1, rx1, k1, fun σ3 o3 ag1 => ⟨(wipe_agree hix1 ag1).trans wipe_wipe, H0, L :: A0, L :: A, ρ2, o3, Post.noX k2 fun H8 s8 => ?_⟩⟩
        cases b2 with
        | false =>
          rw [if_neg (by decide)] at el6
          rw [if_neg (by decide)]
          exact ⟨(sm6.trans sx1).trans s8, (u6.trans (Tr.same sx1)).trans (Tr.same s8), (o6.same sx1).same s8, vs6, ws1, ws2, s8 _ _ (sx1 _ _ hLv6), (rl6.same sx1).same s8, el6, ey6⟩
        | true =>
          rw [if_pos rfl] at el6
          rw [if_pos rfl]
          obtain ⟨y, k3, el6⟩ := Option.bind_eq_some_iff.mp el6
          obtain ⟨xs, k4, k5⟩ := Option.map_eq_some_iff.mp el6
          subst k5
          refine ⟨H0, L :: A0, L :: A, ρ2, o3.same s8, Post.noX k3 fun H9 s9 v hv => ⟨vs6, s9 _ _ (s8 _ _ (sx1 _ _ hLv6)), ?_, fun b z hb => ?_, ?_, ?_, vs6 ++ [v], ws1 ++ [y], xs, upd_same, ?_, k4, by rw [ey6]; simp⟩⟩
          · rw [rl6.length]
            have h1 : ys.length = ys1.length + (us ++ zs).length := by rw [ey, List.length_append]
            rw [ey6] at h1
            simp only [List.length_append, List.length_cons] at h1 ⊢
            omega
          · rw [upd_ne (ne_of_none hb hL)]
            exact s9 _ _ (s8 _ _ (sx1 _ _ (sm6 _ _ hb)))
          · exact ((((u6.trans (Tr.same sx1)).trans (Tr.same s8)).trans (Tr.same s9))).trans (Tr.write List.mem_cons_self)
          · exact ((((o6.same sx1).same s8).same s9)).touch List.mem_cons_self (ok.ext.free hLa)
          · rw [← List.append_assoc]
            exact (((((rl6.same sx1).same s8).same s9)).append (.one hv)).tr (Tr.write List.mem_cons_self)
      · have e : j = es.length := by omega
        subst e
        rw [List.drop_length] at el6
        cases el6
        rw [List.append_nil] at ey6
        subst ey6
        exact .inl ⟨hst1, sm6, vs6, ys1 ++ us, zs, hLv6, rl6, g5, by rw [ey]; simp⟩
  · have e : i = ds.length := by omega
    subst e
    rw [List.drop_length] at el
    cases el
    rw [List.append_nil] at ey
    subst ey
    exact .inl ⟨hst, q H2 sm _ ⟨L, rfl, hLa, vs, hLv, rl⟩⟩
theorem fn_lc2 {t : Bool} {scope : Scope} {own : List (Str × Nat)} {vs1 ix ix1 : List Nat} (hc : X.calm = true) (hN : X.N.Nodup) (hi : FI X W tg iter l) (okb : BlkOk X.N X.env.scope scope own) (hv1 : ∀ i ∈ vs1, i ∈ own.map (·.2))
    (hg : ∀ (s : Shared) (H : Hp) (C : Addr) (cl : List (Str × Addr)) (fp : List Addr), FG (X.blk s H scope (compEnvC scope cl C X.env) fp) tg ix tgt) (hix : ∀ i ∈ ix, i ∈ own.map (·.2))
    (ht : ∀ (s : Shared) (H : Hp) (C : Addr) (cl : List (Str × Addr)) (fp : List Addr), FTs (X.blk s H scope (compEnvC scope cl C X.env) fp) wNo ifs p)
    (hi1 : ∀ (s : Shared) (H : Hp) (C : Addr) (cl : List (Str × Addr)) (fp : List Addr), FI (X.blk s H scope (compEnvC scope cl C X.env) fp) wNo tg1 iter1 l1)
    (hg1 : ∀ (s : Shared) (H : Hp) (C : Addr) (cl : List (Str × Addr)) (fp : List Addr), FG (X.blk s H scope (compEnvC scope cl C X.env) fp) tg1 ix1 tgt1) (hix1 : ∀ i ∈ ix1, i ∈ vs1)
    (ht1 : ∀ (s : Shared) (H : Hp) (C : Addr) (cl : List (Str × Addr)) (fp : List Addr), FTs (X.blk s H scope (compEnvC scope cl C X.env) fp) wNo ifs1 p1)
    (he : ∀ (s : Shared) (H : Hp) (C : Addr) (cl : List (Str × Addr)) (fp : List Addr), FE (X.blk s H scope (compEnvC scope cl C X.env) fp) wNo elt f) (hs : ∀ x, foldedSetIterable iter X.env x = pure x := by intro _; rfl) (hs1 : ∀ env x, foldedSetIterable iter1 env x = pure x := by intro _ _; rfl) :
    FN X W t (.ListComp elt [⟨tg, iter, ifs, 0⟩, ⟨tg1, iter1, ifs1, 0⟩] scope pos) (cLc2 (own.map (·.2)) vs1 l tgt p l1 tgt1 p1 f) :=
  impE (pe_lc2 (g := tFG X.K ix tgt) (tt := tFT X.K X.mg wNo p) (wi1 := tFI X.K X.mg wNo l1) (g1 := tFG X.K ix1 tgt1) (tt1 := tFT X.K X.mg wNo p1) (te := tF X.K X.mg wNo f) hc hN hi okb hv1 hg ht hi1 hg1 ht1 he hs hs1) (lc2_read hix hix1)
theorem fs_setLc2N {t : Bool} {i : Nat} {y : Str} {py spos : Pos} {scope : Scope} {own : List (Str × Nat)} {vs1 ix ix1 : List Nat} (hc : X.calm = true) (hN : X.N.Nodup) (hy : X.N[i]? = some y) (hyl : X.env.scope.names.lookup y = some .local) (hsw : swapsWith (.ListComp elt [⟨tg, iter, ifs, 0⟩, ⟨tg1, iter1, ifs1, 0⟩] scope pos) (some (.Name y py)) spos.line X.env = pure true) (hi : FI X W tg iter l) (okb : BlkOk X.N X.env.scope scope own) (hv1 : ∀ i ∈ vs1, i ∈ own.map (·.2))
    (hg : ∀ (s : Shared) (H : Hp) (C : Addr) (cl : List (Str × Addr)) (fp : List Addr), FG (X.blk s H scope (compEnvC scope cl C X.env) fp) tg ix tgt) (hix : ∀ i ∈ ix, i ∈ own.map (·.2))
    (ht : ∀ (s : Shared) (H : Hp) (C : Addr) (cl : List (Str × Addr)) (fp : List Addr), FTs (X.blk s H scope (compEnvC scope cl C X.env) fp) wNo ifs p)
    (hi1 : ∀ (s : Shared) (H : Hp) (C : Addr) (cl : List (Str × Addr)) (fp : List Addr), FI (X.blk s H scope (compEnvC scope cl C X.env) fp) wNo tg1 iter1 l1)
    (hg1 : ∀ (s : Shared) (H : Hp) (C : Addr) (cl : List (Str × Addr)) (fp : List Addr), FG (X.blk s H scope (compEnvC scope cl C X.env) fp) tg1 ix1 tgt1) (hix1 : ∀ i ∈ ix1, i ∈ vs1)
    (ht1 : ∀ (s : Shared) (H : Hp) (C : Addr) (cl : List (Str × Addr)) (fp : List Addr), FTs (X.blk s H scope (compEnvC scope cl C X.env) fp) wNo ifs1 p1)
    (he : ∀ (s : Shared) (H : Hp) (C : Addr) (cl : List (Str × Addr)) (fp : List Addr), FE (X.blk s H scope (compEnvC scope cl C X.env) fp) wNo elt f) (hs : ∀ x, foldedSetIterable iter X.env x = pure x := by intro _; rfl) (hs1 : ∀ env x, foldedSetIterable iter1 env x = pure x := by intro _ _; rfl) :
    FS X W (.Assign [.Name y py] (.ListComp elt [⟨tg, iter, ifs, 0⟩, ⟨tg1, iter1, ifs1, 0⟩] scope pos) spos) (sSetN i t (cLc2 (own.map (·.2)) vs1 l tgt p l1 tgt1 p1 f)) := impS (ps_setLc2 (g := tFG X.K ix tgt) (tt := tFT X.K X.mg wNo p) (wi1 := tFI X.K X.mg wNo l1) (g1 := tFG X.K ix1 tgt1) (tt1 := tFT X.K X.mg wNo p1) (te := tF X.K X.mg wNo f) hc hN hy hyl hsw hi okb hv1 hg ht hi1 hg1 ht1 he hs hs1) fun D σ H ⟨H0, A0, A, ρ, o, P⟩ => lc2_read (t := t) hix hix1 σ H _ ⟨H0, A0, A, ρ, o, (P.of o).mono fun d H1 s1 P1 v ⟨a, e, n, r⟩ => by
    subst e
    exact P1 _ H1 (a :: A) (o.setOwn s1 i n r) ⟨fun b x h _ => s1 b x h, fun b hb => by
      rcases List.mem_cons.mp hb with rfl | hb
      · exact .inr n
      · exact .inl hb⟩⟩
theorem fs_setLc2V {i : Nat} {y : Str} {py spos : Pos} {scope : Scope} {own : List (Str × Nat)} {vs1 ix ix1 : List Nat} (hc : X.calm = true) (hN : X.N.Nodup) (hy : X.N[i]? = some y) (hyl : X.env.scope.names.lookup y = some .local) (hsw : swapsWith (.ListComp elt [⟨tg, iter, ifs, 0⟩, ⟨tg1, iter1, ifs1, 0⟩] scope pos) (some (.Name y py)) spos.line X.env = pure true) (hi : FI X W tg iter l) (okb : BlkOk X.N X.env.scope scope own) (hv1 : ∀ i ∈ vs1, i ∈ own.map (·.2))
    (hg : ∀ (s : Shared) (H : Hp) (C : Addr) (cl : List (Str × Addr)) (fp : List Addr), FG (X.blk s H scope (compEnvC scope cl C X.env) fp) tg ix tgt) (hix : ∀ i ∈ ix, i ∈ own.map (·.2))
    (ht : ∀ (s : Shared) (H : Hp) (C : Addr) (cl : List (Str × Addr)) (fp : List Addr), FTs (X.blk s H scope (compEnvC scope cl C X.env) fp) wNo ifs p)
    (hi1 : ∀ (s : Shared) (H : Hp) (C : Addr) (cl : List (Str × Addr)) (fp : List Addr), FI (X.blk s H scope (compEnvC scope cl C X.env) fp) wNo tg1 iter1 l1)
    (hg1 : ∀ (s : Shared) (H : Hp) (C : Addr) (cl : List (Str × Addr)) (fp : List Addr), FG (X.blk s H scope (compEnvC scope cl C X.env) fp) tg1 ix1 tgt1) (hix1 : ∀ i ∈ ix1, i ∈ vs1)
    (ht1 : ∀ (s : Shared) (H : Hp) (C : Addr) (cl : List (Str × Addr)) (fp : List Addr), FTs (X.blk s H scope (compEnvC scope cl C X.env) fp) wNo ifs1 p1)
    (he : ∀ (s : Shared) (H : Hp) (C : Addr) (cl : List (Str × Addr)) (fp : List Addr), FE (X.blk s H scope (compEnvC scope cl C X.env) fp) wNo elt f) (hs : ∀ x, foldedSetIterable iter X.env x = pure x := by intro _; rfl) (hs1 : ∀ env x, foldedSetIterable iter1 env x = pure x := by intro _ _; rfl) :
    FS X W (.Assign [.Name y py] (.ListComp elt [⟨tg, iter, ifs, 0⟩, ⟨tg1, iter1, ifs1, 0⟩] scope pos) spos) (sSet i (cLc2 (own.map (·.2)) vs1 l tgt p l1 tgt1 p1 f)) := impS (ps_setLc2 (g := tFG X.K ix tgt) (tt := tFT X.K X.mg wNo p) (wi1 := tFI X.K X.mg wNo l1) (g1 := tFG X.K ix1 tgt1) (tt1 := tFT X.K X.mg wNo p1) (te := tF X.K X.mg wNo f) hc hN hy hyl hsw hi okb hv1 hg ht hi1 hg1 ht1 he hs hs1) fun D σ H ⟨H0, A0, A, ρ, o, P⟩ => lc2_read (t := false) hix hix1 σ H _ ⟨H0, A0, A, ρ, o, (P.of o).mono fun d H1 s1 P1 v ⟨a, e, n, r⟩ => by
    subst e
    exact P1 _ H1 A ((o.same s1).set i (r.free (fun z => o.has a z n) fun b hb => List.mem_cons_of_mem _ hb)) (Tr.same s1)⟩
end
end G

namespace G
open PySem PySem.Spec PyProof.Rows L2

/-! ### in -/
def flatB1 : D → Bool
  | .none => true
  | .bool _ => true
  | .int _ => true
  | .str _ => true
  | _ => false
/-- whether x is in y -/
def inB (x : D) : D → Option Bool
  | .list ds => if SeqAt.shaped x = true ∧ SeqAt.shaped (.list ds) = true then some (ds.any fun z => PyData.eqv z x) else none
  | .tuple ds => if flatB1 x = true ∧ ds.all flatB1 = true then some (ds.any fun z => PyData.eqv z x) else none
  | .dict kvs => match x with
    | .tuple ds => (keysD ds).bind fun ks => if (kvs.all fun kv => (keyD kv.1).isNone) = true ∧ noZ ks = true then some (getT kvs ks).isSome else none
    | x => (keyD x).bind fun k => if (kvs.all fun kv => (keyD kv.1).isSome) = true then some (getK kvs k).isSome else none
  | _ => none
def dIn (x y : D) : Option D := (inB x y).map .bool
def dNotIn (x y : D) : Option D := (inB x y).map fun b => .bool (!b)
section
variable {X : Cx}
theorem flat_V {K : Frg} {H : Hp} {A : List Addr} {v : V} {d : D} (h : Rep K H A v d) (f : flatB1 d = true) : flatV v = true ∧ ∀ w e, Rep K H A w e → flatB1 e = true → eqV v w = PyData.eqv d e := by
  cases h with
  | non => exact ⟨rfl, fun w e hw he => by cases hw <;> first | (simp [eqV, PyData.eqv]; done) | cases he⟩
  | bl b => exact ⟨rfl, fun w e hw he => by cases hw <;> first | (simp [eqV, PyData.eqv]; done) | cases he⟩
  | int b => exact ⟨rfl, fun w e hw he => by cases hw <;> first | (simp [eqV, PyData.eqv]; done) | cases he⟩
  | str b => exact ⟨rfl, fun w e hw he => by cases hw <;> first | (simp [eqV, PyData.eqv]; done) | cases he⟩
  | _ => cases f
theorem flat_all {K : Frg} {H : Hp} {A : List Addr} {w : V} {e : D} (hw : Rep K H A w e) (he : flatB1 e = true) : ∀ {vs : List V} {ds : List D}, RepL K H A vs ds → ds.all flatB1 = true → vs.all flatV = true ∧ inV w vs = ds.any fun z => PyData.eqv z e
  | _, _, .nil, _ => ⟨rfl, rfl⟩
  | _, _, .cons a t, h => by
    rw [List.all_cons, Bool.and_eq_true] at h
    obtain ⟨h1, h2⟩ := flat_V a h.1
    obtain ⟨h3, h4⟩ := flat_all hw he t h.2
    refine ⟨by rw [List.all_cons, h1, h3]; rfl, ?_⟩
    unfold inV at h4 ⊢
    rw [List.any_cons, List.any_cons, h4, h2 w e hw he]
def rInDc (neg : Bool) : R2 := fun x y H Q => ∃ a o, y = .ref a ∧ DGet H a x o ∧ Q (.bl (if neg then !o.isSome else o.isSome)) H
theorem op_inDc (hu : X.A.units + 1 < cLine) : OpR X (compareOp .In) (rInDc false) := by
  intro pins s σ H x y v u Q I rx ry h
  obtain ⟨a, o, rfl, g, q⟩ := h
  cases ry
  exact d_in hu I g rx fun s' I' => ⟨.bl _, H, I', rfl, q⟩
theorem op_notInDc (hu : X.A.units + 1 < cLine) : OpR X (compareOp .NotIn) (rInDc true) := by
  intro pins s σ H x y v u Q I rx ry h
  obtain ⟨a, o, rfl, g, q⟩ := h
  cases ry
  exact d_notIn hu I g rx fun s' I' => ⟨.bl _, H, I', rfl, q⟩
/-- an empty dict, of whichever keys -/
theorem bare {P : Program} {w : World} {H : Hp} {h : Heap} {a : Addr} (ok : HOk P w H h) (e : Rd H a (.dK []) ∨ Rd H a (.dT [])) :
    (a == sysModules) = false ∧ h.DictOf (mixKind P w) a [] ∧ h.DictOfH (tupleKind (mixKind P w)) a [] := by
  have q : (a == sysModules) = false ∧ ∃ o es ep, h.get? a = some o ∧ o.ExactDict ∧ o.data = .dict es ep ∧ es.toList = [] := by
    rcases e with e | e
    · obtain ⟨_, hd, vs, rel, dd⟩ := dk_rd ok e
      cases rel
      obtain ⟨o, es, ep, h1, h2, h3, _, h5, _⟩ := dd
      exact ⟨hd, o, es, ep, h1, h2, h3, by cases h6 : es.toList with | nil => rfl | cons x y => rw [h6] at h5; cases h5⟩
    · obtain ⟨_, hd, xs, rel, dd⟩ := dt_rd ok e
      cases rel
      obtain ⟨o, es, ep, h1, h2, h3, h4, _⟩ := dd
      exact ⟨hd, o, es, ep, h1, h2, h3, h4⟩
  obtain ⟨hd, o, es, ep, h1, h2, h3, h4⟩ := q
  have h5 : es = #[] := Array.toList_eq_nil_iff.mp h4
  subst h5
  exact ⟨hd, ⟨o, #[], ep, h1, h2, h3, fun x hx => by simp at hx, .nil, List.nodup_nil⟩, ⟨o, #[], ep, h1, h2, h3, rfl, fun x hx => absurd hx List.not_mem_nil, List.nodup_nil⟩⟩
def rInE (neg : Bool) : R2 := fun x y H Q => ∃ a, y = .ref a ∧ (Rd H a (.dK []) ∨ Rd H a (.dT [])) ∧ ((∃ k, x = kV k) ∨ ∃ (b : Addr) (ks : List Key), x = .ref b ∧ H b = some (.tup (ks.map kV))) ∧ Q (.bl neg) H
theorem op_inE (hu : X.A.units + 1 < cLine) : OpR X (compareOp .In) (rInE false) := by
  intro pins s σ H x y v u Q I rx ry h
  obtain ⟨a, rfl, e, k, q⟩ := h
  cases ry
  obtain ⟨hd, d1, d2⟩ := bare I.hok e
  rcases k with ⟨k, rfl⟩ | ⟨b, ks, rfl, eb⟩
  · exact wpAny_in_of (kV_is rx) hd d1.mapOf ⟨.bl _, H, I.tok _, rfl, q⟩
  · cases rx
    exact wpAny_in_heap (tupleKind_room_in1 hu) (key_of I.hok eb) hd d2 ⟨.bl _, H, I.tok _, rfl, q⟩
theorem op_notInE (hu : X.A.units + 1 < cLine) : OpR X (compareOp .NotIn) (rInE true) := by
  intro pins s σ H x y v u Q I rx ry h
  obtain ⟨a, rfl, e, k, q⟩ := h
  cases ry
  obtain ⟨hd, d1, d2⟩ := bare I.hok e
  rcases k with ⟨k, rfl⟩ | ⟨b, ks, rfl, eb⟩
  · exact wpAny_notIn_of (kV_is rx) hd d1.mapOf ⟨.bl _, H, I.tok _, rfl, q⟩
  · cases rx
    exact wpAny_notIn_heap (tupleKind_room_in1 hu) (key_of I.hok eb) hd d2 ⟨.bl _, H, I.tok _, rfl, q⟩
theorem in_read {K : Frg} {H : Hp} {A : List Addr} {x y : V} {d1 d2 : D} {b : Bool} (hx : Rep K H A x d1) (hy : RepB K H A y d2) (e : inB d1 d2 = some b) :
    (∃ ds, d2 = .list ds ∧ Dp K H x d1 ∧ Dp K H y (.list ds) ∧ SeqAt.shaped d1 = true ∧ SeqAt.shaped (.list ds) = true ∧ b = ds.any fun z => PyData.eqv z d1) ∨
    (∃ p xs, y = .ref p ∧ SqT K H p xs ∧ flatV x = true ∧ xs.all flatV = true ∧ inV x xs = b) ∨ (∃ a o, y = .ref a ∧ DGet H a x o ∧ o.isSome = b) ∨
    ∃ a, y = .ref a ∧ (Rd H a (.dK []) ∨ Rd H a (.dT [])) ∧ ((∃ k, x = kV k) ∨ ∃ (b : Addr) (ks : List Key), x = .ref b ∧ H b = some (.tup (ks.map kV))) ∧ b = false := by
  unfold inB at e
  split at e
  · rename_i ds
    split at e
    · rename_i h
      cases e
      exact .inl ⟨ds, rfl, (RepB.of hx).dp h.1, hy.dp h.2, h.1, h.2, rfl⟩
    · cases e
  · split at e
    · rename_i h
      cases e
      obtain ⟨p, xs, rfl, h1, r⟩ := hy.tup
      obtain ⟨h3, h4⟩ := flat_all hx h.1 r h.2
      exact .inr (.inl ⟨p, xs, rfl, h1, (flat_V hx h.1).1, h3, h4⟩)
    · cases e
  · rename_i kvs
    obtain ⟨a, rfl, hd⟩ := hy.dict
    split at e
    · rename_i ds
      obtain ⟨ks, e1, e2⟩ := Option.bind_eq_some_iff.mp e
      clear e
      obtain rfl := keysD_some e1
      split at e2
      · rename_i hk
        cases e2
        cases hx with
        | tup n hb rk =>
          rw [rep_key rk] at hb
          rcases hd with ⟨rows, h1, r⟩ | ⟨rows, h1, r⟩ | ⟨C0, n0, rfl⟩
          rotate_left 2
          · exact Bool.noConfusion (show false = true from hk.1)
          · obtain rfl := repT_of_K r hk.1
            cases r
            exact .inr (.inr (.inr ⟨a, rfl, .inl h1, .inr ⟨_, ks, rfl, hb⟩, rfl⟩))
          · refine .inr (.inr (.inl ⟨a, valV rows ks, rfl, .inr ⟨rows, ks, _, h1, rfl, hb, rfl⟩, ?_⟩))
            cases hg : getT kvs ks with
            | none => rw [(getT_rep r).2 hg]; rfl
            | some z => obtain ⟨v, h2, _⟩ := (getT_rep r).1 z hg; rw [h2]; rfl
        | kt z rk =>
          have := zt_key z rk
          rw [this] at hk
          exact absurd hk.2 (by decide)
      · cases e2
    · rename_i nt
      obtain ⟨k, e1, e2⟩ := Option.bind_eq_some_iff.mp e
      clear e
      obtain rfl := keyD_some e1
      split at e2
      · rename_i hk
        cases e2
        have ex : x = kV k := by
          cases k with
          | inl n => exact (RepB.of hx).int
          | inr n => exact (RepB.of hx).str
        rcases hd with ⟨rows, h1, r⟩ | ⟨rows, h1, r⟩ | ⟨C0, n0, rfl⟩
        rotate_left 2
        · exact Bool.noConfusion (show false = true from hk)
        · refine .inr (.inr (.inl ⟨a, valV rows k, rfl, .inl ⟨rows, k, h1, ex, rfl⟩, ?_⟩))
          cases hg : getK kvs k with
          | none => rw [(getK_rep r).2 hg]; rfl
          | some z => obtain ⟨v, h2, _⟩ := (getK_rep r).1 z hg; rw [h2]; rfl
        · obtain rfl := repK_of_T r hk
          cases r
          exact .inr (.inr (.inr ⟨a, rfl, .inr h1, .inl ⟨k, ex⟩, rfl⟩))
      · cases e2
  · cases e
/-- .. the left operand data nobody changes, the right one borrowed -/
def DOpI (X : Cx) (F : Value → Value → Sem Value) (dop : D → D → Option D) : Prop :=
  ∃ r : R2, OpR X F r ∧ ∀ (H : Hp) (A : List Addr) (x y : V) (d1 d2 d : D) (Q : VK), (∀ a ∈ A, H a ≠ none) → Rep X.K H A x d1 → RepB X.K H A y d2 → dop d1 d2 = some d → (∀ v H', Same H H' → Rep X.K H' A v d → Q v H') → r x y H Q
theorem OpR.or {F : Value → Value → Sem Value} {r q : R2} (h : OpR X F r) (k : OpR X F q) : OpR X F (fun x y H Q => r x y H Q ∨ q x y H Q) := by
  intro pins s σ H x y v u Q I rx ry z
  rcases z with z | z
  · exact h pins s σ H x y v u Q I rx ry z
  · exact k pins s σ H x y v u Q I rx ry z
/-- what `in` comes to -/
theorem do_in (hu : X.A.units + 65 < cLine) : DOpI X (compareOp .In) dIn := by
  refine ⟨_, (op_inD hu).or (op_in_seq.or ((op_inDc (by omega)).or (op_inE (by omega)))), fun H A x y d1 d2 d Q hA hx hy e q => ?_⟩
  obtain ⟨b, e1, rfl⟩ := Option.map_eq_some_iff.mp e
  have q' : Q (.bl b) H := q _ H (Same.refl H) (.bl b)
  rcases in_read hx hy e1 with ⟨ds, rfl, h1, h2, h3, h4, rfl⟩ | ⟨p, xs, rfl, h1, h2, h3, rfl⟩ | ⟨a, o, rfl, h1, rfl⟩ | ⟨a, rfl, h1, h2, rfl⟩
  · exact .inl ⟨d1, ds, h1, h2, h3, h4, q'⟩
  · exact .inr (.inl ⟨p, xs, rfl, .inr h1, h2, h3, q'⟩)
  · exact .inr (.inr (.inl ⟨a, o, rfl, h1, q'⟩))
  · exact .inr (.inr (.inr ⟨a, rfl, h1, h2, q'⟩))
theorem do_notin (hu : X.A.units + 65 < cLine) : DOpI X (compareOp .NotIn) dNotIn := by
  refine ⟨_, (op_notInD hu).or (op_notIn_seq.or ((op_notInDc (by omega)).or (op_notInE (by omega)))), fun H A x y d1 d2 d Q hA hx hy e q => ?_⟩
  obtain ⟨b, e1, rfl⟩ := Option.map_eq_some_iff.mp e
  have q' : Q (.bl (!b)) H := q _ H (Same.refl H) (.bl (!b))
  rcases in_read hx hy e1 with ⟨ds, rfl, h1, h2, h3, h4, rfl⟩ | ⟨p, xs, rfl, h1, h2, h3, rfl⟩ | ⟨a, o, rfl, h1, rfl⟩ | ⟨a, rfl, h1, h2, rfl⟩
  · exact .inl ⟨d1, ds, h1, h2, h3, h4, q'⟩
  · exact .inr (.inl ⟨p, xs, rfl, .inr h1, h2, h3, q'⟩)
  · exact .inr (.inr (.inl ⟨a, o, rfl, h1, q'⟩))
  · exact .inr (.inr (.inr ⟨a, rfl, h1, h2, q'⟩))
variable {W : WX} {a b : Expr} {f g : En → R D} {op : CmpOp} {dop : D → D → Option D} {pos : Pos}
theorem fe_inD (ho : DOpI X (compareOp op) dop) (ha : FE X W a f) (hb : FB X W b g) (hm : behindInMarks op b = false) : FE X W (.Compare a [op] [b] pos) (cBin dop f g) := by
  obtain ⟨r, hr, hs⟩ := ho
  refine impE (pe_cmpR hr ha hb hm) fun σ H Q ⟨H0, A0, A, ρ, o, P⟩ => ?_
  refine ⟨H0, A0, A, ρ, o, P.bind.mono fun d1 H1 s1 P1 x hx => ?_⟩
  refine ⟨H0, A0, A, ρ, o.same s1, P1.bind.mono fun d2 H2 s2 P2 y hy => ?_⟩
  obtain ⟨d, e, P3⟩ := P2.ofO
  exact hs H2 A x y d1 d2 d Q ((o.same s1).same s2).has (hx.same s2) hy e fun v H' s3 hv => P3 H' s3 v hv
theorem ft_inD (ho : DOpI X (compareOp op) dop) (ha : FE X W a f) (hb : FB X W b g) (hm : behindInMarks op b = false) : FT X W (.Compare a [op] [b] pos) (cBinT dop f g) := by
  obtain ⟨r, hr, hs⟩ := ho
  refine impT (pt_cmpR hr ha hb hm) fun σ H Q ⟨H0, A0, A, ρ, o, P⟩ => ?_
  refine ⟨H0, A0, A, ρ, o, P.bind.mono fun d1 H1 s1 P1 x hx => ?_⟩
  refine ⟨H0, A0, A, ρ, o.same s1, P1.bind.mono fun d2 H2 s2 P2 y hy => ?_⟩
  obtain ⟨k, e, P3⟩ := P2.ofO
  obtain ⟨d, e1, e2⟩ := Option.bind_eq_some_iff.mp e
  obtain rfl := toB_some e2
  exact hs H2 A x y d1 d2 _ _ ((o.same s1).same s2).has (hx.same s2) hy e1 fun v H' s3 hv => ⟨k, (RepB.of hv).bool, P3 H' s3⟩
end
end G

namespace G
open PySem PySem.Spec PyProof.Rows L2

/-! ### what a def comes to -/
/-- the wish of a call's result -/
def Want (K : Frg) (mg : MgT) (H : Hp) (Av : List Addr) (Q : VK) (E : XK) : R D → Prop
  | .ok d => ∀ v H', Same H H' → Rep K H' Av v d → Q v H'
  | .ex c n => ∀ u p H', Same H H' → H p = none → ErrAt mg c n u p H' → E u (some p) H'
  | .no => False
structure FnG (P : Program) (w : World) (K : Frg) (mg : MgT) (base : Heap) (k : Nat) (f : Addr) (fd : FuncData) (ps : List Str) (F : List D → R D) : Prop where
  run : ∀ (A : Around) (outer : List Env) (s : Shared) (H : Hp) (args : Args) (us : List Value) (vs : List V) (ds : List D) (Av : List Addr) (Q : VK) (E : XK), Room k A → A.guards = some [] → Env0 P w K mg base A outer s H →
    (us.length = ps.length → BindsTo s fd args (ps.zip us)) → Vals vs us → RepL K H Av vs ds → (∀ a ∈ Av, H a ≠ none) → Want K mg H Av Q E (F ds) → codeAny (model P w) A (.call (.ref f) args) (CR (L2N.CX P w) outer P w H s Q E) s
theorem FnG.mono {P : Program} {w : World} {K : Frg} {mg : MgT} {base : Heap} {j k : Nat} {f : Addr} {fd : FuncData} {ps : List Str} {F : List D → R D} (h : FnG P w K mg base j f fd ps F) (l : j ≤ k) : FnG P w K mg base k f fd ps F :=
  ⟨fun A outer s H args us vs ds Av Q E hr => h.run A outer s H args us vs ds Av Q E (hr.mono l)⟩
/-- a promise told in other words -/
theorem FnG.imp {P : Program} {w : World} {K : Frg} {mg : MgT} {base : Heap} {k : Nat} {f : Addr} {fd : FuncData} {ps : List Str} {F F' : List D → R D} (h : FnG P w K mg base k f fd ps F) (i : ∀ ds, F' ds = .no ∨ F' ds = F ds) : FnG P w K mg base k f fd ps F' :=
  ⟨fun A outer s H args us vs ds Av Q E hr hg e0 hb r rd ha q => by
    rcases i ds with e | e
    · rw [e] at q; exact q.elim
    · rw [e] at q; exact h.run A outer s H args us vs ds Av Q E hr hg e0 hb r rd ha q⟩
/-- the slots at the entry -/
def enter (n p : Nat) (ds : List D) : En := ds.map (fun d => some (.v d)) ++ List.replicate (n - p) none
def SR.out : SR → R D
  | .nx _ => .ok .none
  | .rt d => .ok d
  | .ex c m _ => .ex c m
  | _ => .no
def runF (n p : Nat) (g : En → SR) (ds : List D) : R D := if ds.length = p then (g (enter n p ds)).out else .no
abbrev wE (E : XK) : WX := fun c d _ H => E c d H
/-- the context of a def's body -/
abbrev bx (P : Program) (w : World) (K : Frg) (mg : MgT) (base : Heap) (N : List Str) (qual : Str) (scope : Scope) (f : Addr) (cd : Value) (A : Around) (outer : List Env) (s : Shared) (H : Hp) (E : XK) : Cx :=
  cxOf (L2N.CX P w) P w K mg base N qual scope f cd A outer s H E
theorem bx_takes {P : Program} {w : World} {K : Frg} {mg : MgT} {base : Heap} {N : List Str} {qual : Str} {scope : Scope} {f : Addr} {cd : Value} {A : Around} {outer : List Env} {s : Shared} {H : Hp} {E : XK} : L2N.Takes (bx P w K mg base N qual scope f cd A outer s H E) (wE E) :=
  L2N.takes_of rfl rfl rfl rfl
theorem bx_owns {P : Program} {w : World} {K : Frg} {mg : MgT} {base : Heap} {N : List Str} {qual : Str} {scope : Scope} {f : Addr} {cd : Value} {A : Around} {outer : List Env} {s : Shared} {H : Hp} {E : XK} :
    PassesOwn (model P w) (bx P w K mg base N qual scope f cd A outer s H E).A (bx P w K mg base N qual scope f cd A outer s H E).env (bx P w K mg base N qual scope f cd A outer s H E).xe := passes_of rfl
theorem Ok.start {K : Frg} {H : Hp} {Av : List Addr} {vs : List V} {ds : List D} {n : Nat} {N : List Str} (hn : N.length = n) (r : RepL K H Av vs ds) (ha : ∀ a ∈ Av, H a ≠ none) (hl : ds.length ≤ n) : Ok K H Av Av (enter n ds.length ds) (L2.start N vs) H where
  len := by
    unfold enter L2.start
    rw [List.length_append, List.length_append, List.length_map, List.length_map, List.length_replicate, List.length_replicate, r.length, hn]
  ext := Same.refl H
  sub := fun _ h => h
  new := fun _ h => .inl h
  has := ha
  slot := fun i s h => by
    unfold enter at h
    by_cases hi : i < ds.length
    · rw [List.getElem?_append_left (by simpa using hi), List.getElem?_map] at h
      obtain ⟨d, h1, h2⟩ := Option.map_eq_some_iff.mp h
      cases h2
      obtain ⟨v, h3, h4⟩ := r.get h1
      refine ⟨v, ?_, h4⟩
      unfold L2.start
      rw [List.getElem?_append_left (by simpa [r.length] using hi), List.getElem?_map, h3]
      rfl
    · rw [List.getElem?_append_right (by simpa using hi), List.getElem?_replicate] at h
      split at h <;> cases h
  dis := fun i j a t t' d d' ne h1 h2 h3 => by
    unfold enter at h1
    by_cases hi : i < ds.length
    · rw [List.getElem?_append_left (by simpa using hi), List.getElem?_map] at h1
      obtain ⟨d, h1, h2⟩ := Option.map_eq_some_iff.mp h1
      cases h2
    · rw [List.getElem?_append_right (by simpa using hi), List.getElem?_replicate] at h1
      split at h1 <;> cases h1
/-- the end of a body -/
theorem want_out {K : Frg} {mg : MgT} {H : Hp} {Av : List Addr} {Q : VK} {E : XK} {r : SR} (h : Want K mg H Av Q E r.out) : PostS K mg (wE E) H Av Av H { nx := fun _ H' => Q .non H', rt := Q } r := by
  cases r with
  | nx ρ => exact fun σ' H' A' o _ => h .non H' o.ext .non
  | rt d => exact h
  | bk ρ => exact h.elim
  | ct ρ => exact h.elim
  | ex c n ρ => exact fun u p σ' H' A' o _ f e => h u p H' o.ext f.1 e
  | no => exact h.elim

/-- THE RULE for a def -/
theorem fng_of {P : Program} {w : World} {K : Frg} {mg : MgT} {base : Heap} {k n p : Nat} {f : Addr} {name qual : Str} {params : Arguments} {body : List Stmt} {scope : Scope} {dV kV doc pm cdv ct oc : Value} {an od : Option Addr}
    {osl : Array (Option Value)} {N ps : List Str} {g : En → SR} (lk : K.lookup f = some ⟨oc, od, .func (PySem.W.fnOf name qual params body scope dV kV doc pm an cdv ct), osl⟩) (hcd : PySem.W.codeIn K cdv qual = true) (S : FnScope N ps scope)
    (hn : N.length = n) (hp : ps.length = p)
    (hbody : ∀ (A : Around) (outer : List Env) (s : Shared) (H : Hp) (E : XK), Room k (A.deeper (envOfC qual scope s.heap.objs.size f cdv)) → A.guards = some [] → FSs (bx P w K mg base N qual scope f cdv A outer s H E) (wE E) body g) :
    FnG P w K mg base (k + 1) f (PySem.W.fnOf name qual params body scope dV kV doc pm an cdv ct) ps (runF n p g) := by
  refine ⟨fun A outer s H args us vs ds Av Q E hr hg e0 hb r rd ha hsp => ?_⟩
  unfold runF at hsp
  split at hsp
  rotate_left
  · exact hsp.elim
  rename_i hds
  have hl : vs.length = ps.length := by rw [rd.length, hds, hp]
  have KX : K.In s.heap := e0.mod.kin.keeps fun b o e => (e0.bs b o e).1
  have lim : s.heap.NoLimit := e0.mod.nolimit.keeps fun b o e => (e0.bs b o e).1
  have hkind : ∀ y ∈ ps.zip us, scope.names.lookup y.1 = some .local ∨ (scope.names.lookup y.1 = some .cell ∧ ((cellsFrom (s.heap.objs.size + 1) scope.names []).lookup y.1).isSome = true) := fun ⟨n, v⟩ hy => by
    rcases S.par n (List.of_mem_zip hy).1 with q | q
    · exact .inl q
    · exact .inr ⟨q, PySem.W.cellsFrom_some _ _ _ (.inl q)⟩
  refine codeAny_call_function hr.depth (KX _ _ lk) rfl S.co S.gen rfl (PySem.W.codeRec_of KX hcd) (hb (by rw [← r.length]; exact hl) _ _ _ _ ?_)
  refine wpAny_newFunctionEnv_cells S.kind hkind fun env he s1 x => ?_
  subst he
  refine ⟨lim.keeps x.toInCall.keep, codeAny_func ?_⟩
  have I : Inv (bx P w K mg base N qual scope f cdv A outer s H E) [] (L2.start N vs) H s1 := inv_start S hr.hd e0 hl r x
  have hpn : p ≤ n := by
    have := congrArg List.length S.pre
    rw [List.length_take] at this
    omega
  have o : Ok K H Av Av (enter n p ds) (L2.start N vs) H := hds ▸ Ok.start hn rd ha (by omega)
  refine wpAny_mono ((hbody A outer s H E (hr.deeper _) hg).run [] s1 (L2.start N vs) H _ I ⟨H, Av, Av, _, o, want_out hsp⟩) (fun fl s' hs => ?_) fun e s' hs => hs
  have fin : ∀ {σ' : St} {H' : Hp} {v : V} {u : Value}, Inv (bx P w K mg base N qual scope f cdv A outer s H E) [] σ' H' s' → RelV v u → Q v H' → CE outer P w H s Q u s' :=
    fun {σ' H' v u} J rv q => ⟨v, H', J.os, J.bare, J.base, J.hok, rv, q⟩
  cases fl with
  | ret u =>
    obtain ⟨v, σ', H', J, rv, q⟩ := hs
    exact fin J rv q
  | next =>
    obtain ⟨σ', H', J, q⟩ := hs
    exact fin (v := V.non) (u := Value.none) J rfl q
  | brk =>
    obtain ⟨_, _, _, q⟩ := hs
    exact False.elim q
  | cont =>
    obtain ⟨_, _, _, q⟩ := hs
    exact False.elim q

/-! ### calls -/
def cCallF (F : List D → R D) (l : En → R (List D)) : En → R D := fun ρ => (l ρ).bind F
section
variable {X : Cx} {W : WX} {k : Nat} {f : Addr} {fd : FuncData} {ps : List Str} {F : List D → R D} {x : Str} {p pos : Pos} {e : Expr} {es : List Expr} {l : En → R (List D)}
theorem run_fng {pins : List (Addr × Obj)} {σ : St} {H : Hp} {s : Shared} {Q : VK} {us : List Value} {vs : List V} {ds : List D} {Av : List Addr} (Fg : FnG X.prog X.w X.K X.mg X.base k f fd ps F) (hr : Room k X.A) (hgd : X.A.guards = some []) (hb : Binds X.K fd ps []) (tk : L2N.Takes X W)
    (I : Inv X pins σ H s) (r : Vals vs us) (rd : RepL X.K H Av vs ds) (ha : ∀ a ∈ Av, H a ≠ none) (h : Want X.K X.mg H Av Q (WE W σ) (F ds)) : wpAny (model X.prog X.w) X.A (call (.ref f) us) (EP X pins σ Q) X.xe s := by
  refine wpAny_call (codeAny_mono (Fg.run X.A X.stack s H ⟨us, []⟩ us vs ds Av Q (WE W σ) hr hgd I.env0 (fun hl => ?_) r rd ha h) fun r s' hq => ?_)
  · have b := hb s us I.kIn (by rw [List.append_nil]; exact hl)
    rw [List.append_nil] at b
    exact b
  · cases r with
    | error e => exact L2N.passAt tk σ pins H s e s' I hq
    | ok fl =>
      cases fl with
      | ret u => exact I.after hq
      | next => exact False.elim hq
      | brk => exact False.elim hq
      | cont => exact False.elim hq
theorem Post.want {mg : MgT} {K : Frg} {σ : St} {H : Hp} {A : List Addr} {Q : VK} {r : R D} (h : Post mg W σ H (fun d H' => ∀ v, Rep K H' A v d → Q v H') r) : Want K mg H A Q (WE W σ) r := by
  cases r with
  | ok d => exact fun v H' s r => h H' s v r
  | ex c n => exact h
  | no => exact h
theorem fe_call (Fg : FnG X.prog X.w X.K X.mg X.base k f fd ps F) (hr : Room k X.A) (hgd : X.A.guards = some []) (hg : Gl X x) (hm : X.mg x = some (.ref f)) (hk : PySem.W.keepIn X.K (.ref f) = true) (hb : Binds X.K fd ps []) (tk : L2N.Takes X W)
    (ha : FA X W (e :: es) l) (hdb : (x == ("__debug__" : Str)) = false := by decide) (he : starEach (e :: es) X.env = (false, eval e X.env) :: starEach es X.env := by rfl) (hpl : (backTo pos (starEach es X.env)).any (·.1) = false := by rfl) :
    FE X W (.Call (.Name x p) (e :: es) [] pos) (cCallF F l) := by
  refine ⟨fun pins s σ H Q I ⟨H0, A0, A, ρ, o, P⟩ => ?_⟩
  refine wpAny_Call_Name_kw (ld_glob I hg hm ?_ hdb)
  refine PySem.W.callWith_K (h₀ := X.base) I.ok.mod.kin hk (thn (ha.run pos pins s σ H (fun vs H1 => Same H H1 ∧ ∃ ds, RepL X.K H1 A vs ds ∧ Want X.K X.mg H1 A Q (WE W σ) (F ds)) I ⟨H0, A0, A, ρ, o, P.bind.mono fun ds H1 s1 P1 vs hv => ⟨s1, ds, hv, P1.want⟩⟩) fun us s1 ⟨vs, H1, I1, r, sm, ds, rd, q⟩ => ⟨I1.kIn, ?_⟩) he hpl
  exact run_fng Fg hr hgd hb tk I1 r rd (o.same sm).has q
theorem fe_call0 (Fg : FnG X.prog X.w X.K X.mg X.base k f fd ps F) (hr : Room k X.A) (hgd : X.A.guards = some []) (hg : Gl X x) (hm : X.mg x = some (.ref f)) (hk : PySem.W.keepIn X.K (.ref f) = true) (hb : Binds X.K fd ps []) (tk : L2N.Takes X W)
    (hdb : (x == ("__debug__" : Str)) = false := by decide) : FE X W (.Call (.Name x p) [] [] pos) (cCallF F fun _ => .ok []) := by
  refine ⟨fun pins s σ H Q I ⟨H0, A0, A, ρ, o, P⟩ => ?_⟩
  refine wpAny_Call_Name_kw (ld_glob I hg hm ?_ hdb)
  exact PySem.W.callWith_K0 I.kIn hk (run_fng (us := []) (vs := []) (ds := []) Fg hr hgd hb tk I .nil .nil o.has (Post.want P))
end
end G

namespace G
open PySem PySem.Spec PyProof.Rows L2

/-! ### the law's script -/
def cLenS (i : Nat) : En → R D := fun ρ => match ρ[i]? with
  | some (some (.sc ns)) => .ok (.int ns.length)
  | _ => .no
def cIxS (i : Nat) (g : En → R D) : En → R D := fun ρ => match ρ[i]? with
  | some (some (.sc ns)) => (g ρ).bind fun d => ofO ((toI d).bind fun k => (atI ns k).map .int)
  | _ => .no
def cCallS (i : Nat) (F : List Int → R D) : En → R D := fun ρ => match ρ[i]? with
  | some (some (.sc ns)) => F ns
  | _ => .no
theorem atI_map {α β : Type} {f : α → β} {xs : List α} {k : Int} {y : α} (h : atI xs k = some y) : atI (xs.map f) k = some (f y) := by
  unfold atI at h ⊢
  obtain ⟨j, h1, h2⟩ := Option.bind_eq_some_iff.mp h
  rw [List.length_map, h1, Option.bind_some, List.getElem?_map, h2]
  rfl
section
variable {X : Cx} {W : WX} {x y : Str} {i : Nat} {p q pos : Pos} {b : Expr} {g : En → R D}
theorem fe_lenS (hx : PE X (.Name x q) (tVar i)) (hg : Gl X "len") (hm : X.mg "len" = none) (he : starEach [.Name x q] X.env = (false, eval (.Name x q) X.env) :: starEach [] X.env := by rfl) (hpl : (backTo pos (starEach [] X.env)).any (·.1) = false := by rfl) :
    FE X W (.Call (.Name "len" p) [.Name x q] [] pos) (cLenS i) := impE (pe_callB call_len_seq hg hm PySem.boot_len (pa_cons hx pa_nil) (by decide) (by decide) he hpl) fun σ H Q ⟨H0, A0, A, ρ, o, P⟩ => by
  unfold cLenS at P
  split at P
  · rename_i ns e
    obtain ⟨v, h1, a, e2, h2⟩ := o.slot i _ e
    subst e2
    refine ⟨_, h1, a, ns.map V.int, rfl, .inl h2.sq, ?_⟩
    rw [List.length_map]
    exact Post.at (P := fun d H' => ∀ v, Rep X.K H' A v d → Q v H') P _ (.int _)
  · exact P.elim
theorem fe_ixS (hx : PE X (.Name x q) (tVar i)) (hb : FE X W b g) (hs : PlainIx b) : FE X W (.Subscript (.Name x q) b pos) (cIxS i g) := impE (pe_ix ix_list hx hb hs) fun σ H Q ⟨H0, A0, A, ρ, o, P⟩ => by
  unfold cIxS at P
  split at P
  · rename_i ns e
    obtain ⟨v, h1, a, e2, h2⟩ := o.slot i _ e
    subst e2
    refine ⟨_, h1, H0, A0, A, ρ, o, P.bind.mono fun d2 H2 s2 P2 y hy => ?_⟩
    obtain ⟨d, e3, P3⟩ := P2.ofO
    obtain ⟨k, e4, e5⟩ := Option.bind_eq_some_iff.mp e3
    obtain ⟨z, e6, e7⟩ := Option.map_eq_some_iff.mp e5
    subst e7
    have e8 : d2 = .int k := by
      cases d2 <;> simp [toI] at e4
      rw [e4]
    subst e8
    obtain rfl := (RepB.of hy).int
    exact ⟨a, ns.map V.int, k, .int z, rfl, rfl, (h2.tr (Tr.same s2)).sq, atI_map e6, P3 H2 (Same.refl _) _ (.int z)⟩
  · exact P.elim
end
/-- a def whose one argument is the script -/
structure FnS (P : Program) (w : World) (K : Frg) (mg : MgT) (base : Heap) (k : Nat) (f : Addr) (fd : FuncData) (x : Str) (F : List Int → R D) : Prop where
  run : ∀ (A : Around) (outer : List Env) (s : Shared) (H : Hp) (args : Args) (u : Value) (a : Addr) (ns : List Int) (Av : List Addr) (Q : VK) (E : XK), Room k A → A.guards = some [] → Env0 P w K mg base A outer s H →
    BindsTo s fd args [(x, u)] → RelV (.ref a) u → LRep K H Av a (ns.map V.int) → (∀ a ∈ Av, H a ≠ none) → Want K mg H Av Q E (F ns) → codeAny (model P w) A (.call (.ref f) args) (CR (L2N.CX P w) outer P w H s Q E) s
def runS (n : Nat) (g : En → SR) (ns : List Int) : R D := (g (some (.sc ns) :: List.replicate (n - 1) none)).out
theorem fns_of {P : Program} {w : World} {K : Frg} {mg : MgT} {base : Heap} {k n : Nat} {f : Addr} {name qual x : Str} {params : Arguments} {body : List Stmt} {scope : Scope} {dV kV doc pm cdv ct oc : Value} {an od : Option Addr}
    {osl : Array (Option Value)} {N : List Str} {g : En → SR} (lk : K.lookup f = some ⟨oc, od, .func (PySem.W.fnOf name qual params body scope dV kV doc pm an cdv ct), osl⟩) (hcd : PySem.W.codeIn K cdv qual = true) (S : FnScope N [x] scope)
    (hn : N.length = n)
    (hbody : ∀ (A : Around) (outer : List Env) (s : Shared) (H : Hp) (E : XK), Room k (A.deeper (envOfC qual scope s.heap.objs.size f cdv)) → A.guards = some [] → FSs (bx P w K mg base N qual scope f cdv A outer s H E) (wE E) body g) :
    FnS P w K mg base (k + 1) f (PySem.W.fnOf name qual params body scope dV kV doc pm an cdv ct) x (runS n g) := by
  refine ⟨fun A outer s H args u a ns Av Q E hr hg e0 hb r rd ha hsp => ?_⟩
  have KX : K.In s.heap := e0.mod.kin.keeps fun b o e => (e0.bs b o e).1
  have lim : s.heap.NoLimit := e0.mod.nolimit.keeps fun b o e => (e0.bs b o e).1
  have hkind : ∀ y ∈ [(x, u)], scope.names.lookup y.1 = some .local ∨ (scope.names.lookup y.1 = some .cell ∧ ((cellsFrom (s.heap.objs.size + 1) scope.names []).lookup y.1).isSome = true) := fun y hy => by
    obtain rfl := List.mem_singleton.mp hy
    rcases S.par x List.mem_cons_self with q | q
    · exact .inl q
    · exact .inr ⟨q, PySem.W.cellsFrom_some _ _ _ (.inl q)⟩
  refine codeAny_call_function hr.depth (KX _ _ lk) rfl S.co S.gen rfl (PySem.W.codeRec_of KX hcd) (hb _ _ _ _ ?_)
  refine wpAny_newFunctionEnv_cells S.kind hkind fun env he s1 y => ?_
  subst he
  refine ⟨lim.keeps y.toInCall.keep, codeAny_func ?_⟩
  have I : Inv (bx P w K mg base N qual scope f cdv A outer s H E) [] (L2.start N [.ref a]) H s1 := inv_start (ps := [x]) (us := [u]) S hr.hd e0 rfl (.cons r .nil) y
  have hpn : 1 ≤ n := by
    have := congrArg List.length S.pre
    rw [List.length_take] at this
    have h1 : [x].length = 1 := rfl
    omega
  have o : Ok K H Av Av (some (.sc ns) :: List.replicate (n - 1) none) (L2.start N [.ref a]) H := {
    len := by
      unfold L2.start
      simp only [List.length_append, List.length_map, List.length_replicate, List.length_cons, List.length_nil, hn]
      omega
    ext := Same.refl H
    sub := fun _ h => h
    new := fun _ h => .inl h
    has := ha
    slot := fun i s h => by
      cases i with
      | zero =>
        cases h
        exact ⟨.ref a, rfl, a, rfl, rd⟩
      | succ i =>
        rw [List.getElem?_cons_succ, List.getElem?_replicate] at h
        split at h <;> cases h
    dis := fun i j b t t' d d' ne h1 h2 h3 => by
      cases i with
      | zero => cases h1
      | succ i =>
        rw [List.getElem?_cons_succ, List.getElem?_replicate] at h1
        split at h1 <;> cases h1 }
  refine wpAny_mono ((hbody A outer s H E (hr.deeper _) hg).run [] s1 (L2.start N [.ref a]) H _ I ⟨H, Av, Av, _, o, want_out hsp⟩) (fun fl s' hs => ?_) fun e s' hs => hs
  have fin : ∀ {σ' : St} {H' : Hp} {v : V} {u : Value}, Inv (bx P w K mg base N qual scope f cdv A outer s H E) [] σ' H' s' → RelV v u → Q v H' → CE outer P w H s Q u s' :=
    fun {σ' H' v u} J rv q => ⟨v, H', J.os, J.bare, J.base, J.hok, rv, q⟩
  cases fl with
  | ret u =>
    obtain ⟨v, σ', H', J, rv, q⟩ := hs
    exact fin J rv q
  | next =>
    obtain ⟨σ', H', J, q⟩ := hs
    exact fin (v := V.non) (u := Value.none) J rfl q
  | brk =>
    obtain ⟨_, _, _, q⟩ := hs
    exact False.elim q
  | cont =>
    obtain ⟨_, _, _, q⟩ := hs
    exact False.elim q
section
variable {X : Cx} {W : WX} {k i : Nat} {f : Addr} {fd : FuncData} {F : List Int → R D} {x y : Str} {p q pos : Pos}
theorem fe_callS (Fg : FnS X.prog X.w X.K X.mg X.base k f fd y F) (hr : Room k X.A) (hgd : X.A.guards = some []) (hg : Gl X x) (hm : X.mg x = some (.ref f)) (hk : PySem.W.keepIn X.K (.ref f) = true) (hb : Binds X.K fd [y] []) (tk : L2N.Takes X W) {z : Str}
    (hx : PE X (.Name z q) (tVar i)) (hdb : (x == ("__debug__" : Str)) = false := by decide) (he : starEach [.Name z q] X.env = (false, eval (.Name z q) X.env) :: starEach [] X.env := by rfl) (hpl : (backTo pos (starEach [] X.env)).any (·.1) = false := by rfl) :
    FE X W (.Call (.Name x p) [.Name z q] [] pos) (cCallS i F) := by
  refine ⟨fun pins s σ H Q I ⟨H0, A0, A, ρ, o, P⟩ => ?_⟩
  unfold cCallS at P
  split at P
  · rename_i ns e
    obtain ⟨v, h1, a, e2, h2⟩ := o.slot i _ e
    subst e2
    refine wpAny_Call_Name_kw (ld_glob I hg hm ?_ hdb)
    refine PySem.W.callWith_K (h₀ := X.base) I.ok.mod.kin hk (thn ((pa_cons hx pa_nil he).run pos pins s σ H (fun vs H1 => vs = [V.ref a] ∧ H = H1) I ⟨.ref a, h1, rfl, rfl⟩) fun us s1 ⟨vs, H1, I1, r, ev, eH⟩ => ⟨I1.kIn, ?_⟩) he hpl
    subst ev
    subst eH
    cases r with
    | cons ru rn =>
      cases rn
      rename_i u _
      have b := hb s1 [u] I1.kIn rfl
      refine wpAny_call (codeAny_mono (Fg.run X.A X.stack s1 H ⟨[u], []⟩ u a ns A Q (WE W σ) hr hgd I1.env0 b ru h2 o.has (Post.want P)) fun r s' hq => ?_)
      cases r with
      | error e => exact L2N.passAt tk σ pins H s1 e s' I1 hq
      | ok fl =>
        cases fl with
        | ret u => exact I1.after hq
        | next => exact False.elim hq
        | brk => exact False.elim hq
        | cont => exact False.elim hq
  · exact P.elim
end

/-! ### names of the module -/
def GInt (mg : MgT) (x : Str) (i : Int) : Prop := ∃ t, mg x = some (.int i t)
def GTup (K : Frg) (mg : MgT) (x : Str) (ds : List D) : Prop := ∃ a vs, mg x = some (.ref a) ∧ TupK K a vs ∧ ∀ H A, RepL K H A vs ds
section
variable {X : Cx} {W : WX} {x : Str} {pos : Pos}
theorem fe_gint {i : Int} (h : GInt X.mg x i) (hg : Gl X x) (hd : (x == ("__debug__" : Str)) = false := by decide) : FE X W (.Name x pos) (cK (.int i)) := by
  obtain ⟨t, h⟩ := h
  exact fe_k (pe_glob (v := .int i) hg h ⟨t, rfl⟩ hd) fun _ _ => .int i
theorem fb_gtup {ds : List D} (h : GTup X.K X.mg x ds) (hg : Gl X x) (hd : (x == ("__debug__" : Str)) = false := by decide) : FB X W (.Name x pos) (cK (.tuple ds)) := by
  obtain ⟨a, vs, h, ht, r⟩ := h
  exact impE (pe_glob (v := .ref a) hg h rfl hd) fun σ H Q ⟨H0, A0, A, ρ, o, P⟩ => Post.at (P := fun d H' => ∀ v, RepB X.K H' A v d → Q v H') P _ (.inr (.inr ⟨a, vs, ds, rfl, rfl, ht, r H A⟩))
end
/-- a def that may be called by its name -/
def CallG (P : Program) (w : World) (K : Frg) (mg : MgT) (base : Heap) (k : Nat) (x : Str) (F : List D → R D) : Prop :=
  ∃ f fd ps, FnG P w K mg base k f fd ps F ∧ mg x = some (.ref f) ∧ PySem.W.keepIn K (.ref f) = true ∧ Binds K fd ps []
def CallS (P : Program) (w : World) (K : Frg) (mg : MgT) (base : Heap) (k : Nat) (x : Str) (F : List Int → R D) : Prop :=
  ∃ f fd p, FnS P w K mg base k f fd p F ∧ mg x = some (.ref f) ∧ PySem.W.keepIn K (.ref f) = true ∧ Binds K fd [p] []
/-- a def of the text -/
def DefG (K : Frg) (mg : MgT) (x : Str) (st : Stmt) (ps : List Str) : Prop := ∃ f fd, Fun K x x st f fd ∧ mg x = some (.ref f) ∧ Binds K fd ps []
section
variable {P : Program} {w : World} {K : Frg} {mg : MgT} {base : Heap} {k j n p : Nat} {x y : Str} {F : List D → R D} {st : Stmt} {N ps : List Str} {g : En → SR}
theorem CallG.mono (h : CallG P w K mg base j x F) (l : j ≤ k) : CallG P w K mg base k x F := by
  obtain ⟨f, fd, ps, h1, h2⟩ := h
  exact ⟨f, fd, ps, h1.mono l, h2⟩
theorem DefG.call (h : DefG K mg x st ps) (S : FnScope N ps (defScope st)) (hn : N.length = n) (hp : ps.length = p)
    (hbody : ∀ (f : Addr) (cdv : Value) (A : Around) (outer : List Env) (s : Shared) (H : Hp) (E : XK), Room k (A.deeper (envOfC x (defScope st) s.heap.objs.size f cdv)) → A.guards = some [] → FSs (bx P w K mg base N x (defScope st) f cdv A outer s H E) (wE E) (defBody st) g) :
    CallG P w K mg base (k + 1) x (runF n p g) := by
  obtain ⟨f, fd, F, hm, hb⟩ := h
  obtain ⟨oc, od, kV, doc, pm, an, cdv, ct, osl, rfl, lk, hcd⟩ := F.ex
  exact ⟨f, _, ps, fng_of lk hcd S hn hp fun A outer s H E hr hg => hbody f cdv A outer s H E hr hg, hm, F.kp, hb⟩
theorem DefG.callS (h : DefG K mg x st [y]) (S : FnScope N [y] (defScope st)) (hn : N.length = n)
    (hbody : ∀ (f : Addr) (cdv : Value) (A : Around) (outer : List Env) (s : Shared) (H : Hp) (E : XK), Room k (A.deeper (envOfC x (defScope st) s.heap.objs.size f cdv)) → A.guards = some [] → FSs (bx P w K mg base N x (defScope st) f cdv A outer s H E) (wE E) (defBody st) g) :
    CallS P w K mg base (k + 1) x (runS n g) := by
  obtain ⟨f, fd, F, hm, hb⟩ := h
  obtain ⟨oc, od, kV, doc, pm, an, cdv, ct, osl, rfl, lk, hcd⟩ := F.ex
  exact ⟨f, _, y, fns_of lk hcd S hn fun A outer s H E hr hg => hbody f cdv A outer s H E hr hg, hm, F.kp, hb⟩
end
section
variable {X : Cx} {W : WX} {k i : Nat} {F : List D → R D} {F1 : List Int → R D} {x z : Str} {p q pos : Pos} {e : Expr} {es : List Expr} {l : En → R (List D)}
theorem fe_cl (c : CallG X.prog X.w X.K X.mg X.base k x F) (hr : Room k X.A) (hgd : X.A.guards = some []) (tk : L2N.Takes X W) (hg : Gl X x) (ha : FA X W (e :: es) l) (hdb : (x == ("__debug__" : Str)) = false := by decide)
    (he : starEach (e :: es) X.env = (false, eval e X.env) :: starEach es X.env := by rfl) (hpl : (backTo pos (starEach es X.env)).any (·.1) = false := by rfl) :
    FE X W (.Call (.Name x p) (e :: es) [] pos) (cCallF F l) := by
  obtain ⟨f, fd, ps, h1, h2, h3, h4⟩ := c
  exact fe_call h1 hr hgd hg h2 h3 h4 tk ha hdb he hpl
theorem fe_cl0 (c : CallG X.prog X.w X.K X.mg X.base k x F) (hr : Room k X.A) (hgd : X.A.guards = some []) (tk : L2N.Takes X W) (hg : Gl X x) (hdb : (x == ("__debug__" : Str)) = false := by decide) :
    FE X W (.Call (.Name x p) [] [] pos) (cCallF F fun _ => .ok []) := by
  obtain ⟨f, fd, ps, h1, h2, h3, h4⟩ := c
  exact fe_call0 h1 hr hgd hg h2 h3 h4 tk hdb
theorem fe_clS (c : CallS X.prog X.w X.K X.mg X.base k x F1) (hr : Room k X.A) (hgd : X.A.guards = some []) (tk : L2N.Takes X W) (hg : Gl X x) (hx : PE X (.Name z q) (tVar i)) (hdb : (x == ("__debug__" : Str)) = false := by decide)
    (he : starEach [.Name z q] X.env = (false, eval (.Name z q) X.env) :: starEach [] X.env := by rfl) (hpl : (backTo pos (starEach [] X.env)).any (·.1) = false := by rfl) :
    FE X W (.Call (.Name x p) [.Name z q] [] pos) (cCallS i F1) := by
  obtain ⟨f, fd, y, h1, h2, h3, h4⟩ := c
  exact fe_callS h1 hr hgd hg h2 h3 h4 tk hx hdb he hpl
end
end G

namespace G
open PySem PySem.Spec PyProof.Rows L2
theorem units65 {k : Nat} {A : Around} (r : Room k A) : A.units + 65 < cLine := by
  have := r.un
  omega

/-! ### powers -/
def dPow : D → D → Option D
  | .int a, .int b => if 0 ≤ b ∧ b ≤ 1000000 ∧ a.natAbs < 2 ^ 64 then some (.int (a ^ b.toNat)) else none
  | _, _ => none
section
variable {X : Cx} {W : WX} {a b c e : Expr} {es : List Expr} {f g : En → R D} {l : En → R (List D)} {p q p1 p2 pos : Pos} {x : Str}
theorem do_pow : DOp X (binaryOp .Pow) dPow := by
  refine ⟨_, op_pow, fun H A x y d1 d2 d Q ha hx hy e q => ?_⟩
  unfold dPow at e
  split at e
  · split at e
    · rename_i h
      cases e
      obtain rfl := hx.int
      obtain rfl := hy.int
      exact ⟨_, _, rfl, rfl, h, q _ H (Same.refl H) (.int _)⟩
    · cases e
  · cases e

/-! ### min, max of two -/
def dMax2 : List D → Option D
  | [.int a, .int b] => some (.int (max a b))
  | _ => none
def dMin2 : List D → Option D
  | [.int a, .int b] => some (.int (min a b))
  | _ => none
theorem dc_max2 (hc : X.calm = true) : DCall X (.builtin "max") dMax2 := by
  refine ⟨_, call_max2 hc, fun H A vs ds d Q ha hv e q => ?_⟩
  unfold dMax2 at e
  split at e
  · cases e
    obtain ⟨v, v2, rfl, h1, h2⟩ := pair2 hv
    obtain rfl := h1.int
    obtain rfl := h2.int
    refine ⟨_, _, rfl, ?_⟩
    rename_i a b
    have e : (if b > a then b else a) = max a b := by split <;> omega
    rw [e]
    exact q _ H (Same.refl H) (.int _)
  · cases e
theorem dc_min2 (hc : X.calm = true) : DCall X (.builtin "min") dMin2 := by
  refine ⟨_, call_min2 hc, fun H A vs ds d Q ha hv e q => ?_⟩
  unfold dMin2 at e
  split at e
  · cases e
    obtain ⟨v, v2, rfl, h1, h2⟩ := pair2 hv
    obtain rfl := h1.int
    obtain rfl := h2.int
    refine ⟨_, _, rfl, ?_⟩
    rename_i a b
    have e : (if b < a then b else a) = min a b := by split <;> omega
    rw [e]
    exact q _ H (Same.refl H) (.int _)
  · cases e

/-! ### ints in order -/
def insI (a : Int) : List Int → List Int
  | [] => [a]
  | b :: r => if a ≤ b then a :: b :: r else b :: insI a r
def srtI : List Int → List Int
  | [] => []
  | a :: r => insI a (srtI r)
theorem insI_perm (a : Int) : ∀ r : List Int, (insI a r).Perm (a :: r)
  | [] => .refl _
  | b :: r => by
    unfold insI
    split
    · exact .refl _
    · exact ((insI_perm a r).cons b).trans (.swap a b r)
theorem srtI_perm : ∀ l : List Int, (srtI l).Perm l
  | [] => .refl _
  | a :: r => (insI_perm a (srtI r)).trans ((srtI_perm r).cons a)
theorem insI_sorted {a : Int} : ∀ {r : List Int}, r.Pairwise (· ≤ ·) → (insI a r).Pairwise (· ≤ ·)
  | [], _ => List.pairwise_singleton _ _
  | b :: r, h => by
    rw [List.pairwise_cons] at h
    unfold insI
    split
    · rename_i hab
      refine List.pairwise_cons.mpr ⟨fun y hy => ?_, List.pairwise_cons.mpr h⟩
      rcases List.mem_cons.mp hy with rfl | hy
      · exact hab
      · exact Int.le_trans hab (h.1 y hy)
    · refine List.pairwise_cons.mpr ⟨fun y hy => ?_, insI_sorted h.2⟩
      rcases List.mem_cons.mp ((insI_perm a r).mem_iff.mp hy) with rfl | hy
      · omega
      · exact h.1 y hy
theorem srtI_sorted : ∀ l : List Int, (srtI l).Pairwise (· ≤ ·)
  | [] => .nil
  | a :: r => insI_sorted (srtI_sorted r)
theorem sorted_uniq : ∀ {l m : List Int}, l.Perm m → l.Pairwise (· ≤ ·) → m.Pairwise (· ≤ ·) → l = m
  | [], m, p, _, _ => by rw [List.nil_perm.mp p]
  | a :: l, [], p, _, _ => absurd p.length_eq (by simp)
  | a :: l, b :: m, p, h1, h2 => by
    rw [List.pairwise_cons] at h1 h2
    have hab : a = b := by
      have ha : a ∈ b :: m := p.mem_iff.mp List.mem_cons_self
      have hb : b ∈ a :: l := p.mem_iff.mpr List.mem_cons_self
      rcases List.mem_cons.mp ha with e | ha
      · exact e
      · rcases List.mem_cons.mp hb with e | hb
        · exact e.symm
        · exact Int.le_antisymm (h1.1 b hb) (h2.1 a ha)
    subst hab
    rw [sorted_uniq p.cons_inv h1.2 h2.2]
theorem srtI_eq {l m : List Int} (p : m.Perm l) (h : m.Pairwise (· ≤ ·)) : m = srtI l := sorted_uniq (p.trans (srtI_perm l).symm) h (srtI_sorted l)
theorem ints_data {K : Frg} {H : Hp} {A : List Addr} : ∀ ns : List Int, RepL K H A (ns.map V.int) (ns.map PyData.int)
  | [] => .nil
  | n :: r => .cons (.int n) (ints_data r)
/-- the distinct ones -/
def nubI (l : List Int) : List Int := l.foldl (fun ks a => if ks.contains a then ks else ks ++ [a]) []
theorem nubI_oss (l : List Int) : nubI l = PySem.W.ossOf l := by
  unfold nubI PySem.W.ossOf
  congr 1
  funext ks a
  rw [PySem.W.oss_step]
  by_cases h : a ∈ ks <;> simp [h]
/-- sorted(xs) of ints -/
def dSorted : List D → Option D
  | [.list xs] => (intsOf xs).map fun ns => .list ((srtI ns).map .int)
  | _ => none
theorem dc_sorted : DCallN X (.builtin "sorted") dSorted := by
  refine ⟨_, cr_sortedI, fun H A vs ds d Q ha hv e q => ?_⟩
  unfold dSorted at e
  split at e
  · obtain ⟨ns, h1, h2⟩ := Option.map_eq_some_iff.mp e
    cases h2
    obtain ⟨v, rfl, h⟩ := pair1 hv
    obtain ⟨p, us, rfl, h3, r⟩ := h.lst
    obtain rfl := intsOf_rep r h1
    refine ⟨p, ns, rfl, SqL.of h3, fun ns' n h4 h5 hn => ?_⟩
    obtain rfl := srtI_eq h4 h5
    exact q _ _ (same_upd hn) ⟨n, rfl, hn, orep_lst hn (ints_data _)⟩
  · cases e
theorem fn_callB {id : String} {df : List D → Option D} (hc : DCallN X (.builtin id) df) (hg : Gl X x) (hm : X.mg x = none) (hv : bootBuiltins x = some (.builtin id)) (ha : FAB X W (e :: es) l) (hn : x ≠ "__name__" := by decide) (hdb : (x == ("__debug__" : Str)) = false := by decide)
    (he : starEach (e :: es) X.env = (false, eval e X.env) :: starEach es X.env := by rfl) (hpl : (backTo pos (starEach es X.env)).any (·.1) = false := by rfl) : FN X W false (.Call (.Name x p1) (e :: es) [] pos) (cCall df l) := by
  obtain ⟨r, hr, hs⟩ := hc
  refine impE (pe_callB hr hg hm hv ha hn hdb he hpl) fun σ H Q ⟨H0, A0, A, ρ, o, P⟩ => ?_
  refine ⟨H0, A0, A, ρ, o, P.bind.mono fun ds H1 s1 P1 vs hvs => ?_⟩
  obtain ⟨d, e, P2⟩ := P1.ofO
  refine hs H1 A vs ds d Q (o.same s1).has hvs e fun v H' s hv => P2 H' s v ?_
  obtain ⟨p, e, n, r⟩ := hv
  exact ⟨p, e, s1.free n, r⟩
/-- set(t), t a tuple of ints -/
def rSetT (K : Frg) (w : World) : List V → Hp → VK → Prop := fun xs H Q => ∃ (l : Addr) (ns : List Int), xs = [.ref l] ∧ SqT K H l (ns.map V.int) ∧ ns.length ≤ 1000 ∧
  ∀ p n, H p = none → n ≤ ns.length → Q (.ref p) (upd H p (SetO w p (fun k => decide (k ∈ ns)) n))
theorem cr_setT (hc : X.calm = true) : CallR X (.type "set") (rSetT X.K X.w) := by
  intro pins s σ H xs us Q I r h
  obtain ⟨l, ns, rfl, hq, hl, q⟩ := h
  rw [Vals.ref1 r]
  obtain ⟨its, rv, pt, hz⟩ := I.tuple hq
  have hi : IntsAre its.toArray.toList ns := by simpa using RZ.intsAre_vals rv
  refine call_set_tupI ns (I.ok.hd hc) (show s.heap.IsTuple l its.toArray from pt) hi (by unfold scanBound; omega) fun h' tk c R1 hcn k => ?_
  exact ⟨.ref s.heap.objs.size, _, I.laid k (Nat.le_refl _) (setO_new R1), rfl, q _ c I.fresh hcn⟩
/-- sorted(set(t)) -/
def dSortSet : D → Option D
  | .tuple xs => (intsOf xs).bind fun ns => if ns.length < 64 then some (.list ((srtI (nubI ns)).map .int)) else none
  | _ => none
theorem strict_le {l : List Int} (h : l.Pairwise (· < ·)) : l.Pairwise (· ≤ ·) := h.imp fun h => Int.le_of_lt h
theorem nodup_strict {l : List Int} (h : l.Pairwise (· < ·)) : l.Nodup := h.imp fun h => Int.ne_of_lt h
theorem nubI_mem {l : List Int} {x : Int} : x ∈ nubI l ↔ x ∈ l := by
  rw [nubI_oss]
  exact PySem.W.oss_has
theorem nubI_nodup (l : List Int) : (nubI l).Nodup := by
  unfold nubI
  have : ∀ (l ks : List Int), ks.Nodup → (l.foldl (fun ks a => if ks.contains a then ks else ks ++ [a]) ks).Nodup := by
    intro l
    induction l with
    | nil => exact fun ks h => h
    | cons a l ih =>
      intro ks h
      rw [List.foldl_cons]
      refine ih _ ?_
      split
      · exact h
      · rename_i hn
        refine List.nodup_append.mpr ⟨h, by simp, fun x hx y hy z => ?_⟩
        simp at hy
        subst hy
        subst z
        exact hn (by simpa using hx)
  exact this l [] .nil
theorem perm_nodup {l m : List Int} (h1 : l.Nodup) (h2 : m.Nodup) (h : ∀ x, x ∈ l ↔ x ∈ m) : l.Perm m := (List.perm_ext_iff_of_nodup h1 h2).mpr h
theorem fn_sortset {t : Bool} (hc : X.calm = true) (hg : Gl X "sorted") (hm : X.mg "sorted" = none) (hg2 : Gl X "set") (hm2 : X.mg "set" = none) (ha : FB X W a f) (he : starEach [a] X.env = (false, eval a X.env) :: starEach [] X.env := by rfl)
    (he2 : starEach [.Call (.Name "set" p2) [a] [] q] X.env = (false, eval (.Call (.Name "set" p2) [a] [] q) X.env) :: starEach [] X.env := by rfl) :
    FN X W t (.Call (.Name "sorted" p1) [.Call (.Name "set" p2) [a] [] q] [] pos) (cUn dSortSet f) := by
  refine impE (pe_callB (cr_sortedSet hc) hg hm PyProof.Rows.boot_sorted (pa_cons (pe_callTy (cr_setT hc) hg2 hm2 PyProof.Rows.boot_set (pa_cons ha pa_nil he) (by decide) (by decide) he) pa_nil he2) (by decide) (by decide) he2) fun σ H Q ⟨H0, A0, A, ρ, o, P⟩ => ?_
  refine ⟨H0, A0, A, ρ, o, P.bind.mono fun d H1 s1 P1 v hv => ?_⟩
  obtain ⟨d2, e, P2⟩ := P1.ofO
  unfold dSortSet at e
  split at e
  · obtain ⟨ns, h1, h2⟩ := Option.bind_eq_some_iff.mp e
    split at h2
    · rename_i hl
      cases h2
      obtain ⟨p, us, rfl, h3, r⟩ := hv.tup
      obtain rfl := intsOf_rep r h1
      refine ⟨p, ns, rfl, h3, by omega, fun p' n hn hle => ⟨p', _, n, rfl, upd_same, by omega, fun ns' p'' k1 k2 k3 k4 => ?_⟩⟩
      have e1 : ns' = srtI (nubI ns) := srtI_eq (perm_nodup (nodup_strict k1) (nubI_nodup ns) fun x => by rw [k2 x, decide_eq_true_iff, nubI_mem]) (strict_le k1)
      subst e1
      have sm : Same H1 (upd H1 p' (SetO X.w p' (fun k => decide (k ∈ ns)) n)) := same_upd hn
      exact P2 _ (sm.trans (same_upd k4)) _ ⟨p'', rfl, s1.free (sm.free k4), orep_lst k4 (ints_data _)⟩
    · cases h2
  · cases e
/-- len(set(xs)) -/
def dLenSet : D → Option D
  | .list xs => (intsOf xs).bind fun ns => if ns.length ≤ 1000 then some (.int (nubI ns).length) else none
  | _ => none
theorem fe_lenset (hc : X.calm = true) (hg : Gl X "len") (hm : X.mg "len" = none) (hg2 : Gl X "set") (hm2 : X.mg "set" = none) (ha : FB X W a f) (na : starEach [a] X.env = (false, eval a X.env) :: starEach [] X.env := by rfl) :
    FE X W (.Call (.Name "len" p1) [.Call (.Name "set" p2) [a] [] q] [] pos) (cUn dLenSet f) := by
  refine ⟨fun pins s σ H Q I ⟨H0, A0, A, ρ, o, P⟩ => ?_⟩
  refine Call_ (ld_blt I hg hm PySem.boot_len (PyProof.Rows.callWith_builtin1 (PyProof.Rows.args_cons (Call_ (ld_blt I hg2 hm2 PyProof.Rows.boot_set ?_)) rfl) rfl rfl))
  refine PyProof.Rows.callWith_type1 (PyProof.Rows.args_cons (thn (ha.run pins s σ H (fun x H1 => ∃ l ns, x = V.ref l ∧ SqL X.K H1 l (ns.map V.int) ∧ ns.length ≤ 1000 ∧ Q (.int (nubI ns).length) H1) I ⟨H0, A0, A, ρ, o, P.bind.mono fun d H1 s1 P1 v hv => ?_⟩) fun v s1 ⟨x, H1, I1, r1, q1⟩ => PyProof.Rows.args_nil ?_) na) na rfl
  · obtain ⟨d2, e, P2⟩ := P1.ofO
    unfold dLenSet at e
    split at e
    · obtain ⟨ns, h1, h2⟩ := Option.bind_eq_some_iff.mp e
      split at h2
      · rename_i hl
        cases h2
        obtain ⟨p, us, rfl, h3, r⟩ := hv.lst
        obtain rfl := intsOf_rep r h1
        exact ⟨p, ns, rfl, SqL.of h3, hl, P2 H1 (Same.refl _) _ (.int _)⟩
      · cases h2
    · cases e
  · obtain ⟨p, ns, rfl, hs, hl, q1⟩ := q1
    cases r1
    obtain ⟨its, r, pl, hz⟩ := I1.list hs
    have e1 : its.toArray.size = ns.length := by rw [List.size_toArray, ← r.length, List.length_map]
    refine call_set_list (I1.ok.hd hc) pl.isList (ns := ns) (by simpa using r.ints) (by unfold scanBound; omega) fun h' tk hS hk => ?_
    rw [e1, PySem.W.oss_met, ← nubI_oss] at hS
    refine PyProof.Rows.args_nil ?_
    obtain ⟨o, es, ep, t, ho, hex, hd, _, _, _, hf, hn⟩ := hS
    have I2 : Inv X pins σ H1 { s1 with heap := h', toks := tk } := I1.kept fun b o e => hk b o (Heap.lt_size e) e
    have hb : (nubI ns).length ≤ ns.length := by rw [nubI_oss]; exact PySem.W.oss_len ns
    exact call_len_set ho hex hd hf (by rw [hn]; omega) ⟨.int (nubI ns).length, H1, I2.tok _, ⟨_, by rw [hn]⟩, q1⟩
/-- list(range(n)) -/
def dListRange (o : Option (List D)) : Option D := o.map .list
/-- x.index(y), x a list -/
def idxD (d : D) : List D → Option Nat
  | [] => none
  | z :: r => if PyData.eqv z d = true then some 0 else (idxD d r).map (· + 1)
theorem idxD_some {d : D} : ∀ {ds : List D} {j : Nat}, idxD d ds = some j → ∃ z, ds[j]? = some z ∧ PyData.eqv z d = true ∧ ∀ (m : Nat) (z' : D), m < j → ds[m]? = some z' → PyData.eqv z' d = false
  | [], j, h => by cases h
  | z :: r, j, h => by
    unfold idxD at h
    split at h
    · rename_i hz
      cases h
      exact ⟨z, rfl, hz, fun m z' hm => absurd hm (Nat.not_lt_zero _)⟩
    · rename_i hz
      obtain ⟨i, h1, h2⟩ := Option.map_eq_some_iff.mp h
      subst h2
      obtain ⟨z', h3, h4, h5⟩ := idxD_some h1
      refine ⟨z', by simpa using h3, h4, fun m z2 hm h6 => ?_⟩
      cases m with
      | zero => simp at h6; subst h6; exact Bool.eq_false_iff.mpr hz
      | succ m => exact h5 m z2 (by omega) (by simpa using h6)
def dIndex (ds : List D) (d : D) : Option D := if SeqAt.shaped (.list ds) = true ∧ SeqAt.shaped d = true then (idxD d ds).map fun (j : Nat) => .int j else none
def cIndex (f g : En → R D) : En → R D := fun ρ => (f ρ).bind fun x => match x with
  | .list ds => (g ρ).bind fun d => ofO (dIndex ds d)
  | _ => .no
theorem fe_index {apos cpos : Pos} (hu : X.A.units + 65 < cLine) (ha : FB X W a f) (hb : FE X W b g) (hbase : attributeBase a "index" X.env (eval a X.env) = eval a X.env := by rfl)
    (hfew : ((backTo cpos (starEach (b :: []) X.env)).all (fun x => !x.1) && (backToKw cpos (keywordEach [] X.env)).all (fun x => x.1.isSome)
      && decide ((b :: []).length + ([] : List Keyword).length + (if ([] : List Keyword).isEmpty then 0 else 1) < 30)) = true := by rfl)
    (hline : (apos.endLine == cpos.line) = true := by rfl) (hs : starEach (b :: []) X.env = (false, eval b X.env) :: starEach [] X.env := by rfl) (hplain : (backTo cpos (starEach [] X.env)).any (·.1) = false := by rfl) :
    FE X W (.Call (.Attribute a "index" apos) [b] [] cpos) (cIndex f g) := by
  refine impE (pe_bm PySem.F.plainAttrs_list PySem.F.slot_list_index PySem.F.type_list_index (mt_indexD hu) ha (pa_cons hb pa_nil hs) hbase hfew hline hs hplain) fun σ H Q ⟨H0, A0, A, ρ, o, P⟩ => ?_
  refine ⟨H0, A0, A, ρ, o, P.bind.mono fun d1 H1 s1 P1 x hx => ?_⟩
  split at P1
  · rename_i ds
    obtain ⟨p, vs, rfl, h4, r⟩ := hx.lst
    refine ⟨Or.inl ⟨rfl, vs, SqL.of h4⟩, H0, A0, A, ρ, o.same s1, P1.bind.mono fun d2 H2 s2 P2 y hy => ?_⟩
    obtain ⟨d, e, P3⟩ := P2.ofO
    unfold dIndex at e
    split at e
    · rename_i hsh
      obtain ⟨j, e1, e2⟩ := Option.map_eq_some_iff.mp e
      cases e2
      obtain ⟨z, h1, h2, h3⟩ := idxD_some e1
      exact ⟨p, y, d2, _, j, z, rfl, rfl, (hx.same s2).dp hsh.1, (RepB.of hy).dp hsh.2, hsh.1, hsh.2, h1, h2, h3, P3 H2 (Same.refl _) _ (.int _)⟩
    · cases e
  · exact P1.elim
end
end G

set_option maxHeartbeats 2000000
/-! an own error: super().__init__(at); self.at = at -/
namespace PySem
namespace AeX
open PySem.W PySem.Calls PyProof.Rows PySem.HandSPX
def aA (p1 p2 : Pos) : Arguments := { posonlyargs := [], args := [{ arg := "self", annotation := none, pos := p1 }, { arg := "at", annotation := none, pos := p2 }], vararg := none, kwonlyargs := [], kw_defaults := [], kwarg := none, defaults := [] }
def aB (q0 q1 q2 q3 q4 q5 r1 r2 r3 r4 : Pos) : List Stmt := [.Expr (.Call (.Attribute (.Call (.Name "super" q0) [] [] q1) "__init__" q2) [.Name "at" q3] [] q4) q5, .Assign [.Attribute (.Name "self" r1) "at" r2] (.Name "at" r3) r4]
def aS : Scope := { kind := .function, names := [(PySem.Str.ofString "self", .local), (PySem.Str.ofString "at", .local), (PySem.Str.ofString "__class__", .free), (PySem.Str.ofString "super", .globalImplicit)], isGenerator := false, isCoroutine := false, more := [] }
/-- what the written part says of the error at C, of the base class at D and its __init__ at fI -/
structure Txt (P : Program) (K : Frag) (mg : Str → Option Value) (C D fI : Addr) : Prop where
  cls : ∃ nm q N bs bm sn sub ab col dd k0 k1 k2 k3 k5, K.lookup C = some (excClassObj nm q C N bs bm true sn sub ab col dd k0 k1 k2 k3 k5 "ValueError.__new__") ∧ refsVE bm = true
  sa : findIn K (.ref C) "__setattr__" = some (some (.builtin "object.__setattr__"))
  ga : findIn K (.ref C) "__getattribute__" = some (some (.builtin "BaseException.__getattribute__"))
  gg : findIn K (.ref C) "__getattr__" = some none
  noN : findIn K (.ref C) "at" = some none
  iC : findIn K (.ref C) "__init__" = some (some (.ref fI))
  tC : typeIn K (.ref fI) = some (.type "function")
  kC : keepIn K (.ref C) = true
  exC : subIn K (.ref C) (.type "BaseException") = some true
  tyC : typeIn K (.ref C) = some (.type "type")
  hdC : hasDictIn K C = true
  sup : ks_superIn K C D "__init__" = some (some (.builtin "ValueError.__init__"))
  isD : mroIn K C (.ref D) = some true
  veC : subIn K (.ref C) (.type "ValueError") = some true
  opq : nsIn K cStatics "thirdparty.any" = some none
  clD : ∃ cdD, clsIn K D = some cdD
  nsu : mg "super" = none
  top : (P.main.scope.names.lookup ("super" : Str)).isSome = false
  fn : ∃ (oc : Value) (od : Option Addr) (doc pm : Value) (an : Option Addr) (cda : Addr) (ct : Value) (osl : Array (Option Value)) (cc : Addr) (p1 p2 q0 q1 q2 q3 q4 q5 r1 r2 r3 r4 : Pos),
    K.lookup fI = some ⟨oc, od, .func (ksFn "__init__" "AuctionError.__init__" (aA p1 p2) (aB q0 q1 q2 q3 q4 q5 r1 r2 r3 r4) aS .none .none doc pm an (.ref cda) ct cc), osl⟩ ∧ codeIn K (.ref cda) "AuctionError.__init__" = true ∧
    (∀ env : Env, ∃ pl : Sem Bool, eval (.Call (.Attribute (.Call (.Name "super" q0) [] [] q1) "__init__" q2) [.Name "at" q3] [] q4) env = (do
      let ov ← attributeBase (.Call (.Name "super" q0) [] [] q1) "__init__" env (eval (.Call (.Name "super" q0) [] [] q1) env)
      standAt q2.atName
      let (f, first) ← holding [ov] (getMethod ov "__init__" pl)
      callWith q4 f first (backTo q4 (starEach [.Name "at" q3] env)) [])) ∧
    (∃ (ccl : Value) (cdd : Option Addr) (vs : Array Value) (ccs : Array (Option Value)) (file : Str) (tf : Tok), K.lookup cda = some ⟨ccl, cdd, .fields vs, ccs⟩ ∧ vs[2]? = some (.str file tf) ∧ ((P.main.file : Str) == file) = true) ∧
    ∃ (cl : Value) (cld : Option Addr) (csl : Array (Option Value)), K.lookup cc = some ⟨cl, cld, .cell (some (.ref D)), csl⟩
theorem ldF {M : Model} {A : Around} {E : Value → Shared → Prop} {s : Shared} {name : Str} {scope : Scope} {L a cc : Addr} {cd : Value} {m : Str → Option Value} {x : Str} {pos : Pos} {v : Value} {Q : Value → Shared → Prop} (hn : s.heap.Ns L m) (hv : m x = some v) (h : Q v s)
    (hk : scope.kind = .function := by rfl) (hl : (ksEnv name scope L a cd cc).kindOf x = some .local := by rfl) (hd : (x == ("__debug__" : Str)) = false := by decide) :
    wpAny M A (eval (.Name x pos) (ksEnv name scope L a cd cc)) Q E s := wpAny_Name (wpAny_loadName_local hk hl hn hv h) hd
/-- what __init__ leaves of a fresh error at x -/
structure InitEnd (h h' : Heap) (x C dx : Addr) (v : Value) : Prop where
  keep : ∀ b o, b ≠ x → h.get? b = some o → h'.get? b = some o
  obj : ∃ t1 : Addr, h'.get? x = some { cls := .ref C, dict := some dx, data := .fields #[.ref t1, .none, .none, .none, .bool false, .none] }
  dbig : h.objs.size ≤ dx
  dne : dx ≠ x
  ns : h'.Ns1 dx (fun y => if y = "at" then some v else none)
section
variable {prog : Program} {w : World} {A : Around} {E : Value → Shared → Prop} {R : Result → Shared → Prop} {K : Frag} {mg mb : Str → Option Value} {C D fI : Addr}
variable {nm q : Str} {N : Addr} {bs bm : List Value} {hdct : Bool} {sn : List Str} {sub : List Value} {ab : Bool} {col : Option Bool} {dd : Option Addr} {k0 k1 k2 k3 k5 : Option Value}
/-- the bound ValueError.__init__ is called -/
theorem call_mw {h : Heap} {g : Array GenState} {d : Drawn} {t : Nat} {os : OsState} {u e t0 : Addr} {rest : List Value} {Q : Value → Shared → Prop}
    (hC : h.get? C = some (excClassObj nm q C N bs bm hdct sn sub ab col dd k0 k1 k2 k3 k5 "ValueError.__new__")) (he : h.get? e = some (excO C t0)) (hu : h.get? u = some (kxs_mw "ValueError.__init__" e)) (hrest : rest.length ≤ sizeLine)
    (hq : ∀ h' t1, (∀ b o, b ≠ e → h.get? b = some o → h'.get? b = some o) → h'.get? e = some (excO C t1) → Q .none ⟨h', g, d, t, os⟩) :
    wpAny (model prog w) A (call (.ref u) rest) Q E ⟨h, g, d, t, os⟩ := by
  refine wpAny_call (codeAny_of_tree ?_)
  show wpAny _ A.in1 (callAny (.ref u) ⟨rest, []⟩) _ _ _
  simp only [callAny]
  refine wpAny_bind (wpAny_load hu ?_)
  simp only [kxs_mw, show (Value.type "method-wrapper" == Value.type "method" || Value.type "method-wrapper" == Value.type "builtin_function_or_method" || Value.type "method-wrapper" == Value.type "method-wrapper") = true by decide, if_true]
  refine W.KFB.if_so (by decide) ?_
  refine wpAny_bind (ESX.check_bound F.excBase_ValueError hC he rfl ?_)
  refine wpAny_bind (wpAny_pure (wpAny_pure ?_))
  refine ⟨Code.quiet_builtin _ (by decide +kernel), codeAny_builtin F.excBase_ValueError.initEntry ?_⟩
  rw [Around.under_plainId F.excBase_ValueError.init.plain _]
  wp_walk
  refine hq _ h.objs.size (fun b o hb ho => ?_) ?_
  · rw [Heap.get?_update_other _ _ (Ne.symm hb)]
    exact Heap.get?_push_of_some _ ho
  · rw [Heap.get?_update_self _ (Heap.get?_push_of_some _ he) rfl]
    rfl
theorem ae_init {s : Shared} (T : Txt prog K mg C D fI) {x t0 : Addr} {v : Value} (X : K.In s.heap) (hG : s.heap.Ns mainGlobals mg) (hB : s.heap.Ns builtinsNs mb) (hbb : ∀ x : Str, x ≠ "__name__" → mb x = bootBuiltins x) (hlim : s.heap.NoLimit) (hx : s.heap.get? x = some (excO C t0)) (hnx : K.lookup x = none) (hroom : A.depth < recursionLimit)
    (hq : ∀ h' tk dx, InitEnd s.heap h' x C dx v → R (.ok (.ret .none)) { s with heap := h', toks := tk }) :
    codeAny (model prog w) A (.call (.ref fI) ⟨[.ref x, v], []⟩) R s := by
  obtain ⟨oc, od, doc, pm, an, cda, ct, osl, cc, p1, p2, q0, q1, q2, q3, q4, q5, r1, r2, r3, r4, ho, hcd, hev, ⟨ccl, cdd, vs, ccs, file, tf, hcode, hvs, hfile⟩, ⟨cl, cld, csl, hcell⟩⟩ := T.fn
  obtain ⟨nm, q, N, bs, bm, sn, sub, ab, col, dd, k0, k1, k2, k3, k5, hC, hbm⟩ := T.cls
  obtain ⟨cdD, hD⟩ := T.clD
  have hcl : clsIn K C = some { name := nm, bases := bs, mro := .ref C :: bm, ns := N, qualname := q, hasDict := true, slotNames := sn, subclasses := sub, abstract := ab, collection := col, hasDel := false } := by unfold clsIn; rw [hC] <;> rfl
  refine ks_codeAny_call_defAt (binds := [("self", .ref x), ("at", v)]) hroom (X _ _ ho) rfl hlim (codeRec_of X hcd) rfl (BindsTo.of_eq (by first | rfl | with_unfolding_all rfl)) (show ∀ y ∈ aS.names, y.2 ≠ .cell by decide) (show ∀ y ∈ [(("self" : Str), Value.ref x), ("at", v)], aS.names.lookup y.1 = some .local from fun y hy => ?_) (fun h₁ hn k => ?_) rfl rfl rfl
  · rcases List.mem_cons.mp hy with rfl | hy
    · rfl
    · obtain rfl := List.mem_singleton.mp hy
      rfl
  have hxL : s.heap.objs.size ≠ x := Nat.ne_of_gt (Heap.lt_size hx)
  have X₁ : K.In h₁ := X.keeps k
  have hx₁ := k _ _ hx
  obtain ⟨oD, hD1, hD2⟩ : ∃ oD, h₁.get? D = some oD ∧ oD.data = .cls cdD := by
    unfold clsIn at hD
    split at hD
    · rename_i c d cd' sl ho
      cases hD
      exact ⟨_, X₁ _ _ ho, rfl⟩
    · cases hD
  have I₁ : InstAt h₁ x (excO C t0) C none := ⟨hx₁, rfl, rfl, trivial⟩
  obtain ⟨pl, he⟩ := hev (ksEnv "AuctionError.__init__" aS s.heap.objs.size fI (.ref cda) cc)
  refine ks_wpAt_execs_cons (ks_wpAt_Expr_any (ks_wpAt_MethodCall (pl := pl) ?_ he))
  -- super()
  refine ks_wpAt_super_base (env := ksEnv "AuctionError.__init__" aS s.heap.objs.size fI (.ref cda) cc) rfl rfl (by decide) rfl (X₁ _ _ ho) rfl rfl rfl (X₁ _ _ hcode) rfl hvs hfile T.top ?_
  refine ks_loadName_global rfl rfl (loadGlobal_builtin (env := ksEnv "AuctionError.__init__" aS s.heap.objs.size fI (.ref cda) cc) (hG.keeps k) T.nsu (hB.keeps k) ((hbb _ (by decide +kernel)).trans (by first | rfl | kernel_rfl)) ⟨rfl, ?_⟩)
  refine wpAny_loadName_free rfl rfl rfl ⟨_, X₁ _ _ hcell, rfl⟩ ?_
  refine wpAny_loadName_local rfl rfl hn (show _ = some (Value.ref x) from by first | rfl | with_unfolding_all rfl) ?_
  refine ks_wpAny_isType_cls hD1 hD2 ⟨rfl, ?_⟩
  refine ks_wpAny_call_super hD1 hD2 I₁.at_ I₁.cls (fun c e => ?_) (looks_mroIn X₁ T.isD) (fun h2 e2 k2 => ?_)
  · cases e
  -- .__init__
  have X₂ : K.In h2 := X₁.keeps k2
  have I₂ : InstAt h2 x (excO C t0) C none := ⟨k2 _ _ hx₁, rfl, rfl, trivial⟩
  have hm := T.sup
  unfold ks_superIn at hm
  rw [hcl] at hm
  refine kxs_getMethod kxs_ValueError e2 (looks_opaque X₂ T.opq) (l₀ := .ref C :: bm) ?_ rfl X₂ hm (I₂.type.andThen (looks_subIn X₂ T.veC)) (ks_ne X₂ I₂ hcl) (by decide) ?_
  · exact fun A Q E s k q => wpAny_bind ((looks_clsIn X₂ hcl) A _ E s k (wpAny_pure q))
  -- (at)
  have k3 : ∀ b o, h2.get? b = some o → (h2.push (kxs_mw "ValueError.__init__" x)).get? b = some o := fun b o e => Heap.get?_push_of_some _ e
  have hmw : (h2.push (kxs_mw "ValueError.__init__" x)).get? h2.objs.size = some (kxs_mw "ValueError.__init__" x) := Heap.get?_push_at rfl rfl
  refine kxs_callWith (i := "ValueError.__init__") (x := x) rfl (evalArgs_plain (PyProof.Rows.args_cons (ldF (v := v) ((hn.keeps k2).keeps k3) (by first | rfl | with_unfolding_all rfl) (PyProof.Rows.args_nil ?_)) rfl))
  refine ⟨hmw, ?_⟩
  refine call_mw (k3 _ _ (X₂ _ _ hC)) (k3 _ _ I₂.at_) hmw (by show 1 ≤ sizeLine; rw [sizeLine_eq]; omega) fun h4 t1 k4 hx4 => ?_
  have kk : ∀ b o, b ≠ x → h₁.get? b = some o → h4.get? b = some o := fun b o hb e => k4 b o hb (k3 b o (k2 b o e))
  have X₄ : K.In h4 := fun a o e => kk a o (fun z => by rw [z, hnx] at e; cases e) (X₁ _ _ e)
  have hn4 : h4.Ns s.heap.objs.size (fun y => [(("self" : Str), Value.ref x), ("at", v)].reverse.lookup y) := by
    obtain ⟨o, es, ep, e, r⟩ := hn
    exact ⟨o, es, ep, kk _ _ hxL e, r⟩
  -- self.at = at
  refine wpAt_of_wpAny (wpAny_execs_cons (plainObj_wpAny_Assign_Attribute ?_))
  refine ldF (v := v) hn4 (by first | rfl | with_unfolding_all rfl) (ldF (v := .ref x) hn4 (by first | rfl | with_unfolding_all rfl) ?_)
  refine set_plain X₄ (ox := excO C t1) (od := none) ⟨hx4, rfl, rfl, trivial⟩ T.sa ?_
  refine exc_osa X₄ hx4 hcl (show refsVE (.ref C :: bm) = true from hbm) rfl T.noN (fun h₅ tk₅ dx k₅ dn dne hx₅ hn₅ => ?_)
  have z : s.heap.objs.size < h₁.objs.size := hn.lt
  have z4 : s.heap.objs.size < h4.objs.size := hn4.lt
  exact wpAny_execs_nil (hq h₅ tk₅ dx ⟨fun b o hb e => k₅ b o hb (kk b o hb (k b o e)), ⟨t1, hx₅⟩, Nat.le_of_lt (Nat.lt_of_lt_of_le z4 dn), dne, hn₅⟩)
/-- a made error -/
structure Made (h h' : Heap) (e C d : Addr) (v : Value) : Prop where
  keep : ∀ b o, h.get? b = some o → h'.get? b = some o
  new : h.objs.size ≤ e
  obj : ∃ oe vs, h'.get? e = some oe ∧ oe.cls = .ref C ∧ oe.dict = some d ∧ oe.data = .fields vs ∧ vs[1]? = some .none ∧ vs[2]? = some .none
  dbig : h.objs.size ≤ d
  dne : d ≠ e
  ns : h'.Ns1 d (fun y => if y = "at" then some v else none)
theorem ae_made {s : Shared} (T : Txt prog K mg C D fI) {v : Value} (X : K.In s.heap) (hG : s.heap.Ns mainGlobals mg) (hB : s.heap.Ns builtinsNs mb) (hbb : ∀ x : Str, x ≠ "__name__" → mb x = bootBuiltins x) (hlim : s.heap.NoLimit) (hroom : A.depth + 1 < recursionLimit)
    (hq : ∀ h' tk e d, Made s.heap h' e C d v → R (.ok (.ret (.ref e))) { s with heap := h', toks := tk }) : codeAny (model prog w) A (.call (.ref C) ⟨[v], []⟩) R s := by
  obtain ⟨nm, q, N, bs, bm, sn, sub, ab, col, dd, k0, k1, k2, k3, k5, hC, hbm⟩ := T.cls
  obtain ⟨hp, g, dr, tk, os⟩ := s
  have k : ∀ b o, hp.get? b = some o → ((hp.push (kdv_tup [v])).push (excO C hp.objs.size)).get? b = some o := fun b o e => Heap.get?_push_of_some _ (Heap.get?_push_of_some _ e)
  have hx : ((hp.push (kdv_tup [v])).push (excO C hp.objs.size)).get? (hp.objs.size + 1) = some (excO C hp.objs.size) := by heap_get
  have hnx : K.lookup (hp.objs.size + 1) = none := by
    cases e : K.lookup (hp.objs.size + 1) with
    | none => rfl
    | some o => exact absurd (Nat.lt_of_succ_lt (Heap.lt_size (show hp.get? (hp.objs.size + 1) = some o from X _ _ e))) (Nat.lt_irrefl _)
  refine call_own F.excBase_ValueError (fun X => refsVE_contains X bm hbm) (X _ _ hC) (looks_findIn X T.iC) (fun self => bind_fn X self T.tC) (by show 1 ≤ sizeLine; rw [sizeLine_eq]; omega) ?_
  refine ae_init (s := ⟨(hp.push (kdv_tup [v])).push (excO C hp.objs.size), g, dr, tk, os⟩) T (X.keeps k) (hG.keeps k) (hB.keeps k) hbb (hlim.keeps k) hx hnx (show A.depth + 1 < recursionLimit from hroom) fun h' tk' dx M => ?_
  have old : ∀ b o, hp.get? b = some o → h'.get? b = some o := fun b o e => M.keep b o (Nat.ne_of_lt (Nat.lt_succ_of_lt (Heap.lt_size e))) (k b o e)
  obtain ⟨t1, ho⟩ := M.obj
  have z : hp.objs.size ≤ dx := by
    have z2 := M.dbig
    simp only [Heap.size_push] at z2
    omega
  exact ⟨rfl, hq h' tk' (hp.objs.size + 1) dx ⟨old, Nat.le_succ _, ⟨_, _, ho, rfl, rfl, rfl, rfl, rfl⟩, z, M.dne, M.ns⟩⟩
end
end AeX
end PySem
namespace G
open PySem PySem.Spec PyProof.Rows L2
theorem relO_at {v : V} {v' : Value} (r : RelV v v') (f : Str) : RelO (List.lookup f [(("at" : Str), v)]) (if f = "at" then some v' else none) := by
  by_cases hw : f = "at"
  · subst hw
    rw [if_pos rfl, show List.lookup ("at" : Str) [(("at" : Str), v)] = some v by simp [List.lookup]]
    exact r
  · have qw : (f == ("at" : Str)) = false := by simpa using hw
    rw [if_neg hw, show List.lookup f [(("at" : Str), v)] = none by simp [List.lookup, qw]]
    trivial
/-- the errors that may be raised by their names -/
def ErrG (P : Program) (K : Frg) (mg : MgT) (x : Str) : Prop := ∃ C D fI, mg x = some (.ref C) ∧ PySem.AeX.Txt P K mg C D fI
section
variable {X : Cx} {W : WX} {C D1 fI : Addr} {a : Expr} {ta : TA} {x : Str} {p pos pos2 : Pos} {k : Nat} {f : En → R D}
def tMkE (C : Addr) (ta : TA) : St → Hp → XK → Prop := fun σ H Q => ta σ H fun vs H1 => ∃ v, vs = [v] ∧ ∀ d, H1 d = none → Q (.ref C) (some d) (upd H1 d (.xd [(("at" : Str), v)]))
theorem pmk_err (T : PySem.AeX.Txt X.prog X.K X.mg C D1 fI) (gC : X.mg x = some (.ref C)) (hr : Room k X.A) (ha : PA X [a] ta) (hg : Gl X x) (hdb : (x == ("__debug__" : Str)) = false := by decide)
    (he : starEach (a :: []) X.env = (false, eval a X.env) :: starEach [] X.env := by rfl) (hpl : (backTo pos (starEach [] X.env)).any (·.1) = false := by rfl) :
    L2N.PMk X (.Call (.Name x p) [a] [] pos) (tMkE C ta) := by
  intro pins s σ H Q I h
  refine wpAny_Call_Name_kw (ld_glob I hg gC ?_ hdb)
  refine PySem.W.callWith_K (h₀ := X.base) I.ok.mod.kin T.kC (thn (ha.run pos pins s σ H _ I h) fun us s1 ⟨vs, H1, I1, r1, v, ev, q1⟩ => ?_) he hpl
  subst ev
  refine ⟨I1.kIn, ?_⟩
  cases r1 with
  | cons rv rn =>
    rename_i v' us'
    cases rn
    obtain ⟨mb, hb, hbb⟩ := I1.ok.mod.blt
    have hG := I1.ok.mod.glob.keeps I1.bk
    have hB := hb.keeps I1.bk
    have hlim := I1.nolimit
    have hK := I1.kIn
    obtain ⟨hp, g, dr, tk, os⟩ := s1
    refine wpAny_call (PySem.AeX.ae_made T hK hG hB hbb hlim (by have := hr.dp; omega) fun h' tk' e d M => ?_)
    show L2N.MkP X pins σ Q (.ref e) ⟨h', g, dr, tk', os⟩
    obtain ⟨oe, fv, hoe, hc, hd, hdat, h1, h2c⟩ := M.obj
    obtain ⟨G', g1, g2⟩ := restrict h' fun b => decide (b ≠ e)
    have gk : ∀ b, b ≠ e → G'.get? b = h'.get? b := fun b hb => g1 b (decide_eq_true hb)
    have ge : G'.get? e = none := g2 e (by simp)
    have ob : ObjOk X.prog X.w (upd H1 d (.xd [(("at" : Str), v)])) G' d (.xd [(("at" : Str), v)]) := ⟨_, M.ns.at (fun o q => (gk d M.dne).trans q), fun f => relO_at rv f⟩
    have J : Inv X pins σ (upd H1 d (.xd [(("at" : Str), v)])) ⟨G', g, dr, tk', os⟩ :=
      I1.laid (t' := tk') (fun b o q => (gk b (Nat.ne_of_lt (Nat.lt_of_lt_of_le (Heap.lt_size q) M.new))).trans (M.keep b o q)) M.dbig ob
    refine ⟨e, oe, fv, ⟨G', g, dr, tk', os⟩, _, .ref C, some d, rfl, J, fun b o q => ?_, ge, hoe, ⟨hc, hd, fun vs' hv' => by rw [hdat] at hv'; cases hv'; exact h2c⟩, hdat, h1, ?_, rfl, I1.bare, raises_own T.exC T.tyC, q1 d (I1.hok.fresh M.dbig)⟩
    · have q' : G'.get? b = some o := q
      by_cases hb : b = e
      · rw [hb, ge] at q'; cases q'
      · exact (gk b hb).symm.trans q'
    · rw [upd_ne (Ne.symm M.dne)]
      exact I1.hok.fresh M.new
/-- raise c(e), e an int -/
def sRaise (c : String) (f : En → R D) : En → SR := fun ρ => .of (f ρ) ρ fun d => match d with
  | .int n => .ex c n ρ
  | _ => .no
theorem fs_raise {c : String} (hx : x = Str.ofString c) (T : ErrG X.prog X.K X.mg x) (hc : X.calm = true) (hr : Room k X.A) (tk : L2N.Takes X W) (hg : Gl X x) (ha : FE X W a f) (hdb : (x == ("__debug__" : Str)) = false := by decide)
    (he : starEach (a :: []) X.env = (false, eval a X.env) :: starEach [] X.env := by rfl) (hpl : (backTo pos (starEach [] X.env)).any (·.1) = false := by rfl) :
    FS X W (.Raise (some (.Call (.Name x p) [a] [] pos)) none pos2) (sRaise c f) := by
  obtain ⟨C, D1, fI, gC, T⟩ := T
  refine impS (L2N.ps_raise hc tk (pmk_err T gC hr (pa_cons ha pa_nil he) hg hdb he hpl)) fun E σ H ⟨H0, A0, A, ρ, o, P⟩ => ?_
  refine ⟨H0, A0, A, ρ, o, (P.of o).mono fun d H1 s1 P1 v hv => ⟨v, rfl, fun dd hdd => ?_⟩⟩
  split at P1
  · rename_i n
    obtain rfl := (RepB.of hv).int
    have sm : Same H1 (upd H1 dd (.xd [(("at" : Str), .int n)])) := same_upd hdd
    exact P1 (.ref C) dd σ _ A ((o.same s1).same sm) (Tr.same (s1.trans sm)) ⟨o.ext.free (s1.free hdd), fun y => o.has dd (o.sub dd y) (s1.free hdd)⟩ ⟨by rw [← hx]; exact gC, upd_same⟩
  · exact P1.elim
end
end G

namespace G
open PySem PySem.Spec PyProof.Rows L2

/-! ### several clauses, each with the same name for the error -/
def gone (i : Nat) (D : Ends) : Ends := { nx := fun τ K1 => D.nx (τ.set i none) K1, rt := D.rt, bk := fun τ K1 => D.bk (τ.set i none) K1, ct := fun τ K1 => D.ct (τ.set i none) K1 }
abbrev Cls := Value × (Addr → Value → Option Addr → TS)
def wAll (K : Frg) (i : Nat) (Wo : WX) (D : Ends) : List Cls → WX
  | [] => Wo
  | q :: r => fun cls dx τ K1 => ∃ b, PySem.W.exmOne K cls q.1 = some b ∧ (b = true → ∀ a, K1 a = none → q.2 a cls dx (gone i D) (τ.set i (some (.ref a))) K1) ∧ (b = false → wAll K i Wo D r cls dx τ K1)
inductive HdsAs (X : Cx) (n : Str) : List ExceptHandler → List Cls → Prop
  | nil : HdsAs X n [] []
  | cons {x : Str} {c : Value} {ts : Addr → Value → Option Addr → TS} {st : Stmt} {sts : List Stmt} {np hp : Pos} {hds : List ExceptHandler} {l : List Cls} (named : Names X x c)
      (does : ∀ (a : Addr) (oe : Obj) (cls : Value) (dx : Option Addr) (pn : List (Addr × Obj)), L2N.Zn cls dx oe → (∃ vs, oe.data = .fields vs) → PSs (X.suite a ((a, oe) :: pn)) (st :: sts) (ts a cls dx)) (rest : HdsAs X n hds l) :
      HdsAs X n (.ExceptHandler (some (.Name x np)) (some n) (st :: sts) hp :: hds) ((c, ts) :: l)
section
variable {X : Cx} {n : Str} {i : Nat} {body : List Stmt} {hd1 : ExceptHandler} {hds : List ExceptHandler} {l : List Cls} {pos : Pos} {tb : WX → TS} {Wo : WX}
theorem ps_try_all (hst : X.stack = X.env :: X.outer) (hfr0 : X.env.frame = some X.env.locals) (hN : X.N.Nodup) (hi : X.N[i]? = some n) (hln : X.env.kindOf n = some .local) (tk : L2N.Takes X Wo)
    (hb : ∀ (W : WX) (pn : List (Addr × Obj)) (xe : Value → Shared → Prop), L2N.Takes (X.tr pn xe) W → PassesOwn (model X.prog X.w) X.A X.env xe → PSs (X.tr pn xe) body (tb W))
    (hh : HdsAs X n (hd1 :: hds) l) : PS X (.Try body (hd1 :: hds) [] [] pos) (fun D τ K1 => tb (wAll X.K i Wo D l) D τ K1) := by
  refine ⟨fun pins s τ0 K0 D I h => ?_⟩
  have okX := I.ok
  have hfr : X.A.frames = some (X.env :: X.outer) := okX.frames.trans (by rw [hst])
  have there : Loc X.env.scope n := .inl hln
  refine wpAny_Try_except (wpAny_mono ((hb (wAll X.K i Wo D l) (X.pn ++ pins) _ (fun u s' air => ?_) PassesOwn.looking).run [] s τ0 K0 D (I.toTry _) h) (fun f s1 done => ?_) fun _ _ he => he)
  · obtain ⟨a, B, sI, pins', τ, K1, cls, dx, rfl, J', nb, up, sky, na, os, ag, w⟩ := air
    have J : Inv X pins τ K1 sI := J'.ofTry okX
    refine L2N.Sky.land L2N.Zn.steady hfr hfr0 (show Sky B (X.env :: X.outer) a (L2N.Zn cls dx) X.env.locals s'.heap from hst ▸ sky) fun h3 fl3 up3 => ?_
    have J3 : Inv X pins τ K1 { s' with heap := h3 } := J.landed nb fl3.1 (up.trans up3) os ag
    obtain ⟨oe3, vs3, he3, hz3, hd3⟩ := fl3.there
    have apart : a ∉ frs (X.env :: X.outer) := fun hm => by
      obtain ⟨_, o2, e2, ne2⟩ := fl3.2.2.1.mem hm
      cases he3.symm.trans e2
      exact ne2 _ hd3
    have nL : a ≠ X.env.locals := fun z => apart (List.mem_filterMap.mpr ⟨X.env, List.mem_cons_self, by rw [hfr0, z]⟩)
    have nF : a ∉ X.fs := fun hm => by
      obtain ⟨e, he, q⟩ := List.mem_filterMap.mp hm
      exact apart (List.mem_filterMap.mpr ⟨e, List.mem_cons_of_mem _ he, q⟩)
    have S3 := J3.suite he3 hd3 na nL nF
    have go : ∀ {hs' : List ExceptHandler} {l' : List Cls}, HdsAs X n hs' l' → wAll X.K i Wo D l' cls dx τ K1 → wpAny (model X.prog X.w) X.A (handleBy (.ref a) X.env hs') (SP X pins D) X.xe { s' with heap := h3 } := by
      intro hs' l' hk
      induction hk with
      | nil =>
        intro w
        obtain ⟨_, _, _, oe, vs, T, oT, ts', he, hz, hd, h1, _⟩ := id fl3
        refine wpAny_handleBy_nil ?_
        unfold PySem.passOn
        refine wpAny_bind (wpAny_field he hd h1 ?_)
        rw [if_neg (show ¬ ((Value.ref T == Value.none) = true) from by simp)]
        have fin : wpAny (model X.prog X.w) X.A (setFlight (.ref a) X.env.frame) (fun _ s4 => wpAny (model X.prog X.w) X.A (throw (.ref a) : Sem Flow) (SP X pins D) X.xe s4) X.xe { s' with heap := h3 } :=
          hfr0 ▸ HandSPX.setFlight_upZ fl3 fun h4 hh4 up4 => wpAny_throw (tk _ _ ⟨a, B, sI, pins, τ, K1, cls, dx, rfl, J, nb, (up.trans up3).trans up4, .inr (.inr (hst ▸ hh4)), na, os, ag, w⟩)
        first
          | exact wpAny_bind (wpAny_pure (wpAny_bind fin))
          | exact wpAny_bind fin
      | @cons x c ts st sts np hp hs2 l2 named does rest ih =>
        intro w
        obtain ⟨b, hb1, hyes, hno⟩ := w
        refine wpAny_handleBy_cons (codeAny_handlers_test ?_) (by intro q; cases q)
        have LT : PySem.W.Looks (model X.prog X.w) h3 (typeOf (.ref a)) cls := fun A Q E s k q => wpAny_typeOf_ref (k _ _ he3) (by rw [hz3.1]; exact q)
        have LM := PySem.W.exm_one (M := model X.prog X.w) J3.kIn LT hb1
        have asked : ∀ {Q : Value → Shared → Prop} {E : Value → Shared → Prop}, Q c { s' with heap := h3 } → wpAny (model X.prog X.w) (X.A.mark (some (.ref a))) (eval (.Name x np) X.env) Q E { s' with heap := h3 } := fun {Q E} q => by
          obtain ⟨hg, hdb, hm | ⟨hm, hv, hnn⟩⟩ := named
          · exact ld_glob (X := X.suite a ((a, oe3) :: (X.pn ++ pins))) S3 hg hm q hdb
          · exact ld_blt (X := X.suite a ((a, oe3) :: (X.pn ++ pins))) S3 hg hm hv q hnn hdb
        refine asked (LM.here ?_)
        cases b with
        | false => exact ih (hno rfl)
        | true =>
          refine codeAny_handlers_suite_as (HandSPX.lands_againZ fl3 fun h4 fl4 up4 => ?_)
          have J4 : Inv X pins τ K1 { s' with heap := h4 } := J.landed nb fl4.1 ((up.trans up3).trans up4) os ag
          obtain ⟨oe4, vs4, he4, hz4, hd4⟩ := fl4.there
          refine store_ok (X := X.suite a ((a, oe4) :: (X.pn ++ pins))) (v := .ref a) (J4.suite he4 hd4 na nL nF) hN hi there rfl (fun s5 S5 => ?_) (.inr hln)
          refine wpAny_mono ((does a oe4 cls dx (X.pn ++ pins) hz4 ⟨_, hd4⟩).run [] s5 _ K1 _ S5 (hyes rfl a na)) (fun f s6 hsp => ?_) fun _ _ z => z.elim
          have over : ∀ {τ6 : St} {K6 : Hp} {Q : Shared → Prop}, Inv (X.suite a ((a, oe4) :: (X.pn ++ pins))) [] τ6 K6 s6 → (∀ s7, Inv X pins (τ6.set i none) K6 s7 → Q s7) →
              wpAny (model X.prog X.w) X.A (do bindName X.env n .none; unbindBehindTheSuite X.env n hp) (fun _ s7 => Q s7) X.xe s6 := fun {τ6 K6 Q} S6 hq => gone_ok (S6.unsuite okX) hN hi hln hq
          cases f with
          | next =>
            obtain ⟨τ6, K6, S6, q6⟩ := hsp
            exact over S6 fun s7 J7 => ⟨_, _, J7, q6⟩
          | brk =>
            obtain ⟨τ6, K6, S6, q6⟩ := hsp
            exact over S6 fun s7 J7 => ⟨_, _, J7, q6⟩
          | cont =>
            obtain ⟨τ6, K6, S6, q6⟩ := hsp
            exact over S6 fun s7 J7 => ⟨_, _, J7, q6⟩
          | ret u =>
            obtain ⟨v6, τ6, K6, S6, r6, q6⟩ := hsp
            exact over S6 fun s7 J7 => ⟨_, _, _, J7, r6, q6⟩
    exact go hh w
  · cases f with
    | next =>
      obtain ⟨τ, K1, J, q⟩ := done
      exact wpAny_execs_nil ⟨τ, K1, J.ofTry okX, q⟩
    | brk =>
      obtain ⟨τ, K1, J, q⟩ := done
      exact ⟨τ, K1, J.ofTry okX, q⟩
    | cont =>
      obtain ⟨τ, K1, J, q⟩ := done
      exact ⟨τ, K1, J.ofTry okX, q⟩
    | ret u =>
      obtain ⟨v, τ, K1, J, r, q⟩ := done
      exact ⟨v, τ, K1, J.ofTry okX, r, q⟩
end
/-! ### the error's number -/
def tAtOf (mg : MgT) (P : Program) (K : Frg) (a : Addr) (cls : Value) (dx : Option Addr) (te : TE) : TE := fun τ K0 Q => te τ K0 fun x K1 => x = .ref a ∧ ∃ (C D1 fI dd : Addr) (v : V), cls = .ref C ∧ PySem.AeX.Txt P K mg C D1 fI ∧ dx = some dd ∧ K1 dd = some (.xd [(("at" : Str), v)]) ∧ Q v K1
section
variable {X : Cx} {W : WX} {n : Str} {i : Nat}
theorem pe_at {a : Addr} {oe : Obj} {cls : Value} {dx : Option Addr} {pn : List (Addr × Obj)} {e : Expr} {te : TE} {pos : Pos} (hz : Zc cls dx oe) (hf : ∃ vs, oe.data = .fields vs) (he : PE (X.suite a ((a, oe) :: pn)) e te)
    (hb : attributeBase e "at" X.env (eval e X.env) = eval e X.env := by rfl) : PE (X.suite a ((a, oe) :: pn)) (.Attribute e "at" pos) (tAtOf X.mg X.prog X.K a cls dx te) := by
  refine ⟨fun pins s τ K0 Q I h => attr_of hb (thn (he.run pins s τ K0 _ I h) fun u s1 hh => ?_)⟩
  obtain ⟨x, K1, I1, rx, rfl, C, D1, fI, dd, v, rfl, T, rfl, ea, q⟩ := hh
  obtain rfl : u = Value.ref a := rx
  obtain ⟨vs, hd⟩ := hf
  obtain ⟨ha, _⟩ := I1.pin (a, oe) (List.mem_append_left _ List.mem_cons_self)
  obtain ⟨mA, hns, hr⟩ := (show ObjOk X.prog X.w K1 s1.heap dd (.xd [(("at" : Str), v)]) from I1.hok dd _ ea)
  obtain ⟨od, ho, hl⟩ := lookIn_ns hns
  obtain ⟨u, hu, ru⟩ := RelO.some_of (v := v) (o := mA "at") (by rw [← show List.lookup ("at" : Str) [(("at" : Str), v)] = some v by simp [List.lookup]]; exact hr "at")
  have J : PySem.W.InstAt s1.heap a oe C (some od) := ⟨ha, hz.1, by unfold PySem.W.notCls; rw [hd] <;> rfl, by rw [hz.2]; exact ho⟩
  exact HandSPX.exc_get I1.kIn J T.ga T.gg T.exC (PySem.W.findObj_own T.hdC T.noN rfl (by rw [hl, hu])) (handed_of ru) ⟨v, K1, I1.tok _, ru, q⟩
/-- one error is, or is not, below another -/
def ExM (P : Program) (K : Frg) (mg : MgT) (c x : String) (b : Bool) : Prop := ∃ u v, mg (Str.ofString c) = some u ∧ mg (Str.ofString x) = some v ∧ PySem.W.exmOne K u v = some b ∧ ErrG P K mg (Str.ofString c)
theorem fa0 {α : Type} {P : α → Prop} : ∀ q ∈ ([] : List α), P q := fun q h => absurd h List.not_mem_nil
theorem fa1 {α : Type} {P : α → Prop} {a : α} {l : List α} (h : P a) (t : ∀ q ∈ l, P q) : ∀ q ∈ a :: l, P q := fun q m => by
  rcases List.mem_cons.mp m with rfl | m
  · exact h
  · exact t q m
theorem ErrG.named {P : Program} {K : Frg} {mg : MgT} {x : Str} (h : ErrG P K mg x) : ∃ v, mg x = some v := by
  obtain ⟨C, _, _, e, _⟩ := h
  exact ⟨_, e⟩
inductive HdAt (X : Cx) (n : Str) : List ExceptHandler → List (List (String × Bool) × Str) → Prop
  | nil : HdAt X n [] []
  | cons {x : String} {z : Str} {j k : Nat} {np p2 p3 p4 p5 p6 hp : Pos} {hds : List ExceptHandler} {tab : List (String × Bool)} {l : List (List (String × Bool) × Str)} (hg : Gl X (Str.ofString x)) (hdb : ((Str.ofString x) == ("__debug__" : Str)) = false)
      (hm : ∃ v, X.mg (Str.ofString x) = some v) (ht : ∀ q ∈ tab, ExM X.prog X.K X.mg q.1 x q.2) (rest : HdAt X n hds l) :
      HdAt X n (.ExceptHandler (some (.Name (Str.ofString x) np)) (some n) [.Return (some (.Tuple [.Constant (.str z) j p2, .Attribute (.Name n p3) "at" p4] k p5)) p6] hp :: hds) ((tab, z) :: l)
def tryAt (c : String) (m : Int) (ρ : En) : List (List (String × Bool) × Str) → SR
  | [] => .ex c m ρ
  | (tab, z) :: r => match tab.lookup c with
    | some true => .rt (.tuple [.str z, .int m])
    | some false => tryAt c m ρ r
    | none => .no
def sTryAt (i : Nat) (g : En → SR) (cl : List (List (String × Bool) × Str)) : En → SR := fun ρ => match g ρ with
  | .ex c m ρ1 => if i < ρ1.length then tryAt c m ρ1 cl else .no
  | r => r
def tsAt (X : Cx) (i : Nat) (z : Str) : Addr → Value → Option Addr → TS := fun a cls dx => tRet (tTup (tCons (tC (.str z)) (tCons (tAtOf X.mg X.prog X.K a cls dx (tVar i)) tNil)))
theorem hds_at (hN : X.N[i]? = some n) (hv : Vis X.env.scope n) (hd : (n == ("__debug__" : Str)) = false) (hcd : (n == ("__classdict__" : Str)) = false) (hbase : ∀ p, attributeBase (.Name n p) "at" X.env (eval (.Name n p) X.env) = eval (.Name n p) X.env)
    (hs : ∀ (z : Str) (j : Nat) (p2 p3 p4 : Pos), starEach [.Constant (.str z) j p2, .Attribute (.Name n p3) "at" p4] X.env = (false, eval (.Constant (.str z) j p2) X.env) :: starEach [.Attribute (.Name n p3) "at" p4] X.env)
    (hs2 : ∀ (p3 p4 : Pos), starEach [.Attribute (.Name n p3) "at" p4] X.env = (false, eval (.Attribute (.Name n p3) "at" p4) X.env) :: starEach [] X.env) {hds : List ExceptHandler} {l : List (List (String × Bool) × Str)} (h : HdAt X n hds l) :
    ∃ l' : List Cls, HdsAs X n hds l' ∧ Paired (fun (p : Cls) (q : List (String × Bool) × Str) => p.2 = tsAt X i q.2 ∧ ∀ r ∈ q.1, ∃ u, X.mg (Str.ofString r.1) = some u ∧ PySem.W.exmOne X.K u p.1 = some r.2 ∧ ErrG X.prog X.K X.mg (Str.ofString r.1)) l' l := by
  induction h with
  | nil => exact ⟨[], .nil, .nil⟩
  | @cons x z j k np p2 p3 p4 p5 p6 hp hds tab l hg hdb hm ht rest ih =>
    obtain ⟨v, hm⟩ := hm
    obtain ⟨l', h1, h2⟩ := ih
    refine ⟨(v, tsAt X i z) :: l', .cons ⟨hg, hdb, .inl hm⟩ (fun a oe cls dx pn hz hf => pss_one (ps_ret (pe_tup (pa_cons pe_str (pa_cons (pe_at hz.zc hf (pe_var hN hv hd hcd) (hbase _)) pa_nil (hs2 _ _)) (hs _ _ _ _ _))))) h1, .cons ⟨rfl, fun r hr => ?_⟩ h2⟩
    obtain ⟨u, v', e1, e2, e3, e4⟩ := ht r hr
    cases hm.symm.trans e2
    exact ⟨u, e1, e3, e4⟩
theorem lookup_mem {c : String} {b : Bool} : ∀ {tab : List (String × Bool)}, tab.lookup c = some b → (c, b) ∈ tab
  | [], h => by cases h
  | (c', b') :: r, h => by
    rw [List.lookup_cons] at h
    split at h
    · rename_i e
      cases h
      rw [beq_iff_eq.mp e]
      exact List.mem_cons_self
    · exact List.mem_cons_of_mem _ (lookup_mem h)
theorem try_post {K : Frg} {mg : MgT} {H0 : Hp} {A0 : List Addr} {E : Ends} {Wo : WX} (hK : K = X.K) (hmg : mg = X.mg) {c : String} {m : Int} {ρ1 : En} {σ' : St} {H' : Hp} {A' A : List Addr} {H : Hp} {u : Value} {p : Addr} (o' : Ok K H0 A0 A' ρ1 σ' H') (tr : Tr A H A' H') (hp : Fr1 H0 A0 p) (he : ErrAt mg c m u p H') (hi : i < ρ1.length) :
    ∀ {l' : List Cls} {l : List (List (String × Bool) × Str)}, Paired (fun (p : Cls) (q : List (String × Bool) × Str) => p.2 = tsAt X i q.2 ∧ ∀ r ∈ q.1, ∃ u, X.mg (Str.ofString r.1) = some u ∧ PySem.W.exmOne X.K u p.1 = some r.2 ∧ ErrG X.prog X.K X.mg (Str.ofString r.1)) l' l →
      PostS K mg Wo H0 A0 A H E (tryAt c m ρ1 l) → wAll K i Wo E l' u (some p) σ' H'
  | _, _, .nil, P => P u p σ' H' A' o' tr hp he
  | _, _, .cons (a := q) (b := (tab, z)) ⟨e1, e2⟩ rest, P => by
    unfold tryAt at P
    split at P
    · rename_i hl
      obtain ⟨u', h1, h2, C, D1, fI, h3, T⟩ := e2 _ (lookup_mem hl)
      subst hK
      subst hmg
      cases he.1.symm.trans h1
      cases h1.symm.trans h3
      refine ⟨true, h2, fun _ a ha => ?_, fun z => Bool.noConfusion z⟩
      rw [e1]
      refine ⟨.ref a, by rw [List.getElem?_set_self (by rw [o'.len]; exact hi)], rfl, C, D1, fI, p, .int m, rfl, T, rfl, he.2, (by show 2 ≤ sizeLine; rw [sizeLine_eq]; omega), fun t ht => ?_⟩
      exact P _ _ (o'.ext.trans (same_upd ht)) (rep_tup (fun z => o'.has t (o'.sub t z) ht) ht (.cons (.str z) (.one (.int m))))
    · rename_i hl
      obtain ⟨u', h1, h2, _⟩ := e2 _ (lookup_mem hl)
      subst hK
      subst hmg
      cases he.1.symm.trans h1
      exact ⟨false, h2, fun z => Bool.noConfusion z, fun _ => try_post rfl rfl o' tr hp he hi rest P⟩
    · exact P.elim
theorem fs_tryAt {body : List Stmt} {hd1 : ExceptHandler} {hds : List ExceptHandler} {l : List (List (String × Bool) × Str)} {pos : Pos} {gb : En → SR} (hst : X.stack = X.env :: X.outer) (hfr0 : X.env.frame = some X.env.locals) (hN : X.N.Nodup) (hi : X.N[i]? = some n) (hln : X.env.kindOf n = some .local) (tk : L2N.Takes X W)
    (hv : Vis X.env.scope n) (hd : (n == ("__debug__" : Str)) = false) (hcd : (n == ("__classdict__" : Str)) = false) (hbase : ∀ p, attributeBase (.Name n p) "at" X.env (eval (.Name n p) X.env) = eval (.Name n p) X.env)
    (hs : ∀ (z : Str) (j : Nat) (p2 p3 p4 : Pos), starEach [.Constant (.str z) j p2, .Attribute (.Name n p3) "at" p4] X.env = (false, eval (.Constant (.str z) j p2) X.env) :: starEach [.Attribute (.Name n p3) "at" p4] X.env)
    (hs2 : ∀ (p3 p4 : Pos), starEach [.Attribute (.Name n p3) "at" p4] X.env = (false, eval (.Attribute (.Name n p3) "at" p4) X.env) :: starEach [] X.env)
    (hb : ∀ (W' : WX) (pn : List (Addr × Obj)) (xe : Value → Shared → Prop), L2N.Takes (X.tr pn xe) W' → PassesOwn (model X.prog X.w) X.A X.env xe → FSs (X.tr pn xe) W' body gb)
    (hh : HdAt X n (hd1 :: hds) l) : FS X W (.Try body (hd1 :: hds) [] [] pos) (sTryAt i gb l) := by
  obtain ⟨l', h1, h2⟩ := hds_at hi hv hd hcd hbase hs hs2 hh
  refine impS (ps_try_all (tb := fun W' => tFS X.K X.mg W' gb) hst hfr0 hN hi hln tk hb h1) fun E σ H ⟨H0, A0, A, ρ, o, P⟩ => ⟨H0, A0, A, ρ, o, ?_⟩
  unfold sTryAt at P
  cases hg : gb ρ with
  | ex c m ρ1 =>
    rw [hg] at P
    have P : PostS X.K X.mg W H0 A0 A H E (if i < ρ1.length then tryAt c m ρ1 l else .no) := P
    split at P
    · rename_i hlt
      exact fun u p σ' H' A' o' tr hp he => try_post rfl rfl o' tr hp he hlt h2 P
    · exact P.elim
  | nx _ => rw [hg] at P; exact P
  | rt _ => rw [hg] at P; exact P
  | bk _ => rw [hg] at P; exact P
  | ct _ => rw [hg] at P; exact P
  | no => rw [hg] at P; exact P
end
end G

namespace G
open PySem PySem.Spec PyProof.Rows L2

/-! ### one of several defs, picked by a number -/
def cPick (g : En → R D) (Fs : List (List D → R D)) (l : En → R (List D)) : En → R D := fun ρ => (g ρ).bind fun d => match (toI d).bind (atI Fs) with
  | some F => (l ρ).bind F
  | none => .no
section
variable {X : Cx} {W : WX} {k : Nat} {a b e : Expr} {es : List Expr} {f g : En → R D} {l : En → R (List D)} {p1 p2 q pos : Pos} {x : Str}
inductive FnList (X : Cx) (k : Nat) : List Expr → List (List D → R D) → Prop
  | nil : FnList X k [] []
  | cons {x : Str} {p : Pos} {es : List Expr} {F : List D → R D} {Fs : List (List D → R D)} (c : CallG X.prog X.w X.K X.mg X.base k x F) (hg : Gl X x) (hdb : (x == ("__debug__" : Str)) = false) (hs : starEach (.Name x p :: es) X.env = (false, eval (.Name x p) X.env) :: starEach es X.env)
      (rest : FnList X k es Fs) : FnList X k (.Name x p :: es) (F :: Fs)
abbrev IsFn (X : Cx) (k : Nat) (v : V) (F : List D → R D) : Prop := ∃ f fd ps, v = V.ref f ∧ FnG X.prog X.w X.K X.mg X.base k f fd ps F ∧ PySem.W.keepIn X.K (.ref f) = true ∧ Binds X.K fd ps []
theorem FnList.pa {Fs : List (List D → R D)} (h : FnList X k es Fs) : ∃ vs, Paired (IsFn X k) vs Fs ∧ PA X es (fun _ H Q => Q vs H) := by
  induction h with
  | nil => exact ⟨[], .nil, pa_nil⟩
  | @cons x p es F Fs c hg hdb hs rest ih =>
    obtain ⟨f, fd, ps, h1, h2, h3, h4⟩ := c
    obtain ⟨vs, h5, h6⟩ := ih
    exact ⟨.ref f :: vs, .cons ⟨f, fd, ps, rfl, h1, h3, h4⟩ h5, pa_cons (pe_glob (v := .ref f) hg h2 rfl hdb) h6 hs⟩
theorem paired_len {α β : Type} {R : α → β → Prop} : ∀ {xs : List α} {ys : List β}, Paired R xs ys → xs.length = ys.length
  | _, _, .nil => rfl
  | _, _, .cons _ t => by rw [List.length_cons, List.length_cons, paired_len t]
theorem paired_get {α β : Type} {R : α → β → Prop} : ∀ {xs : List α} {ys : List β} {i : Nat} {y : β}, Paired R xs ys → ys[i]? = some y → ∃ x, xs[i]? = some x ∧ R x y
  | _, _, _, _, .nil, h => by simp at h
  | _, _, 0, _, .cons a _, h => by simp at h; subst h; exact ⟨_, rfl, a⟩
  | _, _, i + 1, _, .cons _ t, h => by
    obtain ⟨v, h1, h2⟩ := paired_get (i := i) t (by simpa using h)
    exact ⟨v, by simpa using h1, h2⟩
theorem paired_at {α β : Type} {R : α → β → Prop} {xs : List α} {ys : List β} {i : Int} {y : β} (h : Paired R xs ys) (e : atI ys i = some y) : ∃ x, atI xs i = some x ∧ R x y := by
  unfold atI at e ⊢
  obtain ⟨j, h1, h2⟩ := Option.bind_eq_some_iff.mp e
  obtain ⟨x, h3, h4⟩ := paired_get h h2
  exact ⟨x, by rw [paired_len h, h1]; exact h3, h4⟩
theorem fe_pick {fs : List Expr} {Fs : List (List D → R D)} (hf : FnList X k fs Fs) (hr : Room k X.A) (hgd : X.A.guards = some []) (tk : L2N.Takes X W) (hi : FE X W b g) (ha : FA X W (e :: es) l) (hl : Fs.length ≤ sizeLine) (hs : PlainIx b)
    (hev : eval (.Call (.Subscript (.List fs p1) b p2) (e :: es) [] pos) X.env = (do callWith pos (← eval (.Subscript (.List fs p1) b p2) X.env) [] (backTo pos (starEach (e :: es) X.env)) (backToKw pos (keywordEach [] X.env))) := by rfl)
    (he : starEach (e :: es) X.env = (false, eval e X.env) :: starEach es X.env := by rfl) (hpl : (backTo pos (starEach es X.env)).any (·.1) = false := by rfl) :
    FE X W (.Call (.Subscript (.List fs p1) b p2) (e :: es) [] pos) (cPick g Fs l) := by
  obtain ⟨vs0, h1, h2⟩ := hf.pa
  refine ⟨fun pins s σ H Q I ⟨H0, A0, A, ρ, o, P⟩ => ?_⟩
  refine Call_ (thn ((pe_ix ix_list (pe_lst h2) hi hs).run pins s σ H (fun v H1 => Same H H1 ∧ ∃ F, IsFn X k v F ∧ Post X.mg W σ H1 (fun d H2 => ∀ v, Rep X.K H2 A v d → Q v H2) ((l ρ).bind F)) I ?_) ?_) hev
  · refine ⟨by rw [paired_len h1]; exact hl, fun p hp => ?_⟩
    have o1 := o.same (same_upd (o := .lst vs0) hp)
    refine ⟨H0, A0, A, ρ, o1, (Post.bind (Post.same (r := cPick g Fs l ρ) P (same_upd hp))).mono fun d H1 s1 P1 y hy => ?_⟩
    split at P1
    · rename_i F hF
      obtain ⟨i, h3, h4⟩ := Option.bind_eq_some_iff.mp hF
      obtain ⟨v, h5, h6⟩ := paired_at h1 h4
      have e : d = .int i := by
        cases d <;> simp [toI] at h3
        rw [h3]
      subst e
      obtain rfl := (RepB.of hy).int
      exact ⟨p, vs0, i, v, rfl, rfl, SqL.of (s1 _ _ upd_same), h5, (same_upd hp).trans s1, F, h6, P1⟩
    · exact P1.elim
  · intro v s1 ⟨x, H1, I1, rx, sm, F, ⟨f, fd, ps, ex, hF, hk, hb⟩, P1⟩
    subst ex
    obtain rfl : v = Value.ref f := rx
    have o1 := o.same sm
    refine PySem.W.callWith_K (h₀ := X.base) I1.ok.mod.kin hk (thn (ha.run pos pins s1 σ H1 (fun vs H2 => Same H1 H2 ∧ ∃ ds, RepL X.K H2 A vs ds ∧ Want X.K X.mg H2 A Q (WE W σ) (F ds)) I1 ⟨H0, A0, A, ρ, o1, P1.bind.mono fun ds H2 s2 P2 vs hv => ⟨s2, ds, hv, P2.want⟩⟩) fun us s2 ⟨vs, H2, I2, r, sm2, ds, rd, q⟩ => ⟨I2.kIn, ?_⟩) he hpl
    exact run_fng hF hr hgd hb tk I2 r rd (o1.same sm2).has q
/-! ### the place of a number in a written tuple -/
def cIdxK (ns : List Int) (g : En → R D) : En → R D := fun ρ => (g ρ).bind fun d => ofO ((toI d).bind fun k => if k ∈ ns then some (.int (ns.idxOf k : Nat)) else none)
def GTupI (K : Frg) (mg : MgT) (x : Str) (ns : List Int) : Prop := ∃ a, mg x = some (.ref a) ∧ TupK K a (ns.map V.int) ∧ ∃ o, K.lookup a = some o ∧ o.cls = .type "tuple" ∧ o.dict = none
theorem mt_tupI : MtR X "tuple.index" (fun x xs H Q => ∃ (p0 : Addr) (ns : List Int) (k : Int), x = .ref p0 ∧ xs = [.int k] ∧ SqT X.K H p0 (ns.map V.int) ∧ k ∈ ns ∧ Q (.int (ns.idxOf k : Nat)) H) := by
  intro pins s σ H x xs v us Q I rx rs h
  obtain ⟨p0, ns, k, rfl, rfl, hq, hk, q⟩ := h
  cases rx
  obtain ⟨u, rfl, t, rfl⟩ := vals1 rs
  obtain ⟨its, r, pl, hz⟩ := I.tuple hq
  exact PySem.SeqAt.tuple_index_ints (show s.heap.IsTuple p0 its.toArray from pl) (RZ.intsAre_vals r) hk ⟨.int _, H, I.tok _, ⟨_, rfl⟩, q⟩
theorem fe_idxK {apos cpos : Pos} {ns : List Int} (h : GTupI X.K X.mg x ns) (hg : Gl X x) (hb : FE X W b g) (hd : (x == ("__debug__" : Str)) = false := by decide)
    (hbase : attributeBase (.Name x q) "index" X.env (eval (.Name x q) X.env) = eval (.Name x q) X.env := by rfl)
    (hfew : ((backTo cpos (starEach (b :: []) X.env)).all (fun x => !x.1) && (backToKw cpos (keywordEach [] X.env)).all (fun x => x.1.isSome)
      && decide ((b :: []).length + ([] : List Keyword).length + (if ([] : List Keyword).isEmpty then 0 else 1) < 30)) = true := by rfl)
    (hline : (apos.endLine == cpos.line) = true := by rfl) (hs : starEach (b :: []) X.env = (false, eval b X.env) :: starEach [] X.env := by rfl) (hplain : (backTo cpos (starEach [] X.env)).any (·.1) = false := by rfl) :
    FE X W (.Call (.Attribute (.Name x q) "index" apos) [b] [] cpos) (cIdxK ns g) := by
  obtain ⟨a, h1, h2, ob, h3, h4, h5⟩ := h
  refine impE (pe_bm PySem.F.plainAttrs_tuple PySem.F.slot_tuple_index PySem.F.type_tuple_index mt_tupI (pe_glob (v := .ref a) hg h1 rfl hd) (pa_cons hb pa_nil hs) hbase hfew hline hs hplain) fun σ H Q ⟨H0, A0, A, ρ, o, P⟩ => ?_
  refine ⟨.inr (.inl ⟨rfl, ob, h3, h4, h5⟩), H0, A0, A, ρ, o, P.bind.mono fun d H1 s1 P1 y hy => ?_⟩
  obtain ⟨d2, e, P2⟩ := P1.ofO
  obtain ⟨k, e1, e2⟩ := Option.bind_eq_some_iff.mp e
  have e3 : d = .int k := by
    cases d <;> simp [toI] at e1
    rw [e1]
  subst e3
  obtain rfl := (RepB.of hy).int
  split at e2
  · rename_i hk
    cases e2
    exact ⟨a, ns, k, rfl, rfl, .inr h2, hk, P2 H1 (Same.refl _) _ (.int _)⟩
  · cases e2

/-! ### repr -/
def dRepr (d : D) : Option D := if d.hasDict = false ∧ d.showable = true ∧ d.depth ≤ 60 ∧ d.shown.length ≤ sizeLine then some (.str d.shown) else none
theorem cr_repr (hgd : X.A.guards = some []) (hu : X.A.units + 65 < cLine) : CallR X (.builtin "repr") (fun xs H Q => ∃ (v : V) (d : D), xs = [v] ∧ Dp X.K H v d ∧ d.hasDict = false ∧ d.showable = true ∧ d.depth ≤ 60 ∧ d.shown.length ≤ sizeLine ∧ Q (.str d.shown) H) := by
  intro pins s σ H xs us Q I r h
  obtain ⟨v, d, rfl, hd, h1, h2, h3, h4, q⟩ := h
  obtain ⟨u, rfl, rx⟩ := vals1 r
  obtain ⟨as, rd⟩ := Dp.reads I d v u hd rx
  have fin : ∀ h' tk t, (∀ b o, s.heap.get? b = some o → h'.get? b = some o) → EP X pins σ Q (.str d.shown t) { s with heap := h', toks := tk } := fun h' tk t k => ⟨.str d.shown, H, I.kept k, ⟨_, rfl⟩, q⟩
  cases hd with
  | non => cases rx; exact PySem.P.repr_of_none (fin _ _ _ fun _ _ e => e)
  | bl b =>
    cases rx
    refine PySem.P.repr_of_bool ?_
    have := fin s.heap (s.toks + 1) s.toks fun _ _ e => e
    cases b <;> exact this
  | int i =>
    obtain ⟨t, rfl⟩ := rx
    exact PySem.P.repr_of_int (by simpa [PyData.showable] using h2) (fin _ _ _ fun _ _ e => e)
  | str z =>
    obtain ⟨t, rfl⟩ := rx
    exact PySem.P.repr_of_str (fin _ _ _ fun _ _ e => e) h4
  | lst a b =>
    cases rx
    exact PySem.repr_of_reads' rd h2 (fun z => by rw [h1] at z; cases z) hgd (by omega) (fun _ _ e => e) (fun h' t tk k => fin h' tk t k) h4
  | tup a b =>
    cases rx
    exact PySem.repr_of_reads' rd h2 (fun z => by rw [h1] at z; cases z) hgd (by omega) (fun _ _ e => e) (fun h' t tk k => fin h' tk t k) h4
theorem fe_repr (hu : X.A.units + 65 < cLine) (hgd : X.A.guards = some []) (hg : Gl X "repr") (hm : X.mg "repr" = none) (ha : FE X W a f) (hs : starEach (a :: []) X.env = (false, eval a X.env) :: starEach [] X.env := by rfl) (hpl : (backTo pos (starEach [] X.env)).any (·.1) = false := by rfl) :
    FE X W (.Call (.Name "repr" p1) [a] [] pos) (cUn dRepr f) := by
  refine impE (pe_callB (cr_repr hgd hu) hg hm PyProof.Rows.boot_repr (pa_cons ha pa_nil hs) (by decide) (by decide) hs hpl) fun σ H Q ⟨H0, A0, A, ρ, o, P⟩ => ?_
  refine ⟨H0, A0, A, ρ, o, P.bind.mono fun d H1 s1 P1 v hv => ?_⟩
  obtain ⟨d2, e, P2⟩ := P1.ofO
  unfold dRepr at e
  split at e
  · rename_i h
    cases e
    exact ⟨v, d, rfl, hv.dp h.1, h.1, h.2.1, h.2.2.1, h.2.2.2, P2 H1 (Same.refl _) _ (.str _)⟩
  · cases e

/-! ### written dicts -/
def mergeD (kds : List (Key × D)) : List (D × D) := kds.foldl (fun ds kd => putD (isK kd.1) (kD kd.1) kd.2 ds) []
def cDict (h : En → R (List (Key × D))) : En → R D := fun ρ => (h ρ).bind fun kds => if kds.length ≤ 15 then .ok (.dict (mergeD kds)) else .no
def cKd (k : Key) (f : En → R D) (h : En → R (List (Key × D))) : En → R (List (Key × D)) := fun ρ => (f ρ).bind fun d => (h ρ).bind fun kds => .ok ((k, d) :: kds)
abbrev PairK (K : Frg) (H : Hp) (A : List Addr) (p : Key × V) (q : Key × D) : Prop := p.1 = q.1 ∧ Rep K H A p.2 q.2
def FDs (X : Cx) (W : WX) (keys : List (Option Expr)) (values : List Expr) (h : En → R (List (Key × D))) : Prop := ∃ trs, (∀ pos, PPs X pos keys values trs) ∧ ∀ σ H Q,
  (∃ H0 A0 A ρ, Ok X.K H0 A0 A ρ σ H ∧ Post X.mg W σ H (fun kds H' => ∀ kvs, Paired (PairK X.K H' A) kvs kds → Q (kvs.map fun kv => (kV kv.1, kv.2)) H') (h ρ)) → tPairs trs σ H Q
theorem fds_nil : FDs X W [] [] (fun _ => .ok []) := ⟨[], fun _ => pps_nil, fun σ H Q ⟨H0, A0, A, ρ, o, P⟩ => Post.at (a := ([] : List (Key × D))) (P := fun kds H' => ∀ kvs, Paired (PairK X.K H' A) kvs kds → Q (kvs.map fun kv => (kV kv.1, kv.2)) H') P [] .nil⟩
theorem paired_same {K : Frg} {H H' : Hp} {A : List Addr} (s : Same H H') : ∀ {kvs : List (Key × V)} {kds : List (Key × D)}, Paired (PairK K H A) kvs kds → Paired (PairK K H' A) kvs kds
  | _, _, .nil => .nil
  | _, _, .cons h t => .cons ⟨h.1, h.2.same s⟩ (paired_same s t)
theorem fds_cons {key : Key} {ke ve : Expr} {keys : List (Option Expr)} {values : List Expr} {h : En → R (List (Key × D))} (hk : PE X ke (tC (kV key))) (hv : FE X W ve f) (hr : FDs X W keys values h) : FDs X W (some ke :: keys) (ve :: values) (cKd key f h) := by
  obtain ⟨trs, h1, h2⟩ := hr
  refine ⟨_, fun pos => pps_cons hk hv (h1 pos), fun σ H Q ⟨H0, A0, A, ρ, o, P⟩ => ?_⟩
  show tPairs ((tC (kV key), tF X.K X.mg W f) :: trs) σ H Q
  refine ⟨H0, A0, A, ρ, o, P.bind.mono fun d H1 s1 P1 v hv => ?_⟩
  refine h2 σ H1 _ ⟨H0, A0, A, ρ, o.same s1, P1.bind.mono fun kds H2 s2 P2 kvs hp => ?_⟩
  exact P2 H2 (Same.refl _) ((key, v) :: kvs) (.cons ⟨rfl, hv.same s2⟩ hp)
theorem fold_rep {K : Frg} {H : Hp} {A : List Addr} : ∀ {kvs : List (Key × V)} {kds : List (Key × D)} {acc : List (Key × V)} {ds : List (D × D)}, Paired (PairK K H A) kvs kds → RepK K H A acc ds →
    RepK K H A (kvs.foldl (fun acc kv => putK acc kv.1 kv.2) acc) (kds.foldl (fun ds kd => putD (isK kd.1) (kD kd.1) kd.2 ds) ds)
  | _, _, _, _, .nil, r => r
  | _, _, _, _, .cons (a := p) (b := q) h t, r => by
    obtain ⟨k, v⟩ := p
    obtain ⟨k', d⟩ := q
    obtain ⟨rfl, h⟩ := h
    rw [List.foldl_cons, List.foldl_cons]
    exact fold_rep t (put_repK h r)
theorem fn_disp {keys : List (Option Expr)} {values : List Expr} {h : En → R (List (Key × D))} (hd : FDs X W keys values h) (hall : keys.all (·.isSome) = true := by rfl) (hl : keys.length = values.length := by rfl) (h0 : keys ≠ [] := by simp) (h15 : keys.length ≤ 15 := by decide) :
    FN X W false (.Dict keys values pos) (cDict h) := by
  obtain ⟨trs, h1, h2⟩ := hd
  refine impE (pe_disp (h1 pos) hall hl h0 h15) fun σ H Q ⟨H0, A0, A, ρ, o, P⟩ => fun p hp => ?_
  have sm : Same H (upd H p (.dK [])) := same_upd hp
  have og : Ok X.K H0 (p :: A0) (p :: A) ρ σ (upd H p (.dK [])) := o.grow sm hp (by rw [upd_same]; intro z; cases z)
  have P1 : Post X.mg W σ H (fun kds H1 => Post X.mg W σ H1 (fun d H' => ∀ v, RepN X.K false H H' A v d → Q v H') (if kds.length ≤ 15 then .ok (.dict (mergeD kds)) else .no)) (h ρ) := P.bind
  refine h2 σ _ _ ⟨H0, p :: A0, p :: A, ρ, og, ?_⟩
  cases hh : h ρ with
  | no => rw [hh] at P1; exact P1.elim
  | ex c m => rw [hh] at P1; exact fun u q H' s' f e => P1 u q H' (sm.trans s') (sm.free f) e
  | ok kds =>
    rw [hh] at P1
    have P2 : Post X.mg W σ H (fun d H' => ∀ v, RepN X.K false H H' A v d → Q v H') (if kds.length ≤ 15 then .ok (.dict (mergeD kds)) else .no) := P1 H (Same.refl _)
    split at P2
    · rename_i hk
      refine fun H2 s2 kvs hpr => ⟨s2 _ _ upd_same, kvs, rfl, by rw [paired_len hpr]; exact hk, ?_⟩
      have u : Tr (p :: A) H2 (p :: A) (upd H2 p (.dK (mergeK [] kvs))) := Tr.write List.mem_cons_self
      refine P2 (upd H2 p (.dK (mergeK [] kvs))) (fun b x e => ?_) _ ⟨p, rfl, hp, .inl ⟨rfl, _, upd_same, (fold_rep hpr .nil).tr u⟩⟩
      rw [upd_ne (ne_of_none e hp)]
      exact s2 _ _ (sm _ _ e)
    · exact P2.elim
theorem fn_dnewK : FN X W false (.Dict [] [] pos) (cK (.dict [])) := impE pe_dnewK fun σ H Q ⟨H0, A0, A, ρ, o, P⟩ => fun p hp => P _ (same_upd hp) _ ⟨p, rfl, hp, .inl ⟨rfl, [], upd_same, .nil⟩⟩
theorem fn_dnewT : FN X W true (.Dict [] [] pos) (cK (.dict [])) := impE pe_dnewT fun σ H Q ⟨H0, A0, A, ρ, o, P⟩ => fun p hp => P _ (same_upd hp) _ ⟨p, rfl, hp, .inr ⟨rfl, [], upd_same, .nil⟩⟩
end
end G

namespace G
open PySem PySem.Spec PyProof.Rows L2

/-! ### zip of three lists -/
def Itz3 (K : Frg) (a b c : Addr) : It :=
  ⟨fun i H => ∃ (xs ys zs : List V) (x y z : V), SqL K H a xs ∧ SqL K H b ys ∧ SqL K H c zs ∧ xs[i]? = some x ∧ ys[i]? = some y ∧ zs[i]? = some z,
   fun i H v H' => ∃ T x y z, v = .ref T ∧ H T = none ∧ H' = upd H T (.tup [x, y, z]) ∧ (∀ l, SqL K H a l → l[i]? = some x) ∧ (∀ l, SqL K H b l → l[i]? = some y) ∧ ∀ l, SqL K H c l → l[i]? = some z,
   fun i H => ∃ xs ys zs : List V, SqL K H a xs ∧ SqL K H b ys ∧ SqL K H c zs ∧ i ≤ xs.length ∧ i ≤ ys.length ∧ i ≤ zs.length ∧ (i = xs.length ∨ i = ys.length ∨ i = zs.length)⟩
abbrev cells3 (N : Nat) : List Addr := [N + 5, N + 3, N + 4, N, N + 1, N + 2]
def At3 (N a b c : Nat) (i : Nat) (h : Heap) : Prop := IsZip h (N + 5) (N + 3) (N + 4) .none ∧ IsTupOf3 h (N + 3) (.ref N) (.ref (N + 1)) (.ref (N + 2)) ∧ (∃ x y z, IsTupOf3 h (N + 4) x y z) ∧ h.IsListIter N a i ∧ h.IsListIter (N + 1) b i ∧ h.IsListIter (N + 2) c i
theorem cells3_of {N x : Nat} (h : x ∈ cells3 N) : x = N + 5 ∨ x = N + 3 ∨ x = N + 4 ∨ x = N ∨ x = N + 1 ∨ x = N + 2 := by simpa [cells3] using h
theorem At3.lt {N a b c i : Nat} {h : Heap} (st : At3 N a b c i h) {x : Nat} (m : x ∈ cells3 N) : x < h.objs.size := by
  obtain ⟨hz, _⟩ := st
  have h5 : N + 5 < h.objs.size := Heap.lt_size hz
  show (x : Nat) < h.objs.size
  rcases cells3_of m with q | q | q | q | q | q <;> (have q : (x : Nat) = _ := q; omega)
theorem turn_zip3 {P : Program} {w : World} {K : Frg} {elts : List Expr} {kk : Nat} {tpos : Pos} {N a b c : Nat} (ha : a < N) (hb : b < N) (hc0 : c < N) : Turn P w K (.Tuple elts kk tpos) (Itz3 K a b c) (cells3 N) (N + 5) (At3 N a b c) where
  mem := by simp
  obj := fun i h st x hx => by
    obtain ⟨hz, hTI, ⟨x1, y1, z1, hTO⟩, ⟨o1, e1, _, d1⟩, ⟨o2, e2, _, d2⟩, ⟨o3, e3, _, d3⟩⟩ := st
    rcases cells3_of hx with q | q | q | q | q | q
    · rw [q]; exact ⟨_, hz, fun v z => nomatch z⟩
    · rw [q]; exact ⟨_, hTI, fun v z => nomatch z⟩
    · rw [q]; exact ⟨_, hTO, fun v z => nomatch z⟩
    · rw [q]; exact ⟨o1, e1, fun v z => by rw [d1] at z; cases z⟩
    · rw [q]; exact ⟨o2, e2, fun v z => by rw [d2] at z; cases z⟩
    · rw [q]; exact ⟨o3, e3, fun v z => by rw [d3] at z; cases z⟩
  keep := fun i h h' st k => by
    obtain ⟨hz, hTI, ⟨x1, y1, z1, hTO⟩, h1, h2, h3⟩ := st
    exact ⟨k _ (by simp) _ hz, k _ (by simp) _ hTI, ⟨x1, y1, z1, k _ (by simp) _ hTO⟩, h1.at fun o q => k N (by simp) o q, h2.at fun o q => k (N + 1) (by simp) o q, h3.at fun o q => k (N + 2) (by simp) o q⟩
  item := by
    intro X hP hw hK hc i pins s σ H E I hf st hg
    subst hP hw hK
    have st0 := st
    obtain ⟨hz, hTI, ⟨x0, y0, z0, hTO⟩, h1, h2, h3⟩ := st
    obtain ⟨xs, ys, zs, x, y, z, q1, q2, q3, g1, g2, g3⟩ := hg
    obtain ⟨its1, r1, p1, _⟩ := I.list q1
    obtain ⟨its2, r2, p2, _⟩ := I.list q2
    obtain ⟨its3, r3, p3, _⟩ := I.list q3
    obtain ⟨u1, k1, ru1⟩ := r1.get g1
    obtain ⟨u2, k2, ru2⟩ := r2.get g2
    obtain ⟨u3, k3, ru3⟩ := r3.get g3
    have hh := I.ok.hd hc
    have l1 : i < its1.length := (List.getElem?_eq_some_iff.mp k1).1
    have l2 : i < its2.length := (List.getElem?_eq_some_iff.mp k2).1
    have l3 : i < its3.length := (List.getElem?_eq_some_iff.mp k3).1
    have S := zip_sep3 (N := N) (fp1 := [a]) (fp2 := [b]) (fp3 := [c]) (by simpa using ha) (by simpa using hb) (by simpa using hc0)
    have a1 : a ≠ N := Nat.ne_of_lt ha
    have a2 : b ≠ N + 1 := Nat.ne_of_lt (Nat.lt_succ_of_lt hb)
    have a3 : c ≠ N + 2 := Nat.ne_of_lt (Nat.lt_succ_of_lt (Nat.lt_succ_of_lt hc0))
    refine wpAny_pyNext_zipD3_item S (Draws.list (A := X.A.in1) hh N a a1 its1.toArray) (Draws.list (A := X.A.in1) hh (N + 1) b a2 its2.toArray) (Draws.list (A := X.A.in1) hh (N + 2) c a3 its3.toArray) hz hTI hTO ⟨h1, p1.isList⟩ ⟨h2, p2.isList⟩ ⟨h3, p3.isList⟩ (by simpa using l1) (by simpa using l2) (by simpa using l3) fun v1 v2 v3 h' tk e1 e2 e3 z' TO' n1 n2 n3 hT hsz hk => ?_
    have f1 : v1 = u1 := Option.some.inj ((by simpa using e1 : its1[i]? = some v1).symm.trans k1)
    have f2 : v2 = u2 := Option.some.inj ((by simpa using e2 : its2[i]? = some v2).symm.trans k2)
    have f3 : v3 = u3 := Option.some.inj ((by simpa using e3 : its3[i]? = some v3).symm.trans k3)
    subst f1 f2 f3
    refine ⟨_, rfl, wpAny_letOwnedTupleGo_zip (s := { s with heap := h', toks := tk }) z' fun h'' z'' sb => ?_⟩
    have nz : s.heap.objs.size ≠ N + 5 := Nat.ne_of_gt (st0.lt (by simp))
    have hT2 : h''.get? s.heap.objs.size = some { cls := .type "tuple", data := .seq #[v1, v2, v3] } := (sb.2 _ nz).trans hT
    have new : ObjOk X.prog X.w (upd H s.heap.objs.size (.tup [x, y, z])) h'' s.heap.objs.size (.tup [x, y, z]) := ⟨by show 3 ≤ sizeLine; decide, [v1, v2, v3], .cons ru1 (.cons ru2 (.cons ru3 .nil)), ⟨_, hT2, rfl, _, rfl⟩⟩
    have I1 : Inv X pins σ (upd H s.heap.objs.size (.tup [x, y, z])) { s with heap := h'', toks := tk } :=
      I.turnedNew (t' := tk) (ch := cells3 N) (fun d o hb q => (sb.2 d (fun q' => hb (by simp [q']))).trans (hk d o (fun q' => hb (by simp [q'])) (fun q' => hb (by simp [q'])) (fun q' => hb (by simp [q'])) (fun q' => hb (by simp [q'])) (fun q' => hb (by simp [q'])) q)) hf (Nat.le_refl _) new
    refine ⟨.ref s.heap.objs.size, _, I1, rfl, ⟨_, x, y, z, rfl, I.hok.fresh (Nat.le_refl _), rfl, fun l hl => by rw [I.list_inj hl q1]; exact g1, fun l hl => by rw [I.list_inj hl q2]; exact g2, fun l hl => by rw [I.list_inj hl q3]; exact g3⟩, ⟨z'', ?_, ⟨v1, v2, v3, ?_⟩, ?_, ?_, ?_⟩, fun d hd => ?_⟩
    · exact (sb.2 _ S.TIz).trans (hk _ _ S.TIz S.TITO S.TIi1 S.TIi2 S.TIi3 hTI)
    · exact (sb.2 _ S.TOz).trans TO'
    · exact n1.1.at fun o q => (sb.2 _ (Ne.symm S.zi1)).trans q
    · exact n2.1.at fun o q => (sb.2 _ (Ne.symm S.zi2)).trans q
    · exact n3.1.at fun o q => (sb.2 _ (Ne.symm S.zi3)).trans q
    · rw [upd_ne (Nat.ne_of_lt (st0.lt hd))]
      exact (hf d hd).1
  done := by
    intro X hP hw hK hc i pins s σ H E I hf st hg
    subst hP hw hK
    obtain ⟨hz, hTI, ⟨x0, y0, z0, hTO⟩, h1, h2, h3⟩ := st
    obtain ⟨xs, ys, zs, q1, q2, q3, m1, m2, m3, hend⟩ := hg
    obtain ⟨its1, r1, p1, _⟩ := I.list q1
    obtain ⟨its2, r2, p2, _⟩ := I.list q2
    obtain ⟨its3, r3, p3, _⟩ := I.list q3
    have hh := I.ok.hd hc
    have S := zip_sep3 (N := N) (fp1 := [a]) (fp2 := [b]) (fp3 := [c]) (by simpa using ha) (by simpa using hb) (by simpa using hc0)
    have a1 : a ≠ N := Nat.ne_of_lt ha
    have a2 : b ≠ N + 1 := Nat.ne_of_lt (Nat.lt_succ_of_lt hb)
    have a3 : c ≠ N + 2 := Nat.ne_of_lt (Nat.lt_succ_of_lt (Nat.lt_succ_of_lt hc0))
    have l1 := r1.length
    have l2 := r2.length
    have l3 := r3.length
    refine wpAny_pyNext_zipD3_end S (Draws.list (A := X.A.in1) hh N a a1 its1.toArray) (Draws.list (A := X.A.in1) hh (N + 1) b a2 its2.toArray) (Draws.list (A := X.A.in1) hh (N + 2) c a3 its3.toArray) hz hTI hTO ⟨h1, p1.isList⟩ ⟨h2, p2.isList⟩ ⟨h3, p3.isList⟩ (by simp; omega) (by simp; omega) (by simp; omega) (by simp; omega) fun h' tk hk => ⟨rfl, ?_⟩
    exact I.turnedL (t' := tk) (ch := cells3 N) (fun d o hb q => hk d o (fun q' => hb (by simp [q'])) (fun q' => hb (by simp [q'])) (fun q' => hb (by simp [q'])) (fun q' => hb (by simp [q'])) (fun q' => hb (by simp [q'])) q) hf
  self := fun A i s Q E st h => wpAny_pyIter_zip st.1 h
def zipL3 : List D → List D → List D → List D
  | x :: xs, y :: ys, z :: zs => .tuple [x, y, z] :: zipL3 xs ys zs
  | _, _, _ => []
def dZip3 : List D → Option (List D)
  | [.list xs, .list ys, .list zs] => some (zipL3 xs ys zs)
  | _ => none
theorem zipL3_len : ∀ xs ys zs : List D, (zipL3 xs ys zs).length ≤ xs.length ∧ (zipL3 xs ys zs).length ≤ ys.length ∧ (zipL3 xs ys zs).length ≤ zs.length ∧ ((zipL3 xs ys zs).length = xs.length ∨ (zipL3 xs ys zs).length = ys.length ∨ (zipL3 xs ys zs).length = zs.length)
  | [], ys, zs => by simp [zipL3]
  | x :: xs, [], zs => by simp [zipL3]
  | x :: xs, y :: ys, [] => by simp [zipL3]
  | x :: xs, y :: ys, z :: zs => by
    have := zipL3_len xs ys zs
    simp only [zipL3, List.length_cons]
    omega
theorem zipL3_get : ∀ {xs ys zs : List D} {i : Nat} {d : D}, (zipL3 xs ys zs)[i]? = some d → ∃ x y z, xs[i]? = some x ∧ ys[i]? = some y ∧ zs[i]? = some z ∧ d = .tuple [x, y, z]
  | [], _, _, _, _, h => by simp [zipL3] at h
  | _ :: _, [], _, _, _, h => by simp [zipL3] at h
  | _ :: _, _ :: _, [], _, _, h => by simp [zipL3] at h
  | x :: xs, y :: ys, z :: zs, 0, d, h => by
    simp [zipL3] at h
    exact ⟨x, y, z, rfl, rfl, rfl, h.symm⟩
  | x :: xs, y :: ys, z :: zs, i + 1, d, h => by
    simp only [zipL3, List.getElem?_cons_succ] at h
    obtain ⟨a, b, c, h1, h2, h3, h4⟩ := zipL3_get h
    exact ⟨a, b, c, by simpa using h1, by simpa using h2, by simpa using h3, h4⟩
theorem walk_itz3 {K : Frg} {A : List Addr} {H : Hp} {a b c : Addr} {xs ys zs : List D} (r1 : Rep K H A (.ref a) (.list xs)) (r2 : Rep K H A (.ref b) (.list ys)) (r3 : Rep K H A (.ref c) (.list zs)) : WalkJ K A (Itz3 K a b c) H (zipL3 xs ys zs) := fun A' H' u hA => by
  obtain ⟨_, v1, e, h1, l1, _⟩ := rep_listAt (H' := H') (A' := A') (r1.tr u)
  cases e
  obtain ⟨_, v2, e, h2, l2, _⟩ := rep_listAt (H' := H') (A' := A') (r2.tr u)
  cases e
  obtain ⟨_, v3, e, h3, l3, _⟩ := rep_listAt (H' := H') (A' := A') (r3.tr u)
  cases e
  refine ⟨fun i d hd => ?_, v1, v2, v3, .of h1, .of h2, .of h3, ?_⟩
  · obtain ⟨x, y, z, g1, g2, g3, rfl⟩ := zipL3_get hd
    obtain ⟨w1, k1, m1⟩ := l1.get g1
    obtain ⟨w2, k2, m2⟩ := l2.get g2
    obtain ⟨w3, k3, m3⟩ := l3.get g3
    refine ⟨⟨v1, v2, v3, w1, w2, w3, .of h1, .of h2, .of h3, k1, k2, k3⟩, fun q H'' ⟨T, x1, x2, x3, e1, n, e2, y1, y2, y3⟩ => ?_⟩
    subst e1 e2
    have j1 := (y1 _ (.of h1)).symm.trans k1
    have j2 := (y2 _ (.of h2)).symm.trans k2
    have j3 := (y3 _ (.of h3)).symm.trans k3
    cases j1
    cases j2
    cases j3
    exact ⟨same_upd n, rep_tup (fun z => hA T z n) n (.cons m1 (.cons m2 (.one m3)))⟩
  · have := zipL3_len xs ys zs
    rw [l1.length, l2.length, l3.length]
    exact this
section
variable {X : Cx} {W : WX} {a b c : Expr} {l : En → R (List D)} {q1 pos : Pos}
theorem fi_zip3 {elts : List Expr} {kk : Nat} {tpos : Pos} (hg : Gl X "zip") (hm : X.mg "zip" = none) (ha : FA X W [a, b, c] l) (hs : starEach [a, b, c] X.env = (false, eval a X.env) :: starEach [b, c] X.env := by rfl) (hpl : (backTo pos (starEach [b, c] X.env)).any (·.1) = false := by rfl) :
    FI X W (.Tuple elts kk tpos) (.Call (.Name "zip" q1) [a, b, c] [] pos) (cIter dZip3 l) := by
  refine ⟨fun pins s σ H R I ⟨H0, A0, A, ρ, o, P⟩ => ?_⟩
  refine Call_ (ld_blt I hg hm PyProof.Rows.boot_zip (PyProof.Rows.callWith_type1 (thn (ha.run pos pins s σ H (fun vs H1 => ∃ x y z xs ys zs, vs = [.ref x, .ref y, .ref z] ∧ SqL X.K H1 x xs ∧ SqL X.K H1 y ys ∧ SqL X.K H1 z zs ∧ R (Itz3 X.K x y z) H1) I ⟨H0, A0, A, ρ, o, P.bind.mono fun ds H1 s1 P1 vs hv => ?_⟩) fun us s1 ⟨vs, H1, I1, r1, q⟩ => ?_) hs hpl))
  · obtain ⟨es, e1, q⟩ := P1.ofO
    unfold dZip3 at e1
    split at e1
    · cases e1
      cases hv with
      | cons h1 hv =>
        obtain ⟨v2, v3, rfl, h2, h3⟩ := repL2 hv
        obtain ⟨x, xs, rfl, m1, _⟩ := rep_listAt (H' := H1) (A' := A) h1
        obtain ⟨y, ys, rfl, m2, _⟩ := rep_listAt (H' := H1) (A' := A) h2
        obtain ⟨z, zs, rfl, m3, _⟩ := rep_listAt (H' := H1) (A' := A) h3
        exact ⟨x, y, z, xs, ys, zs, rfl, .of m1, .of m2, .of m3, q H1 (Same.refl _) _ (walk_itz3 h1 h2 h3)⟩
    · cases e1
  · obtain ⟨x, y, z, xs, ys, zs, rfl, m1, m2, m3, q⟩ := q
    cases r1 with
    | cons r rr =>
      cases rr with
      | cons r' rr =>
        cases rr with
        | cons r'' rr =>
          cases rr
          cases r
          cases r'
          cases r''
          obtain ⟨its1, _, p1, _⟩ := I1.list m1
          obtain ⟨its2, _, p2, _⟩ := I1.list m2
          obtain ⟨its3, _, p3, _⟩ := I1.list m3
          refine zip_begins3 (begins_list x its1.toArray) (begins_list y its2.toArray) (begins_list z its3.toArray) p1.isList p2.isList p3.isList fun h' g1 g2 g3 g4 g5 g6 hsz hk => wpAny_pyIter_zip g1 ?_
          have I2 : Inv X pins σ H1 { s1 with heap := h' } := I1.kept (t' := s1.toks) hk
          refine ⟨s1.heap.objs.size + 5, cells3 s1.heap.objs.size, _, _, H1, rfl, I2, turn_zip3 p1.lt p2.lt p3.lt, ⟨g1, g2, ⟨_, _, _, g3⟩, ⟨_, g4, rfl, rfl⟩, ⟨_, g5, rfl, rfl⟩, ⟨_, g6, rfl, rfl⟩⟩, fun d hd => ?_, q⟩
          have hle : s1.heap.objs.size ≤ d := by
            rcases cells3_of hd with e | e | e | e | e | e <;> (show s1.heap.objs.size ≤ (d : Nat); have e : (d : Nat) = _ := e; omega)
          exact I1.fpOk hle (I1.hok.fresh hle)
end
end G

namespace G
open PySem PySem.Spec PyProof.Rows L2

/-! ### x = [list(r) for r in e]; x[k][j] = v -/
def rowsOf : List D → Option (List (List D))
  | [] => some []
  | .list r :: ds => (rowsOf ds).map fun rs => r :: rs
  | _ => none
theorem rowsOf_some : ∀ {ds : List D} {rs : List (List D)}, rowsOf ds = some rs → ds = rs.map .list
  | [], rs, h => by cases h; rfl
  | .list r :: ds, rs, h => by
    obtain ⟨rs', h1, h2⟩ := Option.map_eq_some_iff.mp (show (rowsOf ds).map _ = some rs from h)
    subst h2
    rw [rowsOf_some h1]
    rfl
  | .none :: _, _, h => by cases h
  | .bool _ :: _, _, h => by cases h
  | .int _ :: _, _, h => by cases h
  | .str _ :: _, _, h => by cases h
  | .tuple _ :: _, _, h => by cases h
  | .dict _ :: _, _, h => by cases h
/-- the lists at bs are new, no other thing holds them but the list at L -/
structure Copied (K : Frg) (H H2 : Hp) (A : List Addr) (L : Addr) (bs : List Addr) (rows : List (List D)) : Prop where
  same : Same H H2
  free : H L = none
  top : H2 L = some (.lst (bs.map V.ref))
  nd : bs.Nodup
  out : L ∉ bs
  new : ∀ b ∈ bs, H b = none
  it : ∀ (i : Nat) (b : Addr), bs[i]? = some b → ∃ r vs, rows[i]? = some r ∧ H2 b = some (.lst vs) ∧ RepL K H2 (L :: (bs ++ A)) vs r
section
variable {K : Frg} {H H2 H3 : Hp} {A : List Addr} {L b : Addr} {bs : List Addr} {rows : List (List D)}
theorem Copied.tr (c : Copied K H H2 A L bs rows) : Tr A H (L :: (bs ++ A)) H2 := ⟨fun b o h _ => c.same b o h, fun a ha => by
  rcases List.mem_cons.mp ha with rfl | ha
  · exact .inr c.free
  · rcases List.mem_append.mp ha with h | h
    · exact .inr (c.new a h)
    · exact .inl h⟩
/-- more of the heap -/
theorem Copied.more (c : Copied K H H2 A L bs rows) (s : Same H2 H3) : Copied K H H3 A L bs rows := ⟨c.same.trans s, c.free, s _ _ c.top, c.nd, c.out, c.new, fun i b h => by
  obtain ⟨r, vs, h1, h2, h3⟩ := c.it i b h
  exact ⟨r, vs, h1, s _ _ h2, h3.same s⟩⟩
/-- one list more -/
theorem Copied.next (c : Copied K H H2 A L bs rows) (hb : H2 b = none) {vs : List V} {r : List D} (rl : RepL K H2 (L :: (bs ++ A)) vs r) :
    Copied K H (upd (upd H2 b (.lst vs)) L (.lst ((bs ++ [b]).map V.ref))) A L (bs ++ [b]) (rows.take bs.length ++ [r]) := by
  have hL : L ≠ b := fun z => by have := c.top; rw [z, hb] at this; cases this
  have hn : b ∉ bs := fun z => by
    obtain ⟨i, hi⟩ := List.getElem?_of_mem z
    obtain ⟨_, _, _, h2, _⟩ := c.it i b hi
    rw [hb] at h2; cases h2
  have hHb : H b = none := c.same.free hb
  have u : Tr (L :: (bs ++ A)) H2 (L :: (bs ++ [b] ++ A)) (upd (upd H2 b (.lst vs)) L (.lst ((bs ++ [b]).map V.ref))) := ⟨fun x o h n => by
    rw [upd_ne (show x ≠ L from fun z => n (by rw [z]; exact List.mem_cons_self)), upd_ne (show x ≠ b from fun z => by rw [z, hb] at h; cases h)]
    exact h, fun x hx => by
    rcases List.mem_cons.mp hx with rfl | hx
    · exact .inl List.mem_cons_self
    · rcases List.mem_append.mp hx with hx | hx
      · rcases List.mem_append.mp hx with hx | hx
        · exact .inl (List.mem_cons_of_mem _ (List.mem_append_left _ hx))
        · simp at hx; subst hx; exact .inr hb
      · exact .inl (List.mem_cons_of_mem _ (List.mem_append_right _ hx))⟩
  refine ⟨fun x o h => ?_, c.free, upd_same, List.nodup_append.mpr ⟨c.nd, by simp, fun x hx y hy z => ?_⟩, fun z => ?_, fun x hx => ?_, fun i x hi => ?_⟩
  · rw [upd_ne (ne_of_none h c.free), upd_ne (ne_of_none h hHb)]
    exact c.same x o h
  · simp at hy; subst hy; subst z; exact hn hx
  · rcases List.mem_append.mp z with z | z
    · exact c.out z
    · simp at z; exact hL z
  · rcases List.mem_append.mp hx with z | z
    · exact c.new x z
    · simp at z; subst z; exact hHb
  · by_cases hlt : i < bs.length
    · rw [List.getElem?_append_left hlt] at hi
      obtain ⟨r', vs', h1, h2, h3⟩ := c.it i x hi
      refine ⟨r', vs', ?_, ?_, h3.tr u⟩
      · rw [List.getElem?_append_left (by rw [List.length_take]; have := (List.getElem?_eq_some_iff.mp h1).1; omega), List.getElem?_take_of_lt hlt]
        exact h1
      · rw [upd_ne (show x ≠ L from fun z => c.out (by rw [← z]; exact List.mem_of_getElem? hi)), upd_ne (show x ≠ b from fun z => hn (by rw [← z]; exact List.mem_of_getElem? hi))]
        exact h2
    · have hi2 : i = bs.length := by
        have := (List.getElem?_eq_some_iff.mp hi).1
        rw [List.length_append, List.length_singleton] at this
        omega
      subst hi2
      rw [List.getElem?_append_right (Nat.le_refl _), Nat.sub_self] at hi
      simp at hi
      subst hi
      refine ⟨r, vs, ?_, ?_, rl.tr u⟩
      · by_cases hr : bs.length ≤ rows.length
        · rw [List.getElem?_append_right (by rw [List.length_take]; omega), List.length_take, Nat.min_eq_left hr, Nat.sub_self]
          rfl
        · exfalso
          cases hl : bs.getLast? with
          | none => rw [List.getLast?_eq_none_iff] at hl; subst hl; simp at hr
          | some z =>
            rw [List.getLast?_eq_getElem?] at hl
            obtain ⟨_, _, h1, _⟩ := c.it _ z hl
            have := (List.getElem?_eq_some_iff.mp h1).1
            omega
      · rw [upd_ne (Ne.symm hL), upd_same]
end
section
variable {X : Cx} {W : WX} {l : En → R (List D)} {r : Nat}
abbrev rListR (X : Cx) : List V → Hp → VK → Prop := fun xs H Q => ∃ p ys, xs = [.ref p] ∧ (SqL X.K H p ys ∨ SqT X.K H p ys) ∧ ∀ l, H l = none → Q (.ref l) (upd H l (.lst ys))
theorem lc_copy {own : List (Str × Nat)} (hix : r ∈ own.map (·.2)) {σ : St} {H : Hp} {Q : VK} {H0 : Hp} {A0 A : List Addr} {ρ : En} (ok : Ok X.K H0 A0 A ρ σ H) (hr : r < ρ.length)
    (P : Post X.mg W σ H (fun ds H1 => ∃ rows, rowsOf ds = some rows ∧ ds.length ≤ sizeLine ∧ ∀ L bs H2, Copied X.K H1 H2 A L bs rows → bs.length = rows.length → Q (.ref L) H2) (l ρ)) :
    tLc (tFI X.K X.mg W l) (tFG X.K [r] (gN r)) (tFT X.K X.mg wNo cTrue) (tCB (rListR X) (tCons (tVar r) tNil)) (own.map (·.2)) σ H Q := by
  refine ⟨H0, A0, A, ρ, ok, P.mono fun ds H1 s1 ⟨rows, e1, hsz, q⟩ J hJ L hL => ?_⟩
  obtain rfl := rowsOf_some e1
  have ok1 := ok.same s1
  have hHL : H L = none := s1.free hL
  rw [List.length_map] at hsz
  refine ⟨fun i m H2 => m = rows.length - i ∧ i ≤ rows.length ∧ ∃ bs, bs.length = i ∧ Copied X.K H1 H2 A L bs (rows.take i), ⟨rows.length, rfl, Nat.zero_le _, [], rfl, ⟨same_upd hL, hL, upd_same, .nil, List.not_mem_nil, fun _ h => absurd h List.not_mem_nil, fun i b h => by simp at h⟩⟩, ?_⟩
  rintro i m H2 ⟨rfl, hile, bs, hbl, c⟩
  have okc : Ok X.K H0 (L :: A0) (L :: A) ρ σ H2 := ok1.grow c.same hL (by rw [c.top]; intro z; cases z)
  have hall : ∀ a ∈ L :: (bs ++ A), H2 a ≠ none := fun a ha z => by
    rcases List.mem_cons.mp ha with rfl | ha
    · rw [c.top] at z; cases z
    · rcases List.mem_append.mp ha with h | h
      · obtain ⟨j, hj⟩ := List.getElem?_of_mem h
        obtain ⟨_, _, _, h2, _⟩ := c.it j a hj
        rw [h2] at z; cases z
      · exact ok1.has a h (c.same.free z)
  obtain ⟨hgo, hst⟩ := hJ (L :: (bs ++ A)) H2 c.tr hall
  by_cases hlt : i < rows.length
  · have hget : (rows.map PyData.list)[i]? = some (.list rows[i]) := by simp [hlt]
    refine .inr ⟨(hgo i _ hget).1, fun H' => ∃ bs, bs.length = i + 1 ∧ Copied X.K H1 H' A L bs (rows.take (i + 1)), fun H' ⟨bs', h1, h2⟩ => ⟨rows.length - (i + 1), by omega, rfl, hlt, bs', h1, h2⟩, fun x H3 hy => ?_⟩
    obtain ⟨sx, rx⟩ := (hgo i _ hget).2 x H3 hy
    -- at the item: its state, all lists made so far kept away
    have oka : Ok X.K H0 (L :: (bs ++ A0)) (L :: (bs ++ A)) ρ σ H2 := by
      refine ⟨ok1.len, ok1.ext.trans c.same, fun a ha => ?_, fun a ha => ?_, hall, fun j s hs => ?_, ok1.dis⟩
      · rcases List.mem_cons.mp ha with rfl | ha
        · exact List.mem_cons_self
        · rcases List.mem_append.mp ha with h | h
          · exact List.mem_cons_of_mem _ (List.mem_append_left _ h)
          · exact List.mem_cons_of_mem _ (List.mem_append_right _ (ok1.sub a h))
      · rcases List.mem_cons.mp ha with rfl | ha
        · exact .inl List.mem_cons_self
        · rcases List.mem_append.mp ha with h | h
          · exact .inl (List.mem_cons_of_mem _ (List.mem_append_left _ h))
          · rcases ok1.new a h with z | z
            · exact .inl (List.mem_cons_of_mem _ (List.mem_append_right _ z))
            · exact .inr z
      · obtain ⟨v, h1, h2⟩ := ok1.slot j s hs
        refine ⟨v, h1, ?_⟩
        cases s with
        | v d => exact Rep.tr c.tr h2
        | er _ _ => exact trivial
        | sc ns =>
          obtain ⟨a, e, h3⟩ := h2
          exact ⟨a, e, h3.tr c.tr⟩
        | own t d =>
          obtain ⟨a, e, ha, n0, h3⟩ := h2
          refine ⟨a, e, List.mem_cons_of_mem _ (List.mem_append_right _ ha), ⟨n0.1, fun z => ?_⟩, h3.tr c.same c.tr⟩
          rcases List.mem_cons.mp z with z | z
          · exact ok1.has a ha (by rw [z]; exact hL)
          · rcases List.mem_append.mp z with z | z
            · exact ok1.has a ha (c.new a z)
            · exact n0.2 z
    have okw := (oka.same sx).wipe (own.map (·.2))
    refine ⟨H0, _, _, wipeE ρ (own.map (·.2)), .list rows[i], _, okw, rx, rfl, fun σ2 o2 ag => ⟨(wipe_agree (fun j hj => by simp at hj; subst hj; exact hix) ag).trans wipe_wipe, H0, _, _, _, o2, ?_⟩⟩
    show ∀ H4, Same H3 H4 → _
    intro H4 s4
    dsimp only
    rw [if_pos rfl]
    obtain ⟨v, hv, rv⟩ := (o2.same s4).slot r (.v (.list rows[i])) (by rw [List.getElem?_set_self (by rw [wipeE_length]; exact hr)])
    obtain ⟨p, us, e, h5, r5⟩ := RepB.lst (.inl rv)
    subst e
    refine ⟨_, hv, p, us, rfl, .inl (SqL.of h5), fun b hb => ?_⟩
    have c4 : Copied X.K H1 H4 A L bs (rows.take i) := (c.more sx).more s4
    have hLb : L ≠ b := fun z => by have := c4.top; rw [z, hb] at this; cases this
    refine ⟨bs.map V.ref, (upd_ne hLb).trans c4.top, by rw [List.length_map, hbl]; omega, bs ++ [b], by rw [List.length_append, hbl]; rfl, ?_⟩
    have c5 := c4.next hb r5
    rw [hbl, List.take_take, Nat.min_self, ← List.take_succ_eq_append_getElem hlt] at c5
    rw [show bs.map V.ref ++ [V.ref b] = (bs ++ [b]).map V.ref by simp]
    exact c5
  · have e : i = rows.length := by omega
    subst e
    rw [List.take_length] at c
    exact .inl ⟨by have := hst; rw [List.length_map] at this; exact this, q L bs H2 c hbl⟩
theorem Post.noXW {mg : MgT} {α : Type} {σ : St} {H : Hp} {P : α → Hp → Prop} {r : R α} {a : α} (h : G.noX r = some a) (q : ∀ H', Same H H' → P a H') : Post mg W σ H P r := by
  cases r with
  | ok b => cases h; exact q
  | ex c n => cases h
  | no => cases h
def setLL (rows : List (List D)) (k j : Int) (v : D) : Option (List (List D)) := (ixN rows.length k).bind fun a => (rows[a]?).bind fun r => (ixN r.length j).map fun b => rows.set a (r.set b v)
def bentBy (fk fj f : En → R D) (rows : List (List D)) (ρ1 : En) : Option (List (List D)) := (noX (f ρ1)).bind fun v => if flatD v = true then (noX (fk ρ1)).bind fun k => (toI k).bind fun k => (noX (fj ρ1)).bind fun j => (toI j).bind fun j => setLL rows k j v else none
def sBent (ix r : Nat) (l : En → R (List D)) (fk fj f : En → R D) : En → SR := fun ρ => if r < ρ.length ∧ ix < ρ.length then (.of (l ρ) ρ fun ds => match rowsOf ds with
  | some rows => if ds.length ≤ sizeLine then (match bentBy fk fj f rows (ρ.set ix (some (.own false (.list ds)))) with
      | some rows' => .nx (ρ.set ix (some (.own false (.list (rows'.map .list)))))
      | none => .no) else .no
  | none => .no) else .no
theorem orep_copied {K : Frg} {H H2 : Hp} {A : List Addr} {L : Addr} {bs : List Addr} {rows : List (List D)} (c : Copied K H H2 A L bs rows) (hl : bs.length = rows.length) (hA : ∀ a ∈ A, H a ≠ none) : ORep K H2 (L :: A) L false (.list (rows.map .list)) := by
  refine ⟨bs.map V.ref, c.top, ?_⟩
  have all : ∀ (xs : List Addr) (rs : List (List D)), xs.length = rs.length → (∀ (i : Nat) (b : Addr), xs[i]? = some b → b ∈ bs ∧ ∃ r vs, rs[i]? = some r ∧ H2 b = some (.lst vs) ∧ RepL K H2 (L :: (bs ++ A)) vs r) → RepL K H2 (L :: A) (xs.map V.ref) (rs.map .list) := by
    intro xs
    induction xs with
    | nil => intro rs hl _; cases rs with
      | nil => exact .nil
      | cons _ _ => simp at hl
    | cons b xs ih =>
      intro rs hl h
      cases rs with
      | nil => simp at hl
      | cons r rs =>
        obtain ⟨hb, r', vs, h1, h2, h3⟩ := h 0 b rfl
        simp at h1
        subst h1
        refine .cons (.lst (fun z => ?_) h2 (h3.sub fun a ha => ?_)) (ih rs (by simpa using hl) fun i x hx => ?_)
        · rcases List.mem_cons.mp z with z | z
          · exact c.out (by rw [← z]; exact hb)
          · exact hA b z (c.new b hb)
        · rcases List.mem_cons.mp ha with rfl | ha
          · exact List.mem_cons_self
          · exact List.mem_cons_of_mem _ (List.mem_append_right _ ha)
        · obtain ⟨h4, r', vs', h5, h6⟩ := h (i + 1) x (by simpa using hx)
          exact ⟨h4, r', vs', by simpa using h5, h6⟩
  exact all bs rows hl fun i b hb => ⟨List.mem_of_getElem? hb, c.it i b hb⟩
/-- one of the lists is changed -/
theorem Copied.set {K : Frg} {H H2 : Hp} {A : List Addr} {L : Addr} {bs : List Addr} {rows : List (List D)} (c : Copied K H H2 A L bs rows) {a : Nat} {b : Addr} {r : List D} {vs : List V} {j : Nat} {w : V} {d : D} (hb : bs[a]? = some b) (hr : rows[a]? = some r) (hv : H2 b = some (.lst vs)) (rl : RepL K H2 (L :: (bs ++ A)) vs r) (hw : Rep K H2 (L :: (bs ++ A)) w d) :
    Copied K H (upd H2 b (.lst (vs.set j w))) A L bs (rows.set a (r.set j d)) := by
  have hm : b ∈ bs := List.mem_of_getElem? hb
  have u : Tr (L :: (bs ++ A)) H2 (L :: (bs ++ A)) (upd H2 b (.lst (vs.set j w))) := Tr.write (List.mem_cons_of_mem _ (List.mem_append_left _ hm))
  refine ⟨fun x o h => ?_, c.free, (upd_ne (show L ≠ b from fun z => c.out (by rw [z]; exact hm))).trans c.top, c.nd, c.out, c.new, fun i x hi => ?_⟩
  · rw [upd_ne (ne_of_none h (c.new b hm))]
    exact c.same x o h
  · by_cases e : i = a
    · subst e
      cases hb.symm.trans hi
      exact ⟨r.set j d, vs.set j w, by rw [List.getElem?_set_self (List.getElem?_eq_some_iff.mp hr).1], upd_same, (RepL.set j rl hw).tr u⟩
    · obtain ⟨r', vs', h1, h2, h3⟩ := c.it i x hi
      refine ⟨r', vs', by rw [List.getElem?_set_ne (Ne.symm e)]; exact h1, ?_, h3.tr u⟩
      rw [upd_ne (show x ≠ b from fun z => ?_)]
      · exact h2
      · subst z
        obtain ⟨l1, e1⟩ := List.getElem?_eq_some_iff.mp hb
        obtain ⟨l2, e2⟩ := List.getElem?_eq_some_iff.mp hi
        have := (List.pairwise_iff_getElem.mp c.nd)
        rcases Nat.lt_or_gt_of_ne e with q | q
        · exact this i a l2 l1 q (by rw [e1, e2])
        · exact this a i l1 l2 q (by rw [e1, e2])
theorem fss_bent {ix : Nat} {x rn : Str} {py spos pos pos2 p1 p2 p3 p4 p5 p6 p7 : Pos} {iter ke je ve : Expr} {scope : Scope} {own : List (Str × Nat)} {rest : List Stmt} {fk fj f : En → R D} {g : En → SR} (hc : X.calm = true) (hN : X.N.Nodup) (hy : X.N[ix]? = some x) (hyl : X.env.scope.names.lookup x = some .local)
    (hsw : swapsWith (.ListComp (.Call (.Name "list" p1) [.Name rn p2] [] p3) [⟨.Name rn p4, iter, [], 0⟩] scope pos) (some (.Name x py)) spos.line X.env = pure true) (hi : FI X W (.Name rn p4) iter l) (okb : BlkOk X.N X.env.scope scope own)
    (hg : ∀ (s : Shared) (H : Hp) (C : Addr) (cl : List (Str × Addr)) (fp : List Addr), FG (X.blk s H scope (compEnvC scope cl C X.env) fp) (.Name rn p4) [r] (gN r)) (hix : r ∈ own.map (·.2))
    (hr : ∀ (s : Shared) (H : Hp) (C : Addr) (cl : List (Str × Addr)) (fp : List Addr), PE (X.blk s H scope (compEnvC scope cl C X.env) fp) (.Name rn p2) (tVar r))
    (hgl : ∀ (s : Shared) (H : Hp) (C : Addr) (cl : List (Str × Addr)) (fp : List Addr), Gl (X.blk s H scope (compEnvC scope cl C X.env) fp) "list") (hm : X.mg "list" = none)
    (hxe : PE X (.Name x p5) (tVar ix)) (hk : FE X W ke fk) (hj : FE X W je fj) (hv : FE X W ve f) (hsl : PlainIx ke) (hrest : FSs X W rest g)
    (hst : ∀ (s : Shared) (H : Hp) (C : Addr) (cl : List (Str × Addr)) (fp : List Addr), starEach [.Name rn p2] (X.blk s H scope (compEnvC scope cl C X.env) fp).env = (false, eval (.Name rn p2) (X.blk s H scope (compEnvC scope cl C X.env) fp).env) :: starEach [] (X.blk s H scope (compEnvC scope cl C X.env) fp).env := by intros; rfl)
    (hpl : ∀ (s : Shared) (H : Hp) (C : Addr) (cl : List (Str × Addr)) (fp : List Addr), (backTo p3 (starEach [] (X.blk s H scope (compEnvC scope cl C X.env) fp).env)).any (·.1) = false := by intros; rfl)
    (hfi : ∀ x, foldedSetIterable iter X.env x = pure x := by intro _; rfl)
    (ha : ∀ v, assign (.Subscript (.Subscript (.Name x p5) ke p6) je p7) X.env v = (do
      let ov ← holding [v] (eval (.Subscript (.Name x p5) ke p6) X.env)
      let iv ← holding [v, ov] (eval je X.env)
      standAt p7
      holding [v, ov, iv] (setItem ov iv v)
      release [v, ov, iv] []) := by intro _; rfl)
    (hs2 : swapsWithSole [.Subscript (.Subscript (.Name x p5) ke p6) je p7] ve pos2.line X.env = pure false := by rfl) (hw2 : swappedStores [.Subscript (.Subscript (.Name x p5) ke p6) je p7] ve X.env = pure none := by rfl)
    (h12 : (assignEach [.Subscript (.Subscript (.Name x p5) ke p6) je p7] X.env).map (·.2) = [assign (.Subscript (.Subscript (.Name x p5) ke p6) je p7) X.env] := by rfl) :
    FSs X W (.Assign [.Name x py] (.ListComp (.Call (.Name "list" p1) [.Name rn p2] [] p3) [⟨.Name rn p4, iter, [], 0⟩] scope pos) spos :: .Assign [.Subscript (.Subscript (.Name x p5) ke p6) je p7] ve pos2 :: rest) (sSeq (sBent ix r l fk fj f) g) := by
  refine impSs (pss_cons (ps_setLc (g := tFG X.K [r] (gN r)) (tt := tFT X.K X.mg wNo cTrue) hc hN hy hyl hsw hi okb hg (fun s H C cl fp => fts_nil) (fun s H C cl fp => pe_callTy (r := rListR X) (call_list_of (X := X.blk s H scope (compEnvC scope cl C X.env) fp)) (hgl s H C cl fp) hm (by rfl) (pa_cons (hr s H C cl fp) pa_nil (hst s H C cl fp)) (by decide) (by decide) (hst s H C cl fp) (hpl s H C cl fp)) hfi)
    (pss_cons (ps_asg hv (pg_sub (pe_ix ix_list hxe hk hsl) hj set_list ha) hs2 hw2 h12) hrest)) fun Ee σ H ⟨H0, A0, A, ρ, ok, P⟩ => ?_
  have P' : PostS X.K X.mg W H0 A0 A H { Ee with nx := tFS X.K X.mg W g Ee } (sBent ix r l fk fj f ρ) := PostS.seq P
  unfold sBent at P'
  split at P'
  rotate_left
  · exact P'.elim
  rename_i hrl
  obtain ⟨hrl, hixl⟩ := hrl
  show tLc (tFI X.K X.mg W l) (tFG X.K [r] (gN r)) (tFT X.K X.mg wNo cTrue) (tCB (rListR X) (tCons (tVar r) tNil)) (own.map (·.2)) σ H (fun u K1 => tSeq (tAsg (tF X.K X.mg W f) (gSub (tOp (rIxL X.K) (tVar ix) (tF X.K X.mg W fk)) (tF X.K X.mg W fj) rSetL)) (tFS X.K X.mg W g) Ee (σ.set ix (some u)) K1)
  refine lc_copy hix ok hrl ((P'.of ok).mono fun ds H1 s1 P1 => ?_)
  split at P1
  rotate_left
  · exact P1.elim
  rename_i rows hrows
  split at P1
  rotate_left
  · exact P1.elim
  rename_i hsz
  split at P1
  rotate_left
  · exact P1.elim
  rename_i rows' hb
  have eds := rowsOf_some hrows
  subst eds
  refine ⟨rows, hrows, hsz, fun L bs H2 c hbl => ?_⟩
  have ok1 := ok.same s1
  unfold bentBy at hb
  obtain ⟨v, e1, hb⟩ := Option.bind_eq_some_iff.mp hb
  split at hb
  rotate_left
  · cases hb
  rename_i hflat
  obtain ⟨kd, e2, hb⟩ := Option.bind_eq_some_iff.mp hb
  obtain ⟨k, e3, hb⟩ := Option.bind_eq_some_iff.mp hb
  obtain ⟨jd, e4, hb⟩ := Option.bind_eq_some_iff.mp hb
  obtain ⟨j, e5, hb⟩ := Option.bind_eq_some_iff.mp hb
  unfold setLL at hb
  obtain ⟨a, e6, hb⟩ := Option.bind_eq_some_iff.mp hb
  obtain ⟨row, e7, hb⟩ := Option.bind_eq_some_iff.mp hb
  obtain ⟨b, e8, e9⟩ := Option.map_eq_some_iff.mp hb
  have hA := ok1.has
  have o2 : Ok X.K H0 A0 (L :: A) (ρ.set ix (some (.own false (.list (rows.map .list))))) (σ.set ix (some (.ref L))) H2 := ok1.setOwn c.same ix c.free (orep_copied c hbl hA)
  -- the value, then the places
  refine ⟨H0, A0, L :: A, _, o2, Post.noXW e1 fun H3 s3 w hw => ?_⟩
  have o3 := o2.same s3
  have hix2 : ix < σ.length := by rw [ok.len]; exact hixl
  refine ⟨.ref L, by rw [List.getElem?_set_self hix2], H0, A0, L :: A, _, o3, Post.noXW e2 fun H4 s4 y hyk => ?_⟩
  have o4 := o3.same s4
  have ek := toI_some e3
  subst ek
  obtain rfl := (RepB.of hyk).int
  have c4 := (c.more s3).more s4
  obtain ⟨hlt, e10⟩ := List.getElem?_eq_some_iff.mp e7
  obtain ⟨ba, hba⟩ : ∃ ba, bs[a]? = some ba := ⟨_, List.getElem?_eq_getElem (show a < bs.length by omega)⟩
  refine ⟨L, bs.map V.ref, k, .ref ba, rfl, rfl, SqL.of c4.top, ?_, H0, A0, L :: A, _, o4, Post.noXW e4 fun H5 s5 z hz => ?_⟩
  · unfold atI
    rw [List.length_map, hbl, e6, Option.bind_some, List.getElem?_map, hba]
    rfl
  have ej := toI_some e5
  subst ej
  obtain rfl := (RepB.of hz).int
  have c5 := c4.more s5
  obtain ⟨r', vs, h1, h2, h3⟩ := c5.it a _ hba
  cases e7.symm.trans h1
  refine ⟨_, vs, j, b, rfl, rfl, h2, by rw [h3.length]; exact e8, ?_⟩
  have hw5 : Rep X.K H5 (L :: (bs ++ A)) w v := flat_rep (hw.same (s4.trans s5)) (by cases v <;> first | rfl | cases hflat)
  have c6 := c5.set (j := b) hba e7 h2 h3 hw5
  subst e9
  have fin := ok1.setOwn c6.same ix c6.free (orep_copied c6 (by rw [List.length_set]; exact hbl) hA)
  refine P1 _ _ _ fin ⟨fun q o h n => c6.same q o (s1 q o h), fun q hq => ?_⟩
  rcases List.mem_cons.mp hq with rfl | hq
  · exact .inr (s1.free c6.free)
  · exact .inl hq
end
end G

namespace G
open PySem PySem.Spec PyProof.Rows L2

/-! ### the law's own head -/
/-- a law def of one script, whose answer is true, called by the claim -/
theorem law_done {P : Program} {w : World} {K : Frg} {mg mb : MgT} {k : Nat} {x : Str} {F : List Int → R D} {s₁ : Shared} {fa a : Addr} {us : List Value} {ns : List Int} (KX : K.In s₁.heap) (hns : s₁.heap.Ns mainGlobals mg) (hb : s₁.heap.Ns builtinsNs mb) (hbb : ∀ z : Str, z ≠ "__name__" → mb z = bootBuiltins z)
    (hlim : s₁.heap.NoLimit) (hgens : s₁.gens = #[]) (hobj : s₁.heap.get? a = some { cls := .type "list", data := .seq us.toArray }) (hints : IntsAre us ns) (hlen : ns.length ≤ sizeLine) (hr : Room k callerA) (hfa : mg x = some (.ref fa))
    (C : ∀ base : Heap, K.In base → base.Ns mainGlobals mg → CallS P w K mg base k x F) (good : F ns = .ok (.bool true)) :
    codeAny (model P w) callerA (.call (.ref fa) ⟨[.ref a], []⟩) (fun r s' => r = .ok (.ret (.bool true)) ∧ OldK s₁.heap s'.heap ∧ s'.os = s₁.os ∧ AllBare s'.gens) s₁ := by
  have vals := vals_ints hints
  have size := hints.length
  -- whatever is tracked of it at the start
  have from_ : ∀ H : Hp, Only H → LRep K H [] a (ns.map V.int) → HOk P w H s₁.heap → (∀ b, H b ≠ none → b = a ∧ K.lookup a = none) →
      codeAny (model P w) callerA (.call (.ref fa) ⟨[.ref a], []⟩) (fun r s' => r = .ok (.ret (.bool true)) ∧ OldK s₁.heap s'.heap ∧ s'.os = s₁.os ∧ AllBare s'.gens) s₁ := by
    intro H only rep ok one
    have untracked : ∀ {b : Addr}, b ≠ a → H b = none := fun {b} n => by
      cases q : H b with
      | none => rfl
      | some u => exact absurd (one b (by rw [q]; simp)).1 n
    have lay : ∀ {b : Addr} {m : Str → Option Value}, s₁.heap.Ns b m → (hidT s₁.heap H).Ns b m := fun {b m} ⟨o, es, ep, e, d, r⟩ => by
      refine ⟨o, es, ep, hidT_get e (untracked fun z => ?_), d, r⟩
      subst z
      rw [hobj] at e
      cases e
      cases (show Data.seq us.toArray _ = Data.dict es ep from d)
    have kin : K.In (hidT s₁.heap H) := fun b o e => hidT_get (KX b o e) (by
      cases q : H b with
      | none => rfl
      | some u =>
        obtain ⟨z1, z2⟩ := one b (by rw [q]; simp)
        rw [z1, z2] at e
        cases e)
    obtain ⟨mc, l1, l2⟩ := hlim
    have e0 : Env0 P w K mg (hidT s₁.heap H) callerA [] s₁ H :=
      ⟨rfl, ⟨kin, lay hns, ⟨mb, lay hb, hbb⟩, ⟨mc, lay l1, l2⟩⟩, fun b o e => of_hidT e, Nat.le_of_eq (hidT_size _ _), trivial, fun b hb => absurd (show b ∈ ([] : List Addr) from hb) (by simp), ok, .of_eq hgens⟩
    obtain ⟨f, fd, p, hF, hm, hkp, hB⟩ := C _ kin (lay hns)
    cases hfa.symm.trans hm
    refine codeAny_mono (hF.run callerA [] s₁ H ⟨[.ref a], []⟩ (.ref a) a ns [] (fun v _ => v = .bl true) (fun _ _ _ => False) hr rfl e0 (by have b := hB s₁ [.ref a] KX rfl; exact b) rfl rep (fun _ z => absurd z List.not_mem_nil) (by rw [good]; exact fun v H' _ r => by cases r; rfl)) fun r s' h => ?_
    cases r with
    | error e =>
      obtain ⟨_, _, _, _, _, _, _, _, _, _, _, _, z⟩ := h
      exact z.elim
    | ok fl =>
      cases fl with
      | next => exact h.elim
      | brk => exact h.elim
      | cont => exact h.elim
      | ret u =>
        obtain ⟨v, H', os, bare, un, ok', rv, q⟩ := h
        obtain rfl : v = .bl true := q
        obtain rfl : u = Value.bool true := rv
        refine ⟨rfl, OldK.of_keep fun b o e => ?_, os, bare⟩
        cases q : H b with
        | none => exact un.keep b o e q (fun z => absurd (show b ∈ ([] : List Addr) from z) (by simp)) (by simp)
        | some u =>
          rcases only b with z | ⟨ob, xs, z⟩
          · rw [q] at z; cases z
          · obtain ⟨g1, _⟩ := ok b _ z
            obtain ⟨g2, _⟩ := ok' b _ (un.frzs b ob _ z)
            cases e.symm.trans g1
            exact g2
  cases hk : K.lookup a with
  | some o =>
    have e := KX a o hk
    rw [hobj] at e
    cases e
    exact from_ (fun _ => none) (fun _ => .inl rfl) (.inr ⟨_, us.toArray, _, hk, rfl, rfl, rfl, by rw [List.size_toArray, size]; exact hlen, by simpa using vals⟩) (fun b u z => by cases (show (none : Option HO) = some u from z)) fun b z => absurd rfl z
  | none =>
    refine from_ (fun b => if b = a then some (.frz { cls := .type "list", data := .seq us.toArray } (.lst (ns.map V.int))) else none) (fun b => ?_) (.inl ⟨List.not_mem_nil, .inr ⟨{ cls := .type "list", data := .seq us.toArray }, if_pos rfl⟩⟩) (fun b u z => ?_) fun b z => ?_
    · by_cases hb : b = a
      · exact .inr ⟨_, _, if_pos hb⟩
      · exact .inl (if_neg hb)
    · by_cases hb : b = a
      · cases (if_pos hb).symm.trans z
        subst hb
        exact ⟨hobj, by rw [List.length_map]; exact hlen, us, _, vals, hobj⟩
      · cases (if_neg hb).symm.trans z
    · by_cases hb : b = a
      · exact ⟨hb, hk⟩
      · exact absurd (if_neg hb) z
theorem walk_g {l : PySem.W.OpenLaw} {n k : Nat} {q : Program} {loose : List Str} {XP : (Str → Option Value) → Heap → Prop} {YP : World → Heap → Prop} {d : DefRec} {K : Params → Frg} {F : List Int → R D}
    (hn : l.most = some n) (hn2 : n ≤ sizeLine) (hdf : d.params.defaults = []) (hr : Room k callerA) (hY : ∀ (w : World) (h : Heap), YP w h → (K w.params).In h)
    (C : ∀ (w : World) (mg : MgT) (h : Heap), (K w.params).In h → h.Ns mainGlobals mg → ∀ base : Heap, (K w.params).In base → base.Ns mainGlobals mg → CallS l.prog w (K w.params) mg base k d.name F)
    (good : ∀ ns : List Int, ns.length ≤ n → F ns = .ok (.bool true)) : PySem.W.WalkO q loose XP YP l.row.toRowW d [] (fun f vs => PySem.call f vs) :=
  Att.attach_call hn hdf fun w s₀ s₁ mg mb fa o pm cd doc a us ns G0 Y ho hd hcd hmg hobj hints hlen hg =>
    law_done (hY w _ Y) G0.T.g G0.T.b G0.T.builtins G0.T.nolimit hg hobj hints (Nat.le_trans hlen hn2) hr hmg (C w mg _ (hY w _ Y) G0.T.g) (good ns hlen)
/-! ### what the top has written -/
section
variable {P : Program} {K : Frg} {mg : MgT} {h : Heap} {x : Str}
theorem mk_def {st : Stmt} {ps : List Str} {f : Addr} {oc : Value} {od an : Option Addr} {osl : Array (Option Value)} {kV doc pm cdv ct : Value} (X : K.In h) (G0 : h.Ns mainGlobals mg) (a : PySem.W.nsIn K mainGlobals x = some (some (.ref f)))
    (l : K.lookup f = some ⟨oc, od, .func (PySem.W.fnOf x x (defArgs st) (defBody st) (defScope st) .none kV doc pm an cdv ct), osl⟩) (c : PySem.W.codeIn K cdv x = true) (k : PySem.W.keepIn K (.ref f) = true)
    (hb : ∀ (kV doc pm : Value) (an : Option Addr) (cdv ct : Value) (us : List Value), us.length = ps.length → bindArgs (PySem.W.fnOf x x (defArgs st) (defBody st) (defScope st) .none kV doc pm an cdv ct) ⟨us, []⟩ = pure (ps.zip us)) : DefG K mg x st ps :=
  ⟨f, _, fun_mk l c k, PySem.W.mg_of X G0 a, (fun_mk l c k).binds hb⟩
theorem mk_none (X : K.In h) (G0 : h.Ns mainGlobals mg) (a : PySem.W.nsIn K mainGlobals x = some none) : mg x = none := PySem.W.mg_none_of X G0 a
theorem mk_int {i : Int} {t : Tok} (X : K.In h) (G0 : h.Ns mainGlobals mg) (a : PySem.W.nsIn K mainGlobals x = some (some (.int i t))) : GInt mg x i := ⟨t, PySem.W.mg_of X G0 a⟩
/-- a written tuple's items -/
inductive ItemsD : List Value → List V → List D → Prop
  | nil : ItemsD [] [] []
  | int {i : Int} {t : Tok} {us : List Value} {vs : List V} {ds : List D} (r : ItemsD us vs ds) : ItemsD (.int i t :: us) (.int i :: vs) (.int i :: ds)
  | str {z : Str} {t : Tok} {us : List Value} {vs : List V} {ds : List D} (r : ItemsD us vs ds) : ItemsD (.str z t :: us) (.str z :: vs) (.str z :: ds)
theorem ItemsD.vals : ∀ {us : List Value} {vs : List V} {ds : List D}, ItemsD us vs ds → Vals vs us
  | _, _, _, .nil => .nil
  | _, _, _, .int r => .cons ⟨_, rfl⟩ r.vals
  | _, _, _, .str r => .cons ⟨_, rfl⟩ r.vals
theorem ItemsD.rep : ∀ {us : List Value} {vs : List V} {ds : List D}, ItemsD us vs ds → ∀ H A, RepL K H A vs ds
  | _, _, _, .nil, _, _ => .nil
  | _, _, _, .int r, H, A => .cons (.int _) (r.rep H A)
  | _, _, _, .str r, H, A => .cons (.str _) (r.rep H A)
theorem mk_tup {a : Addr} {us : List Value} {vs : List V} {ds : List D} {n : Nat} {od : Option Addr} {sl : Array (Option Value)} (X : K.In h) (G0 : h.Ns mainGlobals mg) (e : PySem.W.nsIn K mainGlobals x = some (some (.ref a))) (l : K.lookup a = some ⟨.type "tuple", od, .seq us.toArray n, sl⟩) (it : ItemsD us vs ds) (hz : us.length ≤ sizeLine) : GTup K mg x ds :=
  ⟨a, vs, PySem.W.mg_of X G0 e, ⟨_, us.toArray, n, l, rfl, rfl, by rw [List.size_toArray]; exact hz, by simpa using it.vals⟩, it.rep⟩
theorem ints_items : ∀ {us : List Value} {vs : List V} {ns : List Int}, ItemsD us vs (ns.map .int) → vs = ns.map V.int
  | _, _, [], h => by cases h; rfl
  | _, _, n :: ns, h => by
    rw [List.map_cons] at h
    cases h with
    | int r => rw [ints_items r]; rfl
theorem mk_tupI {a : Addr} {us : List Value} {vs : List V} {ns : List Int} {n : Nat} {sl : Array (Option Value)} (X : K.In h) (G0 : h.Ns mainGlobals mg) (e : PySem.W.nsIn K mainGlobals x = some (some (.ref a))) (l : K.lookup a = some ⟨.type "tuple", none, .seq us.toArray n, sl⟩) (it : ItemsD us vs (ns.map .int)) (hz : us.length ≤ sizeLine) : GTupI K mg x ns := by
  obtain rfl := ints_items it
  exact ⟨a, PySem.W.mg_of X G0 e, ⟨_, us.toArray, n, l, rfl, rfl, by rw [List.size_toArray]; exact hz, by simpa using it.vals⟩, _, l, rfl, rfl⟩
theorem mk_exm {c z : String} {C C2 : Addr} {b : Bool} (X : K.In h) (G0 : h.Ns mainGlobals mg) (a1 : PySem.W.nsIn K mainGlobals (Str.ofString c) = some (some (.ref C))) (a2 : PySem.W.nsIn K mainGlobals (Str.ofString z) = some (some (.ref C2))) (e : PySem.W.exmOne K (.ref C) (.ref C2) = some b) (er : ErrG P K mg (Str.ofString c)) : ExM P K mg c z b :=
  ⟨_, _, PySem.W.mg_of X G0 a1, PySem.W.mg_of X G0 a2, e, er⟩
end
end G
namespace PySem
namespace AeX
open PySem.W PySem.Calls PyProof.Rows PySem.HandSPX
variable {P : Program} {K : Frag} {mg : Str → Option Value} {h : Heap} {x : Str} {C D fI : Addr}
theorem mk_err {nm q : Str} {N : Addr} {bs bm : List Value} {sn : List Str} {sub : List Value} {ab : Bool} {col : Option Bool} {dd : Option Addr} {k0 k1 k2 k3 k5 : Option Value} {cdD : ClassData}
    {oc : Value} {od : Option Addr} {doc pm : Value} {an : Option Addr} {cda : Addr} {ct : Value} {osl : Array (Option Value)} {cc : Addr} {p1 p2 q0 q1 q2 q3 q4 q5 r1 r2 r3 r4 : Pos} {ccl : Value} {cdd : Option Addr} {vs : Array Value} {ccs : Array (Option Value)} {file : Str} {tf : Tok} {cl : Value} {cld : Option Addr} {csl : Array (Option Value)}
    (X : K.In h) (G0 : h.Ns mainGlobals mg) (gC : nsIn K mainGlobals x = some (some (.ref C))) (cls : K.lookup C = some (excClassObj nm q C N bs bm true sn sub ab col dd k0 k1 k2 k3 k5 "ValueError.__new__")) (hbm : refsVE bm = true)
    (sa : findIn K (.ref C) "__setattr__" = some (some (.builtin "object.__setattr__"))) (ga : findIn K (.ref C) "__getattribute__" = some (some (.builtin "BaseException.__getattribute__"))) (gg : findIn K (.ref C) "__getattr__" = some none) (noN : findIn K (.ref C) "at" = some none)
    (iC : findIn K (.ref C) "__init__" = some (some (.ref fI))) (tC : typeIn K (.ref fI) = some (.type "function")) (kC : keepIn K (.ref C) = true) (exC : subIn K (.ref C) (.type "BaseException") = some true) (tyC : typeIn K (.ref C) = some (.type "type")) (hdC : hasDictIn K C = true)
    (sup : ks_superIn K C D "__init__" = some (some (.builtin "ValueError.__init__"))) (isD : mroIn K C (.ref D) = some true) (veC : subIn K (.ref C) (.type "ValueError") = some true) (opq : nsIn K cStatics "thirdparty.any" = some none) (clD : clsIn K D = some cdD)
    (nsu : nsIn K mainGlobals "super" = some none) (top : (P.main.scope.names.lookup ("super" : Str)).isSome = false)
    (fn : K.lookup fI = some ⟨oc, od, .func (ksFn "__init__" "AuctionError.__init__" (aA p1 p2) (aB q0 q1 q2 q3 q4 q5 r1 r2 r3 r4) aS .none .none doc pm an (.ref cda) ct cc), osl⟩) (hcd : codeIn K (.ref cda) "AuctionError.__init__" = true)
    (hev : (∀ env : Env, ∃ pl : Sem Bool, eval (.Call (.Attribute (.Call (.Name "super" q0) [] [] q1) "__init__" q2) [.Name "at" q3] [] q4) env = (do
      let ov ← attributeBase (.Call (.Name "super" q0) [] [] q1) "__init__" env (eval (.Call (.Name "super" q0) [] [] q1) env)
      standAt q2.atName
      let (f, first) ← holding [ov] (getMethod ov "__init__" pl)
      callWith q4 f first (backTo q4 (starEach [.Name "at" q3] env)) [])))
    (code : K.lookup cda = some ⟨ccl, cdd, .fields vs, ccs⟩) (hvs : vs[2]? = some (.str file tf)) (hfile : ((P.main.file : Str) == file) = true) (cell : K.lookup cc = some ⟨cl, cld, .cell (some (.ref D)), csl⟩) : G.ErrG P K mg x :=
  ⟨C, D, fI, mg_of X G0 gC, ⟨⟨nm, q, N, bs, bm, sn, sub, ab, col, dd, k0, k1, k2, k3, k5, cls, hbm⟩, sa, ga, gg, noN, iC, tC, kC, exC, tyC, hdC, sup, isD, veC, opq, ⟨cdD, clD⟩, mg_none_of X G0 nsu, top,
    ⟨oc, od, doc, pm, an, cda, ct, osl, cc, p1, p2, q0, q1, q2, q3, q4, q5, r1, r2, r3, r4, fn, hcd, hev, ⟨ccl, cdd, vs, ccs, file, tf, code, hvs, hfile⟩, ⟨cl, cld, csl, cell⟩⟩⟩⟩
end AeX
end PySem

namespace G
open PySem PySem.Spec PyProof.Rows L2
section
variable {X : Cx} {pos : Pos}
/-- a, b, .. = a list -/
def gTL (t : List D → En → Option En) : TgF := fun d ρ => match d with
  | .list ds => t ds ρ
  | _ => none
theorem fg_unl {es : List Expr} {k n : Nat} {ix : List Nat} {tgs : List D → En → Option En} (hc : X.calm = true) (hg : FGs X es ix tgs) (hl : ∀ ds ρ ρ', tgs ds ρ = some ρ' → ds.length = n)
    (hn : (assignEach es X.env).length = n := by rfl) (hst : (assignEach es X.env).findIdx? (·.1) = none := by rfl) : FG X (.Tuple es k pos) ix (gTL tgs) := impG (pg_lst hc hg hn hst) fun v σ H Q ⟨H0, A0, A, ρ, d, ρ', o, r, e, q⟩ => by
  unfold gTL at e
  split at e
  · obtain ⟨a, vs, rfl, h1, r1⟩ := (RepB.of r).lst
    exact ⟨a, vs, rfl, .of h1, by rw [r1.length]; exact hl _ _ _ e, H0, A0, A, ρ, _, ρ', o, r1, e, q⟩
  · cases e
end
end G

namespace G
open PySem PySem.Spec PyProof.Rows L2
section
variable {X : Cx} {W : WX} {a b : Expr} {f g : En → R D} {dop : D → D → Option D}
/-! ### a list that a sum or a product makes anew -/
def DOpN (X : Cx) (F : Value → Value → Sem Value) (dop : D → D → Option D) : Prop :=
  ∃ r : R2, OpR X F r ∧ ∀ (H : Hp) (A : List Addr) (x y : V) (d1 d2 d : D) (Q : VK), (∀ a ∈ A, H a ≠ none) → RepB X.K H A x d1 → RepB X.K H A y d2 → dop d1 d2 = some d → (∀ v H', Same H H' → RepN X.K false H H' A v d → Q v H') → r x y H Q
theorem fn_op {op : Operator} (ho : DOpN X (binaryOp op) dop) (ha : FB X W a f) (hb : FB X W b g) : FN X W false (.BinOp a op b pos) (cBin dop f g) := by
  obtain ⟨r, hr, hs⟩ := ho
  refine impE (pe_op hr ha hb) fun σ H Q ⟨H0, A0, A, ρ, o, P⟩ => ?_
  refine ⟨H0, A0, A, ρ, o, P.bind.mono fun d1 H1 s1 P1 x hx => ?_⟩
  refine ⟨H0, A0, A, ρ, o.same s1, P1.bind.mono fun d2 H2 s2 P2 y hy => ?_⟩
  obtain ⟨d, e, P3⟩ := P2.ofO
  refine hs H2 A x y d1 d2 d Q ((o.same s1).same s2).has (hx.same s2) hy e fun v H' s3 hv => P3 H' s3 v ?_
  obtain ⟨p, e, n, r⟩ := hv
  exact ⟨p, e, s1.free (s2.free n), r⟩
/-- a list, so many times -/
def dTimes : D → D → Option D
  | .list xs, .int j => if j < 1000000 ∧ xs.length * j.toNat ≤ sizeLine ∧ -1000000 < j then some (.list (List.replicate j.toNat xs).flatten) else none
  | _, _ => none
theorem dn_times : DOpN X (binaryOp .Mult) dTimes := by
  refine ⟨_, OpR.or op_mulW op_rep, fun H A x y d1 d2 d Q ha hx hy e q => ?_⟩
  unfold dTimes at e
  split at e
  · split at e
    · rename_i hl
      cases e
      obtain ⟨a, vs, rfl, h1, r1⟩ := hx.lst
      obtain rfl := hy.int
      obtain ⟨h2, h3, h4⟩ := hl
      exact .inr ⟨a, _, vs, rfl, rfl, h1, by omega, by omega, by rw [r1.length]; exact h3, fun p hp => q _ _ (same_upd hp) ⟨p, rfl, hp, orep_lst hp (r1.flatRep _)⟩⟩
    · cases e
  · cases e
/-- two lists, one behind the other -/
def dJoin : D → D → Option D
  | .list xs, .list ys => if xs.length + ys.length ≤ sizeLine then some (.list (xs ++ ys)) else none
  | _, _ => none
theorem dn_join : DOpN X (binaryOp .Add) dJoin := by
  refine ⟨_, op_cat, fun H A x y d1 d2 d Q ha hx hy e q => ?_⟩
  unfold dJoin at e
  split at e
  · split at e
    · rename_i hl
      cases e
      obtain ⟨a, vs, rfl, h1, r1⟩ := hx.lst
      obtain ⟨b, us, rfl, h2, r2⟩ := hy.lst
      exact ⟨a, b, vs, us, rfl, rfl, h1, h2, by rw [r1.length, r2.length]; exact hl, fun p hp => q _ _ (same_upd hp) ⟨p, rfl, hp, orep_lst hp (r1.append r2)⟩⟩
    · cases e
  · cases e
end
end G

namespace G
open PySem PySem.Spec PyProof.Rows L2
/-! ### the least of rows, rows sorted -/
def notNone : D → Bool
  | .none => false
  | _ => true
def alikeB (xs : List D) : Bool := xs.all fun x => notNone x && xs.all fun y => PySem.W.alike x y
theorem alikeB_all {xs : List D} (h : alikeB xs = true) : PySem.W.AlikeAll xs := by
  unfold alikeB at h
  rw [List.all_eq_true] at h
  refine ⟨fun x hx y hy => ?_, fun x hx z => ?_⟩
  · have := h x hx
    rw [Bool.and_eq_true, List.all_eq_true] at this
    exact this.2 y hy
  · have := h x hx
    subst z
    simp [notNone] at this
theorem repL_get {K : Frg} {H : Hp} {A : List Addr} : ∀ {vs : List V} {ds : List D}, RepL K H A vs ds → ∀ (i : Nat) (v : V), vs[i]? = some v → ∃ d, ds[i]? = some d ∧ Rep K H A v d
  | _, _, .nil, i, v, e => by simp at e
  | _, _, .cons a b, 0, v, e => by simp at e; subst e; exact ⟨_, rfl, a⟩
  | _, _, .cons a b, i + 1, v, e => by
    obtain ⟨d, e2, r⟩ := repL_get b i v (by simpa using e)
    exact ⟨d, by simpa using e2, r⟩
theorem dpAll_get {K : Frg} {H : Hp} : ∀ {vs : List V} {ds : List D}, DpAll K H vs ds → ∀ (i : Nat) (v : V), vs[i]? = some v → ∃ d, ds[i]? = some d ∧ Dp K H v d
  | _, _, .nil, i, v, e => by simp at e
  | _, _, .cons a b, 0, v, e => by simp at e; subst e; exact ⟨_, rfl, a⟩
  | _, _, .cons a b, i + 1, v, e => by
    obtain ⟨d, e2, r⟩ := dpAll_get b i v (by simpa using e)
    exact ⟨d, by simpa using e2, r⟩
theorem vals_get' : ∀ {xs : List V} {us : List Value}, Vals xs us → ∀ (i : Nat) (u : Value), us[i]? = some u → ∃ x, xs[i]? = some x ∧ RelV x u
  | _, _, .nil, i, u, e => by simp at e
  | _, _, .cons a b, 0, u, e => by simp at e; subst e; exact ⟨_, rfl, a⟩
  | _, _, .cons a b, i + 1, u, e => by
    obtain ⟨d, e2, r⟩ := vals_get' b i u (by simpa using e)
    exact ⟨d, by simpa using e2, r⟩
def rMinD (K : Frg) : List V → Hp → VK → Prop := fun vs H Q => ∃ (a : Addr) (xs : List V) (d : D) (ds : List D), vs = [V.ref a] ∧ SqL K H a xs ∧ DpAll K H xs (d :: ds) ∧ alikeB (d :: ds) = true ∧ PyData.depthAll (d :: ds) ≤ 60 ∧
  ∀ (i : Nat) x, xs[i]? = some x → (d :: ds)[i]? = some (PySem.W.minD d ds) → Q x H
section
variable {X : Cx}
theorem cr_minD (hc : X.calm = true) (hu : X.A.units + 65 < cLine) : CallR X (.builtin "min") (rMinD X.K) := by
  intro pins s σ H vs us Q I r h
  obtain ⟨a, xs, d, ds, rfl, hs, hd, hal, hdep, q⟩ := h
  obtain ⟨its, rv, hl, hz⟩ := I.list hs
  rw [Vals.ref1 r]
  obtain ⟨as, rd⟩ := Dp.readsAll I (d :: ds) xs its hd rv
  refine PySem.W.min_list_data (vs := its.toArray) (I.ok.hd hc) hl.isList (by simpa using rd) (alikeB_all hal) (by omega) fun i v h' tk bs hv hr hk => ?_
  obtain ⟨x, hx, rx⟩ := vals_get' rv i v (by simpa using hv)
  obtain ⟨e, he, hde⟩ := dpAll_get hd i x hx
  obtain ⟨as2, rd2⟩ := Dp.reads I e x v hde rx
  obtain ⟨e1, _⟩ := PyProof.Rows.reads_det (fun _ _ e _ => e) hr (PyProof.Rows.Reads.keeps hk rd2)
  exact ⟨x, H, I.kept hk, rx, q i x hx (by rw [he, e1])⟩
def dMinRows : List D → Option D
  | [.list (d :: ds)] => if alikeB (d :: ds) = true ∧ PyData.depthAll (d :: ds) ≤ 60 ∧ PyData.hasDictAll (d :: ds) = false then some (PySem.W.minD d ds) else none
  | _ => none
theorem dc_minRows (hc : X.calm = true) (hu : X.A.units + 65 < cLine) : DCall X (.builtin "min") dMinRows := by
  refine ⟨_, cr_minD hc hu, fun H A vs ds d Q ha hv e q => ?_⟩
  unfold dMinRows at e
  split at e
  · split at e
    · rename_i hl
      cases e
      obtain ⟨v, rfl, h⟩ := pair1 hv
      obtain ⟨p, us, rfl, h1, r⟩ := h.lst
      refine ⟨p, us, _, _, rfl, SqL.of h1, r.dp hl.2.2, hl.1, hl.2.1, fun i x hx he => ?_⟩
      obtain ⟨d2, e2, r2⟩ := repL_get r i x hx
      rw [he] at e2
      cases e2
      exact q x H (Same.refl H) r2
    · cases e
  · cases e
def sortB (xs : List D) : Bool := (xs.all fun d => match d with | .tuple (_ :: _) => true | _ => false) || (xs.all fun d => match d with | .tuple _ => false | .none => false | _ => true)
theorem sortB_of {xs : List D} (h : sortB xs = true) : PySem.W.Sortable xs := by
  unfold sortB at h
  rcases Bool.or_eq_true_iff.mp h with h | h
  · rw [List.all_eq_true] at h
    refine .inl fun d hd => ?_
    have := h d hd
    split at this
    · exact ⟨_, _, rfl⟩
    · cases this
  · rw [List.all_eq_true] at h
    refine .inr fun d hd => ?_
    have := h d hd
    split at this
    · cases this
    · cases this
    · rename_i n1 n2
      exact ⟨fun z => n2 z, fun xs z => n1 xs z⟩
theorem alikeB_pairs {xs : List D} (h : alikeB xs = true) : PySem.W.AllAlike xs := fun x hx y hy => (alikeB_all h).1 x hx y hy
def rowSort (xs : List D) : List D := xs.mergeSort (PySem.W.dataLe false id)
def rSortD (K : Frg) : List V → Hp → VK → Prop := fun vs H Q => ∃ (a : Addr) (xs : List V) (ds : List D), vs = [V.ref a] ∧ SqL K H a xs ∧ DpAll K H xs ds ∧ alikeB ds = true ∧ sortB ds = true ∧ PyData.depthAll ds ≤ 60 ∧
  ∀ (bs : List (V × D)) (p : Addr), bs.Perm (xs.zip ds) → bs.map (·.2) = rowSort ds → H p = none → Q (.ref p) (upd H p (.lst (bs.map (·.1))))
theorem depth_mem : ∀ {xs : List D} {d : D}, d ∈ xs → d.depth ≤ PyData.depthAll xs
  | x :: xs, d, h => by
    rw [PyData.depthAll]
    rcases List.mem_cons.mp h with rfl | h
    · omega
    · have := depth_mem h
      omega
theorem dpAll_len {K : Frg} {H : Hp} : ∀ {vs : List V} {ds : List D}, DpAll K H vs ds → vs.length = ds.length
  | _, _, .nil => rfl
  | _, _, .cons _ b => by simp [dpAll_len b]
theorem each_zip {P : Value → D → Prop} : ∀ {xs : List V} {us : List Value} {ds : List D}, Vals xs us → xs.length = ds.length → (∀ (i : Nat) u d, us[i]? = some u → ds[i]? = some d → P u d) → PySem.W.EachIs (fun u (b : V × D) => RelV b.1 u ∧ P u b.2) us (xs.zip ds)
  | _, _, [], .nil, _, _ => .nil
  | x :: xs, u :: us, d :: ds, .cons a b, h, hp => .cons ⟨a, hp 0 u d rfl rfl⟩ (each_zip b (by simpa using h) fun i u d e1 e2 => hp (i + 1) u d (by simpa using e1) (by simpa using e2))
theorem vals_each : ∀ {us : List Value} {bs : List (V × D)}, PySem.W.EachIs (fun u (b : V × D) => RelV b.1 u) us bs → Vals (bs.map (·.1)) us
  | _, _, .nil => .nil
  | _, _, .cons a b => .cons a (vals_each b)
theorem map_snd_zip {α β : Type} : ∀ {xs : List α} {ds : List β}, xs.length = ds.length → (xs.zip ds).map (·.2) = ds
  | [], [], _ => rfl
  | x :: xs, d :: ds, h => by simp [map_snd_zip (xs := xs) (ds := ds) (by simpa using h)]
theorem cr_sortD (hu : X.A.units + 65 < cLine) : CallR X (.builtin "sorted") (rSortD X.K) := by
  intro pins s σ H vs us Q I r h
  obtain ⟨a, xs, ds, rfl, hs, hd, hal, hso, hdep, q⟩ := h
  obtain ⟨its, rv, hl, hz⟩ := I.list hs
  rw [Vals.ref1 r]
  have hlen := dpAll_len hd
  have hsnd := map_snd_zip hlen
  have he : PySem.W.EachIs (fun u (b : V × D) => RelV b.1 u ∧ ∃ as, Reads s.heap u b.2 as) its (xs.zip ds) := each_zip rv hlen fun i u d e1 e2 => by
    obtain ⟨x, hx, rx⟩ := vals_get' rv i u e1
    obtain ⟨d', e3, hde⟩ := dpAll_get hd i x hx
    rw [e2] at e3
    cases e3
    exact Dp.reads I d x u hde rx
  refine PySem.W.sorted_data (vs := its) (bs := xs.zip ds) (enc := fun b => b.2) (R := fun u b => RelV b.1 u) hl.isList (he.mono fun _ _ z => z.1) (he.mono fun _ _ z => z.2) (by rw [hsnd]; exact alikeB_pairs hal) (by rw [hsnd]; exact sortB_of hso) ?_ (fun b hb => ?_) fun out ho heo => ?_
  · rw [List.length_zip]; omega
  · have : b.2 ∈ ds := by rw [← hsnd]; exact List.mem_map.mpr ⟨b, hb, rfl⟩
    have := depth_mem this
    omega
  · obtain ⟨ep, he'⟩ := PyProof.Rows.sortedAll_at s.heap its (List.toArray out)
    have hvs := vals_each heo
    have hl2 : (((xs.zip ds).mergeSort (PySem.W.dataLe false fun b => b.2)).map (·.1)).length ≤ sizeLine := by
      rw [List.length_map, List.length_mergeSort, List.length_zip]; omega
    refine ⟨.ref _, upd H (s.heap.objs.size + 1) (.lst (((xs.zip ds).mergeSort (PySem.W.dataLe false fun b => b.2)).map (·.1))), I.laid (t' := s.toks) (fun _ _ => PyProof.Rows.sortedAll_old) (Nat.le_succ _) ⟨hl2, (List.toArray out).toList, ep, by simpa using hvs, he'⟩, rfl, q _ _ (List.mergeSort_perm _ _) ?_ (I.hok.fresh (Nat.le_succ _))⟩
    unfold rowSort
    have em := List.map_mergeSort (r := PySem.W.dataLe false fun b : V × D => b.2) (s := PySem.W.dataLe false id) (f := fun b : V × D => b.2) (l := xs.zip ds) (fun _ _ _ _ => rfl)
    rw [hsnd] at em
    exact em
def dSortRows : List D → Option D
  | [.list ds] => if alikeB ds = true ∧ sortB ds = true ∧ PyData.depthAll ds ≤ 60 ∧ PyData.hasDictAll ds = false then some (.list (rowSort ds)) else none
  | _ => none
theorem rep_zip {K : Frg} {H : Hp} {A : List Addr} : ∀ {vs : List V} {ds : List D}, RepL K H A vs ds → ∀ b ∈ vs.zip ds, Rep K H A b.1 b.2
  | _, _, .nil, b, h => by simp at h
  | _, _, .cons x y, b, h => by
    rcases List.mem_cons.mp h with rfl | h
    · exact x
    · exact rep_zip y b h
theorem rep_of_zip {K : Frg} {H : Hp} {A : List Addr} : ∀ {bs : List (V × D)}, (∀ b ∈ bs, Rep K H A b.1 b.2) → RepL K H A (bs.map (·.1)) (bs.map (·.2))
  | [], _ => .nil
  | b :: bs, h => .cons (h b List.mem_cons_self) (rep_of_zip fun a ha => h a (List.mem_cons_of_mem _ ha))
theorem dc_sortRows (hu : X.A.units + 65 < cLine) : DCallN X (.builtin "sorted") dSortRows := by
  refine ⟨_, cr_sortD hu, fun H A vs ds d Q ha hv e q => ?_⟩
  unfold dSortRows at e
  split at e
  · split at e
    · rename_i hl
      cases e
      obtain ⟨v, rfl, h⟩ := pair1 hv
      obtain ⟨p, us, rfl, h1, r⟩ := h.lst
      refine ⟨p, us, _, rfl, SqL.of h1, r.dp hl.2.2.2, hl.1, hl.2.1, hl.2.2.1, fun bs n hp hb hn => q _ _ (same_upd hn) ⟨n, rfl, hn, orep_lst hn ?_⟩⟩
      rw [← hb]
      exact rep_of_zip fun b hm => rep_zip r b (hp.mem_iff.mp hm)
    · cases e
  · cases e
end
end G

namespace G
open PySem PySem.Spec PyProof.Rows L2
open Sem (wp)
/-! ### tuples added up -/
theorem sub_tup_str : isSubtype (.type "tuple") (.type "str") = pure false := by rw [isSubtype_type]; kernel_rfl
theorem sub_tup_bytes : isSubtype (.type "tuple") (.type "bytes") = pure false := by rw [isSubtype_type]; kernel_rfl
theorem sub_tup_bytearray : isSubtype (.type "tuple") (.type "bytearray") = pure false := by rw [isSubtype_type]; kernel_rfl
theorem args_sum2 (a b : Value) : argsOk "sum" ⟨[a, b], []⟩ := by unfold argsOk; kernel_rfl
def catW (ws : List (List Value)) (i : Nat) : List Value := (ws.take i).flatten
theorem catW_succ {ws : List (List Value)} {i : Nat} {w : List Value} (h : ws[i]? = some w) : catW ws (i + 1) = catW ws i ++ w := by
  unfold catW
  rw [List.take_add_one, h]
  simp
section
variable {prog : Program} {w : World} {A : Around} {R : Result → Shared → Prop} {Ia l S t0 : Addr} {H0 : Heap} {bs : List Addr} {ws : List (List Value)}
/-- where a sum's tuple comes from -/
def Src (H0 : Heap) (t0 : Addr) (bs : List Addr) (ws : List (List Value)) (t : Addr) (i : Nat) : Prop := H0.objs.size ≤ t ∨ (t = t0 ∧ catW ws i = []) ∨ ∃ j : Nat, bs[j]? = some t ∧ ws[j]? = some (catW ws i)
theorem catW_le (ws : List (List Value)) (i : Nat) : (catW ws i).length ≤ (catW ws ws.length).length := by
  unfold catW
  rw [List.take_length]
  conv => rhs; rw [← List.take_append_drop i ws]
  rw [List.flatten_append, List.length_append]
  omega
theorem add_any {A : Around} {E : Value → Shared → Prop} {s : Shared} {t b : Addr} {vs us : List Value} {Q : Value → Shared → Prop} (ht : IsTup s.heap t vs.toArray) (hb : IsTup s.heap b us.toArray) (hsz : vs.length + us.length ≤ sizeLine)
    (h : ∀ (h2 : Heap) (r : Addr), (∀ b o, s.heap.get? b = some o → h2.get? b = some o) → IsTup h2 r (vs ++ us).toArray → ((r = t ∧ us = []) ∨ (r = b ∧ vs = []) ∨ (r = s.heap.objs.size ∧ True)) → Q (.ref r) { s with heap := h2 }) : wpAny (model prog w) A (binaryOp .Add (.ref t) (.ref b)) Q E s := by
  by_cases hv : vs = []
  · subst hv
    exact cat_tup0 ht hb (h s.heap b (fun _ _ e => e) hb (.inr (.inl ⟨rfl, rfl⟩)))
  · refine HT.cat_tup ht hb hv (fun hu => ?_) (fun hu => ?_) hsz
    · subst hu
      exact h s.heap t (fun _ _ e => e) (by rw [List.append_nil]; exact ht) (.inl ⟨rfl, rfl⟩)
    · exact h _ _ (fun b o e => Heap.get?_push_of_some _ e) (IsTup.new _ _) (.inr (.inr ⟨rfl, trivial⟩))
theorem sum_loopT (hh : A.in1.handled = none) (hne : l ≠ Ia) (hlen : bs.length = ws.length) (hb : ∀ (j : Nat) (b : Addr) (w : List Value), bs[j]? = some b → ws[j]? = some w → IsTup H0 b w.toArray) (hI : H0.objs.size ≤ Ia) (hS : H0.objs.size ≤ S) (hSI : S ≠ Ia) (hSl : S ≠ l) (hz : (catW ws ws.length).length ≤ sizeLine) :
    ∀ (k i : Nat) (s : Shared) (t : Addr) (c : Nat), bs.length - i = k → i ≤ bs.length → (∀ b o, H0.get? b = some o → s.heap.get? b = some o) → (s.heap.IsListIter Ia l i ∧ s.heap.IsList l (bs.map Value.ref).toArray) →
    s.heap.get? S = some { cls := .type "list", dict := none, data := .seq #[.ref t] c, slots := #[] } → IsTup s.heap t (catW ws i).toArray → Src H0 t0 bs ws t i → t ≠ Ia →
    (∀ h' tk t', (∀ b o, H0.get? b = some o → h'.get? b = some o) → IsTup h' t' (catW ws ws.length).toArray → Src H0 t0 bs ws t' ws.length → R (.ok (.ret (.ref t'))) { s with heap := h', toks := tk }) →
    codeAny (model prog w) A (.builtin "sum.loop" ⟨[.ref Ia, .ref S, rawInt 2, rawInt 0], []⟩) R s := by
  have W := Walks.list (prog := prog) (w := w) (A := A.in1) hh Ia l hne (bs.map Value.ref).toArray
  have hsz : (bs.map Value.ref).toArray.size = bs.length := by simp
  intro k
  induction k with
  | zero =>
    intro i s t c hk hi hkeep hst hSs ht hsrc htI hR
    have hin : i = bs.length := by omega
    refine codeAny_builtin F.entry_sum_loop ?_
    rw [Around.under_plainId F.plain_sum_loop _]
    show wpAny _ A.in1 (seqItems? (.ref S) >>= _) _ _ s
    refine wpAny_bind (wpAny_seqItems hSs rfl ?_)
    show wpAny _ A.in1 (tryCatch (pyNext (.ref Ia)) _ >>= _) _ _ s
    refine wpAny_bind (wpAny_tryCatch (W.done s _ _ (by rw [hsz, ← hin]; exact hst) fun h' tk hk' => ?_))
    have hw : ∀ b o, H0.get? b = some o → b ∉ [Ia] := fun b o e hm => absurd (Heap.lt_size e) (by rw [List.mem_singleton.mp hm]; exact Nat.not_lt.mpr hI)
    have htn : t ∉ [Ia] := by simpa using htI
    refine wpAny_pure (hR h' tk t (fun b o e => hk' b o (hw b o e) (hkeep b o e)) ?_ ?_)
    · rw [← hlen, ← hin]
      obtain ⟨o, ho, hc, n, hd⟩ := ht
      exact ⟨o, hk' t o htn ho, hc, n, hd⟩
    · rw [← hlen, ← hin]; exact hsrc
  | succ k ih =>
    intro i s t c hk hi hkeep hst hSs ht hsrc htI hR
    have hlt : i < bs.length := by omega
    refine codeAny_builtin F.entry_sum_loop ?_
    rw [Around.under_plainId F.plain_sum_loop _]
    show wpAny _ A.in1 (seqItems? (.ref S) >>= _) _ _ s
    refine wpAny_bind (wpAny_seqItems hSs rfl ?_)
    show wpAny _ A.in1 (tryCatch (pyNext (.ref Ia)) _ >>= _) _ _ s
    refine wpAny_bind (wpAny_tryCatch (W.item i s _ _ (by rw [hsz]; exact hlt) hst fun v h' tk hP hst' hk' => ?_))
    have hw : ∀ b o, H0.get? b = some o → b ∉ [Ia] := fun b o e hm => absurd (Heap.lt_size e) (by rw [List.mem_singleton.mp hm]; exact Nat.not_lt.mpr hI)
    have htn : t ∉ [Ia] := by simpa using htI
    have hSn : S ∉ [Ia] := by simpa using hSI
    have hbi : bs[i]? = some bs[i] := List.getElem?_eq_getElem hlt
    obtain rfl : v = Value.ref bs[i] := by
      have : (bs.map Value.ref)[i]? = some v := by simpa using hP
      rw [List.getElem?_map, hbi] at this
      exact (Option.some.inj this).symm
    have hwi : ws[i]? = some (ws[i]'(by omega)) := List.getElem?_eq_getElem (by omega)
    generalize hwe : ws[i]'(by omega) = wi at hwi
    generalize hbe : bs[i] = bi at hbi
    have hkeep' : ∀ b o, H0.get? b = some o → h'.get? b = some o := fun b o e => hk' b o (hw b o e) (hkeep b o e)
    have hSs' := hk' S _ hSn hSs
    have ht' : IsTup h' t (catW ws i).toArray := by
      obtain ⟨o, ho, hc, n, hd⟩ := ht
      exact ⟨o, hk' t o htn ho, hc, n, hd⟩
    have hbt : IsTup h' bi wi.toArray := (hb i bi wi hbi hwi).keeps hkeep'
    have hcat := catW_succ hwi
    have hIlt : Ia < h'.objs.size := by
      obtain ⟨o, ho, _⟩ := hst'.1
      exact Heap.lt_size ho
    have hIlt2 : H0.objs.size ≤ h'.objs.size := Nat.le_trans hI (Nat.le_of_lt hIlt)
    show wpAny _ A.in1 ((holding [Value.ref bi] (binaryOp .Add (.ref t) (.ref bi))).attempt >>= _) _ _ _
    refine wpAny_bind (wpAny_attempt (wpAny_holding (add_any ht' hbt ?_ fun h2 r hk2 hr hsr => ?_)))
    · rw [← List.length_append, ← hcat]
      exact Nat.le_trans (catW_le _ _) hz
    have hS3 := hk2 S _ hSs'
    show wpAny _ A.in1 (updateSeq S (fun _ => #[Value.ref r]) >>= _) _ _ _
    refine wpAny_bind ?_
    refine wpAny_updateSeq hS3 rfl ?_
    have hS2 := Heap.get?_update_self (Obj.mapSeq fun _ => #[Value.ref r]) hS3 rfl
    refine wpAny_bind (wpAny_letGo ?_)
    refine wpAny_bind ?_
    refine wpAny_updateSeq hS2 rfl ?_
    have hup : ∀ b o, b ≠ S → h'.get? b = some o → ((h2.update S (Obj.mapSeq fun _ => #[Value.ref r])).update S (Obj.mapSeq fun _ => #[Value.ref r])).get? b = some o := fun b o hbS e =>
      (Heap.get?_update_other _ _ (Ne.symm hbS)).trans ((Heap.get?_update_other _ _ (Ne.symm hbS)).trans (hk2 b o e))
    have hup2 : ∀ b o, b ≠ S → h2.get? b = some o → ((h2.update S (Obj.mapSeq fun _ => #[Value.ref r])).update S (Obj.mapSeq fun _ => #[Value.ref r])).get? b = some o := fun b o hbS e =>
      (Heap.get?_update_other _ _ (Ne.symm hbS)).trans ((Heap.get?_update_other _ _ (Ne.symm hbS)).trans e)
    have hS0 : ∀ b o, H0.get? b = some o → b ≠ S := fun b o e z => absurd (Heap.lt_size e) (by rw [z]; exact Nat.not_lt.mpr hS)
    have hrS : r ≠ S := by
      rintro rfl
      obtain ⟨o, ho, hc, _⟩ := hr
      rw [hS3] at ho
      cases ho
      injection hc with hc
      exact absurd hc (by decide)
    have hrI : r ≠ Ia := by
      rcases hsr with ⟨rfl, _⟩ | ⟨rfl, _⟩ | ⟨rfl, _⟩
      · exact htI
      · exact fun z => absurd (hb i _ wi hbi hwi).lt (by rw [z]; exact Nat.not_lt.mpr hI)
      · exact fun z => absurd hIlt (by rw [← z]; exact Nat.lt_irrefl _)
    refine wpAny_pure ⟨plainId_quiet F.plain_sum_loop _, ih (i + 1) _ r _ (by omega) (by omega) (fun b o e => hup b o (hS0 b o e) (hkeep' b o e)) ?_ (Heap.get?_update_self _ hS2 rfl) ?_ ?_ hrI fun h3 tk3 t3 k3 a3 s3 => hR h3 tk3 t3 k3 a3 s3⟩
    · refine W.frame _ _ _ hst' fun b hbm o e => hup b o ?_ e
      rcases List.mem_cons.mp hbm with rfl | hbm
      · exact fun z => hSI z.symm
      · have := List.mem_singleton.mp hbm
        rw [this]
        exact fun z => hSl z.symm
    · rw [hcat]
      obtain ⟨o, ho, hc, n, hd⟩ := hr
      exact ⟨o, hup2 r o hrS ho, hc, n, hd⟩
    · rcases hsr with ⟨rfl, hw0⟩ | ⟨rfl, hc0⟩ | ⟨rfl, _⟩
      · rcases hsrc with z | ⟨z1, z2⟩ | ⟨j, z1, z2⟩
        · exact .inl z
        · exact .inr (.inl ⟨z1, by rw [hcat, z2, hw0]; rfl⟩)
        · exact .inr (.inr ⟨j, z1, by rw [hcat, hw0, List.append_nil]; exact z2⟩)
      · exact .inr (.inr ⟨i, hbi, by rw [hcat, hc0, List.nil_append]; exact hwi⟩)
      · exact .inl hIlt2
end
end G

namespace G
open PySem PySem.Spec PyProof.Rows L2
open Sem (wp)
section
variable {prog : Program} {w : World} {A : Around} {E : Value → Shared → Prop} {s : Shared}
theorem call_sumT {l t0 : Addr} {bs : List Addr} {ws : List (List Value)} {Q : Value → Shared → Prop} (hh : A.in1.handled = none) (hl : s.heap.IsList l (bs.map Value.ref).toArray) (ht : IsTup s.heap t0 ([] : List Value).toArray) (hlen : bs.length = ws.length) (hb : ∀ (j : Nat) (b : Addr) (w : List Value), bs[j]? = some b → ws[j]? = some w → IsTup s.heap b w.toArray) (hz : (catW ws ws.length).length ≤ sizeLine)
    (h : ∀ h' tk t', (∀ b o, s.heap.get? b = some o → h'.get? b = some o) → IsTup h' t' (catW ws ws.length).toArray → Src s.heap t0 bs ws t' ws.length → Q (.ref t') { s with heap := h', toks := tk }) :
    wpAny (model prog w) A (call (.builtin "sum") [.ref l, .ref t0]) Q E s := by
  have hll : l < s.heap.objs.size := by obtain ⟨_, e, _⟩ := hl; exact Heap.lt_size e
  refine call_function_tree F.kind_sum F.plain_sum F.entry_sum (args_sum2 _ _) ?_
  unfold Builtin.«sum»
  simp only [List.length_cons, List.length_nil]
  rw [if_neg (by decide)]
  refine wpAny_bind (wpAny_of_eq (show Builtin.Builtins.bindParams "sum" ["start"] 0 ⟨[.ref t0], []⟩ = pure [some (.ref t0)] from rfl) ?_)
  refine wpAny_bind (wpAny_pyIter_list hl ?_)
  refine wpAny_bind (wpAny_pure ?_)
  have ht1 : IsTup (s.heap.push { cls := .type "list_iterator", data := .fields #[.ref l, .int 0 0] }) t0 ([] : List Value).toArray := ht.push _
  simp only [List.forIn_cons, List.forIn_nil]
  refine wpAny_bind (wpAny_bind (wpAny_bind (wpAny_isInstance (T := "tuple") (b := false) ht1.typeIs sub_tup_str ?_)))
  simp only [Bool.false_eq_true, if_false]
  refine wpAny_pure (wpAny_bind (wpAny_bind (wpAny_isInstance (T := "tuple") (b := false) ht1.typeIs sub_tup_bytes ?_)))
  simp only [Bool.false_eq_true, if_false]
  refine wpAny_pure (wpAny_bind (wpAny_bind (wpAny_isInstance (T := "tuple") (b := false) ht1.typeIs sub_tup_bytearray ?_)))
  simp only [Bool.false_eq_true, if_false]
  refine wpAny_pure (wpAny_pure ?_)
  refine wpAny_bind (wpAny_newObj_type ?_)
  have hs1 : (s.heap.push { cls := .type "list_iterator", data := .fields #[.ref l, .int 0 0] }).objs.size = s.heap.objs.size + 1 := by rw [Heap.size_push]
  refine wpAny_pure ⟨plainId_quiet F.plain_sum_loop _, ?_⟩
  refine sum_loopT (H0 := s.heap) (t0 := t0) (bs := bs) (ws := ws) (Ia := s.heap.objs.size) (l := l) (S := (s.heap.push { cls := .type "list_iterator", data := .fields #[.ref l, .int 0 0] }).objs.size) hh (Nat.ne_of_lt hll) hlen hb (Nat.le_refl _) ?_ ?_ ?_ hz bs.length 0 _ t0 0 rfl (Nat.zero_le _) ?_ ?_ (Heap.get?_push_size _ rfl) ?_ (.inr (.inl ⟨rfl, rfl⟩)) ?_ fun h' tk t' a1 a2 a3 => h h' tk t' a1 a2 a3
  · rw [hs1]; exact Nat.le_succ _
  · rw [hs1]; exact Nat.succ_ne_self _
  · rw [hs1]; exact Nat.ne_of_gt (Nat.lt_succ_of_lt hll)
  · exact fun b o e => Heap.get?_push_of_some _ (Heap.get?_push_of_some _ e)
  · refine ⟨?_, (hl.push _).push _⟩
    have h0 : (s.heap.push { cls := .type "list_iterator", data := .fields #[.ref l, .int 0 0] }).IsListIter s.heap.objs.size l 0 := ⟨_, Heap.get?_push_size _ rfl, rfl, rfl⟩
    exact h0.at fun o e => Heap.get?_push_of_some _ e
  · exact (ht1.push _)
  · exact Nat.ne_of_lt ht.lt
end
/-! ### the rule -/
def TupsAt (K : Frg) (H : Hp) : List V → List (List V) → Prop := Paired fun x us => ∃ b, x = V.ref b ∧ SqT K H b us
def rSumTup (K : Frg) : List V → Hp → VK → Prop := fun vs H Q => ∃ (a s0 : Addr) (xs : List V) (uss : List (List V)), vs = [V.ref a, V.ref s0] ∧ SqL K H a xs ∧ SqT K H s0 [] ∧ TupsAt K H xs uss ∧ uss.flatten.length ≤ sizeLine ∧
  (uss.flatten = [] → Q (.ref s0) H) ∧ (∀ (j : Nat) (x : V), xs[j]? = some x → uss[j]? = some uss.flatten → Q x H) ∧ (∀ p, H p = none → Q (.ref p) (upd H p (.tup uss.flatten)))
section
variable {X : Cx}
theorem tups_open {pins : List (Addr × Obj)} {σ : St} {H : Hp} {s : Shared} (I : Inv X pins σ H s) : ∀ {xs : List V} {uss : List (List V)}, TupsAt X.K H xs uss → ∃ (bs : List Addr) (ws : List (List Value)), xs = bs.map V.ref ∧ bs.length = ws.length ∧ (∀ (j : Nat) (b : Addr) (w : List Value), bs[j]? = some b → ws[j]? = some w → IsTup s.heap b w.toArray) ∧ Paired Vals uss ws
  | _, _, .nil => ⟨[], [], rfl, rfl, fun j b w h => by simp at h, .nil⟩
  | _, _, .cons ⟨b, e, h⟩ r => by
    obtain ⟨bs, ws, h1, h2, h3, h4⟩ := tups_open I r
    obtain ⟨its, rv, pt, hz⟩ := I.tuple h
    refine ⟨b :: bs, its :: ws, by rw [e, h1]; rfl, by simp [h2], fun j b' w hb hw => ?_, .cons rv h4⟩
    cases j with
    | zero => simp at hb hw; subst hb hw; exact pt
    | succ j => exact h3 j b' w (by simpa using hb) (by simpa using hw)
theorem paired_flat : ∀ {uss : List (List V)} {ws : List (List Value)}, Paired Vals uss ws → Vals uss.flatten ws.flatten
  | _, _, .nil => .nil
  | _, _, .cons a b => by
    rw [List.flatten_cons, List.flatten_cons]
    exact a.append (paired_flat b)
theorem pair_get {α β : Type} {F : α → β → Prop} : ∀ {xs : List α} {ys : List β}, Paired F xs ys → ∀ (j : Nat) (y : β), ys[j]? = some y → ∃ x, xs[j]? = some x ∧ F x y
  | _, _, .nil, j, y, h => by simp at h
  | _, _, .cons a b, 0, y, h => by simp at h; subst h; exact ⟨_, rfl, a⟩
  | _, _, .cons a b, j + 1, y, h => by
    obtain ⟨x, h1, h2⟩ := pair_get b j y (by simpa using h)
    exact ⟨x, by simpa using h1, h2⟩
theorem vals_refs : ∀ {bs : List Addr} {us : List Value}, Vals (bs.map V.ref) us → us = bs.map Value.ref
  | [], _, .nil => rfl
  | b :: bs, _, .cons r t => by
    have e : _ = Value.ref b := r
    rw [e, vals_refs t]
    rfl
theorem cr_sumTup (hc : X.calm = true) : CallR X (.builtin "sum") (rSumTup X.K) := by
  intro pins s σ H vs us Q I r h
  obtain ⟨a, s0, xs, uss, rfl, hs, ht, hx, hz, q0, q1, q2⟩ := h
  obtain ⟨its, rv, hl, _⟩ := I.list hs
  obtain ⟨its0, rv0, ht0, _⟩ := I.tuple ht
  obtain ⟨bs, ws, e1, e2, e3, e4⟩ := tups_open I hx
  obtain ⟨u1, u2, rfl, ru1, ru2⟩ := vals2 r
  obtain rfl : u1 = Value.ref a := ru1
  obtain rfl : u2 = Value.ref s0 := ru2
  cases rv0
  subst e1
  obtain rfl := vals_refs rv
  have hf := paired_flat e4
  have hcat : catW ws ws.length = ws.flatten := by unfold catW; rw [List.take_length]
  refine call_sumT (I.ok.hd hc) hl.isList ht0 e2 e3 (by rw [hcat, ← hf.length]; exact hz) fun h' tk t' k1 k2 k3 => ?_
  rw [hcat] at k2
  rcases k3 with z | ⟨rfl, z⟩ | ⟨j, z1, z2⟩
  · refine ⟨.ref t', upd H t' (.tup uss.flatten), I.laid k1 z ⟨hz, ws.flatten, hf, k2⟩, rfl, q2 t' (I.hok.fresh z)⟩
  · rw [hcat] at z
    rw [z] at hf
    have : uss.flatten = [] := by cases hh : uss.flatten with
      | nil => rfl
      | cons p q => rw [hh] at hf; cases hf
    exact ⟨.ref t', H, I.kept k1, rfl, q0 this⟩
  · rw [hcat] at z2
    obtain ⟨us, h1, h2⟩ := pair_get e4 j ws.flatten z2
    have : us = uss.flatten := h2.inj hf
    subst this
    exact ⟨.ref t', H, I.kept k1, rfl, q1 j (.ref t') (by rw [List.getElem?_map, z1]; rfl) h1⟩
def tupsOf : List D → Option (List (List D))
  | [] => some []
  | .tuple xs :: r => (tupsOf r).map (xs :: ·)
  | _ :: _ => none
/-- sum(list of tuples, ()) -/
def dSum2 : List D → Option D
  | [.list ds, .tuple []] => (tupsOf ds).bind fun xss => if xss.flatten.length ≤ sizeLine then some (.tuple xss.flatten) else none
  | _ => none
theorem tups_rep {K : Frg} {H : Hp} {A : List Addr} : ∀ {ds : List D} {xss : List (List D)} {vs : List V}, tupsOf ds = some xss → RepL K H A vs ds → ∃ uss : List (List V), TupsAt K H vs uss ∧ RepL K H A uss.flatten xss.flatten ∧ Paired (fun us xs => RepL K H A us xs) uss xss ∧ ds = xss.map PyData.tuple
  | [], _, _, e, .nil => by cases e; exact ⟨[], .nil, .nil, .nil, rfl⟩
  | d :: ds, _, _, e, .cons a b => by
    cases d with
    | tuple xs =>
      obtain ⟨yss, e1, e2⟩ := Option.map_eq_some_iff.mp (show (tupsOf ds).map (xs :: ·) = some _ from e)
      subst e2
      obtain ⟨uss, h1, h2, h3, h4⟩ := tups_rep e1 b
      cases a with
      | tup n hh r =>
        refine ⟨_ :: uss, .cons ⟨_, rfl, .inl (.inl hh)⟩ h1, ?_, .cons r h3, by rw [h4]; rfl⟩
        rw [List.flatten_cons, List.flatten_cons]
        exact r.append h2
      | kt z r =>
        refine ⟨_ :: uss, .cons ⟨_, rfl, .inr z.1⟩ h1, ?_, .cons r h3, by rw [h4]; rfl⟩
        rw [List.flatten_cons, List.flatten_cons]
        exact r.append h2
    | _ => cases e
theorem flat_one {α : Type} : ∀ {xss : List (List α)} {j : Nat} {y : List α}, xss[j]? = some y → y.length = xss.flatten.length → y = xss.flatten
  | [], j, y, h, _ => by simp at h
  | x :: r, 0, y, h, hl => by
    simp at h
    subst h
    rw [List.flatten_cons, List.length_append] at hl
    have : r.flatten = [] := List.length_eq_zero_iff.mp (by omega)
    rw [List.flatten_cons, this, List.append_nil]
  | x :: r, j + 1, y, h, hl => by
    have h2 : r[j]? = some y := by simpa using h
    rw [List.flatten_cons, List.length_append] at hl
    have h3 : y.length ≤ r.flatten.length := List.Sublist.length_le (List.sublist_flatten_of_mem (List.mem_of_getElem? h2))
    have hx : x = [] := List.length_eq_zero_iff.mp (by omega)
    rw [List.flatten_cons, hx, List.nil_append]
    exact flat_one h2 (by omega)
theorem pair_get' {α β : Type} {F : α → β → Prop} : ∀ {xs : List α} {ys : List β}, Paired F xs ys → ∀ (j : Nat) (x : α), xs[j]? = some x → ∃ y, ys[j]? = some y ∧ F x y
  | _, _, .nil, j, y, h => by simp at h
  | _, _, .cons a b, 0, y, h => by simp at h; subst h; exact ⟨_, rfl, a⟩
  | _, _, .cons a b, j + 1, y, h => by
    obtain ⟨x, h1, h2⟩ := pair_get' b j y (by simpa using h)
    exact ⟨x, by simpa using h1, h2⟩
theorem repL_inj_len {K : Frg} {H : Hp} {A : List Addr} {us : List V} {xs : List D} (h : RepL K H A us xs) : us.length = xs.length := h.length
theorem dc_sum2 (hc : X.calm = true) : DCallE X (.builtin "sum") dSum2 := by
  refine ⟨_, cr_sumTup hc, fun H A vs ds d Q ha hv e q => ?_⟩
  unfold dSum2 at e
  split at e
  · obtain ⟨xss, h1, h2⟩ := Option.bind_eq_some_iff.mp e
    split at h2
    · rename_i hz
      cases h2
      cases hv with
      | cons v1 r1 =>
        cases r1 with
        | cons v2 r2 =>
          cases r2
          cases v1 with
          | lst n1 hh1 rl1 =>
            cases v2 with
            | kt z2 rl2 =>
              rcases z2.2 with e9 | e9 <;> (subst e9; cases rl2)
            | tup n2 hh2 rl2 =>
              cases rl2
              obtain ⟨uss, t1, t2, t3, t4⟩ := tups_rep h1 rl1
              refine ⟨_, _, _, uss, rfl, SqL.of hh1, .inl (.inl hh2), t1, by rw [t2.length]; exact hz, fun z => ?_, fun j x hx hu => ?_, fun p hp => q _ _ (same_upd hp) (rep_tup (fun z => ha p z hp) hp t2)⟩
              · have : xss.flatten = [] := by
                  have := t2.length
                  rw [z] at this
                  exact List.length_eq_zero_iff.mp this.symm
                rw [this] at q
                exact q _ H (Same.refl H) (.tup n2 hh2 .nil)
              · obtain ⟨xs, a1, a2⟩ := pair_get' t3 j _ hu
                obtain ⟨d, b1, b2⟩ := repL_get rl1 j x hx
                rw [t4, List.getElem?_map, a1] at b1
                cases b1
                have : xs = xss.flatten := flat_one a1 (by rw [← a2.length, t2.length])
                rw [← this] at q
                exact q x H (Same.refl H) b2
    · cases h2
  · cases e
variable {W : WX} {e : Expr} {es : List Expr} {l : En → R (List D)} {x : Str} {id : String} {df : List D → Option D}
theorem fe_callBE (hc : DCallE X (.builtin id) df) (hg : Gl X x) (hm : X.mg x = none) (hv : bootBuiltins x = some (.builtin id)) (ha : FA X W (e :: es) l) (hn : x ≠ "__name__" := by decide) (hdb : (x == ("__debug__" : Str)) = false := by decide)
    (he : starEach (e :: es) X.env = (false, eval e X.env) :: starEach es X.env := by rfl) (hpl : (backTo pos (starEach es X.env)).any (·.1) = false := by rfl) : FE X W (.Call (.Name x p1) (e :: es) [] pos) (cCall df l) := by
  obtain ⟨r, hr, hs⟩ := hc
  refine impE (pe_callB hr hg hm hv ha hn hdb he hpl) fun σ H Q ⟨H0, A0, A, ρ, o, P⟩ => ?_
  refine ⟨H0, A0, A, ρ, o, P.bind.mono fun ds H1 s1 P1 vs hvs => ?_⟩
  obtain ⟨d, e, P2⟩ := P1.ofO
  exact hs H1 A vs ds d Q (o.same s1).has hvs e fun v H' s hv => P2 H' s v hv
end
end G

namespace G
open PySem PySem.Spec PyProof.Rows L2
/-- a def that promises nothing yet -/
theorem DefG.idle {P : Program} {w : World} {K : Frg} {mg : MgT} {base : Heap} {k : Nat} {x : Str} {st : Stmt} {ps : List Str} (h : DefG K mg x st ps) : CallG P w K mg base k x fun _ => .no := by
  obtain ⟨f, fd, F, hm, hb⟩ := h
  exact ⟨f, fd, ps, ⟨fun A outer s H args us vs ds Av Q E hr hg e0 hb r rd ha q => q.elim⟩, hm, F.kp, hb⟩
end G

namespace G
open PySem PySem.Spec PyProof.Rows L2
open Sem (wp)
/-! ### enumerate of a tuple -/
abbrev tupIt (h : Heap) (t : Addr) : Heap := h.push { cls := .type "tuple_iterator", data := .fields #[.ref t, .int 0 0] }
abbrev tupEn (h : Heap) (t : Addr) : Heap := (tupIt h t).push { cls := .type "enumerate", data := .fields #[.none, .bool false, .ref h.objs.size, rawInt 0, .none, .none] }
set_option maxHeartbeats 1000000 in
theorem new_enumT (t : Addr) (ys : Array Value) :
    Meets (Builtin.«enumerate.__new__» ⟨[.type "enumerate", .ref t], []⟩) (fun _ R s => s.heap.IsTuple t ys ∧ R (.ok (.ret (.ref (tupIt s.heap t).objs.size))) { s with heap := tupEn s.heap t }) :=
  .of_wp fun prog w A R s h => by
    obtain ⟨hp, g, d, tk, os⟩ := s
    obtain ⟨ht, h⟩ := h
    have sb := sub_enumerate
    have hT : Heap.IsTuple (Shared.heap ⟨hp, g, d, tk, os⟩) t ys := ht
    wp_walk
    refine wpAny_stack_any fun st => wpAny_pure ?_
    split
    · rename_i c _ _ _ _ _
      cases (c == Value.type "enumerate") <;> wp_walk using wpAny_pyIter_tuple hT <;> exact ⟨_, rfl, h⟩
    · wp_walk using wpAny_pyIter_tuple hT
      exact ⟨_, rfl, h⟩
section
variable {prog : Program} {w : World} {A : Around} {E : Value → Shared → Prop} {s : Shared}
theorem call_enumT {t : Addr} {ys : Array Value} {Q : Value → Shared → Prop} (hT : s.heap.IsTuple t ys)
    (k : ∀ h', IsEnum h' (s.heap.objs.size + 1) s.heap.objs.size 0 .none → h'.IsTupleIter s.heap.objs.size t 0 → (∀ b o, s.heap.get? b = some o → h'.get? b = some o) → Q (.ref (s.heap.objs.size + 1)) { s with heap := h' }) :
    wpAny (model prog w) A (call (.type "enumerate") [.ref t]) Q E s := by
  have z : (tupIt s.heap t).objs.size = s.heap.objs.size + 1 := Heap.size_push ..
  have g2 : (tupEn s.heap t).get? (tupIt s.heap t).objs.size = some { cls := .type "enumerate", data := .fields #[.none, .bool false, .ref s.heap.objs.size, rawInt 0, .none, .none] } := Heap.get?_push_size _ rfl
  have g1 : (tupEn s.heap t).get? s.heap.objs.size = some _ := Heap.get?_push_of_some _ (Heap.get?_push_size _ rfl)
  refine callType_new F.called_enumerate (by decide) (F.typeCall_enumerate_1 _) (F.newCall_enumerate_1 _) (fun obj => F.args_object_init_2 obj _) F.entry_enumerate_new (new_enumT t ys) ⟨hT, ?_⟩
  rw [z] at g2
  show _ ∧ _
  rw [z]
  exact ⟨⟨_, g2, rfl⟩, k _ g2 ⟨_, g1, rfl, rfl⟩ fun b o x => Heap.get?_push_of_some _ (Heap.get?_push_of_some _ x)⟩
theorem next_enumT_end {e it t : Addr} {i : Nat} {ys : Array Value} {old : Value} {Q : Option Value → Shared → Prop} (hh : A.handled = none) (he : IsEnum s.heap e it i old) (hi : s.heap.IsTupleIter it t i) (ht : s.heap.IsTuple t ys) (hx : ys[i]? = none)
    (hQ : ∀ h', Heap.ExtBut it s.heap h' → Q none { s with heap := h' }) : wpAny (model prog w) A (pyNext (.ref e)) Q E s := by
  have hT : s.TypeIs (.ref e) "enumerate" := ⟨_, he, rfl⟩
  unfold pyNext
  refine wpAny_bind (wpAny_attempt (wpAny_callSpecial?_slot (name := Str.ofString "__next__") hT F.slot_enumerate_next (wpAny_call_entry F.slot_enumerate_next hT F.entry_enumerate_next ?_ (F.args_enumerate_next_1 _))))
  show wpAny _ _ (field (.ref e) 2 >>= _) _ _ _
  refine wpAny_bind (wpAny_field he rfl (x := .ref it) rfl ?_)
  refine wpAny_bind (wpAny_nextOf_tuple_end hh hi ht hx fun h' x he' hx' => ?_)
  obtain ⟨o, ho, hc⟩ := hx'
  exact wpAny_bind (wpAny_isInstance (T := "StopIteration") (b := true) ⟨o, ho, hc⟩ isSubtype_stop (wpAny_pure (hQ _ he')))
end
/-- the tuple at a as it stands at each turn, each item in a new pair -/
def IteT (K : PySem.W.Frag) (a : Addr) : It :=
  ⟨fun i H => ∃ (xs : List V) (x : V), SqT K H a xs ∧ xs[i]? = some x, fun i H v H' => ∃ T x, v = .ref T ∧ H T = none ∧ H' = upd H T (.tup [.int (i : Nat), x]) ∧ ∀ xs, SqT K H a xs → xs[i]? = some x, fun i H => ∃ xs : List V, SqT K H a xs ∧ xs.length ≤ i⟩
theorem turn_enumT {P : Program} {w : World} {K : PySem.W.Frag} {elts : List Expr} {kk : Nat} {tpos : Pos} (a e it : Addr) :
    Turn P w K (.Tuple elts kk tpos) (IteT K a) [e, it] e (fun i h => (∃ old, IsEnum h e it ((i : Nat) : Int) old) ∧ h.IsTupleIter it a i ∧ e ≠ it ∧ a ≠ it ∧ a ≠ e) where
  mem := by simp
  obj := fun i h st b hb => by
    obtain ⟨⟨old, he⟩, ⟨o, ho, _, hd⟩, _⟩ := st
    rcases (show b = e ∨ b = it by simpa using hb) with z | z <;> rw [z]
    · exact ⟨_, he, fun v q => nomatch q⟩
    · exact ⟨o, ho, fun v q => by rw [hd] at q; cases q⟩
  keep := fun i h h' st k => let ⟨⟨old, he⟩, hi, hne⟩ := st; ⟨⟨old, k e (by simp) _ he⟩, hi.at fun o q => k it (by simp) o q, hne⟩
  item := by
    intro X hP hw hK hc i pins s σ H E I hf st hg
    subst hP hw hK
    obtain ⟨⟨old, he⟩, hit, hne, hai, hae⟩ := st
    obtain ⟨xs, x, hq, hx⟩ := hg
    obtain ⟨its, rv, p, hz⟩ := I.tuple hq
    obtain ⟨u, hu, ru⟩ := rv.get hx
    have hel : e < s.heap.objs.size := Heap.lt_size he
    have hil : it < s.heap.objs.size := by obtain ⟨_, q, _⟩ := hit; exact Heap.lt_size q
    have hu' : its.toArray[i]? = some u := by simpa using hu
    have hlt : i < its.toArray.size := by
      rcases Nat.lt_or_ge i its.toArray.size with h | h
      · exact h
      · rw [Array.getElem?_eq_none h] at hu'; cases hu'
    refine wpAny_pyNext_enum_itemD (Draws.tuple (A := X.A.in1) (show X.A.in1.handled = none from I.ok.hd hc) it a hai its.toArray) he ⟨hit, p⟩ hlt hne (by simp [hne, Ne.symm hae]) fun y h' tk hy ho st' hT hsz hk => ?_
    obtain rfl : y = u := by rw [hu'] at hy; exact (Option.some.inj hy).symm
    refine ⟨_, rfl, wpAny_letOwnedTupleGo_enum (s := { s with heap := h', toks := tk + 1 }) ho fun h'' he' sb => ?_⟩
    have hT2 : h''.get? s.heap.objs.size = some { cls := .type "tuple", data := .seq #[.int i tk, y] } := (sb.2 _ (Nat.ne_of_gt hel)).trans hT
    have new : ObjOk X.prog X.w (upd H s.heap.objs.size (.tup [.int (i : Nat), x])) h'' s.heap.objs.size (.tup [.int (i : Nat), x]) :=
      ⟨by show 2 ≤ sizeLine; decide, [.int i tk, y], .cons ⟨_, rfl⟩ (.cons ru .nil), ⟨_, hT2, rfl, _, rfl⟩⟩
    have I1 : Inv X pins σ (upd H s.heap.objs.size (.tup [.int (i : Nat), x])) { s with heap := h'', toks := tk + 1 } :=
      I.turnedNew (ch := [e, it]) (fun b ob hb q => (sb.2 b (fun z => hb (by simp [z]))).trans (hk b ob (fun z => hb (by simp [z])) (fun z => hb (by simp [z])) q)) hf (Nat.le_refl _) new
    refine ⟨.ref s.heap.objs.size, _, I1, rfl, ⟨_, x, rfl, I.hok.fresh (Nat.le_refl _), rfl, fun ys hy => by rw [I.tuple_inj hy hq]; exact hx⟩, ⟨⟨y, ?_⟩, st'.1.at fun o q => (sb.2 it (Ne.symm hne)).trans q, hne, hai, hae⟩, fun b hb => ?_⟩
    · rw [show ((i + 1 : Nat) : Int) = (i : Int) + 1 by omega]; exact he'
    · have hb' : b < s.heap.objs.size := by
        rcases (show b = e ∨ b = it by simpa using hb) with z | z <;> rw [z] <;> assumption
      rw [upd_ne (Nat.ne_of_lt hb')]
      exact (hf b hb).1
  done := by
    intro X hP hw hK hc i pins s σ H E I hf st hg
    subst hP hw hK
    obtain ⟨⟨old, he⟩, hit, hne, hai, hae⟩ := st
    obtain ⟨xs, hq, hx⟩ := hg
    obtain ⟨its, rv, p, hz⟩ := I.tuple hq
    obtain ⟨f0, f1, f2, f3, f4, f5⟩ := hf it (by simp)
    have hl := rv.length
    exact next_enumT_end (I.ok.hd hc) he hit p (by simp; omega) fun h' eb => ⟨rfl, I.turned (t' := s.toks) (fun b o hb q => eb b o hb q) f0 f1 f3 f4 f5⟩
  self := fun A i s Q E st h => let ⟨⟨_, he⟩, _⟩ := st; wpAny_pyIter_enum he h
def iEnumT (K : PySem.W.Frag) (ta : TA) : TI := fun σ H R => ta σ H fun vs H1 => ∃ a xs, vs = [.ref a] ∧ SqT K H1 a xs ∧ R (IteT K a) H1
theorem pi_enumT {X : Cx} {e : Expr} {ta : TA} {p pos tpos : Pos} {elts : List Expr} {kk : Nat} (hg : Gl X "enumerate") (hm : X.mg "enumerate" = none) (ha : PA X [e] ta) (hs : starEach [e] X.env = [(false, eval e X.env)] := by rfl) :
    PI X (.Tuple elts kk tpos) (.Call (.Name "enumerate" p) [e] [] pos) (iEnumT X.K ta) := by
  refine ⟨fun pins s σ H R I h => ?_⟩
  refine Call_ (ld_blt I hg hm boot_enumerate (PyProof.Rows.callWith_type1 (thn (ha.run pos pins s σ H _ I h) fun us s1 ⟨vs, H1, I1, r1, q1⟩ => ?_) hs rfl))
  obtain ⟨a, xs, ex, hq, q⟩ := q1
  subst ex
  cases r1 with
  | cons r rr =>
    cases rr
    cases r
    obtain ⟨its, rv, p', hz⟩ := I1.tuple hq
    have hlt : a < s1.heap.objs.size := by obtain ⟨_, q, _⟩ := id p'; exact Heap.lt_size q
    refine call_enumT p' fun h' he hit hk => wpAny_pyIter_enum he ?_
    have I2 : Inv X pins σ H1 { s1 with heap := h' } := I1.kept (t' := s1.toks) hk
    refine ⟨s1.heap.objs.size + 1, [s1.heap.objs.size + 1, s1.heap.objs.size], _, _, H1, rfl, I2, turn_enumT a (s1.heap.objs.size + 1) s1.heap.objs.size, ⟨⟨.none, he⟩, hit, Nat.succ_ne_self _, Nat.ne_of_lt hlt, Nat.ne_of_lt (Nat.lt_succ_of_lt hlt)⟩, fun b hb => ?_, q⟩
    have hle : s1.heap.objs.size ≤ b := by
      rcases (show b = s1.heap.objs.size + 1 ∨ b = s1.heap.objs.size by simpa using hb) with z | z <;> rw [z] <;> omega
    exact I1.fpOk hle (I1.hok.fresh hle)
def dEnumT : List D → Option (List D)
  | [.tuple xs] => some (enumL 0 xs)
  | _ => none
theorem walk_iteT {K : Frg} {A : List Addr} {H : Hp} {a : Addr} {ds : List D} (r : Rep K H A (.ref a) (.tuple ds)) : WalkJ K A (IteT K a) H (enumL 0 ds) := fun A' H' u hA => by
  obtain ⟨b, vs, e, h, rl, _⟩ := rep_tupAt (H' := H') (A' := A') (r.tr u)
  cases e
  refine ⟨fun i d hd => ?_, vs, h, by rw [rl.length, enumL_length]; exact Nat.le_refl _⟩
  rw [enumL_get] at hd
  obtain ⟨d1, h1, h2⟩ := Option.map_eq_some_iff.mp hd
  subst h2
  obtain ⟨v, h3, h4⟩ := rl.get h1
  refine ⟨⟨vs, v, h, h3⟩, fun x H'' ⟨T, x1, e1, n, e2, y⟩ => ?_⟩
  subst e1
  subst e2
  have := y vs (h)
  rw [h3] at this
  cases this
  refine ⟨same_upd n, rep_tup (fun z => hA T z n) n (.cons ?_ (.one h4))⟩
  rw [Nat.zero_add]
  exact .int _
section
variable {X : Cx} {W : WX} {e : Expr} {l : En → R (List D)} {pos q1 : Pos}
theorem fi_enumT {elts : List Expr} {kk : Nat} {tpos : Pos} (hg : Gl X "enumerate") (hm : X.mg "enumerate" = none) (ha : FA X W [e] l) (hs : starEach [e] X.env = [(false, eval e X.env)] := by rfl) :
    FI X W (.Tuple elts kk tpos) (.Call (.Name "enumerate" q1) [e] [] pos) (cIter dEnumT l) := impI (pi_enumT hg hm ha hs) fun σ H Q ⟨H0, A0, A, ρ, ok, P⟩ => by
  refine ⟨H0, A0, A, ρ, ok, P.bind.mono fun ds H1 s1 P1 vs hv => ?_⟩
  obtain ⟨es, e1, q⟩ := P1.ofO
  unfold dEnumT at e1
  split at e1
  · cases e1
    cases hv with
    | cons r t =>
      cases t
      obtain ⟨p, us, rfl, h1, rl, _⟩ := rep_tupAt (H' := H1) (A' := A) r
      exact ⟨p, us, rfl, h1, q H1 (Same.refl _) _ (walk_iteT r)⟩
  · cases e1
end
end G

namespace G
open PySem PySem.Spec PyProof.Rows L2
/-! ### an end that is reached while an error is in hand -/
section
variable {pr : Program} {wd : World} {B : Around} {Er : Value → Shared → Prop} {z : Shared} {tr src k1 : Addr} {j : Nat} {cells : Array Value}
theorem endL {R : Option Value → Shared → Prop} (hot : HotX.HotAt B k1 z.heap) (ne : k1 ≠ tr) (at_ : z.heap.IsListIter tr src j) (is_ : z.heap.IsList src cells) (out : cells[j]? = none)
    (q : ∀ g, Heap.ExtBut tr z.heap g → R none { z with heap := g }) : wpAny (model pr wd) B (pyNext (.ref tr)) R Er z := by
  obtain ⟨oi, gi, ci, di⟩ := id at_
  obtain ⟨os, gs, _, ns, ds⟩ := is_
  obtain ⟨hd, ok, fk, gk, dk, ck⟩ := hot
  unfold pyNext
  refine wpAny_bind (wpAny_attempt (wpAny_callSpecial?_slot (name := Str.ofString "__next__") at_.typeIs slot_listiter_next
    (wpAny_call_entry slot_listiter_next at_.typeIs entry_listiter_next ?_ (args_listiter_next _))))
  show wpAny _ _ (field (.ref tr) 0 >>= _) _ _ z
  refine wpAny_bind (wpAny_field gi di (x := .ref src) rfl ?_)
  show wpAny _ _ (if (Value.ref src == Value.none) = true then _ else _) _ _ z
  rw [if_neg (show ¬ ((Value.ref src == Value.none) = true) from Bool.false_ne_true)]
  show wpAny _ _ (field (.ref tr) 1 >>= _) _ _ z
  refine wpAny_bind (wpAny_field gi di (x := .int j 0) rfl ?_)
  show wpAny _ _ (seqItems? (.ref src) >>= _) _ _ z
  refine wpAny_bind (wpAny_seqItems gs ds ?_)
  simp only [Int.toNat_natCast, out]
  refine wpAny_bind (wpAny_rule (wpAny_bind (wpAny_setField gi di (by simp) ?_)))
  show wpAny _ _ (newExc (.type "StopIteration") [] >>= _) _ _ _
  refine wpAny_bind ?_
  simp only [newExc, newTuple]
  refine wpAny_bind (wpAny_newObj_type ?_ (by size_fits))
  refine wpAny_bind (m := firstArgMember _ _) (wpAny_of_eq (a := Value.none) (by first | rfl | (simp only [firstArgMember]; rfl)) ?_)
  refine wpAny_newObj_type ?_ (by size_fits)
  have gk' : ∀ (f : Obj → Obj), (z.heap.update tr f).get? k1 = some ok := fun f => by rw [Heap.get?_update_other _ _ (Ne.symm ne)]; exact gk
  refine HotX.raiseNew_hot ⟨hd, ok, fk, Heap.get?_push_of_some _ (Heap.get?_push_of_some _ (gk' _)), dk, ck⟩ (Nat.ne_of_lt (Heap.lt_size (Heap.get?_push_of_some _ (gk' _)))) (Heap.get?_push_size _ rfl) rfl (by first | (simp; done) | (simp; omega) | (simp only [Array.size_append]; simp; omega)) ?_
  refine wpAny_bind (wpAny_isInstance (T := "StopIteration") (b := true) ⟨_, Heap.get?_update_self _ (Heap.get?_push_size _ rfl) rfl, rfl⟩ isSubtype_stop ?_)
  refine wpAny_pure (q _ fun b o hb e => ?_)
  have e2 : ∀ (f : Obj → Obj), (z.heap.update tr f).get? b = some o := fun f => by rw [Heap.get?_update_other _ _ (Ne.symm hb)]; exact e
  rw [Heap.get?_update_other _ _ (Nat.ne_of_gt (Heap.lt_size (Heap.get?_push_of_some _ (e2 _))))]
  exact Heap.get?_push_of_some _ (Heap.get?_push_of_some _ (e2 _))
theorem endT {R : Option Value → Shared → Prop} (hot : HotX.HotAt B k1 z.heap) (ne : k1 ≠ tr) (at_ : IsTupIter z.heap tr src j) (is_ : IsTup z.heap src cells) (out : cells[j]? = none)
    (q : ∀ g, Heap.ExtBut tr z.heap g → R none { z with heap := g }) : wpAny (model pr wd) B (pyNext (.ref tr)) R Er z := by
  obtain ⟨oi, gi, ci, di⟩ := id at_
  obtain ⟨os, gs, _, ns, ds⟩ := is_
  obtain ⟨hd, ok, fk, gk, dk, ck⟩ := hot
  unfold pyNext
  refine wpAny_bind (wpAny_attempt (wpAny_callSpecial?_slot (name := Str.ofString "__next__") at_.typeIs slot_tupleiter_next
    (wpAny_call_entry slot_tupleiter_next at_.typeIs entry_tupleiter_next ?_ (args_tupleiter_next _))))
  show wpAny _ _ (field (.ref tr) 0 >>= _) _ _ z
  refine wpAny_bind (wpAny_field gi di (x := .ref src) rfl ?_)
  show wpAny _ _ (if (Value.ref src == Value.none) = true then _ else _) _ _ z
  rw [if_neg (show ¬ ((Value.ref src == Value.none) = true) from Bool.false_ne_true)]
  show wpAny _ _ (field (.ref tr) 1 >>= _) _ _ z
  refine wpAny_bind (wpAny_field gi di (x := .int j 0) rfl ?_)
  show wpAny _ _ (seqItems? (.ref src) >>= _) _ _ z
  refine wpAny_bind (wpAny_seqItems gs ds ?_)
  simp only [Int.toNat_natCast, out]
  refine wpAny_bind (wpAny_rule (wpAny_bind (wpAny_setField gi di (by simp) ?_)))
  show wpAny _ _ (newExc (.type "StopIteration") [] >>= _) _ _ _
  refine wpAny_bind ?_
  simp only [newExc, newTuple]
  refine wpAny_bind (wpAny_newObj_type ?_ (by size_fits))
  refine wpAny_bind (m := firstArgMember _ _) (wpAny_of_eq (a := Value.none) (by first | rfl | (simp only [firstArgMember]; rfl)) ?_)
  refine wpAny_newObj_type ?_ (by size_fits)
  have gk' : ∀ (f : Obj → Obj), (z.heap.update tr f).get? k1 = some ok := fun f => by rw [Heap.get?_update_other _ _ (Ne.symm ne)]; exact gk
  refine HotX.raiseNew_hot ⟨hd, ok, fk, Heap.get?_push_of_some _ (Heap.get?_push_of_some _ (gk' _)), dk, ck⟩ (Nat.ne_of_lt (Heap.lt_size (Heap.get?_push_of_some _ (gk' _)))) (Heap.get?_push_size _ rfl) rfl (by first | (simp; done) | (simp; omega) | (simp only [Array.size_append]; simp; omega)) ?_
  refine wpAny_bind (wpAny_isInstance (T := "StopIteration") (b := true) ⟨_, Heap.get?_update_self _ (Heap.get?_push_size _ rfl) rfl, rfl⟩ isSubtype_stop ?_)
  refine wpAny_pure (q _ fun b o hb e => ?_)
  have e2 : ∀ (f : Obj → Obj), (z.heap.update tr f).get? b = some o := fun f => by rw [Heap.get?_update_other _ _ (Ne.symm hb)]; exact e
  rw [Heap.get?_update_other _ _ (Nat.ne_of_gt (Heap.lt_size (Heap.get?_push_of_some _ (e2 _))))]
  exact Heap.get?_push_of_some _ (Heap.get?_push_of_some _ (e2 _))
theorem itemsT {R : List Value → Shared → Prop} (hot : HotX.HotAt B k1 z.heap) (is_ : IsTup z.heap src cells) (q : ∀ g, Heap.ExtBut z.heap.objs.size z.heap g → R cells.toList { z with heap := g }) :
    wpAny (model pr wd) B (unpackItems (.ref src) cells.size none) R Er z := by
  have lt : src ≠ z.heap.objs.size := by
    obtain ⟨o, e, _⟩ := is_
    exact Nat.ne_of_lt (Heap.lt_size e)
  obtain ⟨hd, ok, fk, gk, dk, ck⟩ := hot
  have lk : k1 ≠ z.heap.objs.size := Nat.ne_of_lt (Heap.lt_size gk)
  unfold unpackItems
  refine wpAny_bind ?_
  · unfold notIterableAtAll
    refine wpAny_bind (wpAny_specialOf is_.typeIs slot_tuple_iter.lookup (wpAny_pure ?_))
    simp only [Bool.false_eq_true, if_false]
    refine wpAny_bind (wpAny_holding (iter_tuple is_ (wpAny_bind (wpAny_holding (draw_tuple lt cells.size 0 _ _ ⟨_, Heap.get?_push_size _ rfl, rfl, rfl⟩ (is_.push _) (by omega) fun g at_ but => ?_)))))
    rw [show List.take cells.size (List.drop 0 cells.toList) = cells.toList by rw [List.drop_zero]; exact List.take_of_length_le (by simp), if_neg (by simp)]
    refine wpAny_bind (wpAny_holding (endT (k1 := k1) ⟨hd, ok, fk, but.extBut k1 ok lk (Heap.get?_push_of_some _ gk), dk, ck⟩ lk at_ ((is_.push _).extBut but.extBut lt) (by simp) fun g2 e2 => ?_))
    simp only [Option.isSome_none, Bool.false_eq_true, if_false]
    exact wpAny_pure (q g2 fun b o hb e => e2 b o hb (but.extBut b o hb (Heap.get?_push_of_some _ e)))
theorem putT {env : Env} {es : List Expr} {kk} {pos : Pos} {R : Unit → Shared → Prop} (hot : HotX.HotAt B k1 z.heap) (is_ : IsTup z.heap src cells) (num : (assignEach es env).length = cells.size) (st : (assignEach es env).findIdx? (·.1) = none)
    (q : ∀ g, Heap.ExtBut z.heap.objs.size z.heap g → wpAny (model pr wd) B (assignInOrder ((assignEach es env).map (·.2)) cells.toList) R Er { z with heap := g }) :
    wpAny (model pr wd) B (assign (.Tuple es kk pos) env (.ref src)) R Er z := by
  rw [assign_Tuple]
  refine wpAny_bind (wpAny_standAt ?_)
  unfold unpack
  rw [num, st]
  exact wpAny_bind (wpAny_holding (itemsT hot is_ q))
end
section
variable {X : Cx} {pos : Pos}
theorem pg_tupK {es : List Expr} {k n : Nat} {t : TGs} (hc : L2H.HotC X) (h : PGs X es t) (num : (assignEach es X.env).length = n := by rfl) (st : (assignEach es X.env).findIdx? (·.1) = none := by rfl) :
    PG X (.Tuple es k pos) (gTup X.K n t) := by
  refine ⟨fun pins z σ H v u Q J r w => ?_⟩
  obtain ⟨a, xs, rfl, sq, lx, w⟩ := w
  cases r
  obtain ⟨vs, rv, is_, _⟩ := J.tuple sq
  obtain ⟨k1, hot⟩ := hc.at J
  refine putT hot is_ (by simp [num, ← lx, rv.length]) st fun g ex => ?_
  exact h.run pins _ σ H xs _ Q (J.kept (t' := z.toks) fun b o e => ex b o (Nat.ne_of_lt (Heap.lt_size e)) e) (by simpa using rv) w
theorem fg_tupK {es : List Expr} {k n : Nat} {ix : List Nat} {tgs : List D → En → Option En} (hc : L2H.HotC X) (hg : FGs X es ix tgs) (hl : ∀ ds ρ ρ', tgs ds ρ = some ρ' → ds.length = n)
    (hn : (assignEach es X.env).length = n := by rfl) (hst : (assignEach es X.env).findIdx? (·.1) = none := by rfl) : FG X (.Tuple es k pos) ix (gT tgs) := impG (pg_tupK hc hg hn hst) fun v σ H Q ⟨H0, A0, A, ρ, d, ρ', o, r, e, q⟩ => by
  unfold gT at e
  split at e
  · obtain ⟨a, vs, rfl, h1, r1⟩ := (RepB.of r).tup
    exact ⟨a, vs, rfl, h1, by rw [r1.length]; exact hl _ _ _ e, H0, A0, A, ρ, _, ρ', o, r1, e, q⟩
  · cases e
/-- the items of a list, one by one -/
theorem turnK {P : Program} {w : World} {K : PySem.W.Frag} {tg : Expr} (src tr : Addr) : L2H.TurnH P w K tg (Itl K src) [tr] tr (fun j g => g.IsListIter tr src j) where
  mem := List.mem_cons_self
  obj := fun j g at_ b hb => by
    cases List.mem_singleton.mp hb
    obtain ⟨o, e, _, d⟩ := at_
    exact ⟨o, e, fun v y => by rw [d] at y; cases y⟩
  keep := fun j g g' at_ kp => at_.at fun o e => kp tr List.mem_cons_self o e
  item := by
    intro X hP hw hK hc j pins z σ H E J hf at_ go
    subst hP hw hK
    obtain ⟨xs, x, sq, hx⟩ := go
    obtain ⟨vs, rv, is_, _⟩ := J.list sq
    obtain ⟨u, hu, ru⟩ := rv.get hx
    have fp := hf tr List.mem_cons_self
    refine wpAny_pyNext_list_item at_ is_.isList (x := u) (by simpa using hu) fun g at2 sb => ?_
    have J1 : Inv X pins σ H { z with heap := g } := J.turned (t' := z.toks) (fun b o hb e => (sb.2 b hb).trans e) fp.1 fp.2.1 fp.2.2.2.1 fp.2.2.2.2.1 fp.2.2.2.2.2
    obtain ⟨o, e, c, d⟩ := id at2
    refine ⟨u, rfl, go_of (s := { z with heap := g }) e c d (by decide) ⟨x, H, J1, ru, ⟨rfl, fun ys hy => ?_⟩, at2, fun b hb => (hf b hb).1⟩⟩
    rw [J.list_inj hy sq]
    exact hx
  done := by
    intro X hP hw hK hc j pins z σ H E J hf at_ go
    subst hP hw hK
    obtain ⟨xs, sq, hx⟩ := go
    obtain ⟨vs, rv, is_, _⟩ := J.list sq
    have fp := hf tr List.mem_cons_self
    have hl := rv.length
    obtain ⟨p, ⟨hh, v1, e1, c1⟩, hp⟩ := hc
    have pp := J.pin p (List.mem_append_left _ hp)
    exact endL (k1 := p.1) ⟨hh, p.2, v1, pp.1, e1, c1⟩ (fp.2.2.2.2.2 p (List.mem_append_left _ hp)) at_ is_.isList (by simp; omega) fun g eb => ⟨rfl, J.turned (t' := z.toks) (fun b o hb e => eb b o hb e) fp.1 fp.2.1 fp.2.2.2.1 fp.2.2.2.2.1 fp.2.2.2.2.2⟩
  self := fun _ _ _ _ _ at_ h => wpAny_pyIter_listiter at_ h
theorem pi_listK {tg l : Expr} {tl : TE} (hl : PE X l tl) : L2H.PIH X tg l (iList X.K tl) := by
  refine ⟨fun pins z σ H R J h => thn (hl.run pins z σ H _ J h) fun v z1 ⟨x, H1, J1, r1, a, e, ⟨xs, sq⟩, q⟩ => ?_⟩
  subst e
  cases r1
  obtain ⟨vs, rv, is_, _⟩ := J1.list sq
  refine wpAny_pyIter_list is_.isList ⟨z1.heap.objs.size, [z1.heap.objs.size], _, _, H1, rfl, J1.kept (t' := z1.toks) fun b o e => Heap.get?_push_of_some _ e, turnK a _, ⟨_, Heap.get?_push_size _ rfl, rfl, rfl⟩, fun b hb => ?_, q⟩
  cases List.mem_singleton.mp hb
  exact J1.fpOk (Nat.le_refl _) (J1.hok.fresh (Nat.le_refl _))
/-- a block's context in which the error in hand stays pinned -/
abbrev blkK (X : Cx) (z : Shared) (H : Hp) (scope : Scope) (ce : Env) (fp : List Addr) : Cx := { X.blk z H scope ce fp with pn := X.pn }
theorem blkK_hot {z : Shared} {H : Hp} {scope : Scope} {ce : Env} {fp : List Addr} (hc : L2H.HotC X) : L2H.HotC (blkK X z H scope ce fp) := hc
theorem startK {pins : List (Addr × Obj)} {σ : St} {H : Hp} {z : Shared} {scope : Scope} {own : List (Str × Nat)} {fp : List Addr} (J : Inv X pins σ H z) (ok : BlkOk X.N X.env.scope scope own) (hN : X.N.Nodup) (hfp : ∀ b ∈ fp, FpOk X pins H b ∧ b < z.heap.objs.size) :
    Inv (blkK X z H scope (compEnvC scope (cellsFrom (z.heap.objs.size + 1) scope.names (cloFrom X.env.cells scope.names [])) z.heap.objs.size X.env) fp) [] (wipe σ (own.map (·.2))) H { z with heap := pushCells (z.heap.push { cls := .type "dict", data := .dict #[] }) scope.names } := by
  have S := block_start J ok hN hfp
  have O := S.ok
  refine ⟨⟨O.mod, O.kind, O.glob, O.blt, O.above, O.inj, O.has, O.cab, O.hd, O.frames, O.stk, O.exf, O.bs, O.bsz, O.noex, O.exfs, O.funs, O.frf⟩, S.os, S.bare, S.base, S.loc, S.cell, S.free, S.freeC, fun p hp => ?_, S.hok, S.len⟩
  have hp : p ∈ X.pn := by simpa using hp
  have q := J.pin p (List.mem_append_left _ hp)
  exact ⟨pushCells_keeps _ _ _ _ (Heap.get?_push_of_some _ q.1), q.2.1, Nat.ne_of_lt (Heap.lt_size q.1), fun hm => (List.mem_cons.mp (J.stkSub p.1 hm)).elim q.2.2.1 q.2.2.2.1, q.2.2.2.2⟩
theorem pe_lcK {elt tg iter : Expr} {ifs : List Expr} {scope : Scope} {own : List (Str × Nat)} {wi : TI} {g : TG} {tt : TT} {te : TE} (hc : L2H.HotC X) (hN : X.N.Nodup) (hi : L2H.PIH X tg iter wi) (ok : BlkOk X.N X.env.scope scope own)
    (hg : ∀ (z : Shared) (H : Hp) (C : Addr) (cl : List (Str × Addr)) (fp : List Addr), PG (blkK X z H scope (compEnvC scope cl C X.env) fp) tg g)
    (ht : ∀ (z : Shared) (H : Hp) (C : Addr) (cl : List (Str × Addr)) (fp : List Addr), PTs (blkK X z H scope (compEnvC scope cl C X.env) fp) ifs tt)
    (he : ∀ (z : Shared) (H : Hp) (C : Addr) (cl : List (Str × Addr)) (fp : List Addr), PE (blkK X z H scope (compEnvC scope cl C X.env) fp) elt te) (hs : ∀ x, foldedSetIterable iter X.env x = pure x := by intro _; rfl) :
    PE X (.ListComp elt [⟨tg, iter, ifs, 0⟩] scope pos) (tLc wi g tt te (own.map (·.2))) := by
  refine ⟨fun pins z σ H Q J h => ?_⟩
  rw [eval_ListComp]
  have cl0 : ∀ y ∈ scope.names, y.2 = .free → ∃ c, X.env.cells.lookup y.1 = some c := fun y hy e => (ok.free y hy e).elim (fun k => J.ok.has _ (.inl k)) fun k => J.ok.has _ (.inr k)
  refine wpAny_comprehension_free (use := none) rfl hs (closure_ok cl0) ok.kind (fun y hy e => by rw [ok.uniq y hy, e]) (thn (hi.run pins z σ H _ J h) fun xv z1 hx => thn hx fun itv z2 h2 => ?_)
  obtain ⟨tr, fp, tn, I, H2, rfl, J2, T, at2, f2, q⟩ := h2
  refine wpAny_newObj_type (newEnv_comp ?_) (by show 0 ≤ sizeLine; decide)
  generalize hD : z2.heap.objs.size = D
  obtain ⟨W, ⟨m0, w0⟩, turn⟩ := q D (J2.hok.fresh (Nat.le_of_eq hD))
  generalize hz3 : ({ z2 with heap := z2.heap.push { cls := .type "list", data := .seq ([] : List Value).toArray } } : Shared) = z3
  have hp3 : z3.heap = z2.heap.push { cls := .type "list", data := .seq ([] : List Value).toArray } := by rw [← hz3]
  have J3 : Inv X pins σ (upd H2 D (.lst [])) z3 := by
    subst hz3
    refine J2.laid (t' := z2.toks) (fun b o e => Heap.get?_push_of_some _ e) (Nat.le_of_eq hD) ⟨Nat.zero_le _, [], 0, .nil, ?_⟩
    subst hD
    exact Heap.get?_push_size _ rfl
  have f3 : ∀ b ∈ fp, FpOk X pins (upd H2 D (.lst [])) b ∧ b < z3.heap.objs.size := fun b hb => by
    obtain ⟨o, e, _⟩ := T.obj _ _ at2 b hb
    have lt := Heap.lt_size e
    rw [hp3, Heap.size_push]
    refine ⟨⟨?_, (f2 b hb).2⟩, Nat.lt_succ_of_lt lt⟩
    rw [upd_ne (by rw [← hD]; exact Nat.ne_of_lt lt)]
    exact (f2 b hb).1
  have at3 : tn 0 z3.heap := T.keep _ _ _ at2 fun b _ o e => by rw [hp3]; exact Heap.get?_push_of_some _ e
  have J4 := startK J3 ok hN f3
  have pg := hg z3 (upd H2 D (.lst [])) z3.heap.objs.size (cellsFrom (z3.heap.objs.size + 1) scope.names (cloFrom X.env.cells scope.names [])) fp
  have pt := ht z3 (upd H2 D (.lst [])) z3.heap.objs.size (cellsFrom (z3.heap.objs.size + 1) scope.names (cloFrom X.env.cells scope.names [])) fp
  have pe := he z3 (upd H2 D (.lst [])) z3.heap.objs.size (cellsFrom (z3.heap.objs.size + 1) scope.names (cloFrom X.env.cells scope.names [])) fp
  show codeAny _ _ (.compStart (.ListComp elt [⟨tg, iter, ifs, 0⟩] scope pos) 0 (.ref tr) (.ref D) (compEnvC scope (cellsFrom (z3.heap.objs.size + 1) scope.names (cloFrom X.env.cells scope.names [])) z3.heap.objs.size X.env))
    (compPost (model X.prog X.w) X.A X.xe none (EP X pins σ Q) (.ref D) z3.heap.objs.size) { z3 with heap := pushCells (z3.heap.push { cls := .type "dict", data := .dict #[] }) scope.names }
  generalize hce : compEnvC scope (cellsFrom (z3.heap.objs.size + 1) scope.names (cloFrom X.env.cells scope.names [])) z3.heap.objs.size X.env = ce at J4 pg pt pe ⊢
  have cL : ce.locals = z3.heap.objs.size := by subst hce; rfl
  generalize hH3 : upd H2 D (.lst []) = H3 at J3 J4 pg pt pe w0 f3
  generalize hz4 : ({ z3 with heap := pushCells (z3.heap.push { cls := .type "dict", data := .dict #[] }) scope.names } : Shared) = z4 at J4 ⊢
  have at4 : tn 0 z4.heap := T.keep _ _ _ at3 fun b _ o e => by rw [← hz4]; exact pushCells_keeps _ _ _ _ (Heap.get?_push_of_some _ e)
  have hcB : L2H.HotC (blkK X z3 H3 scope ce fp) := blkK_hot hc
  have fpB : ∀ {σ' : St} {H' : Hp} {z' : Shared}, Inv (blkK X z3 H3 scope ce fp) [] σ' H' z' → (∀ b ∈ fp, H' b = none) → ∀ b ∈ fp, FpOk (blkK X z3 H3 scope ce fp) [] H' b := fun {σ' H' z'} JJ hn b hb =>
    ⟨hn b hb, (JJ.ok.exf b hb).1, JJ.ok.exfs b hb, .inl hb, fun x c e => (JJ.ok.exf b hb).2 x c e, fun p hp => (f3 b hb).1.2.2.2.2.2 p (List.mem_append_left _ (by simpa using hp))⟩
  have hwl : ∀ {σ8 : St}, wipe σ8 (own.map (·.2)) = wipe σ (own.map (·.2)) → (wipe σ (own.map (·.2))).length = σ8.length := fun e => by rw [← e, wipe_length]
  have loop : codeAny (model X.prog X.w) X.A (.compLoop (.ListComp elt [⟨tg, iter, ifs, 0⟩] scope pos) 0 (.ref tr) (.ref D) ce) (compPost (model X.prog X.w) X.A X.xe none (EP X pins σ Q) (.ref D) z3.heap.objs.size) z4 := by
    refine compLoop_any (fun n z' => ∃ i H', Inv (blkK X z3 H3 scope ce fp) [] (wipe σ (own.map (·.2))) H' z' ∧ tn i z'.heap ∧ (∀ b ∈ fp, H' b = none) ∧ W i n H') ?_ m0 ⟨0, H3, J4, at4, fun b hb => (f3 b hb).1.1, w0⟩
    rintro n z5 ⟨i, H5, J5, at5, n5, w5⟩
    rcases turn i n H5 w5 with ⟨stop, qq⟩ | ⟨go, Nx, hNx, step⟩
    · refine thnF (T.done (blkK X z3 H3 scope ce fp) rfl rfl rfl hcB i [] z5 _ H5 (fun _ _ => False) J5 (fpB J5 n5) at5 stop) fun r z6 ⟨hr, J6⟩ => ?_
      subst hr
      have J7 : Inv X pins σ H5 z6 := J3.call' (ch := fp) J6.os J6.base J6.hok J6.bare fun b hb => ⟨(f3 b hb).1.2.2.2.1, (f3 b hb).1.2.1, (f3 b hb).1.2.2.2.2.1, (f3 b hb).1.2.2.2.2.2⟩
      have fr : H5 ce.locals = none := J6.free
      obtain ⟨m, hn, _⟩ := J6.loc
      have hn : z6.heap.Ns ce.locals m := hn
      rw [cL] at hn fr
      obtain ⟨g0, g1, g2, g3, g4, g5⟩ := J3.fpOk (Nat.le_refl _) fr
      exact ⟨m, hn, fun h6 sb => ⟨.ref D, H5, J7.turned (t' := z6.toks) (fun b o hb e => (sb.2 b hb).trans e) g0 g1 g3 g4 g5, rfl, qq⟩⟩
    · refine thnF (T.item (blkK X z3 H3 scope ce fp) rfl rfl rfl hcB i [] z5 _ H5 (fun _ _ => False) J5 (fpB J5 n5) at5 go) fun r z6 ⟨u, hr, h6⟩ => ?_
      subst hr
      refine thnF h6 fun _ z7 ⟨x, H7, J7, r7, y7, at7, n7⟩ => ?_
      refine thnF (pg.run _ z7 _ H7 x u _ (J7.pinned (fpB J7 n7) (T.obj _ _ at7)) r7 (step x H7 y7)) fun _ z8 ⟨σ8, H8, J8, hw8, q8⟩ => ?_
      refine thnF (pt.run _ z8 σ8 H8 _ J8 q8) fun b z9 ⟨H9, J9, q9⟩ => ?_
      have next : ∀ {z' : Shared} {H' : Hp}, Inv (blkK X z3 H3 scope ce fp) ([] ++ pinsAt fp z7.heap) σ8 H' z' → Nx H' → ∃ m, m < n ∧ ∃ i H', Inv (blkK X z3 H3 scope ce fp) [] (wipe σ (own.map (·.2))) H' z' ∧ tn i z'.heap ∧ (∀ b ∈ fp, H' b = none) ∧ W i m H' := fun {z' H'} JJ nx => by
        obtain ⟨m', hm, w'⟩ := hNx H' nx
        have pins' : ∀ b ∈ fp, ∀ o, z7.heap.get? b = some o → z'.heap.get? b = some o ∧ H' b = none := fun b hb o e =>
          have pp := JJ.pin (b, o) (List.mem_append_right _ (List.mem_append_right _ (mem_pinsAt hb e)))
          ⟨pp.1, pp.2.1⟩
        refine ⟨m', hm, i + 1, H', (JJ.unpinned (pins := [])).weak (hwl hw8) (fun j v e => ?_), T.keep _ _ _ at7 fun b hb o e => (pins' b hb o e).1, fun b hb => ?_, w'⟩
        · rw [← hw8] at e
          exact (wipe_some e).1
        · obtain ⟨o, e, _⟩ := T.obj _ _ at7 b hb
          exact (pins' b hb o e).2
      cases b with
      | false => exact next J9 q9
      | true =>
        refine thnF (pe.run _ z9 σ8 H9 _ J9 q9) fun w z10 ⟨yv, H10, J10, r10, acc, hD10, hz10, nx⟩ => ?_
        exact app_ok (X := blkK X z3 H3 scope ce fp) J10 hD10 hz10 r10 fun z11 J11 => next J11 nx
  exact codeAny_compStart_list loop (T.self X.A 0 _ _ _ at4 loop)
def cItemsL (f : En → R D) : En → R (List D) := fun ρ => (f ρ).bind fun d => match d with
  | .list ds => .ok ds
  | _ => .no
theorem fi_itemsK {W : WX} {tg e : Expr} {f : En → R D} (he : FE X W e f) : L2H.PIH X tg e (tFI X.K X.mg W (cItemsL f)) := by
  refine ⟨fun pins z σ H Rr J hw => (pi_listK (tg := tg) he).run pins z σ H Rr J ?_⟩
  obtain ⟨H0, A0, A, ρ, o, P⟩ := hw
  refine ⟨H0, A0, A, ρ, o, P.bind.mono fun d H1 s1 P1 v r => ?_⟩
  cases d with
  | list ds =>
    obtain ⟨a, vs, rfl, h1, rl, _⟩ := rep_listAt (H' := H1) (A' := A) r
    exact ⟨a, rfl, ⟨vs, SqL.of h1⟩, P1 H1 (Same.refl _) _ (walk_itl r)⟩
  | _ => exact P1.elim
theorem fn_lcK {W : WX} {tg iter elt : Expr} {t : Bool} {ifs : List Expr} {l : En → R (List D)} {tgt : TgF} {p : En → R Bool} {f : En → R D} {scope : Scope} {own : List (Str × Nat)} {ix : List Nat} (hc : L2H.HotC X) (hN : X.N.Nodup)
    (hi : L2H.PIH X tg iter (tFI X.K X.mg W l)) (okb : BlkOk X.N X.env.scope scope own)
    (hg : ∀ (s : Shared) (H : Hp) (C : Addr) (cl : List (Str × Addr)) (fp : List Addr), FG (blkK X s H scope (compEnvC scope cl C X.env) fp) tg ix tgt) (hix : ∀ i ∈ ix, i ∈ own.map (·.2))
    (ht : ∀ (s : Shared) (H : Hp) (C : Addr) (cl : List (Str × Addr)) (fp : List Addr), FTs (blkK X s H scope (compEnvC scope cl C X.env) fp) wNo ifs p)
    (he : ∀ (s : Shared) (H : Hp) (C : Addr) (cl : List (Str × Addr)) (fp : List Addr), FE (blkK X s H scope (compEnvC scope cl C X.env) fp) wNo elt f) (hs : ∀ x, foldedSetIterable iter X.env x = pure x := by intro _; rfl) :
    FN X W t (.ListComp elt [⟨tg, iter, ifs, 0⟩] scope pos) (cLc (own.map (·.2)) l tgt p f) :=
  impE (pe_lcK (g := tFG X.K ix tgt) (tt := tFT X.K X.mg wNo p) (te := tF X.K X.mg wNo f) hc hN hi okb hg ht he hs) (lc_read hix)
end
theorem takesN0 {X : Cx} : L2N.Takes X (fun _ _ _ _ => False) := fun _ _ ⟨_, _, _, _, _, _, _, _, _, _, _, _, _, _, _, _, no⟩ => no.elim
end G

namespace G
open PySem PySem.Spec PyProof.Rows L2
/-! ### texts joined -/
def strsOf : List D → Option (List Str)
  | [] => some []
  | .str z :: r => (strsOf r).map (z :: ·)
  | _ => none
def dJoinS (sep : Str) : D → Option D
  | .list ds => (strsOf ds).bind fun ys => if (ys.map (·.length)).sum + ys.length * sep.length ≤ 16777216 then some (.str (Txt.join sep ys)) else none
  | _ => none
def cJoinS (sep : Str) (f : En → R D) : En → R D := fun ρ => (f ρ).bind fun d => ofO (dJoinS sep d)
theorem strs_rep {K : Frg} {H : Hp} {A : List Addr} : ∀ {ds : List D} {vs : List V} {ys : List Str}, RepL K H A vs ds → strsOf ds = some ys → vs = ys.map V.str
  | _, _, ys, .nil, e => by simp only [strsOf] at e; cases e; rfl
  | d :: ds, _, ys, .cons a t, e => by
    cases a with
    | str z =>
      simp only [strsOf] at e
      obtain ⟨r, e1, e2⟩ := Option.map_eq_some_iff.mp e
      subst e2
      rw [strs_rep t e1]
      rfl
    | _ => simp only [strsOf] at e; cases e
theorem fe_joinS {X : Cx} {W : WX} {e : Expr} {f : En → R D} {sep : Str} {j : Nat} {p1 apos pos : Pos} (he : FE X W e f) (hs : starEach [e] X.env = [(false, eval e X.env)] := by rfl) (hbase : attributeBase (.Constant (.str sep) j p1) "join" X.env (eval (.Constant (.str sep) j p1) X.env) = eval (.Constant (.str sep) j p1) X.env := by rfl) (hline : (apos.endLine == pos.line) = true := by rfl) :
    FE X W (.Call (.Attribute (.Constant (.str sep) j p1) "join" apos) [e] [] pos) (cJoinS sep f) := impE (pe_join pe_str he hs hbase hline) fun σ H Q ⟨H0, A0, A, ρ, o, P⟩ => by
  refine ⟨⟨_, rfl⟩, H0, A0, A, ρ, o, P.bind.mono fun d H1 s1 P1 v r => ?_⟩
  obtain ⟨d2, e1, q⟩ := P1.ofO
  unfold dJoinS at e1
  split at e1
  · rename_i ds
    obtain ⟨ys, e2, e3⟩ := Option.bind_eq_some_iff.mp e1
    split at e3
    · rename_i hz
      cases e3
      obtain ⟨a, vs, rfl, h1, rl, _⟩ := rep_listAt (H' := H1) (A' := A) r
      rw [strs_rep rl e2] at h1
      exact ⟨sep, a, ys, rfl, rfl, .inl (SqL.of h1), hz, q H1 (Same.refl _) _ (.str _)⟩
    · cases e3
  · cases e1
/-! ### isinstance of the caught error -/
structure IsC (K : Frg) (C : Addr) : Prop where
  cl : (PySem.W.clsIn K C).isSome = true
  ca : PySem.W.findIn K (.ref C) "__class__" = some (some (.builtin "object.__class__"))
  cn : PySem.W.specialIn K (.builtin "object.__class__") "__get__" = some (some (.builtin "getset_descriptor.__get__"))
  ct : PySem.W.takesIn K (.builtin "object.__class__") = some true
  cm : PySem.W.mroIn K C (.type "object") = some true
theorem ExM.named {P : Program} {K : Frg} {mg : MgT} {c x : String} {b : Bool} (h : ExM P K mg c x b) : ∃ v, mg (Str.ofString x) = some v := by
  obtain ⟨_, v, _, e, _⟩ := h
  exact ⟨v, e⟩
def IsG (K : Frg) (mg : MgT) (c : String) : Prop := ∃ C, mg (Str.ofString c) = some (.ref C) ∧ IsC K C
def IsO (K : Frg) (mg : MgT) (c x : String) (b : Bool) : Prop := ∃ u C2, mg (Str.ofString c) = some u ∧ mg (Str.ofString x) = some (.ref C2) ∧ PySem.W.kitOne K u (.ref C2) = some b
def rIsX (K : Frg) (C a dd : Addr) : List V → Hp → VK → Prop := fun xs H Q => ∃ (c : Addr) (b : Bool) (v : V), xs = [.ref a, .ref c] ∧ PySem.W.kitOne K (.ref C) (.ref c) = some b ∧ H dd = some (.xd [(("at" : Str), v)]) ∧ Q (.bl b) H
section
variable {X : Cx} {a C D1 fI dd : Addr} {oe : Obj} {pn : List (Addr × Obj)} {n : Str} {i j : Nat}
theorem call_isX (T : PySem.AeX.Txt X.prog X.K X.mg C D1 fI) (S : IsC X.K C) (hz : Zc (.ref C) (some dd) oe) (hf : ∃ vs, oe.data = .fields vs) : CallR (X.suite a ((a, oe) :: pn)) (.builtin "isinstance") (rIsX X.K C a dd) := by
  intro pins s σ H xs us Q I r h
  obtain ⟨c, b, v, rfl, e, ea, q⟩ := h
  obtain ⟨u1, u2, rfl, r1, r2⟩ := vals2 r
  cases (show u1 = Value.ref a from r1)
  cases (show u2 = Value.ref c from r2)
  obtain ⟨vs, hd⟩ := hf
  obtain ⟨ha, _⟩ := I.pin (a, oe) (List.mem_append_left _ List.mem_cons_self)
  obtain ⟨mA, hns, hr⟩ := (show ObjOk X.prog X.w H s.heap dd (.xd [(("at" : Str), v)]) from I.hok dd _ ea)
  obtain ⟨od, ho, hl⟩ := lookIn_ns hns
  have IA : PySem.W.InstAt s.heap a oe C (some od) := ⟨ha, hz.1, by unfold PySem.W.notCls; rw [hd] <;> rfl, by rw [hz.2]; exact ho⟩
  exact PySem.W.kia_one (PySem.W.kitx_exc S.cl T.ga T.gg T.exC S.ca S.cn S.ct S.cm) I.kIn IA e (fun z => nomatch z) fun tk => ⟨.bl b, H, I.kept (t' := tk) fun _ _ z => z, rfl, q⟩
inductive NmE (X : Cx) (n : Str) : List Expr → List (Str × String) → Prop
  | nil : NmE X n [] []
  | cons {z : Str} {x : String} {k j : Nat} {p1 p2 p3 p4 p5 p6 : Pos} {es : List Expr} {ws : List (Str × String)} (hi : Gl X "isinstance") (hb : X.mg "isinstance" = none) (hg : Gl X (Str.ofString x)) (hdb : ((Str.ofString x) == ("__debug__" : Str)) = false)
      (s0 : starEach (.Tuple [.Constant (.str z) j p1, .Call (.Name "isinstance" p2) [.Name n p3, .Name (Str.ofString x) p4] [] p5] k p6 :: es) X.env = (false, eval (.Tuple [.Constant (.str z) j p1, .Call (.Name "isinstance" p2) [.Name n p3, .Name (Str.ofString x) p4] [] p5] k p6) X.env) :: starEach es X.env)
      (s1 : starEach [.Constant (.str z) j p1, .Call (.Name "isinstance" p2) [.Name n p3, .Name (Str.ofString x) p4] [] p5] X.env = (false, eval (.Constant (.str z) j p1) X.env) :: starEach [.Call (.Name "isinstance" p2) [.Name n p3, .Name (Str.ofString x) p4] [] p5] X.env)
      (s2 : starEach [.Call (.Name "isinstance" p2) [.Name n p3, .Name (Str.ofString x) p4] [] p5] X.env = (false, eval (.Call (.Name "isinstance" p2) [.Name n p3, .Name (Str.ofString x) p4] [] p5) X.env) :: starEach [] X.env)
      (s3 : starEach [.Name n p3, .Name (Str.ofString x) p4] X.env = (false, eval (.Name n p3) X.env) :: starEach [.Name (Str.ofString x) p4] X.env)
      (s4 : starEach [.Name (Str.ofString x) p4] X.env = (false, eval (.Name (Str.ofString x) p4) X.env) :: starEach [] X.env)
      (s5 : (backTo p5 (starEach [.Name (Str.ofString x) p4] X.env)).any (·.1) = false) (rest : NmE X n es ws) :
      NmE X n (.Tuple [.Constant (.str z) j p1, .Call (.Name "isinstance" p2) [.Name n p3, .Name (Str.ofString x) p4] [] p5] k p6 :: es) ((z, x) :: ws)
abbrev Fl := Str × Addr × Bool
def flD (l : List Fl) : List D := l.map fun q => .tuple [.str q.1, .bool q.2.2]
def NmOk (K : Frg) (mg : MgT) (C : Addr) : List (Str × String) → List Fl → Prop := Paired fun w q => w.1 = q.1 ∧ mg (Str.ofString w.2) = some (.ref q.2.1) ∧ PySem.W.kitOne K (.ref C) (.ref q.2.1) = some q.2.2
def tNm (K : Frg) (dd : Addr) (i : Nat) (a : Addr) (v : V) (l : List Fl) : TA := fun σ H Q => σ[i]? = some (some (.ref a)) ∧ H dd = some (.xd [(("at" : Str), v)]) ∧ ∀ vs H', Same H H' → (∀ A : List Addr, (∀ y ∈ A, H y ≠ none) → RepL K H' A vs (flD l)) → Q vs H'
theorem pa_names (hN : X.N[i]? = some n) (hv : Vis X.env.scope n) (hd : (n == ("__debug__" : Str)) = false) (hcd : (n == ("__classdict__" : Str)) = false) (T : PySem.AeX.Txt X.prog X.K X.mg C D1 fI) (S : IsC X.K C) (hz : Zc (.ref C) (some dd) oe) (hf : ∃ vs, oe.data = .fields vs) (v : V) {es : List Expr} {ws : List (Str × String)} (h : NmE X n es ws) :
    ∀ {l : List Fl}, NmOk X.K X.mg C ws l → PA (X.suite a ((a, oe) :: pn)) es (tNm X.K dd i a v l) := by
  induction h with
  | nil =>
    intro l hl
    cases hl
    exact impA pa_nil fun σ H Q ⟨_, _, q⟩ => q [] H (Same.refl H) fun A _ => .nil
  | @cons z x k j p1 p2 p3 p4 p5 p6 es ws hi hb hg hdb s0 s1 s2 s3 s4 s5 rest ih =>
    intro l hl
    cases hl with
    | @cons w q ws l hq hl =>
      obtain ⟨e1, e2, e3⟩ := hq
      have pe := pe_tup (x1 := k) (pos := p6) (pa_cons (X := X.suite a ((a, oe) :: pn)) (pe_str (x := z) (pos := p1)) (pa_cons (pe_callB (p := p2) (pos := p5) (call_isX (a := a) (oe := oe) (pn := pn) T S hz hf) hi hb PyProof.Rows.boot_isinstance (pa_cons (pe_var (pos := p3) hN hv hd hcd) (pa_cons (pe_glob (pos := p4) (v := .ref q.2.1) hg e2 rfl hdb) pa_nil s4) s3) (by decide) (by decide) s3 s5) pa_nil s2) s1)
      refine impA (pa_cons pe (ih hl) s0) fun σ H Q ⟨hs, hx, k1⟩ => ?_
      refine ⟨_, hs, q.2.1, q.2.2, v, rfl, e3, hx, (by show 2 ≤ sizeLine; rw [sizeLine_eq]; omega), fun p hp => ⟨hs, ?_, fun vs H' s hv => k1 (.ref p :: vs) H' ((same_upd hp).trans s) fun A hA => ?_⟩⟩
      · rw [upd_ne (fun z => by rw [z, hp] at hx; cases hx)]
        exact hx
      · have hpA : p ∉ A := fun z => hA p z hp
        refine .cons ?_ (hv A fun y hy => ?_)
        · show Rep X.K H' A (.ref p) (.tuple [.str q.1, .bool q.2.2])
          rw [← e1]
          exact (rep_tup hpA hp (.cons (.str z) (.one (.bl q.2.2)))).same s
        · by_cases hyp : y = p
          · subst hyp
            exact absurd hy hpA
          · rw [upd_ne hyp]
            exact hA y hy
/-- the suite: the names, then the words of those that are it, and the number -/
def tsNm (X : Cx) (i j : Nat) (ws : List (Str × String)) (fJ : En → R D) : Addr → Value → Option Addr → TS := fun a cls dx D σ H =>
  ∃ (C D1 fI dd : Addr) (m : Int) (l : List Fl) (H0 : Hp) (A0 A : List Addr) (ρ : En) (z : Str), cls = .ref C ∧ dx = some dd ∧ PySem.AeX.Txt X.prog X.K X.mg C D1 fI ∧ IsC X.K C ∧ H dd = some (.xd [(("at" : Str), .int m)]) ∧ NmOk X.K X.mg C ws l ∧ ws.length ≤ 1000 ∧
    σ[i]? = some (some (.ref a)) ∧ Ok X.K H0 A0 A ρ σ H ∧ fJ (ρ.set j (some (.v (.list (flD l))))) = .ok (.str z) ∧ ∀ v H', Same H0 H' → (Rep X.K H' A0 v (.tuple [.str z, .int m])) → D.rt v H'
theorem pss_names {nm : Str} {es : List Expr} {J : Expr} {ws : List (Str × String)} {fJ : En → R D} {k : Nat} {p1 p2 p3 q1 q2 q3 q4 : Pos} (hNn : X.N.Nodup) (hN : X.N[i]? = some n) (hNj : X.N[j]? = some nm) (hij : i ≠ j) (hv : Vis X.env.scope n) (hd : (n == ("__debug__" : Str)) = false) (hcd : (n == ("__classdict__" : Str)) = false)
    (hx : Loc X.env.scope nm) (hfn : X.fn nm = true ∨ X.env.scope.names.lookup nm = some .local) (hsw : swapsWith (.List es p2) (some (.Name nm p1)) p3.line X.env = pure false)
    (hbase : attributeBase (.Name n q1) "at" X.env (eval (.Name n q1) X.env) = eval (.Name n q1) X.env) (t1 : starEach [J, .Attribute (.Name n q1) "at" q2] X.env = (false, eval J X.env) :: starEach [.Attribute (.Name n q1) "at" q2] X.env) (t2 : starEach [.Attribute (.Name n q1) "at" q2] X.env = (false, eval (.Attribute (.Name n q1) "at" q2) X.env) :: starEach [] X.env)
    (h : NmE X n es ws) (hJ : ∀ (a : Addr) (oe : Obj) (pn : List (Addr × Obj)), L2H.HotC (X.suite a ((a, oe) :: pn)) → FE (X.suite a ((a, oe) :: pn)) (fun _ _ _ _ => False) J fJ)
    (a : Addr) (oe : Obj) (cls : Value) (dx : Option Addr) (pn : List (Addr × Obj)) (hn : L2N.Zn cls dx oe) (hf : ∃ vs, oe.data = .fields vs) :
    PSs (X.suite a ((a, oe) :: pn)) [.Assign [.Name nm p1] (.List es p2) p3, .Return (some (.Tuple [J, .Attribute (.Name n q1) "at" q2] k q3)) q4] (tsNm X i j ws fJ a cls dx) := by
  have hz : Zc cls dx oe := hn.zc
  have hot : L2H.HotC (X.suite a ((a, oe) :: pn)) := by
    obtain ⟨vs, hd⟩ := hf
    exact ⟨(a, oe), ⟨rfl, vs, hd, hn.2.2 vs hd⟩, List.mem_cons_self⟩
  refine ⟨fun pins s σ H D I q => ?_⟩
  obtain ⟨C, D1, fI, dd, m, l, H0, A0, A, ρ, z, rfl, rfl, T, S, hx0, hl, hlen, hs, o, ej, fin⟩ := q
  have s1 := ps_set (X := X.suite a ((a, oe) :: pn)) (pos' := p1) (pos := p3) hNn hNj hx (pe_lst (pos := p2) (pa_names (a := a) (oe := oe) (pn := pn) hN hv hd hcd T S hz hf (.int m) h hl)) hsw hfn
  have s2 := ps_ret (X := X.suite a ((a, oe) :: pn)) (pos := q4) (pe_tup (x1 := k) (pos := q3) (pa_cons (hJ a oe pn hot) (pa_cons (pe_at (pos := q2) hz hf (pe_var (pos := q1) hN hv hd hcd) hbase) pa_nil t2) t1))
  refine (pss_cons s1 (pss_one s2)).run pins s σ H D I ?_
  refine ⟨hs, hx0, fun vs H1 st1 hvs => ⟨?_, fun p hp => ?_⟩⟩
  · have h1 := (hvs [] (by simp)).length
    have h2 : ∀ {ws : List (Str × String)} {l : List Fl}, NmOk X.K X.mg C ws l → ws.length = l.length := fun h => Paired.length h
    have h3 := h2 hl
    unfold flD at h1
    rw [List.length_map] at h1
    rw [sizeLine_eq]
    omega
  · have hpA : p ∉ A := fun y => o.has p y (st1.free hp)
    have sm : Same H (upd H1 p (.lst vs)) := st1.trans (same_upd hp)
    have rp : Rep X.K (upd H1 p (.lst vs)) A (.ref p) (.list (flD l)) := .lst hpA upd_same ((hvs A o.has).same (same_upd hp))
    refine ⟨H0, A0, A, ρ.set j (some (.v (.list (flD l)))), (o.same sm).set j rp, ?_⟩
    rw [ej]
    intro H3 st3 v hv
    cases hv
    refine ⟨.ref a, by rw [List.getElem?_set_ne (Ne.symm hij)]; exact hs, rfl, C, D1, fI, dd, .int m, rfl, T, rfl, st3 _ _ (sm _ _ hx0), (by show 2 ≤ sizeLine; rw [sizeLine_eq]; omega), fun t ht => ?_⟩
    have ht0 : H t = none := sm.free (st3.free ht)
    exact fin _ _ (o.ext.trans (sm.trans (st3.trans (same_upd ht)))) (rep_tup (fun y => o.has t (o.sub t y) ht0) ht (.cons (.str z) (.one (.int m))))
/-! ### the try -/
def nmD (ws : List (Str × String)) (bs : List Bool) : List D := (ws.zip bs).map fun q => .tuple [.str q.1.1, .bool q.2]
def sTryNm (i j : Nat) (g : En → SR) (tab : List (String × List Bool)) (ws : List (Str × String)) (fJ : En → R D) : En → SR := fun ρ => match g ρ with
  | .ex c m ρ1 => if i < ρ1.length then (match tab.lookup c with
    | some bs => (match fJ ((ρ1.set i none).set j (some (.v (.list (nmD ws bs))))) with
      | .ok (.str z) => .rt (.tuple [.str z, .int m])
      | _ => .no)
    | none => .no) else .no
  | r => r
def TabNm (X : Cx) (x : String) (ws : List (Str × String)) (tab : List (String × List Bool)) : Prop := ∀ q ∈ tab, ExM X.prog X.K X.mg q.1 x true ∧ IsG X.K X.mg q.1 ∧ Paired (fun (w : Str × String) b => IsO X.K X.mg q.1 w.2 b) ws q.2
theorem lookup_in {α : Type} {c : String} {b : α} : ∀ {tab : List (String × α)}, tab.lookup c = some b → (c, b) ∈ tab
  | [], h => by cases h
  | (c', b') :: r, h => by
    rw [List.lookup_cons] at h
    split at h
    · rename_i e
      cases h
      rw [beq_iff_eq.mp e]
      exact List.mem_cons_self
    · exact List.mem_cons_of_mem _ (lookup_in h)
theorem flags_of {K : Frg} {mg : MgT} {c : String} {u : Addr} (hu : mg (Str.ofString c) = some (.ref u)) : ∀ {ws : List (Str × String)} {bs : List Bool}, Paired (fun (w : Str × String) b => IsO K mg c w.2 b) ws bs → ∃ l : List Fl, NmOk K mg u ws l ∧ flD l = nmD ws bs
  | _, _, .nil => ⟨[], .nil, rfl⟩
  | w :: ws, b :: bs, .cons ⟨u', C2, e1, e2, e3⟩ t => by
    obtain ⟨l, h1, h2⟩ := flags_of hu t
    rw [hu] at e1
    cases e1
    refine ⟨(w.1, C2, b) :: l, .cons ⟨rfl, e2, e3⟩ h1, ?_⟩
    unfold flD nmD at h2 ⊢
    rw [List.map_cons, h2]
    rfl
theorem fs_tryNm {W : WX} {body : List Stmt} {x : String} {nm : Str} {es : List Expr} {J : Expr} {ws : List (Str × String)} {tab : List (String × List Bool)} {fJ : En → R D} {gb : En → SR} {k : Nat} {pos np hp p1 p2 p3 q1 q2 q3 q4 : Pos}
    (hst : X.stack = X.env :: X.outer) (hfr0 : X.env.frame = some X.env.locals) (hNn : X.N.Nodup) (hi : X.N[i]? = some n) (hNj : X.N[j]? = some nm) (hij : i ≠ j) (hln : X.env.kindOf n = some .local) (tk : L2N.Takes X W)
    (hv : Vis X.env.scope n) (hd : (n == ("__debug__" : Str)) = false) (hcd : (n == ("__classdict__" : Str)) = false) (hx : Loc X.env.scope nm) (hfn : X.fn nm = true ∨ X.env.scope.names.lookup nm = some .local) (hsw : swapsWith (.List es p2) (some (.Name nm p1)) p3.line X.env = pure false)
    (hbase : attributeBase (.Name n q1) "at" X.env (eval (.Name n q1) X.env) = eval (.Name n q1) X.env) (t1 : starEach [J, .Attribute (.Name n q1) "at" q2] X.env = (false, eval J X.env) :: starEach [.Attribute (.Name n q1) "at" q2] X.env) (t2 : starEach [.Attribute (.Name n q1) "at" q2] X.env = (false, eval (.Attribute (.Name n q1) "at" q2) X.env) :: starEach [] X.env)
    (hg : Gl X (Str.ofString x)) (hdb : ((Str.ofString x) == ("__debug__" : Str)) = false) (hm : ∃ v, X.mg (Str.ofString x) = some v) (ht : TabNm X x ws tab) (hlen : ws.length ≤ 1000)
    (h : NmE X n es ws) (hJ : ∀ (a : Addr) (oe : Obj) (pn : List (Addr × Obj)), L2H.HotC (X.suite a ((a, oe) :: pn)) → FE (X.suite a ((a, oe) :: pn)) (fun _ _ _ _ => False) J fJ)
    (hb : ∀ (W' : WX) (pn : List (Addr × Obj)) (xe : Value → Shared → Prop), L2N.Takes (X.tr pn xe) W' → PassesOwn (model X.prog X.w) X.A X.env xe → FSs (X.tr pn xe) W' body gb) :
    FS X W (.Try body [.ExceptHandler (some (.Name (Str.ofString x) np)) (some n) [.Assign [.Name nm p1] (.List es p2) p3, .Return (some (.Tuple [J, .Attribute (.Name n q1) "at" q2] k q3)) q4] hp] [] [] pos) (sTryNm i j gb tab ws fJ) := by
  obtain ⟨v, hm⟩ := hm
  have hd1 : HdsAs X n [.ExceptHandler (some (.Name (Str.ofString x) np)) (some n) [.Assign [.Name nm p1] (.List es p2) p3, .Return (some (.Tuple [J, .Attribute (.Name n q1) "at" q2] k q3)) q4] hp] [(v, tsNm X i j ws fJ)] :=
    .cons ⟨hg, hdb, .inl hm⟩ (fun a oe cls dx pn hz hf => pss_names hNn hi hNj hij hv hd hcd hx hfn hsw hbase t1 t2 h hJ a oe cls dx pn hz hf) .nil
  refine impS (ps_try_all (tb := fun W' => tFS X.K X.mg W' gb) hst hfr0 hNn hi hln tk hb hd1) fun E σ H ⟨H0, A0, A, ρ, o, P⟩ => ⟨H0, A0, A, ρ, o, ?_⟩
  unfold sTryNm at P
  cases hgb : gb ρ with
  | ex c m ρ1 =>
    rw [hgb] at P
    dsimp only at P
    split at P
    · rename_i hlt
      split at P
      · rename_i bs hlk
        split at P
        · rename_i z hjz
          obtain ⟨⟨u', v', m1, m2, m3, C, D1, fI, m4, T⟩, ⟨C', g1, S⟩, hp⟩ := ht _ (lookup_in hlk)
          cases hm.symm.trans m2
          cases m1.symm.trans m4
          cases g1.symm.trans m1
          obtain ⟨l, hl, el⟩ := flags_of m1 hp
          intro u p σ' H' A' o' tr hp0 he
          cases he.1.symm.trans m1
          refine ⟨true, m3, fun _ a ha => ?_, fun y => Bool.noConfusion y⟩
          have o2 : Ok X.K H0 A0 A' (ρ1.set i none) (σ'.set i (some (.ref a))) H' := by
            have o3 := o'.forget i
            refine ⟨by rw [List.length_set]; exact o3.len, o3.ext, o3.sub, o3.new, o3.has, fun y s e => ?_, fun y y2 b t t' d d' ne e1 e2 e3 => ?_⟩
            · by_cases hy : y = i
              · subst hy
                rw [List.getElem?_set_self hlt] at e
                cases e
              · obtain ⟨w, f1, f2⟩ := o3.slot y s e
                exact ⟨w, by rw [List.getElem?_set_ne (Ne.symm hy)]; exact f1, f2⟩
            · have hy : y ≠ i := fun q => by subst q; rw [List.getElem?_set_self hlt] at e1; cases e1
              have hy2 : y2 ≠ i := fun q => by subst q; rw [List.getElem?_set_self hlt] at e2; cases e2
              rw [List.getElem?_set_ne (Ne.symm hy)] at e3
              rw [List.getElem?_set_ne (Ne.symm hy2)]
              exact o3.dis y y2 b t t' d d' ne e1 e2 e3
          exact ⟨C, D1, fI, p, m, l, H0, A0, A', ρ1.set i none, z, rfl, rfl, T, S, he.2, hl, hlen, by rw [List.getElem?_set_self (by rw [o'.len]; exact hlt)], o2, by rw [el]; exact hjz, fun w H2 s2 r2 => P w H2 s2 r2⟩
        · exact P.elim
      · exact P.elim
    · exact P.elim
  | nx _ => rw [hgb] at P; exact P
  | rt _ => rw [hgb] at P; exact P
  | bk _ => rw [hgb] at P; exact P
  | ct _ => rw [hgb] at P; exact P
  | no => rw [hgb] at P; exact P
end
end G

namespace G
open PySem PySem.Spec PyProof.Rows L2
/-! ### the written pairs as values -/
theorem fe_gtupZ {X : Cx} {W : WX} {x : Str} {pos : Pos} {ds : List D} (h : GTup X.K X.mg x ds) (hz : ds = [.int 0, .int 1] ∨ ds = [.int 1, .int 1]) (hg : Gl X x) (hd : (x == ("__debug__" : Str)) = false := by decide) : FE X W (.Name x pos) (cK (.tuple ds)) := by
  obtain ⟨a, vs, hm, T, r⟩ := h
  refine fe_k (pe_glob hg hm (show RelV (.ref a) (.ref a) from rfl) hd) fun H A => .kt ⟨T, ?_⟩ (r H A)
  have r1 := r H A
  rcases hz with rfl | rfl
  all_goals
    cases r1 with
    | cons a1 t =>
      cases t with
      | cons a2 t =>
        cases t
        cases a1
        cases a2
        first | exact .inl rfl | exact .inr rfl
end G

namespace G
open PySem PySem.Spec PyProof.Rows L2
/-! ### an own error as data -/
theorem xo_ok {P : Program} {w : World} {H : Hp} {h : Heap} {C dd a : Addr} {oe : Obj} {vs : Array Value} (e : h.get? a = some oe) (z : Zc (.ref C) (some dd) oe) (d : oe.data = .fields vs) : ObjOk P w H h a (XO C dd a) :=
  ⟨⟨oe, vs, e, z, d⟩, ⟨oe, e⟩, fun _ _ ⟨o, v, q, r⟩ k => ⟨o, v, k o q, r⟩⟩
/-- what is known of such a class -/
def XC (P : Program) (K : Frg) (mg : MgT) (c : Int) : Prop := ∃ C D1 fI : Addr, c = (C : Int) ∧ PySem.AeX.Txt P K mg C D1 fI ∧ IsC K C
def xD (c n : Int) : D := .dict [(.none, .int c), (.int 0, .int n)]
def unX : D → Option (Int × Int)
  | .dict [(.none, .int c), (.int 0, .int n)] => some (c, n)
  | _ => none
theorem unX_some {d : D} {q : Int × Int} (h : unX d = some q) : d = .dict [(.none, .int q.1), (.int 0, .int q.2)] := by
  unfold unX at h
  split at h
  · cases h; rfl
  · cases h
theorem rep_xo {K : Frg} {H : Hp} {A : List Addr} {v : V} {c n : Int} (r : Rep K H A v (.dict [(.none, .int c), (.int 0, .int n)])) : ∃ a dd C : Addr, v = .ref a ∧ c = (C : Int) ∧ H a = some (XO C dd a) ∧ H dd = some (.xd [("at", .int n)]) := by
  cases r with
  | dk _ _ r => exact Bool.noConfusion (show false = true from repK_keys r)
  | dt _ _ r => exact Bool.noConfusion (show false = true from repT_keys r)
  | xo n1 n2 h1 h2 => exact ⟨_, _, _, rfl, rfl, h1, h2⟩
section
variable {X : Cx} {W : WX} {C D1 fI : Addr} {a e : Expr} {ta : TA} {x : Str} {p pos pos2 : Pos} {k : Nat} {f : En → R D}
def tMkV (C : Addr) (ta : TA) : TE := fun σ H Q => ta σ H fun vs H1 => ∃ v, vs = [v] ∧ ∀ d o, d ≠ o → H1 d = none → H1 o = none → Q (.ref o) (upd (upd H1 d (.xd [(("at" : Str), v)])) o (XO C d o))
theorem pe_mkV (T : PySem.AeX.Txt X.prog X.K X.mg C D1 fI) (gC : X.mg x = some (.ref C)) (hr : Room k X.A) (ha : PA X [a] ta) (hg : Gl X x) (hdb : (x == ("__debug__" : Str)) = false := by decide)
    (he : starEach (a :: []) X.env = (false, eval a X.env) :: starEach [] X.env := by rfl) (hpl : (backTo pos (starEach [] X.env)).any (·.1) = false := by rfl) :
    PE X (.Call (.Name x p) [a] [] pos) (tMkV C ta) := by
  refine ⟨fun pins s σ H Q I h => ?_⟩
  refine wpAny_Call_Name_kw (ld_glob I hg gC ?_ hdb)
  refine PySem.W.callWith_K (h₀ := X.base) I.ok.mod.kin T.kC (thn (ha.run pos pins s σ H _ I h) fun ws s1 ⟨vs, H1, I1, r1, v, ev, q1⟩ => ?_) he hpl
  subst ev
  refine ⟨I1.kIn, ?_⟩
  cases r1 with
  | cons rv rn =>
    cases rn
    obtain ⟨mb, hb, hbb⟩ := I1.ok.mod.blt
    have g1 := I1.ok.mod.glob.keeps I1.bk
    have b1 := hb.keeps I1.bk
    have l1 := I1.nolimit
    have k1 := I1.kIn
    obtain ⟨hp, g, dr, tk, os⟩ := s1
    refine wpAny_call (PySem.AeX.ae_made T k1 g1 b1 hbb l1 (by have := hr.dp; omega) fun h' tk' o d M => ?_)
    obtain ⟨oe, fv, hoe, hc, hd, hdat, _, _⟩ := M.obj
    obtain ⟨G', z1, z2⟩ := restrict h' fun b => decide (b ≠ o)
    have gk : ∀ b, b ≠ o → G'.get? b = h'.get? b := fun b hb => z1 b (decide_eq_true hb)
    have ge : G'.get? o = none := z2 o (by simp)
    have ob : ObjOk X.prog X.w (upd H1 d (.xd [(("at" : Str), v)])) G' d (.xd [(("at" : Str), v)]) := ⟨_, M.ns.at (fun u q => (gk d M.dne).trans q), fun f => relO_at rv f⟩
    have J : Inv X pins σ (upd H1 d (.xd [(("at" : Str), v)])) ⟨G', g, dr, tk', os⟩ :=
      I1.laid (t' := tk') (fun b u q => (gk b (Nat.ne_of_lt (Nat.lt_of_lt_of_le (Heap.lt_size q) M.new))).trans (M.keep b u q)) M.dbig ob
    have ho : H1 o = none := I1.hok.fresh M.new
    have hn : upd H1 d (.xd [(("at" : Str), v)]) o = none := by
      rw [upd_ne (Ne.symm M.dne)]
      exact ho
    have gs : ∀ b u, G'.get? b = some u → h'.get? b = some u := fun b u q => by
      by_cases hb : b = o
      · rw [hb, ge] at q; cases q
      · exact (gk b hb).symm.trans q
    have J2 := J.laidN (t' := tk') (o := XO C d o) gs ge hn (xo_ok hoe ⟨hc, hd⟩ hdat)
    exact ⟨.ref o, _, J2, rfl, q1 d o M.dne (I1.hok.fresh M.dbig) ho⟩
/-- c(e), e an int -/
def cErr (C : Addr) (f : En → R D) : En → R D := fun ρ => (f ρ).bind fun d => match d with
  | .int n => .ok (xD C n)
  | _ => .no
theorem fe_err (T : PySem.AeX.Txt X.prog X.K X.mg C D1 fI) (gC : X.mg x = some (.ref C)) (hr : Room k X.A) (ha : FE X W a f) (hg : Gl X x) (hdb : (x == ("__debug__" : Str)) = false := by decide)
    (he : starEach (a :: []) X.env = (false, eval a X.env) :: starEach [] X.env := by rfl) (hpl : (backTo pos (starEach [] X.env)).any (·.1) = false := by rfl) :
    FE X W (.Call (.Name x p) [a] [] pos) (cErr C f) := by
  refine impE (pe_mkV T gC hr (pa_cons ha pa_nil he) hg hdb he hpl) fun σ H Q ⟨H0, A0, A, ρ, o, P⟩ => ?_
  refine ⟨H0, A0, A, ρ, o, P.bind.mono fun d H1 s1 P1 v hv => ⟨v, rfl, fun dd a hne hd ha => ?_⟩⟩
  split at P1
  · rename_i n
    obtain rfl := (RepB.of hv).int
    have sm : Same H1 (upd H1 dd (.xd [(("at" : Str), .int n)])) := same_upd hd
    have ha2 : upd H1 dd (.xd [(("at" : Str), .int n)]) a = none := by
      rw [upd_ne (Ne.symm hne)]
      exact ha
    have sm2 := sm.trans (same_upd (o := XO C dd a) ha2)
    refine P1 _ sm2 _ (.xo ((o.same s1).fresh ha) ((o.same s1).fresh hd) upd_same ?_)
    rw [upd_ne hne]
    exact upd_same
  · exact P1.elim
/-! ### its number -/
def tAtV (P : Program) (K : Frg) (mg : MgT) (te : TE) : TE := fun τ K0 Q => te τ K0 fun x K1 => ∃ (a C D1 fI dd : Addr) (v : V), x = .ref a ∧ PySem.AeX.Txt P K mg C D1 fI ∧ K1 a = some (XO C dd a) ∧ K1 dd = some (.xd [(("at" : Str), v)]) ∧ Q v K1
theorem pe_atV {te : TE} (he : PE X e te) (hb : attributeBase e "at" X.env (eval e X.env) = eval e X.env := by rfl) : PE X (.Attribute e "at" pos) (tAtV X.prog X.K X.mg te) := by
  refine ⟨fun pins s τ K0 Q I h => attr_of hb (thn (he.run pins s τ K0 _ I h) fun u s1 hh => ?_)⟩
  obtain ⟨y, K1, I1, ry, a, C, D1, fI, dd, v, rfl, T, ea, ed, q⟩ := hh
  cases ry
  obtain ⟨⟨oe, vs, ha, hz, hd⟩, _, _⟩ := (show ObjOk X.prog X.w K1 s1.heap a (XO C dd a) from I1.hok a _ ea)
  obtain ⟨mA, hns, hr⟩ := (show ObjOk X.prog X.w K1 s1.heap dd (.xd [(("at" : Str), v)]) from I1.hok dd _ ed)
  obtain ⟨od, ho, hl⟩ := lookIn_ns hns
  have h1 := hr "at"
  rw [show List.lookup ("at" : Str) [(("at" : Str), v)] = some v by simp [List.lookup]] at h1
  obtain ⟨u, hu, ru⟩ := RelO.some_of (v := v) (o := mA "at") h1
  have J : PySem.W.InstAt s1.heap a oe C (some od) := ⟨ha, hz.1, by unfold PySem.W.notCls; rw [hd] <;> rfl, by rw [hz.2]; exact ho⟩
  exact HandSPX.exc_get I1.kIn J T.ga T.gg T.exC (PySem.W.findObj_own T.hdC T.noN rfl (by rw [hl, hu])) (handed_of ru) ⟨v, K1, I1.tok _, ru, q⟩
open Classical in
/-- e.at -/
noncomputable def cAt (P : Program) (K : Frg) (mg : MgT) (f : En → R D) : En → R D := fun ρ => (f ρ).bind fun d => match unX d with
  | some q => if XC P K mg q.1 then .ok (.int q.2) else .no
  | none => .no
theorem fe_at (he : FE X W e f) (hb : attributeBase e "at" X.env (eval e X.env) = eval e X.env := by rfl) : FE X W (.Attribute e "at" pos) (cAt X.prog X.K X.mg f) := by
  refine impE (pe_atV he hb) fun σ H Q ⟨H0, A0, A, ρ, o, P⟩ => ?_
  refine ⟨H0, A0, A, ρ, o, P.bind.mono fun d H1 s1 P1 v hv => ?_⟩
  cases hq : unX d with
  | none => rw [hq] at P1; exact P1.elim
  | some q =>
    rw [hq] at P1
    obtain rfl := unX_some hq
    dsimp only at P1
    split at P1
    · rename_i hx
      obtain ⟨C', D1, fI, e1, T, _⟩ := hx
      obtain ⟨a, dd, C, rfl, e2, h1, h2⟩ := rep_xo hv
      have : C' = C := Int.ofNat.inj (e1.symm.trans e2)
      subst this
      exact ⟨a, C', D1, fI, dd, .int q.2, rfl, T, h1, h2, P1 H1 (Same.refl _) _ (.int _)⟩
    · exact P1.elim
/-! ### isinstance -/
def rIsV (P : Program) (K : Frg) (mg : MgT) : List V → Hp → VK → Prop := fun xs H Q => ∃ (y c : V) (u : Value) (b : Bool), xs = [y, c] ∧ ClsV c u ∧
  ((∃ i, y = .int i ∧ PySem.W.kitOne K (.type "int") u = some b) ∨ ∃ (a C D1 fI dd : Addr) (v : V), y = .ref a ∧ PySem.AeX.Txt P K mg C D1 fI ∧ IsC K C ∧ H a = some (XO C dd a) ∧ H dd = some (.xd [(("at" : Str), v)]) ∧ PySem.W.kitOne K (.ref C) u = some b) ∧ Q (.bl b) H
theorem call_isV : CallR X (.builtin "isinstance") (rIsV X.prog X.K X.mg) := by
  intro pins s σ H xs us Q I r h
  obtain ⟨y, c, u, b, rfl, k, z, q⟩ := h
  obtain ⟨u1, u2, rfl, r1, r2⟩ := vals2 r
  have e2 := k.eq r2
  subst e2
  rcases z with ⟨i, rfl, e⟩ | ⟨a, C, D1, fI, dd, v, rfl, T, S, ea, ed, e⟩
  · obtain ⟨P, Z, pz, hx⟩ := kit_of I r1 (.base (.int i))
    exact PySem.W.kia_one Z I.kIn pz e hx fun tk => ⟨.bl b, H, I.tok tk, rfl, q⟩
  · cases r1
    obtain ⟨⟨oe, vs, ha, hz, hd⟩, _, _⟩ := (show ObjOk X.prog X.w H s.heap a (XO C dd a) from I.hok a _ ea)
    obtain ⟨mA, hns, hr⟩ := (show ObjOk X.prog X.w H s.heap dd (.xd [(("at" : Str), v)]) from I.hok dd _ ed)
    obtain ⟨od, ho, hl⟩ := lookIn_ns hns
    have J : PySem.W.InstAt s.heap a oe C (some od) := ⟨ha, hz.1, by unfold PySem.W.notCls; rw [hd] <;> rfl, by rw [hz.2]; exact ho⟩
    exact PySem.W.kia_one (PySem.W.kitx_exc S.cl T.ga T.gg T.exC S.ca S.cn S.ct S.cm) I.kIn J e (fun z => nomatch z) fun tk => ⟨.bl b, H, I.tok tk, rfl, q⟩
open Classical in
/-- isinstance(e, the class u) -/
noncomputable def cIs (P : Program) (K : Frg) (mg : MgT) (u : Value) (f : En → R D) : En → R D := fun ρ => (f ρ).bind fun d => match d with
  | .int _ => ofO ((PySem.W.kitOne K (.type "int") u).map .bool)
  | d => match unX d with
    | some q => if XC P K mg q.1 then ofO ((PySem.W.kitOne K (.ref q.1.toNat) u).map .bool) else .no
    | none => .no
theorem fe_is {c : Expr} {v : V} {u : Value} (he : FE X W e f) (hc : PE X c (tC v)) (hk : ClsV v u) (hg : Gl X "isinstance") (hm : X.mg "isinstance" = none)
    (s0 : starEach [e, c] X.env = (false, eval e X.env) :: starEach [c] X.env := by rfl) (s1 : starEach [c] X.env = (false, eval c X.env) :: starEach [] X.env := by rfl) (hpl : (backTo pos (starEach [c] X.env)).any (·.1) = false := by rfl) :
    FE X W (.Call (.Name "isinstance" p) [e, c] [] pos) (cIs X.prog X.K X.mg u f) := by
  refine impE (pe_callB call_isV hg hm PyProof.Rows.boot_isinstance (pa_cons he (pa_cons hc pa_nil s1) s0) (by decide) (by decide) s0 hpl) fun σ H Q ⟨H0, A0, A, ρ, o, P⟩ => ?_
  refine ⟨H0, A0, A, ρ, o, P.bind.mono fun d H1 s1 P1 y hy => ?_⟩
  split at P1
  · rename_i i
    obtain rfl := (RepB.of hy).int
    obtain ⟨d2, e1, P2⟩ := P1.ofO
    obtain ⟨b, e2, rfl⟩ := Option.map_eq_some_iff.mp e1
    exact ⟨_, _, u, b, rfl, hk, .inl ⟨i, rfl, e2⟩, P2 H1 (Same.refl _) _ (.bl b)⟩
  · cases hq : unX d with
    | none => rw [hq] at P1; exact P1.elim
    | some q =>
      rw [hq] at P1
      obtain rfl := unX_some hq
      dsimp only at P1
      split at P1
      · rename_i hx
        obtain ⟨C', D1, fI, e1, T, S⟩ := hx
        obtain ⟨a, dd, C, rfl, e2, h1, h2⟩ := rep_xo hy
        have : C' = C := Int.ofNat.inj (e1.symm.trans e2)
        subst this
        obtain ⟨d2, e3, P2⟩ := P1.ofO
        obtain ⟨b, e4, rfl⟩ := Option.map_eq_some_iff.mp e3
        rw [e1] at e4
        exact ⟨_, _, u, b, rfl, hk, .inr ⟨a, C', D1, fI, dd, .int q.2, rfl, T, S, h1, h2, e4⟩, P2 H1 (Same.refl _) _ (.bl b)⟩
      · exact P1.elim
end
end G

namespace G
open PySem PySem.Spec PyProof.Rows L2
/-! ### a caught error handed back -/
section
variable {X : Cx} {pins : List (Addr × Obj)} {σ : St} {H : Hp} {s : Shared}
/-- an object that stands there already is tracked from now on -/
theorem note {a : Addr} {o : HO} (I : Inv X pins σ H s) (n0 : X.s_0.heap.get? a = none) (hn : H a = none) (nl : a ≠ X.env.locals) (nc : ∀ x c, X.env.cells.lookup x = some c → c ≠ a) (np : ∀ p ∈ X.pn ++ pins, p.1 ≠ a) (new : ObjOk X.prog X.w (upd H a o) s.heap a o) : Inv X pins σ (upd H a o) s := by
  refine ⟨I.ok, I.os, I.bare, ⟨I.base.keep, I.base.slot, fun b ob q n hx => ?_, I.base.there, fun b xs q => ?_, fun b ob u q => ?_, fun b ps q => ?_⟩, I.loc, I.cell, ?_, fun x c e => ?_, fun p hp => ?_, I.hok.laidN (fun _ _ z => z) hn new, I.len⟩
  · rw [upd_ne (fun z => by rw [z, n0] at q; cases q)]
    exact I.base.free b ob q n hx
  · have z := I.base.tups b xs q
    rw [upd_ne (ne_of_none z hn)]
    exact z
  · have z := I.base.frzs b ob u q
    rw [upd_ne (ne_of_none z hn)]
    exact z
  · obtain ⟨more, z⟩ := I.base.tbls b ps q
    exact ⟨more, by rw [upd_ne (ne_of_none z hn)]; exact z⟩
  · rw [upd_ne (Ne.symm nl)]
    exact I.free
  · rw [upd_ne (nc x c e)]
    exact I.freeC x c e
  · obtain ⟨e, n, r⟩ := I.pin p hp
    exact ⟨e, by rw [upd_ne (np p hp)]; exact n, r⟩
end
def wRet (K : Frg) (D : Ends) (c : Value) : WX := fun cls dx τ K1 => PySem.W.exmOne K cls c = some true ∧ ∃ C dd : Addr, cls = .ref C ∧ dx = some dd ∧ ∀ a, K1 a = none → D.rt (.ref a) (upd K1 a (XO C dd a))
section
variable {X : Cx} {n x : Str} {i : Nat} {body : List Stmt} {pos np hp p1 p2 : Pos} {tb : WX → TS} {c : Value}
theorem ps_tryRet (hst : X.stack = X.env :: X.outer) (hfr0 : X.env.frame = some X.env.locals) (hN : X.N.Nodup) (hi : X.N[i]? = some n) (hln : X.env.kindOf n = some .local) (hex : X.ex = [])
    (hv : Vis X.env.scope n) (hd : (n == ("__debug__" : Str)) = false) (hcd : (n == ("__classdict__" : Str)) = false) (named : Names X x c)
    (hb : ∀ (W : WX) (pn : List (Addr × Obj)) (xe : Value → Shared → Prop), L2N.Takes (X.tr pn xe) W → PassesOwn (model X.prog X.w) X.A X.env xe → PSs (X.tr pn xe) body (tb W)) :
    PS X (.Try body [.ExceptHandler (some (.Name x np)) (some n) [.Return (some (.Name n p1)) p2] hp] [] [] pos) (fun D τ K1 => tb (wRet X.K D c) D τ K1) := by
  refine ⟨fun pins s τ0 K0 D I h => ?_⟩
  have okX := I.ok
  have hfr : X.A.frames = some (X.env :: X.outer) := okX.frames.trans (by rw [hst])
  have there : Loc X.env.scope n := .inl hln
  refine wpAny_Try_except (wpAny_mono ((hb (wRet X.K D c) (X.pn ++ pins) _ (fun u s' air => ?_) PassesOwn.looking).run [] s τ0 K0 D (I.toTry _) h) (fun f s1 done => ?_) fun _ _ he => he)
  · obtain ⟨a, B, sI, pins', τ, K1, cls, dx, rfl, J', nb, up, sky, na, os, ag, hb1, C, dd, rfl, rfl, hyes⟩ := air
    have J : Inv X pins τ K1 sI := J'.ofTry okX
    refine L2N.Sky.land L2N.Zn.steady hfr hfr0 (show Sky B (X.env :: X.outer) a (L2N.Zn (.ref C) (some dd)) X.env.locals s'.heap from hst ▸ sky) fun h3 fl3 up3 => ?_
    have J3 : Inv X pins τ K1 { s' with heap := h3 } := J.landed nb fl3.1 (up.trans up3) os ag
    obtain ⟨oe3, vs3, he3, hz3, hd3⟩ := fl3.there
    have apart : a ∉ frs (X.env :: X.outer) := fun hm => by
      obtain ⟨_, o2, e2, ne2⟩ := fl3.2.2.1.mem hm
      cases he3.symm.trans e2
      exact ne2 _ hd3
    have nL : a ≠ X.env.locals := fun z => apart (List.mem_filterMap.mpr ⟨X.env, List.mem_cons_self, by rw [hfr0, z]⟩)
    have nF : a ∉ X.fs := fun hm => by
      obtain ⟨e, he, q⟩ := List.mem_filterMap.mp hm
      exact apart (List.mem_filterMap.mpr ⟨e, List.mem_cons_of_mem _ he, q⟩)
    have noA : ∀ o, sI.heap.get? a ≠ some o := fun o e => by
      have z := nb a o e (by rw [hst]; exact apart)
      rw [fl3.2.1] at z
      cases z
    have n0 : X.s_0.heap.get? a = none := by
      cases e : X.s_0.heap.get? a with
      | none => rfl
      | some o =>
        obtain ⟨o', z⟩ := J.base.there a o e (by rw [hex]; exact fun z => nomatch z)
        exact absurd z (noA o')
    have nc : ∀ x c, X.env.cells.lookup x = some c → c ≠ a := fun x c e z => by
      obtain ⟨v, o, q, _⟩ := J.cell x c e
      rw [z] at q
      exact noA o q
    have npn : ∀ p ∈ X.pn ++ pins, p.1 ≠ a := fun p hp z => by
      obtain ⟨e, _⟩ := J.pin p hp
      rw [z] at e
      exact noA _ e
    have S3 := J3.suite he3 hd3 na nL nF
    refine wpAny_handleBy_cons (codeAny_handlers_test ?_) (by intro q; cases q)
    have LT : PySem.W.Looks (model X.prog X.w) h3 (typeOf (.ref a)) (.ref C) := fun A Q E s k q => wpAny_typeOf_ref (k _ _ he3) (by rw [hz3.1]; exact q)
    have LM := PySem.W.exm_one (M := model X.prog X.w) J3.kIn LT hb1
    have asked : ∀ {Q : Value → Shared → Prop} {E : Value → Shared → Prop}, Q c { s' with heap := h3 } → wpAny (model X.prog X.w) (X.A.mark (some (.ref a))) (eval (.Name x np) X.env) Q E { s' with heap := h3 } := fun {Q E} q => by
      obtain ⟨hg, hdb, hm | ⟨hm, hv, hnn⟩⟩ := named
      · exact ld_glob (X := X.suite a ((a, oe3) :: (X.pn ++ pins))) S3 hg hm q hdb
      · exact ld_blt (X := X.suite a ((a, oe3) :: (X.pn ++ pins))) S3 hg hm hv q hnn hdb
    refine asked (LM.here ?_)
    refine codeAny_handlers_suite_as (HandSPX.lands_againZ fl3 fun h4 fl4 up4 => ?_)
    have J4 : Inv X pins τ K1 { s' with heap := h4 } := J.landed nb fl4.1 ((up.trans up3).trans up4) os ag
    obtain ⟨oe4, vs4, he4, hz4, hd4⟩ := fl4.there
    refine store_ok (X := X.suite a ((a, oe4) :: (X.pn ++ pins))) (v := .ref a) (J4.suite he4 hd4 na nL nF) hN hi there rfl (fun s5 S5 => ?_) (.inr hln)
    have does : PSs (X.suite a ((a, oe4) :: (X.pn ++ pins))) [.Return (some (.Name n p1)) p2] (tRet (tVar i)) := pss_one (ps_ret (pe_var hi hv hd hcd))
    have hlt : i < τ.length := by
      rw [J.len]
      exact (List.getElem?_eq_some_iff.mp hi).1
    refine wpAny_mono (does.run [] s5 _ K1 { nx := fun _ _ => False, rt := fun v K => v = .ref a ∧ K = K1, bk := fun _ _ => False, ct := fun _ _ => False } S5 ⟨.ref a, List.getElem?_set_self hlt, rfl, rfl⟩) (fun f s6 hsp => ?_) fun _ _ z => z.elim
    cases f with
    | next =>
      obtain ⟨_, _, _, q6⟩ := hsp
      exact q6.elim
    | brk =>
      obtain ⟨_, _, _, q6⟩ := hsp
      exact q6.elim
    | cont =>
      obtain ⟨_, _, _, q6⟩ := hsp
      exact q6.elim
    | ret u =>
      obtain ⟨v6, τ6, K6, S6, r6, rfl, rfl⟩ := hsp
      obtain ⟨ha6, _⟩ := S6.pin (a, oe4) (List.mem_append_left _ List.mem_cons_self)
      have J6 : Inv X pins τ6 K6 s6 := S6.unsuite okX
      have J7 := note J6 n0 na nL nc npn (o := XO C dd a) (xo_ok ha6 ⟨hz4.1, hz4.2.1⟩ hd4)
      exact gone_ok J7 hN hi hln fun s7 J8 => ⟨_, _, _, J8, r6, hyes a na⟩
  · cases f with
    | next =>
      obtain ⟨τ, K1, J, q⟩ := done
      exact wpAny_execs_nil ⟨τ, K1, J.ofTry okX, q⟩
    | brk =>
      obtain ⟨τ, K1, J, q⟩ := done
      exact ⟨τ, K1, J.ofTry okX, q⟩
    | cont =>
      obtain ⟨τ, K1, J, q⟩ := done
      exact ⟨τ, K1, J.ofTry okX, q⟩
    | ret u =>
      obtain ⟨v, τ, K1, J, r, q⟩ := done
      exact ⟨v, τ, K1, J.ofTry okX, r, q⟩
def sTryRet (g : En → SR) (tab : List (String × Addr)) : En → SR := fun ρ => match g ρ with
  | .ex c m _ => match tab.lookup c with
    | some C => .rt (xD C m)
    | none => .no
  | r => r
theorem fs_tryRet {W : WX} {gb : En → SR} {tab : List (String × Addr)} (hst : X.stack = X.env :: X.outer) (hfr0 : X.env.frame = some X.env.locals) (hN : X.N.Nodup) (hi : X.N[i]? = some n) (hln : X.env.kindOf n = some .local) (hex : X.ex = [])
    (hv : Vis X.env.scope n) (hd : (n == ("__debug__" : Str)) = false) (hcd : (n == ("__classdict__" : Str)) = false) (named : Names X x c)
    (ht : ∀ q ∈ tab, X.mg (Str.ofString q.1) = some (.ref q.2) ∧ PySem.W.exmOne X.K (.ref q.2) c = some true)
    (hb : ∀ (W' : WX) (pn : List (Addr × Obj)) (xe : Value → Shared → Prop), L2N.Takes (X.tr pn xe) W' → PassesOwn (model X.prog X.w) X.A X.env xe → FSs (X.tr pn xe) W' body gb) :
    FS X W (.Try body [.ExceptHandler (some (.Name x np)) (some n) [.Return (some (.Name n p1)) p2] hp] [] [] pos) (sTryRet gb tab) := by
  refine impS (ps_tryRet (tb := fun W' => tFS X.K X.mg W' gb) hst hfr0 hN hi hln hex hv hd hcd named hb) fun E σ H ⟨H0, A0, A, ρ, o, P⟩ => ⟨H0, A0, A, ρ, o, ?_⟩
  unfold sTryRet at P
  cases hgb : gb ρ with
  | ex e m ρ1 =>
    rw [hgb] at P
    dsimp only at P
    split at P
    · rename_i C hlk
      obtain ⟨g1, g2⟩ := ht _ (lookup_in hlk)
      intro u p σ' H' A' o' tr hp0 he
      cases he.1.symm.trans g1
      refine ⟨g2, C, p, rfl, rfl, fun a ha => ?_⟩
      have hne : p ≠ a := fun z => by
        have := he.2
        rw [z, ha] at this
        cases this
      refine P (.ref a) _ (o'.ext.trans (same_upd ha)) (.xo (fun y => o'.has a (o'.sub a y) ha) hp0.2 upd_same ?_)
      rw [upd_ne hne]
      exact he.2
    · exact P.elim
  | nx _ => rw [hgb] at P; exact P
  | rt _ => rw [hgb] at P; exact P
  | bk _ => rw [hgb] at P; exact P
  | ct _ => rw [hgb] at P; exact P
  | no => rw [hgb] at P; exact P
end
/-! ### a first statement that never goes on -/
def sFirst (g : En → SR) : En → SR := fun ρ => match g ρ with
  | .nx _ => .no
  | r => r
section
variable {X : Cx} {W : WX} {st : Stmt} {rest : List Stmt} {t : TS} {g : En → SR}
def onlyE (D : Ends) : Ends := { nx := fun _ _ => False, rt := D.rt, bk := D.bk, ct := D.ct }
theorem pss_first (h1 : PS X st t) : PSs X (st :: rest) (fun D σ H => t (onlyE D) σ H) := by
  refine ⟨fun pins s σ H D I h => ?_⟩
  refine wpAny_execs_cons (thn (h1.run pins s σ H (onlyE D) I h) fun f s1 q => ?_)
  cases f with
  | next =>
    obtain ⟨_, _, _, z⟩ := q
    exact z.elim
  | brk => exact q
  | cont => exact q
  | ret u => exact q
theorem fss_first (h1 : FS X W st g) : FSs X W (st :: rest) (sFirst g) := impSs (pss_first h1) fun D σ H ⟨H0, A0, A, ρ, o, P⟩ => ⟨H0, A0, A, ρ, o, by
  unfold sFirst at P
  cases hg : g ρ with
  | nx _ => rw [hg] at P; exact P.elim
  | rt _ => rw [hg] at P; exact P
  | bk _ => rw [hg] at P; exact P
  | ct _ => rw [hg] at P; exact P
  | ex _ _ _ => rw [hg] at P; exact P
  | no => rw [hg] at P; exact P⟩
end
end G

namespace G
open PySem PySem.Spec PyProof.Rows L2
/-- what the meaning of a text with errors as data is told of -/
structure CP where
  P : Program
  K : Frg
  mg : MgT
  cs : Nat → Addr
def csOf (l : List Addr) (i : Nat) : Addr := l.getD i 0
structure XG (P : Program) (K : Frg) (mg : MgT) (x : String) (C : Addr) : Prop where
  gC : mg (Str.ofString x) = some (.ref C)
  tx : ∃ D1 fI, PySem.AeX.Txt P K mg C D1 fI
  is : IsC K C
theorem XG.xc {P : Program} {K : Frg} {mg : MgT} {x : String} {C : Addr} (h : XG P K mg x C) : XC P K mg (C : Int) := by
  obtain ⟨D1, fI, T⟩ := h.tx
  exact ⟨C, D1, fI, rfl, T, h.is⟩
theorem fe_errX {X : Cx} {W : WX} {C : Addr} {a : Expr} {x : Str} {p pos : Pos} {k : Nat} {f : En → R D} {c : String} (hx : x = Str.ofString c) (h : XG X.prog X.K X.mg c C) (hr : Room k X.A) (ha : FE X W a f) (hg : Gl X x) (hdb : (x == ("__debug__" : Str)) = false := by decide)
    (he : starEach (a :: []) X.env = (false, eval a X.env) :: starEach [] X.env := by rfl) (hpl : (backTo pos (starEach [] X.env)).any (·.1) = false := by rfl) :
    FE X W (.Call (.Name x p) [a] [] pos) (cErr C f) := by
  obtain ⟨D1, fI, T⟩ := h.tx
  exact fe_err T (by rw [hx]; exact h.gC) hr ha hg hdb he hpl
inductive Kinds (K : Frg) (t : Value) : List (Value × Bool) → Prop
  | nil : Kinds K t []
  | cons {u : Value} {b : Bool} {l : List (Value × Bool)} (h : PySem.W.kitOne K t u = some b) (r : Kinds K t l) : Kinds K t ((u, b) :: l)
theorem Kinds.at {K : Frg} {t : Value} : ∀ {l : List (Value × Bool)}, Kinds K t l → ∀ {i : Nat} {q : Value × Bool}, l[i]? = some q → PySem.W.kitOne K t q.1 = some q.2
  | _, .nil, _, _, e => by simp at e
  | _, .cons h r, 0, _, e => by simp at e; subst e; exact h
  | _, .cons h r, i + 1, _, e => r.at (by simpa using e)
theorem xg_of {P : Program} {K : Frg} {mg : MgT} {h : Heap} {x : String} {C : Addr} {cd : ClassData} (X : K.In h) (G0 : h.Ns mainGlobals mg) (a : PySem.W.nsIn K mainGlobals (Str.ofString x) = some (some (.ref C))) (b : PySem.W.clsIn K C = some cd)
    (c : PySem.W.findIn K (.ref C) "__class__" = some (some (.builtin "object.__class__"))) (d : PySem.W.specialIn K (.builtin "object.__class__") "__get__" = some (some (.builtin "getset_descriptor.__get__"))) (e : PySem.W.takesIn K (.builtin "object.__class__") = some true)
    (f : PySem.W.mroIn K C (.type "object") = some true) (z : ErrG P K mg (Str.ofString x)) : XG P K mg x C := by
  have g := PySem.W.mg_of X G0 a
  obtain ⟨C', D1, fI, g', T⟩ := z
  cases g.symm.trans g'
  exact ⟨g, ⟨D1, fI, T⟩, ⟨by rw [b]; rfl, c, d, e, f⟩⟩
theorem CallS.imp {P : Program} {w : World} {K : Frg} {mg : MgT} {base : Heap} {k : Nat} {x : Str} {F F' : List Int → R D} (h : CallS P w K mg base k x F) (i : ∀ ns, F' ns = .no ∨ F' ns = F ns) : CallS P w K mg base k x F' := by
  obtain ⟨f, fd, p, hf, r⟩ := h
  refine ⟨f, fd, p, ⟨fun A outer s H args u a ns Av Q E hr hg e0 hb r rd ha q => ?_⟩, r⟩
  rcases i ns with e | e
  · rw [e] at q
    exact q.elim
  · rw [e] at q
    exact hf.run A outer s H args u a ns Av Q E hr hg e0 hb r rd ha q
end G

namespace G
open PySem PySem.Spec PyProof.Rows L2
/-- a comprehension over data told by xs -/
theorem lcL_gen {α : Type} {tgt : TgF} {p : En → R Bool} {f : En → R D} {ρ : En} {enc : α → D} (ρ' : α → En) (keep : α → Bool) (val : α → D) : ∀ {xs : List α}, (∀ x ∈ xs, tgt (enc x) ρ = some (ρ' x) ∧ p (ρ' x) = .ok (keep x) ∧ (keep x = true → f (ρ' x) = .ok (val x))) →
    lcL tgt p f ρ (xs.map enc) = some ((xs.filter keep).map val)
  | [], _ => rfl
  | x :: xs, h => by
    obtain ⟨h1, h2, h3⟩ := h x List.mem_cons_self
    have ih := lcL_gen ρ' keep val (xs := xs) fun y hy => h y (List.mem_cons_of_mem _ hy)
    rw [List.map_cons]
    unfold lcL
    rw [h1, Option.bind_some, h2]
    simp only [noX, Option.bind_some]
    cases hk : keep x with
    | false => simp [hk, ih]
    | true => simp [hk, ih, h3 hk]
theorem lcL_map {α : Type} {tgt : TgF} {f : En → R D} {ρ : En} {enc : α → D} (ρ' : α → En) (val : α → D) {xs : List α} (h : ∀ x ∈ xs, tgt (enc x) ρ = some (ρ' x) ∧ f (ρ' x) = .ok (val x)) : lcL tgt cTrue f ρ (xs.map enc) = some (xs.map val) := by
  rw [lcL_gen ρ' (fun _ => true) val fun x hx => ⟨(h x hx).1, rfl, fun _ => (h x hx).2⟩]
  rw [List.filter_eq_self.mpr fun _ _ => rfl]
theorem intsOf_int {α : Type} (f : α → Int) (xs : List α) : intsOf (xs.map fun x => .int (f x)) = some (xs.map f) := by
  have := intsOf_map (xs.map f)
  rw [List.map_map] at this
  exact this
section
variable {c : En → R Bool} {body : En → SR} {n : Nat} {ρ ρ2 : En} {d : D}
theorem whileL_step (h1 : c ρ = .ok true) (h2 : body ρ = .nx ρ2) : whileL c body (n + 1) ρ = whileL c body n ρ2 := by
  conv => lhs; unfold whileL
  rw [h1]
  simp only [SR.of, if_true, h2]
theorem whileL_stop (h1 : c ρ = .ok false) : whileL c body (n + 1) ρ = .nx ρ := by
  unfold whileL
  rw [h1]
  rfl
theorem whileL_ret (h1 : c ρ = .ok true) (h2 : body ρ = .rt d) : whileL c body (n + 1) ρ = .rt d := by
  unfold whileL
  rw [h1]
  simp only [SR.of, if_true, h2]
end
theorem fdiv_nat (a b : Nat) : (a : Int).fdiv (b : Int) = ((a / b : Nat) : Int) := by
  rw [Int.fdiv_eq_ediv_of_nonneg _ (Int.natCast_nonneg b)]
  rfl
theorem fmod_nat (a b : Nat) : (a : Int).fmod (b : Int) = ((a % b : Nat) : Int) := by
  rw [Int.fmod_eq_emod_of_nonneg _ (Int.natCast_nonneg b)]
  rfl
theorem fdiv_pos (a : Int) {b : Int} (h : 0 < b) : a.fdiv b = a / b := Int.fdiv_eq_ediv_of_nonneg _ (Int.le_of_lt h)
theorem fmod_pos (a : Int) {b : Int} (h : 0 < b) : a.fmod b = a % b := Int.fmod_eq_emod_of_nonneg _ (Int.le_of_lt h)
@[simp] theorem dDiv_nat2 (a : Nat) : dDiv (.int (a : Int)) (.int 2) = some (.int ((a / 2 : Nat) : Int)) := by
  show (if (2 : Int) ≠ 0 ∧ (2 : Int).natAbs.log2 < 9000 then some (PyData.int ((a : Int).fdiv 2)) else none) = _
  rw [if_pos (by decide)]
  exact congrArg (fun z => some (PyData.int z)) (fdiv_nat a 2)
@[simp] theorem dMod_nat2 (a : Nat) : dMod (.int (a : Int)) (.int 2) = some (.int ((a % 2 : Nat) : Int)) := by
  show (if (2 : Int) ≠ 0 then some (PyData.int ((a : Int).fmod 2)) else none) = _
  rw [if_pos (by decide)]
  exact congrArg (fun z => some (PyData.int z)) (fmod_nat a 2)
@[simp] theorem dAdd_int (a b : Int) : dAdd (.int a) (.int b) = some (.int (a + b)) := rfl
@[simp] theorem dLt_int (a b : Int) : dLt (.int a) (.int b) = some (.bool (decide (a < b))) := rfl
theorem dMod_pos (a : Int) {b : Int} (h : 0 < b) : dMod (.int a) (.int b) = some (.int (a % b)) := by
  show (if b ≠ 0 then some (PyData.int (a.fmod b)) else none) = _
  rw [if_pos (by omega), fmod_pos a h]
theorem dDiv_pos (a : Int) {b : Int} (h : 0 < b) (h2 : b.natAbs.log2 < 9000) : dDiv (.int a) (.int b) = some (.int (a / b)) := by
  show (if b ≠ 0 ∧ b.natAbs.log2 < 9000 then some (PyData.int (a.fdiv b)) else none) = _
  rw [if_pos ⟨by omega, h2⟩, fdiv_pos a h]
theorem dEq_int (a b : Int) : dEq (.int a) (.int b) = some (.bool (decide (a = b))) := by
  unfold dEq
  rw [if_pos ⟨rfl, rfl⟩]
  simp [PyData.eqv]
  rfl
theorem dNe_int (a b : Int) : dNe (.int a) (.int b) = some (.bool (decide (a ≠ b))) := by
  unfold dNe
  rw [if_pos ⟨rfl, rfl⟩]
  simp [PyData.eqv]
  rfl
end G

namespace C
/-! ### the best share, in plain words -/
/-- a within b, digit by digit; n digits are looked at -/
def subF : Nat → Nat → Nat → Bool
  | 0, _, _ => true
  | n + 1, a, b => if a = 0 then true else if b % 2 < a % 2 then false else subF n (a / 2) (b / 2)
def sub (a b : Nat) : Bool := subF 99 a b
def parts (w : Nat) : List Nat := (List.range (w + 1)).filter fun p => sub p w
theorem subF_zero (n b : Nat) : subF n 0 b = true := by cases n <;> simp [subF]
theorem zero_part (w : Nat) : 0 ∈ parts w := by
  simp [parts, sub, subF_zero]
theorem part_le {p w : Nat} (h : p ∈ parts w) : p ≤ w := by
  have := (List.mem_filter.mp h).1
  rw [List.mem_range] at this
  omega
abbrev Tbl := List Int
def at_ (t : Tbl) (p : Nat) : Int := t.getD p 0
/-- the greatest of a list that is not empty -/
def top (l : List Int) : Int := l.foldl max (l.headD 0)
theorem le_foldl (l : List Int) : ∀ a : Int, a ≤ l.foldl max a ∧ ∀ x ∈ l, x ≤ l.foldl max a := by
  induction l with
  | nil => intro a; exact ⟨Int.le_refl a, fun x h => absurd h List.not_mem_nil⟩
  | cons y l ih =>
    intro a
    rw [List.foldl_cons]
    obtain ⟨h1, h2⟩ := ih (max a y)
    refine ⟨by omega, fun x hx => ?_⟩
    rcases List.mem_cons.mp hx with rfl | hx
    · omega
    · exact h2 x hx
theorem foldl_in (l : List Int) : ∀ a : Int, l.foldl max a = a ∨ l.foldl max a ∈ l := by
  induction l with
  | nil => intro a; exact .inl rfl
  | cons y l ih =>
    intro a
    rw [List.foldl_cons]
    rcases ih (max a y) with h | h
    · rcases Int.le_total a y with q | q
      · right; rw [h, Int.max_eq_right q]; exact List.mem_cons_self
      · left; rw [h, Int.max_eq_left q]
    · exact .inr (List.mem_cons_of_mem _ h)
theorem top_ge {l : List Int} {x : Int} (h : x ∈ l) : x ≤ top l := (le_foldl l _).2 x h
theorem top_mem {l : List Int} (h : l ≠ []) : top l ∈ l := by
  cases l with
  | nil => exact absurd rfl h
  | cons a l =>
    rcases foldl_in (a :: l) a with e | e
    · show (a :: l).foldl max a ∈ _; rw [e]; exact List.mem_cons_self
    · exact e
theorem top_eq {l : List Int} {m : Int} (h1 : m ∈ l) (h2 : ∀ x ∈ l, x ≤ m) : top l = m := by
  have h3 : top l ∈ l := top_mem (by intro z; rw [z] at h1; cases h1)
  have := h2 _ h3
  have := top_ge h1
  omega
/-- the most that tables make of parted goods within w -/
def best : List Tbl → Nat → Int
  | [], _ => 0
  | t :: ts, w => top ((parts w).map fun p => at_ t p + best ts (w - p))
/-- all ways to part goods within w, in the order of numbers -/
def seqs : Nat → Nat → List (List Nat)
  | 0, _ => [[]]
  | n + 1, w => (parts w).flatMap fun p => (seqs n (w - p)).map fun s => p :: s
def sumOf : List Tbl → List Nat → Int
  | t :: ts, p :: s => at_ t p + sumOf ts s
  | _, _ => 0
/-- the first way that makes the most -/
def pick : List Tbl → Nat → List Nat
  | [], _ => []
  | t :: ts, w => match (parts w).find? fun p => at_ t p + best ts (w - p) == best (t :: ts) w with
    | some p => p :: pick ts (w - p)
    | none => []
theorem best_ge {t : Tbl} {ts : List Tbl} {w p : Nat} (h : p ∈ parts w) : at_ t p + best ts (w - p) ≤ best (t :: ts) w := top_ge (List.mem_map.mpr ⟨p, h, rfl⟩)
theorem best_at (t : Tbl) (ts : List Tbl) (w : Nat) : ∃ p ∈ parts w, at_ t p + best ts (w - p) = best (t :: ts) w := by
  have : best (t :: ts) w ∈ (parts w).map fun p => at_ t p + best ts (w - p) := top_mem (by
    intro z
    rw [List.map_eq_nil_iff] at z
    have := zero_part w
    rw [z] at this
    cases this)
  exact List.mem_map.mp this
theorem sum_le : ∀ (ts : List Tbl) (w : Nat) (s : List Nat), s ∈ seqs ts.length w → sumOf ts s ≤ best ts w
  | [], _, s, h => by
    simp [seqs] at h
    subst h
    simp [sumOf, best]
  | t :: ts, w, s, h => by
    simp only [seqs, List.length_cons, List.mem_flatMap, List.mem_map] at h
    obtain ⟨p, hp, r, hr, rfl⟩ := h
    have h1 := sum_le ts (w - p) r hr
    have h2 := best_ge (t := t) (ts := ts) hp
    simp only [sumOf]
    omega
theorem pick_some (t : Tbl) (ts : List Tbl) (w : Nat) : ∃ p ∈ parts w, at_ t p + best ts (w - p) = best (t :: ts) w ∧ pick (t :: ts) w = p :: pick ts (w - p) ∧ (parts w).find? (fun p => at_ t p + best ts (w - p) == best (t :: ts) w) = some p := by
  obtain ⟨p0, h0, e0⟩ := best_at t ts w
  cases hf : (parts w).find? fun p => at_ t p + best ts (w - p) == best (t :: ts) w with
  | none => exact absurd (List.find?_eq_none.mp hf p0 h0) (by simp [e0])
  | some p => exact ⟨p, List.mem_of_find?_eq_some hf, by have := List.find?_some hf; simpa using this, by simp [pick, hf], rfl⟩
theorem pick_in : ∀ (ts : List Tbl) (w : Nat), pick ts w ∈ seqs ts.length w ∧ sumOf ts (pick ts w) = best ts w
  | [], _ => by simp [pick, seqs, sumOf, best]
  | t :: ts, w => by
    obtain ⟨p, hp, e, e2, _⟩ := pick_some t ts w
    obtain ⟨h1, h2⟩ := pick_in ts (w - p)
    rw [e2]
    refine ⟨?_, by simp only [sumOf]; omega⟩
    simp only [seqs, List.length_cons, List.mem_flatMap, List.mem_map]
    exact ⟨p, hp, _, h1, rfl⟩
/-- one list of numbers ahead of another of as many -/
def lexLt : List Nat → List Nat → Bool
  | a :: r, b :: s => decide (a < b) || (decide (a = b) && lexLt r s)
  | _, _ => false
theorem parts_sorted (w : Nat) : (parts w).Pairwise (· < ·) := (List.pairwise_lt_range).filter _
theorem find_first {w : Nat} {f : Nat → Bool} : ∀ {l : List Nat} {p q : Nat}, l.Pairwise (· < ·) → l.find? f = some p → q ∈ l → f q = true → p ≤ q
  | a :: l, p, q, h, hf, hq, hfq => by
    rw [List.pairwise_cons] at h
    rw [List.find?_cons] at hf
    split at hf
    · cases hf
      rcases List.mem_cons.mp hq with rfl | hq
      · exact Nat.le_refl _
      · exact Nat.le_of_lt (h.1 q hq)
    · rename_i hn
      rcases List.mem_cons.mp hq with rfl | hq
      · rw [hfq] at hn; cases hn
      · exact find_first (w := w) h.2 hf hq hfq
/-- any other way that makes the most comes later -/
theorem pick_first : ∀ (ts : List Tbl) (w : Nat) (s : List Nat), s ∈ seqs ts.length w → sumOf ts s = best ts w → s ≠ pick ts w → lexLt (pick ts w) s = true
  | [], _, s, h, _, hn => by
    simp [seqs] at h
    subst h
    exact absurd rfl hn
  | t :: ts, w, s, h, e, hn => by
    simp only [seqs, List.length_cons, List.mem_flatMap, List.mem_map] at h
    obtain ⟨q, hq, r, hr, rfl⟩ := h
    obtain ⟨p, hp, e1, e2, e3⟩ := pick_some t ts w
    have hs := sum_le ts (w - q) r hr
    have hb := best_ge (t := t) (ts := ts) hq
    simp only [sumOf] at e
    have hle : p ≤ q := find_first (w := w) (parts_sorted w) e3 hq (by simp; omega)
    rw [e2] at hn ⊢
    rcases Nat.lt_or_eq_of_le hle with h | h
    · simp [lexLt, h]
    · subst h
      have : r ≠ pick ts (w - p) := fun z => hn (by rw [z])
      have ih := pick_first ts (w - p) r hr (by omega) this
      simp [lexLt, ih]
end C

namespace G
open PySem PySem.Spec PyProof.Rows L2
abbrev nD (n : Nat) : D := .int n
abbrev tD (t : List Int) : D := .list (t.map PyData.int)
theorem rangeD_nat (n : Nat) : rangeD 0 n = (List.range n).map nD := by
  unfold rangeD
  simp
theorem dRange1_nat {n : Nat} (h : n < 2 ^ 62) : dRange1 [.int (n : Int)] = some ((List.range n).map nD) := by
  have e : dRange1 [.int (n : Int)] = (if -(2 ^ 62) ≤ (n : Int) ∧ (n : Int) < 2 ^ 62 then some (rangeD 0 (n : Int).toNat) else none) := by simp only [dRange1]
  rw [e, if_pos (by omega), ← rangeD_nat]
  simp
@[simp] theorem atI_nat {α : Type} (xs : List α) (i : Nat) : atI xs (i : Int) = xs[i]? := by
  unfold atI ixN
  by_cases h : i < xs.length
  · simp [h]
  · simp [h]
@[simp] theorem dIx_nat (xs : List D) (i : Nat) : dIx (.list xs) (.int (i : Int)) = xs[i]? := atI_nat xs i
@[simp] theorem dIxT_nat (xs : List D) (i : Nat) : dIx (.tuple xs) (.int (i : Int)) = xs[i]? := atI_nat xs i
@[simp] theorem dIx_zero (xs : List D) : dIx (.list xs) (.int 0) = xs[0]? := atI_nat xs 0
@[simp] theorem dIxT_zero (xs : List D) : dIx (.tuple xs) (.int 0) = xs[0]? := atI_nat xs 0
@[simp] theorem dIx_one (xs : List D) : dIx (.list xs) (.int 1) = xs[1]? := atI_nat xs 1
@[simp] theorem dIxT_one (xs : List D) : dIx (.tuple xs) (.int 1) = xs[1]? := atI_nat xs 1
@[simp] theorem dIx_last (xs : List D) : dIx (.list xs) (.int (-1)) = xs.getLast? := by
  show atI xs (-1) = _
  unfold atI ixN
  cases xs with
  | nil => simp
  | cons a r =>
    have h1 : ¬ (0 : Int) ≤ -1 := by omega
    have h2 : -(((a :: r).length : Nat) : Int) ≤ -1 := by rw [List.length_cons]; omega
    have h3 : ((-1 : Int) + (((a :: r).length : Nat) : Int)).toNat = r.length := by rw [List.length_cons]; omega
    rw [if_neg h1, if_pos h2, h3, List.getLast?_eq_getElem?]
    simp
theorem getD_tbl {t : List Int} {i : Nat} (h : i < t.length) : t[i]? = some (C.at_ t i) := by
  unfold C.at_
  simp [h]
theorem dMax_top {xs : List Int} (h : xs ≠ []) : dMax [tD xs] = some (.int (C.top xs)) := by
  cases xs with
  | nil => exact absurd rfl h
  | cons a r =>
    show ((intsOf ((a :: r).map PyData.int)).bind maxI).map PyData.int = _
    rw [intsOf_map]
    simp [maxI, C.top]
theorem dLen_list (xs : List D) : dLen [.list xs] = some (.int (xs.length : Nat)) := by rfl
theorem cLc_of {vs : List Nat} {l : En → R (List D)} {tgt : TgF} {p : En → R Bool} {f : En → R D} {ρ : En} {ds ys : List D} (h1 : l ρ = .ok ds) (h2 : lcL tgt p f (wipeE ρ vs) ds = some ys) (h3 : ys.length ≤ sizeLine) : cLc vs l tgt p f ρ = .ok (.list ys) := by
  unfold cLc
  rw [h1]
  show ofO ((lcL tgt p f (wipeE ρ vs) ds).bind fun ys => if ys.length ≤ sizeLine then some (PyData.list ys) else none) = _
  rw [h2, Option.bind_some, if_pos h3]
  rfl
theorem sRet_of {f : En → R D} {ρ : En} {d : D} (h : f (disown ρ) = .ok d) : (sRet f ρ).out = .ok d := by
  unfold sRet
  rw [h]
  rfl
theorem runF_of {n p : Nat} {g : En → SR} {ds : List D} {r : R D} (h0 : ds.length = p) (h : (g (enter n p ds)).out = r) : runF n p g ds = r := by
  unfold runF
  rw [if_pos h0, h]
theorem cCall1_of {df : List D → Option D} {f : En → R D} {ρ : En} {d e : D} (h : f ρ = .ok d) (h2 : df [d] = some e) : cCall df (cCons f cNil) ρ = .ok e := by
  simp only [cCall, cCons, cNil, h, R.bind, h2, ofO]
theorem cCallF_of {F : List D → R D} {l : En → R (List D)} {ρ : En} {ds : List D} {r : R D} (h : l ρ = .ok ds) (h2 : F ds = r) : cCallF F l ρ = r := by
  simp only [cCallF, h, R.bind, h2]
theorem sSeq_nx {g1 g2 : En → SR} {ρ ρ1 : En} {r : SR} (h1 : g1 ρ = .nx ρ1) (h2 : g2 ρ1 = r) : sSeq g1 g2 ρ = r := by
  unfold sSeq
  rw [h1]
  exact h2
theorem sSet_of {i : Nat} {f : En → R D} {ρ : En} {d : D} (h : f ρ = .ok d) : sSet i f ρ = .nx (ρ.set i (some (.v d))) := by
  unfold sSet
  rw [h]
  rfl
theorem sSetN_of {i : Nat} {t : Bool} {f : En → R D} {ρ : En} {d : D} (h : f ρ = .ok d) : sSetN i t f ρ = .nx (ρ.set i (some (.own t d))) := by
  unfold sSetN
  rw [h]
  rfl
theorem sAppend_of {i : Nat} {f : En → R D} {ρ : En} {t : Bool} {ds : List D} {d : D} (ho : ρ[i]? = some (some (.own t (.list ds)))) (h : f ρ = .ok d) (hz : ds.length < sizeLine) : sAppend i f ρ = .nx (ρ.set i (some (.own t (.list (ds ++ [d]))))) := by
  unfold sAppend ownL
  rw [ho]
  show SR.of (f ρ) ρ _ = _
  rw [h]
  show (if ds.length < sizeLine then _ else _) = _
  rw [if_pos hz]
theorem sFor_of {tgt : TgF} {l : En → R (List D)} {body : En → SR} {ρ : En} {ds : List D} {r : SR} (h : l ρ = .ok ds) (h2 : loopL tgt body ds ρ = r) : sFor tgt l body ρ = r := by
  unfold sFor
  rw [h]
  exact h2
theorem loopL_nx {tgt : TgF} {body : En → SR} {d : D} {ds : List D} {ρ ρ1 ρ2 : En} {r : SR} (h1 : tgt d ρ = some ρ1) (h2 : body ρ1 = .nx ρ2) (h3 : loopL tgt body ds ρ2 = r) : loopL tgt body (d :: ds) ρ = r := by
  conv => lhs; unfold loopL
  rw [h1]
  simp only [h2]
  exact h3
theorem loopL_rt {tgt : TgF} {body : En → SR} {d e : D} {ds : List D} {ρ ρ1 : En} (h1 : tgt d ρ = some ρ1) (h2 : body ρ1 = .rt e) : loopL tgt body (d :: ds) ρ = .rt e := by
  conv => lhs; unfold loopL
  rw [h1]
  simp only [h2]
theorem loopL_nil {tgt : TgF} {body : En → SR} {ρ : En} : loopL tgt body [] ρ = .nx ρ := rfl
theorem sIf_true {c : En → R Bool} {g1 g2 : En → SR} {ρ : En} {r : SR} (h : c ρ = .ok true) (h2 : g1 ρ = r) : sIf c g1 g2 ρ = r := by
  unfold sIf
  rw [h]
  simpa [SR.of] using h2
theorem sIf_false {c : En → R Bool} {g1 g2 : En → SR} {ρ : En} {r : SR} (h : c ρ = .ok false) (h2 : g2 ρ = r) : sIf c g1 g2 ρ = r := by
  unfold sIf
  rw [h]
  simpa [SR.of] using h2
theorem cCallF1_of {F : List D → R D} {f : En → R D} {ρ : En} {d : D} {r : R D} (h : f ρ = .ok d) (h2 : F [d] = r) : cCallF F (cCons f cNil) ρ = r := by
  simp only [cCallF, cCons, cNil, h, R.bind, h2]
theorem cItems_of {f : En → R D} {ρ : En} {ds : List D} (h : f ρ = .ok (.list ds)) : cItems f ρ = .ok ds := by
  simp only [cItems, h, R.bind, itemsOf, ofO]
theorem cItemsT_of {f : En → R D} {ρ : En} {ds : List D} (h : f ρ = .ok (.tuple ds)) : cItems f ρ = .ok ds := by
  simp only [cItems, h, R.bind, itemsOf, ofO]
theorem cIter1_of {df : List D → Option (List D)} {f : En → R D} {ρ : En} {d : D} {e : List D} (h : f ρ = .ok d) (h2 : df [d] = some e) : cIter df (cCons f cNil) ρ = .ok e := by
  simp only [cIter, cCons, cNil, h, R.bind, h2, ofO]
theorem cBin_of {dop : D → D → Option D} {f g : En → R D} {ρ : En} {a b e : D} (h1 : f ρ = .ok a) (h2 : g ρ = .ok b) (h : dop a b = some e) : cBin dop f g ρ = .ok e := by
  simp only [cBin, h1, h2, R.bind, h, ofO]
end G

namespace K00
open PySem PySem.Spec PyProof.Rows L2 G
def g_is_bundle : En → SR :=
  (sRet (cAndV (cBin dGt (cCall dLen (cCons (cVarB 0) cNil)) (cK (.int 0))) (cAndV (cBin dEq (cCall dListOf (cCons (cVarB 0) cNil)) (cUn dSortSet (cVarB 0))) (cAndV (cBin dGe (cBin dIx (cVarB 0) (cK (.int 0))) (cK (.int 0))) (cBin dLt (cBin dIx (cVarB 0) (cUn dNeg (cK (.int 1)))) (cVarB 1))))))
def f_is_bundle : List D → R D := runF 2 2 g_is_bundle
def g_inner : En → SR :=
  (sSeq (sIf (cBinT dEq (cBin dIx (cVarB 0) (cK (.int 0))) (cK (.str "one")))
    (sRet (cTup cNil))
    sNext)
    (sRet (cIf (cBinT dEq (cBin dIx (cVarB 0) (cK (.int 0))) (cK (.str "up"))) (cBin dIx (cVarB 0) (cK (.int 2))) (cBin dIx (cVarB 0) (cK (.int 1))))))
def f_inner : List D → R D := runF 1 1 g_inner
def g_check_goods : En → SR :=
  (sIf (cNot (cChainT dLe dLe (cK (.int 1)) (cVarB 0) (cK (.int 6))))
    (sRaise "OutOfRange" (cVar 0))
    sNext)
def f_check_goods : List D → R D := runF 1 1 g_check_goods
def g_l_draws : En → SR :=
  (sSeq (sSetN 1 false (cList cNil))
    (sSeq (sFor (gN 2) (cIter dRange1 (cCons (cCall dMin2 (cCons (cK (.int 63)) (cCons (cLenS 0) cNil))) cNil))
    (sSeq (sSet 3 (cCall dAbs (cCons (cIxS 0 (cVar 2)) cNil)))
    (sIf (cBinT dGe (cVarB 3) (cBin dPow (cK (.int 10)) (cK (.int 18))))
    (sFor (gN 4) (cIter dRange1 (cCons (cK (.int 60)) cNil))
    (sIf (cBinT dGt (cVarB 3) (cK (.int 0)))
    (sSeq (sAppend 1 (cBin dMod (cCall dInt (cCons (cVarB 3) cNil)) (cK (.int 65536))))
    (sSet 3 (cBin dDiv (cVarB 3) (cK (.int 65536)))))
    sNext))
    (sSeq (sSet 5 (cBin dMod (cCall dInt (cCons (cBin dAdd (cBin dMul (cVarB 3) (cK (.int 48271))) (cBin dMul (cBin dAdd (cVar 2) (cK (.int 1))) (cK (.int 69621)))) cNil)) (cK (.int 2147483647))))
    (sSeq (sSet 5 (cBin dMod (cCall dInt (cCons (cBin dAdd (cBin dAdd (cBin dMul (cVarB 5) (cK (.int 16807))) (cBin dMul (cK (.int 11)) (cVarB 2))) (cK (.int 5))) cNil)) (cK (.int 2147483629))))
    (sSeq (sAppend 1 (cBin dMod (cCall dInt (cCons (cVarB 5) cNil)) (cK (.int 65536))))
    (sAppend 1 (cBin dMod (cCall dInt (cCons (cBin dDiv (cVarB 5) (cK (.int 65536))) cNil)) (cK (.int 32768))))))))))
    (sRet (cVar 1))))
def f_l_draws : List Int → R D := runS 6 g_l_draws
def g_l_mix : En → SR :=
  (sSeq (sSet 3 (cK (.int 0)))
    (sSeq (sIf (cBinT dGt (cCall dLen (cCons (cVarB 0) cNil)) (cK (.int 0)))
    (sSet 3 (cBin dIx (cVarB 0) (cBin dMod (cCall dInt (cCons (cVarB 1) cNil)) (cCall dLen (cCons (cVarB 0) cNil)))))
    sNext)
    (sSeq (sIf (cBinT dLt (cVarB 1) (cCall dLen (cCons (cVarB 0) cNil)))
    (sRet (cBin dMod (cCall dInt (cCons (cVarB 3) cNil)) (cVarB 2)))
    sNext)
    (sRet (cBin dMod (cCall dInt (cCons (cBin dDiv (cCall dInt (cCons (cBin dAdd (cBin dMul (cVarB 3) (cK (.int 7919))) (cBin dMul (cVarB 1) (cK (.int 104729)))) cNil)) (cK (.int 3))) cNil)) (cVarB 2))))))
def f_l_mix : List D → R D := runF 4 3 g_l_mix
noncomputable def g_l_kinds (c : CP) : En → SR :=
  (sRet (cList (cCons (cIs c.P c.K c.mg (.ref (c.cs 0)) (cVar 0)) (cCons (cIs c.P c.K c.mg (.ref (c.cs 1)) (cVar 0)) (cCons (cIs c.P c.K c.mg (.ref (c.cs 2)) (cVar 0)) (cCons (cIs c.P c.K c.mg (.ref (c.cs 3)) (cVar 0)) (cCons (cIs c.P c.K c.mg (.ref (c.cs 4)) (cVar 0)) (cCons (cIs c.P c.K c.mg (.ref (c.cs 5)) (cVar 0)) (cCons (cIs c.P c.K c.mg (.ref (c.cs 6)) (cVar 0)) (cCons (cIs c.P c.K c.mg (.ref (c.cs 7)) (cVar 0)) (cCons (cIs c.P c.K c.mg (.ref (c.cs 8)) (cVar 0)) (cCons (cIs c.P c.K c.mg (.ref (c.cs 9)) (cVar 0)) (cCons (cIs c.P c.K c.mg (.ref (c.cs 10)) (cVar 0)) (cCons (cIs c.P c.K c.mg (.ref (c.cs 11)) (cVar 0)) (cCons (cIs c.P c.K c.mg (.ref (c.cs 12)) (cVar 0)) (cCons (cIs c.P c.K c.mg (.ref (c.cs 13)) (cVar 0)) (cCons (cIs c.P c.K c.mg (.ref (c.cs 14)) (cVar 0)) (cCons (cIs c.P c.K c.mg (.ref (c.cs 15)) (cVar 0)) (cCons (cIs c.P c.K c.mg (.ref (c.cs 16)) (cVar 0)) (cCons (cIs c.P c.K c.mg (.ref (c.cs 17)) (cVar 0)) (cCons (cIs c.P c.K c.mg (.ref (c.cs 18)) (cVar 0)) (cCons (cIs c.P c.K c.mg (.ref (c.cs 19)) (cVar 0)) (cCons (cIs c.P c.K c.mg (.ref (c.cs 20)) (cVar 0)) (cCons (cIs c.P c.K c.mg (.ref (c.cs 21)) (cVar 0)) (cCons (cIs c.P c.K c.mg (.ref (c.cs 22)) (cVar 0)) (cCons (cIs c.P c.K c.mg (.ref (c.cs 23)) (cVar 0)) (cCons (cIs c.P c.K c.mg (.ref (c.cs 24)) (cVar 0)) (cCons (cIs c.P c.K c.mg (.ref (c.cs 25)) (cVar 0)) (cCons (cIs c.P c.K c.mg (.ref (c.cs 26)) (cVar 0)) cNil)))))))))))))))))))))))))))))
noncomputable def f_l_kinds (c : CP) : List D → R D := runF 1 1 (g_l_kinds c)
noncomputable def g_l_made (c : CP) : En → SR :=
  (sRet (cList (cCons (cErr (c.cs 0) (cBin dAdd (cVar 0) (cK (.int 0)))) (cCons (cErr (c.cs 1) (cBin dAdd (cVar 0) (cK (.int 1)))) (cCons (cErr (c.cs 2) (cBin dAdd (cVar 0) (cK (.int 2)))) (cCons (cErr (c.cs 3) (cBin dAdd (cVar 0) (cK (.int 3)))) (cCons (cErr (c.cs 4) (cBin dAdd (cVar 0) (cK (.int 4)))) (cCons (cErr (c.cs 5) (cBin dAdd (cVar 0) (cK (.int 5)))) (cCons (cErr (c.cs 6) (cBin dAdd (cVar 0) (cK (.int 6)))) (cCons (cErr (c.cs 7) (cBin dAdd (cVar 0) (cK (.int 7)))) (cCons (cErr (c.cs 8) (cBin dAdd (cVar 0) (cK (.int 8)))) (cCons (cErr (c.cs 9) (cBin dAdd (cVar 0) (cK (.int 9)))) (cCons (cErr (c.cs 10) (cBin dAdd (cVar 0) (cK (.int 10)))) (cCons (cErr (c.cs 11) (cBin dAdd (cVar 0) (cK (.int 11)))) (cCons (cErr (c.cs 12) (cBin dAdd (cVar 0) (cK (.int 12)))) (cCons (cErr (c.cs 13) (cBin dAdd (cVar 0) (cK (.int 13)))) (cCons (cErr (c.cs 14) (cBin dAdd (cVar 0) (cK (.int 14)))) (cCons (cErr (c.cs 15) (cBin dAdd (cVar 0) (cK (.int 15)))) (cCons (cErr (c.cs 16) (cBin dAdd (cVar 0) (cK (.int 16)))) (cCons (cErr (c.cs 17) (cBin dAdd (cVar 0) (cK (.int 17)))) (cCons (cErr (c.cs 18) (cBin dAdd (cVar 0) (cK (.int 18)))) (cCons (cErr (c.cs 19) (cBin dAdd (cVar 0) (cK (.int 19)))) (cCons (cErr (c.cs 20) (cBin dAdd (cVar 0) (cK (.int 20)))) (cCons (cErr (c.cs 21) (cBin dAdd (cVar 0) (cK (.int 21)))) (cCons (cErr (c.cs 22) (cBin dAdd (cVar 0) (cK (.int 22)))) (cCons (cErr (c.cs 23) (cBin dAdd (cVar 0) (cK (.int 23)))) (cCons (cErr (c.cs 24) (cBin dAdd (cVar 0) (cK (.int 24)))) (cCons (cErr (c.cs 25) (cBin dAdd (cVar 0) (cK (.int 25)))) (cCons (cErr (c.cs 26) (cBin dAdd (cVar 0) (cK (.int 26)))) cNil)))))))))))))))))))))))))))))
noncomputable def f_l_made (c : CP) : List D → R D := runF 1 1 (g_l_made c)
def g_is_part (F_is_bundle : List D → R D) (F_inner : List D → R D) (F_is_part : List D → R D) : En → SR :=
  (sSeq (sIf (cOr (cBinT dGt (cVarB 2) (cK (.int 5))) (cBinT dNe (cCall dLen (cCons (cVarB 0) cNil)) (cIf (cBinT dIn (cBin dIx (cVarB 0) (cK (.int 0))) (cK (.tuple [(.str "xor"), (.str "or")]))) (cK (.int 2)) (cK (.int 3)))))
    (sRet (cK (.bool false)))
    sNext)
    (sSeq (sIf (cBinT dEq (cBin dIx (cVarB 0) (cK (.int 0))) (cK (.str "one")))
    (sRet (cAndV (cCallF F_is_bundle (cCons (cBin dIx (cVarB 0) (cK (.int 1))) (cCons (cVar 1) cNil))) (cChain dLe dLe (cK (.int 0)) (cBin dIx (cVarB 0) (cK (.int 2))) (cK (.int 1000000)))))
    sNext)
    (sSeq (sIf (cAnd (cBinT dNotIn (cBin dIx (cVarB 0) (cK (.int 0))) (cK (.tuple [(.str "xor"), (.str "or")]))) (cOr (cBinT dNe (cBin dIx (cVarB 0) (cK (.int 0))) (cK (.str "up"))) (cNot (cChainT dLe dLe (cK (.int 1)) (cBin dIx (cVarB 0) (cK (.int 1))) (cK (.int 9))))))
    (sRet (cK (.bool false)))
    sNext)
    (sRet (cAndV (cBin dGt (cCall dLen (cCons (cCallF F_inner (cCons (cVar 0) cNil)) cNil)) (cK (.int 0))) (cCall dAll (cCons (cLc [3] (cItems (cCallF F_inner (cCons (cVar 0) cNil))) (gN 3) cTrue (cCallF F_is_part (cCons (cVar 3) (cCons (cVar 1) (cCons (cBin dAdd (cVar 2) (cK (.int 1))) cNil))))) cNil)))))))
def f_is_part_n : Nat → List D → R D
  | 0 => fun _ => .no
  | n + 1 => runF 4 3 (g_is_part f_is_bundle f_inner (f_is_part_n n))
def f_is_part : List D → R D := f_is_part_n 8
def g_parts (F_inner : List D → R D) (F_parts : List D → R D) : En → SR :=
  (sRet (cBin dAdd (cK (.int 1)) (cCall dSum (cCons (cLc [1] (cItems (cCallF F_inner (cCons (cVar 0) cNil))) (gN 1) cTrue (cCallF F_parts (cCons (cVar 1) cNil))) cNil))))
def f_parts_n : Nat → List D → R D
  | 0 => fun _ => .no
  | n + 1 => runF 2 1 (g_parts f_inner (f_parts_n n))
def f_parts : List D → R D := f_parts_n 8
def g_is_tree (F_is_part : List D → R D) (F_parts : List D → R D) : En → SR :=
  (sRet (cAndV (cCallF F_is_part (cCons (cVar 0) (cCons (cVar 1) (cCons (cK (.int 1)) cNil)))) (cBin dLe (cCallF F_parts (cCons (cVar 0) cNil)) (cK (.int 40)))))
def f_is_tree : List D → R D := runF 2 2 (g_is_tree f_is_part f_parts)
def g_check_tree (F_check_goods : List D → R D) (F_is_tree : List D → R D) : En → SR :=
  (sSeq (sExpr (cCallF F_check_goods (cCons (cVar 1) cNil)))
    (sIf (cNot (cTest (cCallF F_is_tree (cCons (cVar 0) (cCons (cVar 1) cNil)))))
    (sRaise "BadTree" (cK (.int 0)))
    sNext))
def f_check_tree : List D → R D := runF 2 2 (g_check_tree f_check_goods f_is_tree)
noncomputable def g_l_raised (c : CP) (F_check_tree : List D → R D) : En → SR :=
  (sSeq (sTryRet (sExpr (cCallF F_check_tree (cCons (cTup (cCons (cK (.str "one")) (cCons (cTup (cCons (cK (.int 0)) cNil)) (cCons (cK (.int 1)) cNil)))) (cCons (cVar 0) cNil)))) [("OutOfRange", c.cs 0), ("BadTree", c.cs 2)])
    (sRet (cK .none)))
noncomputable def f_l_raised (c : CP) : List D → R D := runF 2 1 (g_l_raised c f_check_tree)
noncomputable def g_law (c : CP) (F_l_draws : List Int → R D) (F_l_mix : List D → R D) (F_l_made : List D → R D) (F_l_kinds : List D → R D) (F_l_raised : List D → R D) : En → SR :=
  (sSeq (sSet 1 (cCallS 0 F_l_draws))
    (sSeq (sSet 2 (cBin dSub (cCallF F_l_mix (cCons (cVar 1) (cCons (cK (.int 0)) (cCons (cK (.int 60000)) cNil)))) (cK (.int 30000))))
    (sSeq (sSet 3 (cCallF F_l_made (cCons (cVar 2) cNil)))
    (sSeq (sFor (gN 4) (cIter dRange1 (cCons (cCall dLen (cCons (cVarB 3) cNil)) cNil))
    (sSeq (sIf (cOr (cNot (cTest (cIs c.P c.K c.mg (.ref (c.cs 27)) (cBin dIx (cVarB 3) (cVar 4))))) (cOr (cNot (cTest (cIs c.P c.K c.mg (.type "ValueError") (cBin dIx (cVarB 3) (cVar 4))))) (cBinT dNe (cAt c.P c.K c.mg (cBin dIx (cVarB 3) (cVar 4))) (cBin dAdd (cVar 2) (cVar 4)))))
    (sRet (cK (.bool false)))
    sNext)
    (sSeq (sIf (cBinT dNe (cCallF F_l_kinds (cCons (cBin dIx (cVarB 3) (cVar 4)) cNil)) (cLc [8] (cIter dRange1 (cCons (cCall dLen (cCons (cVarB 3) cNil)) cNil)) (gN 8) cTrue (cBin dEq (cVarB 8) (cVarB 4))))
    (sRet (cK (.bool false)))
    sNext)
    (sIf (cOr (cTest (cIs c.P c.K c.mg (.type "bool") (cAt c.P c.K c.mg (cBin dIx (cVarB 3) (cVar 4))))) (cNot (cTest (cIs c.P c.K c.mg (.type "int") (cAt c.P c.K c.mg (cBin dIx (cVarB 3) (cVar 4)))))))
    (sRet (cK (.bool false)))
    sNext))))
    (sSeq (sSet 5 (cErr (c.cs 27) (cVar 2)))
    (sSeq (sIf (cOr (cBinT dNe (cAt c.P c.K c.mg (cVar 5)) (cVarB 2)) (cOr (cBinT dIn (cK (.bool true)) (cCallF F_l_kinds (cCons (cVar 5) cNil))) (cNot (cTest (cIs c.P c.K c.mg (.type "ValueError") (cVar 5))))))
    (sRet (cK (.bool false)))
    sNext)
    (sSeq (sSet 6 (cBin dIx (cList (cCons (cK (.int 0)) (cCons (cK (.int 7)) (cCons (cK (.int 99)) (cCons (cUn dNeg (cK (.int 30))) cNil))))) (cCallF F_l_mix (cCons (cVar 1) (cCons (cK (.int 1)) (cCons (cK (.int 4)) cNil))))))
    (sSeq (sSet 7 (cCallF F_l_raised (cCons (cVar 6) cNil)))
    (sRet (cAndV (cBin dIsNot (cVarB 7) (cK .none)) (cAndV (cBin dEq (cAt c.P c.K c.mg (cVar 7)) (cVarB 6)) (cBin dEq (cCallF F_l_kinds (cCons (cVar 7) cNil)) (cLc [8] (cIter dRange1 (cCons (cCall dLen (cCons (cVarB 3) cNil)) cNil)) (gN 8) cTrue (cBin dEq (cVarB 8) (cK (.int 0))))))))))))))))
noncomputable def f_law (c : CP) : List Int → R D := runS 9 (g_law c f_l_draws f_l_mix (f_l_made c) (f_l_kinds c) (f_l_raised c))
end K00

namespace K00
end K00

namespace K00
open PySem PySem.Spec PyProof.Rows L2 G
theorem cBinT_of {dop : D → D → Option D} {f g : En → R D} {ρ : En} {a b : D} {e : Bool} (h1 : f ρ = .ok a) (h2 : g ρ = .ok b) (h : dop a b = some (.bool e)) : cBinT dop f g ρ = .ok e := by
  simp only [cBinT, cBin, h1, h2, R.bind, h, ofO, cTest]
  rfl
end K00

namespace K00
open PySem PySem.Spec PyProof.Rows L2 G
theorem getD_mem {α : Type} {l : List α} {k : Nat} {z : α} (h : k < l.length) : l.getD k z ∈ l := by
  rw [List.getD_eq_getElem?_getD, List.getElem?_eq_getElem h]
  exact List.getElem_mem h
section
end
end K00

namespace K00
open PySem PySem.Spec PyProof.Rows L2 G
theorem cTup2_of {f g : En → R D} {ρ : En} {a b : D} (h1 : f ρ = .ok a) (h2 : g ρ = .ok b) : cTup (cCons f (cCons g cNil)) ρ = .ok (.tuple [a, b]) := by
  simp only [cTup, cCons, cNil, h1, h2, R.bind]
  rw [if_pos (by simp; unfold sizeLine; omega)]
theorem cUn_of {dop : D → Option D} {f : En → R D} {ρ : En} {a e : D} (h1 : f ρ = .ok a) (h : dop a = some e) : cUn dop f ρ = .ok e := by
  simp only [cUn, h1, R.bind, h, ofO]
section
end
section
end
end K00

namespace K00
open PySem PySem.Spec PyProof.Rows L2 G
theorem cCons_of {f : En → R D} {l : En → R (List D)} {ρ : En} {d : D} {ds : List D} (h : f ρ = .ok d) (h2 : l ρ = .ok ds) : cCons f l ρ = .ok (d :: ds) := by
  simp only [cCons, h, h2, R.bind]
theorem sAsg_of {t : TgF} {f : En → R D} {ρ ρ1 : En} {d : D} (h : f ρ = .ok d) (h2 : t d ρ = some ρ1) : sAsg t f ρ = .nx ρ1 := by
  unfold sAsg
  rw [h]
  simp only [SR.of, h2]
section
end
end K00

namespace K00
open PySem PySem.Spec PyProof.Rows L2 G
theorem sPar_of {i j : Nat} {l : En → R (List D)} {ρ : En} {d e : D} (h : l ρ = .ok [d, e]) : sPar i j l ρ = .nx ((ρ.set i (some (.v d))).set j (some (.v e))) := by
  unfold sPar
  rw [h]
  rfl
theorem sWhile_of {n : Nat} {c : En → R Bool} {body : En → SR} {ρ : En} {r : SR} (h : whileL c body n ρ = r) : sWhile n c body ρ = r := h
theorem cList2_of {f g : En → R D} {ρ : En} {a b : D} (h1 : f ρ = .ok a) (h2 : g ρ = .ok b) : cList (cCons f (cCons g cNil)) ρ = .ok (.list [a, b]) := by
  simp only [cList, cCons, cNil, h1, h2, R.bind]
  rw [if_pos (by simp; unfold sizeLine; omega)]
theorem half_mod {a b : Nat} (hb : 0 < b) (h : 0 < a % b) {k : Nat} (hk : b < 2 ^ (k + 1)) : b % (a % b) < 2 ^ k := by
  have h1 : a % b < b := Nat.mod_lt _ hb
  have h2 : b % (a % b) < a % b := Nat.mod_lt _ h
  have h3 : b % (a % b) + a % b ≤ b := by
    have e := Nat.div_add_mod b (a % b)
    have : 1 ≤ b / (a % b) := (Nat.le_div_iff_mul_le h).mpr (by omega)
    have := Nat.mul_le_mul_left (a % b) this
    omega
  rw [Nat.pow_succ] at hk
  omega
/-- Euclid's way, of any body that steps so -/
theorem euclid {c : En → R Bool} {body : En → SR} {st : Nat → Nat → En} (hc : ∀ a b, c (st a b) = .ok (decide (0 < b))) (hb : ∀ a b, 0 < b → body (st a b) = .nx (st b (a % b))) : ∀ (k a b m : Nat), b < 2 ^ k → 2 * k ≤ m → whileL c body (m + 1) (st a b) = .nx (st (Nat.gcd a b) 0)
  | 0, a, b, m, h, _ => by
    obtain rfl : b = 0 := by simpa using h
    rw [whileL_stop ((hc a 0).trans (by rfl)), Nat.gcd_zero_right]
  | k + 1, a, b, m, h, hm => by
    by_cases h0 : 0 < b
    · obtain ⟨m1, rfl⟩ : ∃ m1, m = m1 + 1 := ⟨m - 1, by omega⟩
      rw [whileL_step ((hc a b).trans (by rw [decide_eq_true h0])) (hb a b h0)]
      by_cases h1 : 0 < a % b
      · obtain ⟨m2, rfl⟩ : ∃ m2, m1 = m2 + 1 := ⟨m1 - 1, by omega⟩
        rw [whileL_step ((hc b (a % b)).trans (by rw [decide_eq_true h1])) (hb b (a % b) h1), euclid hc hb k (a % b) (b % (a % b)) m2 (half_mod h0 h1 h) (by omega)]
        rw [Nat.gcd_comm (a % b), ← Nat.gcd_rec, Nat.gcd_comm]
        congr 2
        rw [Nat.gcd_comm a b, Nat.gcd_rec b a, Nat.gcd_comm (a % b) b]
      · have h2 : a % b = 0 := by omega
        rw [h2, whileL_stop ((hc b 0).trans (by rfl))]
        rw [Nat.gcd_comm, Nat.gcd_rec, h2, Nat.gcd_zero_left]
    · obtain rfl : b = 0 := by omega
      rw [whileL_stop ((hc a 0).trans (by rfl)), Nat.gcd_zero_right]
end K00

namespace K00
open PySem PySem.Spec PyProof.Rows L2 G
def Big (i : Int) : Prop := i.natAbs < 2 ^ 200
theorem Big.log {i : Int} (h : Big i) : i.natAbs.log2 ≤ 200 := by
  by_cases h0 : i.natAbs = 0
  · rw [h0]; decide
  · exact Nat.le_of_lt ((Nat.log2_lt h0).mpr h)
theorem dMul_ok {a b : Int} (ha : Big a) (hb : Big b) : dMul (.int a) (.int b) = some (.int (a * b)) := by
  have h1 := ha.log
  have h2 := hb.log
  have : dMul (.int a) (.int b) = if a.natAbs.log2 + b.natAbs.log2 < 1000000 then some (.int (a * b)) else none := by simp only [dMul]
  rw [this, if_pos (by omega)]
theorem div_ok (a : Int) {k : Nat} (h : 0 < k) (h2 : k < 2 ^ 60) : dDiv (.int a) (nD k) = some (.int (a / k)) := dDiv_pos a (by omega) (by
  have : (k : Int).natAbs = k := rfl
  rw [this]
  have := (Nat.log2_lt (n := k) (k := 60) (by omega)).mpr h2
  omega)
end K00

namespace K00
open PySem PySem.Spec PyProof.Rows L2 G
theorem loopL_inv {P : En → Prop} {tgt : TgF} {body : En → SR} : ∀ {ds : List D} {ρ : En}, (∀ d ∈ ds, ∀ ρ, P ρ → ∃ ρ1 ρ2, tgt d ρ = some ρ1 ∧ body ρ1 = .nx ρ2 ∧ P ρ2) → P ρ → ∃ ρ2, loopL tgt body ds ρ = .nx ρ2 ∧ P ρ2
  | [], ρ, _, h => ⟨ρ, rfl, h⟩
  | d :: ds, ρ, hd, h => by
    obtain ⟨ρ1, ρ2, e1, e2, h2⟩ := hd d List.mem_cons_self ρ h
    obtain ⟨ρ3, e3, h3⟩ := loopL_inv (P := P) (fun a ha => hd a (List.mem_cons_of_mem _ ha)) h2
    exact ⟨ρ3, loopL_nx e1 e2 e3, h3⟩
theorem cOr_ff {p q : En → R Bool} {ρ : En} (h1 : p ρ = .ok false) (h2 : q ρ = .ok false) : cOr p q ρ = .ok false := by
  simp only [cOr, h1, R.bind, h2]
  rfl
theorem cNot_of {p : En → R Bool} {ρ : En} {b : Bool} (h : p ρ = .ok b) : cNot p ρ = .ok (!b) := by
  simp only [cNot, h, R.bind]
theorem cChainT_of {f g h : En → R D} {ρ : En} {a b c : Int} (h1 : f ρ = .ok (.int a)) (h2 : g ρ = .ok (.int b)) (h3 : h ρ = .ok (.int c)) (l1 : a ≤ b) (l2 : b ≤ c) : cChainT dLe dLe f g h ρ = .ok true := by
  simp only [cChainT, h1, h2, h3, R.bind, dLe, decide_eq_true l1, decide_eq_true l2]
  rfl
theorem cChain_of {f g h : En → R D} {ρ : En} {a b c : Int} (h1 : f ρ = .ok (.int a)) (h2 : g ρ = .ok (.int b)) (h3 : h ρ = .ok (.int c)) (l1 : a ≤ b) (l2 : b ≤ c) : cChain dLe dLe f g h ρ = .ok (.bool true) := by
  simp only [cChain, h1, h2, h3, R.bind, dLe, decide_eq_true l1, decide_eq_true l2]
  rfl
theorem cAndV_tt {f g : En → R D} {ρ : En} {r : R D} (h1 : f ρ = .ok (.bool true)) (h2 : g ρ = r) : cAndV f g ρ = r := by
  simp only [cAndV, cTest, h1, R.bind, toB, ofO]
  exact h2
end K00

namespace K00
open PySem PySem.Spec PyProof.Rows L2 G
theorem small_big {i : Int} (h1 : -10 ^ 12 ≤ i) (h2 : i ≤ 10 ^ 12) : Big i := by
  have e : (10 : Int) ^ 12 = 1000000000000 := by decide
  unfold Big
  have : (1000000000000 : Nat) < 2 ^ 200 := by decide
  omega
theorem sum_bound {l : List Int} {c : Int} (h : ∀ x ∈ l, -c ≤ x ∧ x ≤ c) : -(c * l.length) ≤ l.sum ∧ l.sum ≤ c * l.length := by
  induction l with
  | nil => simp
  | cons a r ih =>
    have h1 := h a List.mem_cons_self
    have h2 := ih fun x hx => h x (List.mem_cons_of_mem _ hx)
    rw [List.sum_cons, List.length_cons]
    have : c * ((r.length + 1 : Nat) : Int) = c * r.length + c := by rw [Int.natCast_add, Int.mul_add]; simp
    rw [this]
    omega
/-! ### rows of a Good -/
end K00

namespace K00
open PySem PySem.Spec PyProof.Rows L2 G
theorem sExpr_of {f : En → R D} {ρ : En} {d : D} (h : f ρ = .ok d) : sExpr f ρ = .nx ρ := by
  unfold sExpr
  rw [h]
  rfl
section
end
end K00

namespace K00
open PySem PySem.Spec PyProof.Rows L2 G
theorem cList_of {l : En → R (List D)} {ρ : En} {ds : List D} (h : l ρ = .ok ds) (hz : ds.length ≤ sizeLine) : cList l ρ = .ok (.list ds) := by
  unfold cList
  rw [h]
  show (if ds.length ≤ sizeLine then R.ok (PyData.list ds) else R.no) = _
  rw [if_pos hz]
section
end
end K00

namespace K00
open PySem PySem.Spec PyProof.Rows L2 G
theorem sSeq_rt {g1 g2 : En → SR} {ρ : En} {d : D} (h1 : g1 ρ = .rt d) : sSeq g1 g2 ρ = .rt d := by
  unfold sSeq
  rw [h1]
theorem sRetK {d : D} {ρ : En} : sRet (cK d) ρ = .rt d := rfl
section
theorem out_rt {d : D} : SR.out (.rt d) = .ok d := rfl
end
end K00

namespace K00
open PySem PySem.Spec PyProof.Rows L2 G
theorem loopL_cnt {P : Nat → En → Prop} {tgt : TgF} {body : En → SR} {q : Nat} : ∀ {ds : List D} {c : Nat} {ρ : En}, (∀ d ∈ ds, ∀ c' ρ, c' ≤ c + q * ds.length → P c' ρ → ∃ ρ1 ρ2, tgt d ρ = some ρ1 ∧ body ρ1 = .nx ρ2 ∧ P (c' + q) ρ2) → P c ρ → ∃ ρ2, loopL tgt body ds ρ = .nx ρ2 ∧ P (c + q * ds.length) ρ2
  | [], c, ρ, _, h => ⟨ρ, rfl, by simpa using h⟩
  | d :: ds, c, ρ, hd, h => by
    obtain ⟨ρ1, ρ2, e1, e2, h2⟩ := hd d List.mem_cons_self c ρ (by omega) h
    have hq : q * (d :: ds).length = q + q * ds.length := by rw [List.length_cons, Nat.mul_succ]; omega
    obtain ⟨ρ3, e3, h3⟩ := loopL_cnt (P := P) (q := q) (c := c + q) (fun a ha c' ρ hc => hd a (List.mem_cons_of_mem _ ha) c' ρ (by omega)) h2
    exact ⟨ρ3, loopL_nx e1 e2 e3, by rw [hq, ← Nat.add_assoc]; exact h3⟩
theorem mod_nat (a m : Nat) (hm : 0 < m) : dMod (nD a) (.int (m : Int)) = some (nD (a % m)) := by
  rw [dMod_pos _ (by omega)]
  simp
theorem div_nat (a m : Nat) (hm : 0 < m) (h : m < 2 ^ 60) : dDiv (nD a) (.int (m : Int)) = some (nD (a / m)) := by
  rw [div_ok (a : Int) hm h]
  simp
theorem big_nat {a : Nat} (h : a < 2 ^ 190) : Big (a : Int) := by
  unfold Big
  have : (2 : Nat) ^ 190 < 2 ^ 200 := by decide
  show a < _
  omega
theorem mul_nat (a b : Nat) (ha : a < 2 ^ 190) (hb : b < 2 ^ 190) : dMul (nD a) (nD b) = some (nD (a * b)) := by
  rw [dMul_ok (big_nat ha) (big_nat hb)]
  simp
theorem add_nat (a b : Nat) : dAdd (nD a) (nD b) = some (nD (a + b)) := by
  show some (PyData.int ((a : Int) + b)) = _
  simp
theorem lt_app {ds : List Nat} {b q : Nat} (h : ∀ d ∈ ds, d < q) (hb : b < q) : ∀ d ∈ ds ++ [b], d < q := fun d hd => by
  rcases List.mem_append.mp hd with hd | hd
  · exact h d hd
  · simp at hd
    subst hd
    exact hb
/-- the draws so far -/
def Dr (ns : List Int) (c : Nat) (ρ : En) : Prop := ∃ (ds : List Nat) (x y z u : Option Sl), (ds.length ≤ c ∧ ∀ d ∈ ds, d < 65536) ∧ ρ = [some (.sc ns), some (.own false (.list (ds.map nD))), x, y, z, u]
def DrR (ns : List Int) (K : D) (c : Nat) (ρ : En) : Prop := ∃ (ds : List Nat) (r : Nat) (z u : Option Sl), (ds.length ≤ c ∧ ∀ d ∈ ds, d < 65536) ∧ ρ = [some (.sc ns), some (.own false (.list (ds.map nD))), some (.v K), some (.v (nD r)), z, u]
abbrev dr_i : En → SR := (sIf (cBinT dGt (cVarB 3) (cK (.int 0)))
    (sSeq (sAppend 1 (cBin dMod (cCall dInt (cCons (cVarB 3) cNil)) (cK (.int 65536))))
    (sSet 3 (cBin dDiv (cVarB 3) (cK (.int 65536)))))
    sNext)
theorem dr_turns (ns : List Int) (K : D) {c : Nat} (hc : c ≤ 10000) {ρ : En} (h : DrR ns K c ρ) : ∃ ρ2, sFor (gN 4) (cIter dRange1 (cCons (cK (.int 60)) cNil)) dr_i ρ = .nx ρ2 ∧ DrR ns K (c + 60) ρ2 := by
  obtain ⟨ρ2, e, h2⟩ := loopL_cnt (P := DrR ns K) (q := 1) (tgt := gN 4) (body := dr_i) (ds := (List.range 60).map nD) (c := c) (ρ := ρ) (fun d hd c' ρ hc' hρ => by
    obtain ⟨ds, r, z, u, hl, rfl⟩ := hρ
    rw [List.length_map, List.length_range] at hc'
    by_cases hr : 0 < r
    · refine ⟨_, _, rfl, sIf_true (cBinT_of (a := nD r) (b := .int 0) rfl rfl (by show some (PyData.bool (decide ((0 : Int) < r))) = _; rw [decide_eq_true (by omega)])) (sSeq_nx (sAppend_of (t := false) (ds := ds.map nD) (d := nD (r % 65536)) rfl (cBin_of (a := nD r) (cCall1_of (d := nD r) rfl rfl) rfl (mod_nat r 65536 (by omega))) (by rw [List.length_map]; unfold sizeLine; omega)) (sSet_of (d := nD (r / 65536)) (cBin_of (a := nD r) rfl rfl (div_nat r 65536 (by omega) (by omega))))), ?_⟩
      exact ⟨ds ++ [r % 65536], r / 65536, _, _, ⟨by simp; omega, lt_app hl.2 (Nat.mod_lt _ (by omega))⟩, by rw [List.map_append]; rfl⟩
    · refine ⟨_, _, rfl, sIf_false (cBinT_of (a := nD r) (b := .int 0) rfl rfl (by show some (PyData.bool (decide ((0 : Int) < r))) = _; rw [decide_eq_false (by omega)])) rfl, ?_⟩
      exact ⟨ds, r, _, _, ⟨by omega, hl.2⟩, rfl⟩) h
  rw [List.length_map, List.length_range] at h2
  exact ⟨ρ2, sFor_of (cIter1_of (d := nD 60) rfl (dRange1_nat (by omega))) e, by simpa using h2⟩
abbrev dr_s : En → SR := (sSeq (sSet 5 (cBin dMod (cCall dInt (cCons (cBin dAdd (cBin dMul (cVarB 3) (cK (.int 48271))) (cBin dMul (cBin dAdd (cVar 2) (cK (.int 1))) (cK (.int 69621)))) cNil)) (cK (.int 2147483647))))
    (sSeq (sSet 5 (cBin dMod (cCall dInt (cCons (cBin dAdd (cBin dAdd (cBin dMul (cVarB 5) (cK (.int 16807))) (cBin dMul (cK (.int 11)) (cVarB 2))) (cK (.int 5))) cNil)) (cK (.int 2147483629))))
    (sSeq (sAppend 1 (cBin dMod (cCall dInt (cCons (cVarB 5) cNil)) (cK (.int 65536))))
    (sAppend 1 (cBin dMod (cCall dInt (cCons (cBin dDiv (cVarB 5) (cK (.int 65536))) cNil)) (cK (.int 32768)))))))
theorem dr_stir (ns : List Int) {c k : Nat} (hc : c ≤ 10000) (hk : k < 100) {ds : List Nat} {r : Nat} (hr : r < 10 ^ 18) {z u : Option Sl} (hl : ds.length ≤ c ∧ ∀ d ∈ ds, d < 65536) : ∃ ρ2, dr_s [some (.sc ns), some (.own false (.list (ds.map nD))), some (.v (nD k)), some (.v (nD r)), z, u] = .nx ρ2 ∧ Dr ns (c + 60) ρ2 := by
  have p18 : (10 : Nat) ^ 18 < 2 ^ 60 := by decide
  have p60 : (2 : Nat) ^ 60 < 2 ^ 190 := by decide
  have m31 : (2147483647 : Nat) < 2 ^ 60 := by decide
  let a := (r * 48271 + (k + 1) * 69621) % 2147483647
  let b := (a * 16807 + 11 * k + 5) % 2147483629
  have ha : a < 2147483647 := Nat.mod_lt _ (by omega)
  refine ⟨_, sSeq_nx (sSet_of (d := nD a) (cBin_of (a := nD (r * 48271 + (k + 1) * 69621)) (cCall1_of (d := nD (r * 48271 + (k + 1) * 69621)) (cBin_of (cBin_of (a := nD r) (b := nD 48271) rfl rfl (mul_nat _ _ (by omega) (by omega))) (cBin_of (a := nD (k + 1)) (b := nD 69621) (cBin_of (a := nD k) (b := nD 1) rfl rfl (add_nat _ _)) rfl (mul_nat _ _ (by omega) (by omega))) (add_nat _ _)) rfl) rfl (mod_nat _ 2147483647 (by omega))))
    (sSeq_nx (sSet_of (d := nD b) (cBin_of (a := nD (a * 16807 + 11 * k + 5)) (cCall1_of (d := nD (a * 16807 + 11 * k + 5)) (cBin_of (a := nD (a * 16807 + 11 * k)) (b := nD 5) (cBin_of (cBin_of (a := nD a) (b := nD 16807) rfl rfl (mul_nat _ _ (by omega) (by omega))) (cBin_of (a := nD 11) (b := nD k) rfl rfl (mul_nat _ _ (by omega) (by omega))) (add_nat _ _)) rfl (add_nat _ _)) rfl) rfl (mod_nat _ 2147483629 (by omega))))
    (sSeq_nx (sAppend_of (t := false) (ds := ds.map nD) (d := nD (b % 65536)) rfl (cBin_of (a := nD b) (cCall1_of (d := nD b) rfl rfl) rfl (mod_nat _ 65536 (by omega))) (by rw [List.length_map]; unfold sizeLine; omega))
    (sAppend_of (t := false) (ds := ds.map nD ++ [nD (b % 65536)]) (d := nD (b / 65536 % 32768)) rfl (cBin_of (a := nD (b / 65536)) (cCall1_of (d := nD (b / 65536)) (cBin_of (a := nD b) rfl rfl (div_nat _ 65536 (by omega) (by omega))) rfl) rfl (mod_nat _ 32768 (by omega))) (by rw [List.length_append, List.length_map]; unfold sizeLine; simp; omega)))), ?_⟩
  exact ⟨ds ++ [b % 65536] ++ [b / 65536 % 32768], _, _, _, _, ⟨by simp; omega, lt_app (lt_app hl.2 (Nat.mod_lt _ (by omega))) (Nat.lt_trans (Nat.mod_lt _ (by omega)) (by omega))⟩, by rw [List.map_append, List.map_append]; rfl⟩
end K00

namespace K00
open PySem PySem.Spec PyProof.Rows L2 G
theorem pow18 : dPow (.int 10) (.int 18) = some (nD (10 ^ 18)) := by kernel_rfl
abbrev dr_o : En → SR := (sSeq (sSet 3 (cCall dAbs (cCons (cIxS 0 (cVar 2)) cNil)))
    (sIf (cBinT dGe (cVarB 3) (cBin dPow (cK (.int 10)) (cK (.int 18))))
    (sFor (gN 4) (cIter dRange1 (cCons (cK (.int 60)) cNil)) dr_i)
    dr_s))
theorem dr_step (ns : List Int) {c k : Nat} (hc : c ≤ 10000) (hk : k < ns.length) (hn : ns.length ≤ 63) {ρ : En} (h : Dr ns c ρ) : ∃ ρ1 ρ2, gN 2 (nD k) ρ = some ρ1 ∧ dr_o ρ1 = .nx ρ2 ∧ Dr ns (c + 60) ρ2 := by
  obtain ⟨ds, x, y, z, u, hl, rfl⟩ := h
  have q : cCall dAbs (cCons (cIxS 0 (cVar 2)) cNil) [some (.sc ns), some (.own false (.list (ds.map nD))), some (.v (nD k)), y, z, u] = .ok (nD (ns.getD k 0).natAbs) := by
    refine cCall1_of (d := .int (ns.getD k 0)) ?_ rfl
    show ofO ((atI ns (k : Int)).map PyData.int) = _
    rw [G.atI_nat, List.getD_eq_getElem?_getD, List.getElem?_eq_getElem hk]
    rfl
  by_cases hb : (10 : Nat) ^ 18 ≤ (ns.getD k 0).natAbs
  · obtain ⟨ρ2, e, ds2, r2, z2, u2, h2, rfl⟩ := dr_turns ns (nD k) hc (ρ := [some (.sc ns), some (.own false (.list (ds.map nD))), some (.v (nD k)), some (.v (nD (ns.getD k 0).natAbs)), z, u]) ⟨ds, _, _, _, hl, rfl⟩
    refine ⟨_, _, rfl, sSeq_nx (sSet_of q) (sIf_true (cBinT_of (a := nD (ns.getD k 0).natAbs) rfl (cBin_of rfl rfl pow18) ?_) e), ds2, _, _, _, _, h2, rfl⟩
    show some (PyData.bool (decide (((10 ^ 18 : Nat) : Int) ≤ ((ns.getD k 0).natAbs : Int)))) = _
    rw [decide_eq_true (Int.ofNat_le.mpr hb)]
  · obtain ⟨ρ2, e, h2⟩ := dr_stir ns (c := c) (k := k) hc (by omega) (ds := ds) (r := (ns.getD k 0).natAbs) (by omega) (z := z) (u := u) hl
    refine ⟨_, ρ2, rfl, sSeq_nx (sSet_of q) (sIf_false (cBinT_of (a := nD (ns.getD k 0).natAbs) rfl (cBin_of rfl rfl pow18) ?_) e), h2⟩
    show some (PyData.bool (decide (((10 ^ 18 : Nat) : Int) ≤ ((ns.getD k 0).natAbs : Int)))) = _
    rw [decide_eq_false (fun z => hb (Int.ofNat_le.mp z))]
theorem draws_eq (ns : List Int) (hn : ns.length ≤ 63) : ∃ ds : List Nat, (ds.length ≤ 10000 ∧ ∀ d ∈ ds, d < 65536) ∧ f_l_draws ns = .ok (.list (ds.map nD)) := by
  obtain ⟨ρ2, e, h⟩ := loopL_cnt (P := Dr ns) (q := 60) (tgt := gN 2) (body := dr_o) (ds := (List.range ns.length).map nD) (c := 0) (ρ := [some (.sc ns), some (.own false (.list (([] : List Nat).map nD))), none, none, none, none]) (fun d hd c' ρ hc hρ => by
    obtain ⟨k, hk, rfl⟩ := List.mem_map.mp hd
    rw [List.mem_range] at hk
    rw [List.length_map, List.length_range] at hc
    exact dr_step ns (by omega) hk hn hρ) ⟨[], _, _, _, _, by simp, rfl⟩
  rw [List.length_map, List.length_range] at h
  obtain ⟨ds, x, y, z, u, hl, rfl⟩ := h
  refine ⟨ds, ⟨by omega, hl.2⟩, ?_⟩
  unfold f_l_draws g_l_draws runS
  have q : cIter dRange1 (cCons (cCall dMin2 (cCons (cK (.int 63)) (cCons (cLenS 0) cNil))) cNil) [some (.sc ns), some (.own false (.list [])), none, none, none, none] = .ok ((List.range ns.length).map nD) := by
    refine cIter1_of (d := nD ns.length) ?_ (dRange1_nat (by omega))
    show ofO (some (PyData.int (min (63 : Int) (ns.length : Nat)))) = _
    rw [Int.min_eq_right (by omega)]
    rfl
  have e9 := sSeq_nx (g2 := sSeq (sFor (gN 2) (cIter dRange1 (cCons (cCall dMin2 (cCons (cK (.int 63)) (cCons (cLenS 0) cNil))) cNil)) dr_o) (sRet (cVar 1))) (ρ := some (.sc ns) :: List.replicate 5 none) (sSetN_of (i := 1) (t := false) (f := cList cNil) (d := .list []) rfl) (sSeq_nx (sFor_of q e) rfl)
  exact (congrArg SR.out e9).trans (sRet_of rfl)
end K00

namespace K00
open PySem PySem.Spec PyProof.Rows L2 G
structure Draws (ds : List Nat) : Prop where
  few : ds.length ≤ 10000
  low : ∀ d ∈ ds, d < 65536
def cellOf (ds : List Nat) (k : Nat) : Nat := ds.getD (k % ds.length) 0
def mixOf (ds : List Nat) (k m : Nat) : Nat := if k < ds.length then cellOf ds k % m else (cellOf ds k * 7919 + k * 104729) / 3 % m
theorem mix_lt (ds : List Nat) (k : Nat) {m : Nat} (hm : 0 < m) : mixOf ds k m < m := by
  unfold mixOf
  split <;> exact Nat.mod_lt _ hm
theorem cell_lt {ds : List Nat} (h : Draws ds) (k : Nat) : cellOf ds k < 65536 := by
  unfold cellOf
  by_cases h0 : ds.length = 0
  · rw [List.length_eq_zero_iff.mp h0]; simp
  · exact h.low _ (getD_mem (Nat.mod_lt _ (by omega)))
theorem mix_eq {ds : List Nat} (h : Draws ds) {k m : Nat} (hk : k < 100000) (hm : 0 < m) : f_l_mix [.list (ds.map nD), nD k, nD m] = .ok (nD (mixOf ds k m)) := by
  have hc := cell_lt h k
  have p : (10000000000 : Nat) < 2 ^ 190 := by decide
  have ql : ∀ x, cCall dLen (cCons (cVarB 0) cNil) [some (.v (.list (ds.map nD))), some (.v (nD k)), some (.v (nD m)), x] = .ok (nD ds.length) := fun x => cCall1_of (d := .list (ds.map nD)) rfl (by rw [dLen_list, List.length_map])
  have e1 : sIf (cBinT dGt (cCall dLen (cCons (cVarB 0) cNil)) (cK (.int 0))) (sSet 3 (cBin dIx (cVarB 0) (cBin dMod (cCall dInt (cCons (cVarB 1) cNil)) (cCall dLen (cCons (cVarB 0) cNil))))) sNext [some (.v (.list (ds.map nD))), some (.v (nD k)), some (.v (nD m)), some (.v (.int 0))] = .nx [some (.v (.list (ds.map nD))), some (.v (nD k)), some (.v (nD m)), some (.v (nD (cellOf ds k)))] := by
    by_cases h0 : 0 < ds.length
    · refine sIf_true (cBinT_of (ql _) rfl (by show some (PyData.bool (decide ((0 : Int) < ds.length))) = _; rw [decide_eq_true (by omega)])) ((sSet_of (d := nD (cellOf ds k)) (cBin_of (a := .list (ds.map nD)) (b := nD (k % ds.length)) rfl (cBin_of (a := nD k) (cCall1_of (d := nD k) rfl rfl) (ql _) (mod_nat k ds.length h0)) ?_)).trans rfl)
      rw [dIx_nat, List.getElem?_map]
      unfold cellOf
      rw [List.getD_eq_getElem?_getD, List.getElem?_eq_getElem (Nat.mod_lt _ h0)]
      rfl
    · have hz : ds = [] := List.length_eq_zero_iff.mp (by omega)
      subst hz
      exact sIf_false (cBinT_of (ql _) rfl (by rfl)) (by simp [cellOf, sNext])
  unfold f_l_mix g_l_mix
  refine runF_of rfl ?_
  by_cases hl : k < ds.length
  · have e2 : sIf (cBinT dLt (cVarB 1) (cCall dLen (cCons (cVarB 0) cNil))) (sRet (cBin dMod (cCall dInt (cCons (cVarB 3) cNil)) (cVarB 2))) sNext [some (.v (.list (ds.map nD))), some (.v (nD k)), some (.v (nD m)), some (.v (nD (cellOf ds k)))] = .rt (nD (cellOf ds k % m)) := by
      refine sIf_true (cBinT_of (a := nD k) rfl (ql _) (by show some (PyData.bool (decide ((k : Int) < ds.length))) = _; rw [decide_eq_true (by omega)])) ?_
      have q : cBin dMod (cCall dInt (cCons (cVarB 3) cNil)) (cVarB 2) (disown [some (.v (.list (ds.map nD))), some (.v (nD k)), some (.v (nD m)), some (.v (nD (cellOf ds k)))]) = .ok (nD (cellOf ds k % m)) := cBin_of (a := nD (cellOf ds k)) (b := nD m) (cCall1_of (d := nD (cellOf ds k)) rfl rfl) rfl (mod_nat _ m hm)
      unfold sRet
      rw [q]
      rfl
    refine (congrArg SR.out (sSeq_nx (sSet_of (d := .int 0) rfl) (sSeq_nx e1 (sSeq_rt e2)))).trans ?_
    rw [out_rt, mixOf, if_pos hl]
  · have e2 : sIf (cBinT dLt (cVarB 1) (cCall dLen (cCons (cVarB 0) cNil))) (sRet (cBin dMod (cCall dInt (cCons (cVarB 3) cNil)) (cVarB 2))) sNext [some (.v (.list (ds.map nD))), some (.v (nD k)), some (.v (nD m)), some (.v (nD (cellOf ds k)))] = .nx [some (.v (.list (ds.map nD))), some (.v (nD k)), some (.v (nD m)), some (.v (nD (cellOf ds k)))] :=
      sIf_false (cBinT_of (a := nD k) rfl (ql _) (by show some (PyData.bool (decide ((k : Int) < ds.length))) = _; rw [decide_eq_false (by omega)])) rfl
    refine (congrArg SR.out (sSeq_nx (sSet_of (d := .int 0) rfl) (sSeq_nx e1 (sSeq_nx e2 rfl)))).trans (sRet_of ?_)
    rw [mixOf, if_neg hl]
    refine cBin_of (a := nD ((cellOf ds k * 7919 + k * 104729) / 3)) (b := nD m) (cCall1_of (d := nD ((cellOf ds k * 7919 + k * 104729) / 3)) (cBin_of (a := nD (cellOf ds k * 7919 + k * 104729)) (cCall1_of (d := nD (cellOf ds k * 7919 + k * 104729)) (cBin_of (cBin_of (a := nD (cellOf ds k)) (b := nD 7919) rfl rfl (mul_nat _ _ (by omega) (by omega))) (cBin_of (a := nD k) (b := nD 104729) rfl rfl (mul_nat _ _ (by omega) (by omega))) (add_nat _ _)) rfl) rfl (div_nat _ 3 (by omega) (by omega))) rfl) rfl (mod_nat _ m hm)
end K00

namespace K00
open PySem PySem.Spec PyProof.Rows L2 G
/-- data whose text can be shown, told by bounds -/
structure Fine (d : D) (dep len : Nat) : Prop where
  lay : d.canLay0 = true
  can : d.showable = true
  dep : d.depth ≤ dep
  len : d.shown.length ≤ len
  ok : PyData.strOk d.shown = true
theorem Fine.mono {d : D} {a b a' b' : Nat} (h : Fine d a b) (h1 : a ≤ a') (h2 : b ≤ b') : Fine d a' b' := ⟨h.lay, h.can, Nat.le_trans h.dep h1, Nat.le_trans h.len h2, h.ok⟩
theorem ok_lit (s : String) : PyData.strOk (Str.ofString s) = true := by
  rw [Str.ofString_eq_toList]
  unfold PyData.strOk
  rw [List.all_toArray, List.all_eq_true]
  intro n hn
  obtain ⟨c, _, rfl⟩ := List.mem_map.mp hn
  exact decide_eq_true (by
    have := c.valid
    unfold UInt32.isValidChar Nat.isValidChar at this
    show c.val.toNat < _
    omega)
theorem ok_app {x y : Str} (hx : PyData.strOk x = true) (hy : PyData.strOk y = true) : PyData.strOk (x ++ y) = true := by
  show (x.cps ++ y.cps).all _ = true
  rw [Array.all_append]
  unfold PyData.strOk at hx hy
  rw [hx, hy]
  rfl
theorem ok_from : ∀ (ts : List Str) (k : Nat) (acc : Str), PyData.strOk acc = true → (∀ t ∈ ts, PyData.strOk t = true) → PyData.strOk (textFrom k acc ts) = true
  | [], _, _, h, _ => h
  | t :: r, k, acc, h, ht => by
    unfold textFrom
    refine ok_from r _ _ (ok_app (ok_app h ?_) (ht t List.mem_cons_self)) fun a ha => ht a (List.mem_cons_of_mem _ ha)
    exact ok_lit _
theorem ok_list {ts : List Str} (h : ∀ t ∈ ts, PyData.strOk t = true) : PyData.strOk (listText ts) = true := ok_app (ok_from _ _ _ (ok_lit _) h) (ok_lit _)
theorem ok_join : ∀ {ts : List Str}, (∀ t ∈ ts, PyData.strOk t = true) → PyData.strOk (Str.join ", " ts) = true
  | [], _ => by simp [Str.join, Str.empty, PyData.strOk]
  | [x], h => h x List.mem_cons_self
  | x :: y :: r, h => ok_app (ok_app (h x List.mem_cons_self) (ok_lit _)) (ok_join fun a ha => h a (List.mem_cons_of_mem _ ha))
theorem ok_tup {ts : List Str} (h : ∀ t ∈ ts, PyData.strOk t = true) : PyData.strOk (tupleText ts) = true := ok_app (ok_app (ok_lit _) (ok_join h)) (ok_lit _)
theorem piled_few {b : Nat} : ∀ {ts : List Str}, (∀ t ∈ ts, t.length ≤ b) → piled ts ≤ ts.length * (b + 2)
  | [], _ => by rw [piled_nil]; omega
  | t :: r, h => by
    have h1 := h t List.mem_cons_self
    have h2 := piled_few (ts := r) fun a ha => h a (List.mem_cons_of_mem _ ha)
    rw [piled_cons, List.length_cons, Nat.succ_mul]
    omega
theorem list_len (ts : List Str) : (listText ts).length ≤ 2 + piled ts := by
  unfold listText
  have e1 : (Str.ofString "]").length = 1 := by rfl
  have e2 : (Str.ofString "[").length = 1 := by rfl
  cases ts with
  | nil => show (Str.ofString "[" ++ Str.ofString "]").length ≤ _; rw [strLen_append]; omega
  | cons t r =>
    rw [strLen_append]
    show (textFrom 1 (Str.ofString "[" ++ Str.ofString "" ++ t) r).length + _ ≤ _
    rw [textFrom_length_pos _ _ _ (by decide), strLen_append, strLen_append, piled_cons]
    have e3 : (Str.ofString "").length = 0 := by rfl
    omega
theorem tup_len (ts : List Str) : (tupleText ts).length ≤ 3 + piled ts := by
  unfold tupleText
  rw [strLen_append, strLen_append]
  have e1 : (Str.ofString "(").length = 1 := by rfl
  have e2 : (Str.ofString (if (ts.length == 1) = true then ",)" else ")")).length ≤ 2 := by split <;> decide
  by_cases h : ts = []
  · subst h
    have e3 : (Str.join ", " ([] : List Str)).length = 0 := by rfl
    omega
  · have := join_length_add ts h
    omega
theorem shown_mem {xs : List D} {t : Str} (h : t ∈ PyData.shownAll xs) : ∃ x ∈ xs, t = x.shown := by
  induction xs with
  | nil => simp [PyData.shownAll] at h
  | cons x r ih =>
    rw [PyData.shownAll] at h
    rcases List.mem_cons.mp h with h | h
    · exact ⟨x, List.mem_cons_self, h⟩
    · obtain ⟨y, hy, e⟩ := ih h
      exact ⟨y, List.mem_cons_of_mem _ hy, e⟩
theorem shown_all_len (xs : List D) : (PyData.shownAll xs).length = xs.length := by
  induction xs with
  | nil => simp [PyData.shownAll]
  | cons x r ih => simp [PyData.shownAll, ih]
theorem all_fine {xs : List D} {dep len : Nat} (h : ∀ x ∈ xs, Fine x dep len) : PyData.canLayAll0 xs = true ∧ PyData.showableAll xs = true ∧ PyData.depthAll xs ≤ dep := by
  induction xs with
  | nil => simp [PyData.canLayAll0, PyData.showableAll, PyData.depthAll]
  | cons x r ih =>
    obtain ⟨h1, h2, h3⟩ := ih fun a ha => h a (List.mem_cons_of_mem _ ha)
    obtain ⟨a1, a2, a3, _, _⟩ := h x List.mem_cons_self
    simp only [PyData.canLayAll0, PyData.showableAll, PyData.depthAll, a1, a2, h1, h2, Bool.and_self, true_and]
    omega
theorem fine_list {xs : List D} {dep len m : Nat} (h : ∀ x ∈ xs, Fine x dep len) (hm : xs.length ≤ m) : Fine (.list xs) (dep + 1) (2 + m * (len + 2)) := by
  obtain ⟨h1, h2, h3⟩ := all_fine h
  refine ⟨by simpa [PyData.canLay0] using h1, by simpa [PyData.showable] using h2, by rw [PyData.depth]; omega, ?_, ?_⟩
  · rw [PyData.shown]
    have e1 := list_len (PyData.shownAll xs)
    have e2 := piled_few (ts := PyData.shownAll xs) (b := len) fun t ht => by obtain ⟨x, hx, rfl⟩ := shown_mem ht; exact (h x hx).len
    rw [shown_all_len] at e2
    have e3 := Nat.mul_le_mul_right (len + 2) hm
    omega
  · rw [PyData.shown]
    exact ok_list fun t ht => by obtain ⟨x, hx, rfl⟩ := shown_mem ht; exact (h x hx).ok
theorem fine_tup {xs : List D} {dep len m : Nat} (h : ∀ x ∈ xs, Fine x dep len) (hm : xs.length ≤ m) : Fine (.tuple xs) (dep + 1) (3 + m * (len + 2)) := by
  obtain ⟨h1, h2, h3⟩ := all_fine h
  refine ⟨by simpa [PyData.canLay0] using h1, by simpa [PyData.showable] using h2, by rw [PyData.depth]; omega, ?_, ?_⟩
  · rw [PyData.shown]
    have e1 := tup_len (PyData.shownAll xs)
    have e2 := piled_few (ts := PyData.shownAll xs) (b := len) fun t ht => by obtain ⟨x, hx, rfl⟩ := shown_mem ht; exact (h x hx).len
    rw [shown_all_len] at e2
    have e3 := Nat.mul_le_mul_right (len + 2) hm
    omega
  · rw [PyData.shown]
    exact ok_tup fun t ht => by obtain ⟨x, hx, rfl⟩ := shown_mem ht; exact (h x hx).ok
theorem fine_int {i : Int} (h : i.natAbs.log2 < 1920) : Fine (.int i) 0 1921 := by
  refine ⟨by simp [PyData.canLay0], by simp [PyData.showable, h], by simp [PyData.depth], ?_, ?_⟩
  · rw [PyData.shown]
    exact PyProof.Rows.int_text_len_1921 h
  · rw [PyData.shown]
    exact ok_lit _
theorem fine_big {i : Int} (h : Big i) : Fine (.int i) 0 1921 := fine_int (by have := h.log; omega)
theorem fine_none : Fine .none 0 1921 := ⟨by simp [PyData.canLay0], by simp [PyData.showable], by simp [PyData.depth], by rw [PyData.shown]; decide, by rw [PyData.shown]; exact ok_lit _⟩
theorem Fine.repr {d : D} {dep len : Nat} (h : Fine d dep len) (h1 : dep ≤ 60) (h2 : len ≤ 16777216) : dRepr d = some (.str d.shown) := by
  unfold dRepr
  rw [if_pos ⟨PyData.hasDict_of_canLay d h.lay, h.can, Nat.le_trans h.dep h1, Nat.le_trans h.len (by unfold sizeLine; omega)⟩]
theorem ne_self {d : D} (h1 : d.canLay0 = true) (h2 : d.depth ≤ 64) : dNe d d = some (.bool false) := by
  have hs : SeqAt.shaped d = true := by unfold SeqAt.shaped; rw [h1, decide_eq_true h2]; rfl
  unfold dNe
  rw [if_pos ⟨hs, hs⟩, SeqAt.eqv_refl d h1]
  rfl
theorem eq_self {d : D} (h1 : d.canLay0 = true) (h2 : d.depth ≤ 64) : dEq d d = some (.bool true) := by
  have hs : SeqAt.shaped d = true := by unfold SeqAt.shaped; rw [h1, decide_eq_true h2]; rfl
  unfold dEq
  rw [if_pos ⟨hs, hs⟩, SeqAt.eqv_refl d h1]
theorem Fine.text {d : D} {dep len : Nat} (h : Fine d dep len) : PyData.canLay0 (.str d.shown) = true ∧ PyData.depth (.str d.shown) ≤ 64 := ⟨by rw [PyData.canLay0]; exact h.ok, by simp [PyData.depth]⟩
end K00

namespace K00
open PySem PySem.Spec PyProof.Rows L2 G
theorem cAnd_f {p q : En → R Bool} {ρ : En} (h1 : p ρ = .ok false) : cAnd p q ρ = .ok false := by
  simp only [cAnd, h1, R.bind]
  rfl
theorem cAnd_t {p q : En → R Bool} {ρ : En} {b : Bool} (h1 : p ρ = .ok true) (h2 : q ρ = .ok b) : cAnd p q ρ = .ok b := by
  simp only [cAnd, h1, R.bind, h2]
  rfl
section
end
end K00

namespace K00
open PySem PySem.Spec PyProof.Rows L2 G
section
end
theorem cCallS_of {i : Nat} {F : List Int → R D} {ρ : En} {ns : List Int} {r : R D} (h : ρ[i]? = some (some (.sc ns))) (h2 : F ns = r) : cCallS i F ρ = r := by
  unfold cCallS
  rw [h]
  exact h2
end K00

namespace K00
open PySem PySem.Spec PyProof.Rows L2 G
theorem enum_mem {xs : List D} {d : D} {k : Nat} (h : d ∈ enumL k xs) : ∃ i x, x ∈ xs ∧ i < xs.length ∧ d = .tuple [nD (k + i), x] := by
  obtain ⟨i, hi⟩ := List.mem_iff_getElem?.mp h
  rw [enumL_get] at hi
  obtain ⟨x, h1, h2⟩ := Option.map_eq_some_iff.mp hi
  exact ⟨i, x, List.mem_of_getElem? h1, (List.getElem?_eq_some_iff.mp h1).1, h2.symm⟩
theorem cTest_of {f : En → R D} {ρ : En} {b : Bool} (h : f ρ = .ok (.bool b)) : cTest f ρ = .ok b := by
  simp only [cTest, h, R.bind]
  rfl
section
end
theorem cCall2_of {df : List D → Option D} {f g : En → R D} {ρ : En} {a b e : D} (h1 : f ρ = .ok a) (h2 : g ρ = .ok b) (h3 : df [a, b] = some e) : cCall df (cCons f (cCons g cNil)) ρ = .ok e := by
  simp only [cCall, cCons, cNil, h1, h2, R.bind, h3, ofO]
theorem cIf_t {p : En → R Bool} {f g : En → R D} {ρ : En} {r : R D} (h : p ρ = .ok true) (h2 : f ρ = r) : cIf p f g ρ = r := by
  simp only [cIf, h, R.bind]
  exact h2
theorem cIf_f {p : En → R Bool} {f g : En → R D} {ρ : En} {r : R D} (h : p ρ = .ok false) (h2 : g ρ = r) : cIf p f g ρ = r := by
  simp only [cIf, h, R.bind]
  exact h2
theorem range2_eq {a b : Nat} (ha : a < 2 ^ 60) (hb : b < 2 ^ 60) : dRange2 [nD a, nD b] = some ((List.range (b - a)).map fun k => nD (a + k)) := by
  unfold dRange2
  have p1 : (2 : Int) ^ 62 = 4611686018427387904 := by decide
  have p2 : (2 : Nat) ^ 60 = 1152921504606846976 := by decide
  rw [p2] at ha hb
  simp only [p1]
  rw [if_pos ⟨by omega, by omega, by omega, by omega⟩]
  unfold rangeD
  have : ((b : Int) - a).toNat = b - a := by omega
  rw [this]
  congr 1
theorem cIter2_of {df : List D → Option (List D)} {f g : En → R D} {ρ : En} {a b : D} {e : List D} (h1 : f ρ = .ok a) (h2 : g ρ = .ok b) (h3 : df [a, b] = some e) : cIter df (cCons f (cCons g cNil)) ρ = .ok e := by
  simp only [cIter, cCons, cNil, h1, h2, R.bind, h3, ofO]
end K00

namespace K00
open PySem PySem.Spec PyProof.Rows L2 G
set_option maxHeartbeats 4000000
def top (i : Nat) : Stmt := PySem.Challenge.pw_truebidsbest_k00_errors_are_apart.main.body.getD i (.Pass ⟨0, 0, 0, 0⟩)
abbrev s_is_bundle : Stmt := top 36
theorem sc_is_bundle : FnScope ["bundle", "goods"] ["bundle", "goods"] (defScope s_is_bundle) := ⟨rfl, rfl, rfl, by decide +kernel, rfl, by decide +kernel, by decide +kernel⟩
abbrev s_inner : Stmt := top 37
theorem sc_inner : FnScope ["tree"] ["tree"] (defScope s_inner) := ⟨rfl, rfl, rfl, by decide +kernel, rfl, by decide +kernel, by decide +kernel⟩
abbrev s_is_part : Stmt := top 38
theorem sc_is_part : FnScope ["tree", "goods", "depth", "told"] ["tree", "goods", "depth"] (defScope s_is_part) := ⟨rfl, rfl, rfl, by decide +kernel, rfl, by decide +kernel, by decide +kernel⟩
abbrev s_parts : Stmt := top 39
theorem sc_parts : FnScope ["tree", "told"] ["tree"] (defScope s_parts) := ⟨rfl, rfl, rfl, by decide +kernel, rfl, by decide +kernel, by decide +kernel⟩
abbrev s_check_goods : Stmt := top 40
theorem sc_check_goods : FnScope ["goods"] ["goods"] (defScope s_check_goods) := ⟨rfl, rfl, rfl, by decide +kernel, rfl, by decide +kernel, by decide +kernel⟩
abbrev s_is_tree : Stmt := top 41
theorem sc_is_tree : FnScope ["tree", "goods"] ["tree", "goods"] (defScope s_is_tree) := ⟨rfl, rfl, rfl, by decide +kernel, rfl, by decide +kernel, by decide +kernel⟩
abbrev s_check_tree : Stmt := top 42
theorem sc_check_tree : FnScope ["tree", "goods"] ["tree", "goods"] (defScope s_check_tree) := ⟨rfl, rfl, rfl, by decide +kernel, rfl, by decide +kernel, by decide +kernel⟩
abbrev s_l_draws : Stmt := top 44
theorem sc_l_draws : FnScope ["script", "draws", "k", "rest", "turn", "stirred"] ["script"] (defScope s_l_draws) := ⟨rfl, rfl, rfl, by decide +kernel, rfl, by decide +kernel, by decide +kernel⟩
abbrev s_l_mix : Stmt := top 45
theorem sc_l_mix : FnScope ["draws", "k", "many", "cell"] ["draws", "k", "many"] (defScope s_l_mix) := ⟨rfl, rfl, rfl, by decide +kernel, rfl, by decide +kernel, by decide +kernel⟩
abbrev s_l_kinds : Stmt := top 46
theorem sc_l_kinds : FnScope ["e"] ["e"] (defScope s_l_kinds) := ⟨rfl, rfl, rfl, by decide +kernel, rfl, by decide +kernel, by decide +kernel⟩
abbrev s_l_made : Stmt := top 47
theorem sc_l_made : FnScope ["n"] ["n"] (defScope s_l_made) := ⟨rfl, rfl, rfl, by decide +kernel, rfl, by decide +kernel, by decide +kernel⟩
abbrev s_l_raised : Stmt := top 48
theorem sc_l_raised : FnScope ["many", "e"] ["many"] (defScope s_l_raised) := ⟨rfl, rfl, rfl, by decide +kernel, rfl, by decide +kernel, by decide +kernel⟩
abbrev s_law : Stmt := top 49
theorem sc_law : FnScope ["script", "draws", "number", "made", "k", "base", "many", "told", "t"] ["script"] (defScope s_law) := ⟨rfl, rfl, rfl, by decide +kernel, rfl, by decide +kernel, by decide +kernel⟩
structure Txt (P : Program) (K : Frg) (mg : MgT) (cs : Nat → Addr) : Prop where
  d_is_bundle : DefG K mg "is_bundle" s_is_bundle ["bundle", "goods"]
  d_inner : DefG K mg "inner" s_inner ["tree"]
  d_is_part : DefG K mg "is_part" s_is_part ["tree", "goods", "depth"]
  d_parts : DefG K mg "parts" s_parts ["tree"]
  d_check_goods : DefG K mg "check_goods" s_check_goods ["goods"]
  d_is_tree : DefG K mg "is_tree" s_is_tree ["tree", "goods"]
  d_check_tree : DefG K mg "check_tree" s_check_tree ["tree", "goods"]
  d_l_draws : DefG K mg "_law_draws" s_l_draws ["script"]
  d_l_mix : DefG K mg "_law_mix" s_l_mix ["draws", "k", "many"]
  d_l_kinds : DefG K mg "_law_kinds" s_l_kinds ["e"]
  d_l_made : DefG K mg "_law_made" s_l_made ["n"]
  d_l_raised : DefG K mg "_law_raised" s_l_raised ["many"]
  d_law : DefG K mg "law" s_law ["script"]
  n_len : mg "len" = none
  n_list : mg "list" = none
  n_sorted : mg "sorted" = none
  n_set : mg "set" = none
  n_all : mg "all" = none
  n_sum : mg "sum" = none
  n_range : mg "range" = none
  n_min : mg "min" = none
  n_abs : mg "abs" = none
  n_int : mg "int" = none
  n_isinstance : mg "isinstance" = none
  n_ValueError : mg "ValueError" = none
  n_bool : mg "bool" = none
  c_MOST_DEPTH : GInt mg "MOST_DEPTH" 5
  c_WORDS : GTup K mg "WORDS" [(.str "xor"), (.str "or")]
  c_MOST_WORTH : GInt mg "MOST_WORTH" 1000000
  c_MOST_UP : GInt mg "MOST_UP" 9
  c_MOST_GOODS : GInt mg "MOST_GOODS" 6
  c_MOST_PARTS : GInt mg "MOST_PARTS" 40
  x_OutOfRange : ErrG P K mg "OutOfRange"
  x_BadTree : ErrG P K mg "BadTree"
  y_OutOfRange : XG P K mg "OutOfRange" (cs 0)
  y_TooMany : XG P K mg "TooMany" (cs 1)
  y_BadTree : XG P K mg "BadTree" (cs 2)
  y_BadText : XG P K mg "BadText" (cs 3)
  y_BadLine : XG P K mg "BadLine" (cs 4)
  y_BadTable : XG P K mg "BadTable" (cs 5)
  y_BadBook : XG P K mg "BadBook" (cs 6)
  y_BadShare : XG P K mg "BadShare" (cs 7)
  y_BadBidder : XG P K mg "BadBidder" (cs 8)
  y_BadWord : XG P K mg "BadWord" (cs 9)
  y_BadRows : XG P K mg "BadRows" (cs 10)
  y_BadPrices : XG P K mg "BadPrices" (cs 11)
  y_BadBids : XG P K mg "BadBids" (cs 12)
  y_NoBidder : XG P K mg "NoBidder" (cs 13)
  y_BadPayment : XG P K mg "BadPayment" (cs 14)
  y_BadType : XG P K mg "BadType" (cs 15)
  y_BadEnd : XG P K mg "BadEnd" (cs 16)
  y_BadPaid : XG P K mg "BadPaid" (cs 17)
  y_BadBid : XG P K mg "BadBid" (cs 18)
  y_BadHope : XG P K mg "BadHope" (cs 19)
  y_BadWish : XG P K mg "BadWish" (cs 20)
  y_BadMoney : XG P K mg "BadMoney" (cs 21)
  y_NoSolution : XG P K mg "NoSolution" (cs 22)
  y_BadCosts : XG P K mg "BadCosts" (cs 23)
  y_BadSet : XG P K mg "BadSet" (cs 24)
  y_BadWorths : XG P K mg "BadWorths" (cs 25)
  y_NoWish : XG P K mg "NoWish" (cs 26)
  y_AuctionError : XG P K mg "AuctionError" (cs 27)
  b_BadTree_AuctionError : PySem.W.exmOne K (.ref (cs 2)) (.ref (cs 27)) = some true
  b_OutOfRange_AuctionError : PySem.W.exmOne K (.ref (cs 0)) (.ref (cs 27)) = some true
  r_0 : Kinds K (.ref (cs 0)) [(.ref (cs 0), true), (.ref (cs 1), false), (.ref (cs 2), false), (.ref (cs 3), false), (.ref (cs 4), false), (.ref (cs 5), false), (.ref (cs 6), false), (.ref (cs 7), false), (.ref (cs 8), false), (.ref (cs 9), false), (.ref (cs 10), false), (.ref (cs 11), false), (.ref (cs 12), false), (.ref (cs 13), false), (.ref (cs 14), false), (.ref (cs 15), false), (.ref (cs 16), false), (.ref (cs 17), false), (.ref (cs 18), false), (.ref (cs 19), false), (.ref (cs 20), false), (.ref (cs 21), false), (.ref (cs 22), false), (.ref (cs 23), false), (.ref (cs 24), false), (.ref (cs 25), false), (.ref (cs 26), false), (.ref (cs 27), true), (.type "ValueError", true)]
  r_1 : Kinds K (.ref (cs 1)) [(.ref (cs 0), false), (.ref (cs 1), true), (.ref (cs 2), false), (.ref (cs 3), false), (.ref (cs 4), false), (.ref (cs 5), false), (.ref (cs 6), false), (.ref (cs 7), false), (.ref (cs 8), false), (.ref (cs 9), false), (.ref (cs 10), false), (.ref (cs 11), false), (.ref (cs 12), false), (.ref (cs 13), false), (.ref (cs 14), false), (.ref (cs 15), false), (.ref (cs 16), false), (.ref (cs 17), false), (.ref (cs 18), false), (.ref (cs 19), false), (.ref (cs 20), false), (.ref (cs 21), false), (.ref (cs 22), false), (.ref (cs 23), false), (.ref (cs 24), false), (.ref (cs 25), false), (.ref (cs 26), false), (.ref (cs 27), true), (.type "ValueError", true)]
  r_2 : Kinds K (.ref (cs 2)) [(.ref (cs 0), false), (.ref (cs 1), false), (.ref (cs 2), true), (.ref (cs 3), false), (.ref (cs 4), false), (.ref (cs 5), false), (.ref (cs 6), false), (.ref (cs 7), false), (.ref (cs 8), false), (.ref (cs 9), false), (.ref (cs 10), false), (.ref (cs 11), false), (.ref (cs 12), false), (.ref (cs 13), false), (.ref (cs 14), false), (.ref (cs 15), false), (.ref (cs 16), false), (.ref (cs 17), false), (.ref (cs 18), false), (.ref (cs 19), false), (.ref (cs 20), false), (.ref (cs 21), false), (.ref (cs 22), false), (.ref (cs 23), false), (.ref (cs 24), false), (.ref (cs 25), false), (.ref (cs 26), false), (.ref (cs 27), true), (.type "ValueError", true)]
  r_3 : Kinds K (.ref (cs 3)) [(.ref (cs 0), false), (.ref (cs 1), false), (.ref (cs 2), false), (.ref (cs 3), true), (.ref (cs 4), false), (.ref (cs 5), false), (.ref (cs 6), false), (.ref (cs 7), false), (.ref (cs 8), false), (.ref (cs 9), false), (.ref (cs 10), false), (.ref (cs 11), false), (.ref (cs 12), false), (.ref (cs 13), false), (.ref (cs 14), false), (.ref (cs 15), false), (.ref (cs 16), false), (.ref (cs 17), false), (.ref (cs 18), false), (.ref (cs 19), false), (.ref (cs 20), false), (.ref (cs 21), false), (.ref (cs 22), false), (.ref (cs 23), false), (.ref (cs 24), false), (.ref (cs 25), false), (.ref (cs 26), false), (.ref (cs 27), true), (.type "ValueError", true)]
  r_4 : Kinds K (.ref (cs 4)) [(.ref (cs 0), false), (.ref (cs 1), false), (.ref (cs 2), false), (.ref (cs 3), false), (.ref (cs 4), true), (.ref (cs 5), false), (.ref (cs 6), false), (.ref (cs 7), false), (.ref (cs 8), false), (.ref (cs 9), false), (.ref (cs 10), false), (.ref (cs 11), false), (.ref (cs 12), false), (.ref (cs 13), false), (.ref (cs 14), false), (.ref (cs 15), false), (.ref (cs 16), false), (.ref (cs 17), false), (.ref (cs 18), false), (.ref (cs 19), false), (.ref (cs 20), false), (.ref (cs 21), false), (.ref (cs 22), false), (.ref (cs 23), false), (.ref (cs 24), false), (.ref (cs 25), false), (.ref (cs 26), false), (.ref (cs 27), true), (.type "ValueError", true)]
  r_5 : Kinds K (.ref (cs 5)) [(.ref (cs 0), false), (.ref (cs 1), false), (.ref (cs 2), false), (.ref (cs 3), false), (.ref (cs 4), false), (.ref (cs 5), true), (.ref (cs 6), false), (.ref (cs 7), false), (.ref (cs 8), false), (.ref (cs 9), false), (.ref (cs 10), false), (.ref (cs 11), false), (.ref (cs 12), false), (.ref (cs 13), false), (.ref (cs 14), false), (.ref (cs 15), false), (.ref (cs 16), false), (.ref (cs 17), false), (.ref (cs 18), false), (.ref (cs 19), false), (.ref (cs 20), false), (.ref (cs 21), false), (.ref (cs 22), false), (.ref (cs 23), false), (.ref (cs 24), false), (.ref (cs 25), false), (.ref (cs 26), false), (.ref (cs 27), true), (.type "ValueError", true)]
  r_6 : Kinds K (.ref (cs 6)) [(.ref (cs 0), false), (.ref (cs 1), false), (.ref (cs 2), false), (.ref (cs 3), false), (.ref (cs 4), false), (.ref (cs 5), false), (.ref (cs 6), true), (.ref (cs 7), false), (.ref (cs 8), false), (.ref (cs 9), false), (.ref (cs 10), false), (.ref (cs 11), false), (.ref (cs 12), false), (.ref (cs 13), false), (.ref (cs 14), false), (.ref (cs 15), false), (.ref (cs 16), false), (.ref (cs 17), false), (.ref (cs 18), false), (.ref (cs 19), false), (.ref (cs 20), false), (.ref (cs 21), false), (.ref (cs 22), false), (.ref (cs 23), false), (.ref (cs 24), false), (.ref (cs 25), false), (.ref (cs 26), false), (.ref (cs 27), true), (.type "ValueError", true)]
  r_7 : Kinds K (.ref (cs 7)) [(.ref (cs 0), false), (.ref (cs 1), false), (.ref (cs 2), false), (.ref (cs 3), false), (.ref (cs 4), false), (.ref (cs 5), false), (.ref (cs 6), false), (.ref (cs 7), true), (.ref (cs 8), false), (.ref (cs 9), false), (.ref (cs 10), false), (.ref (cs 11), false), (.ref (cs 12), false), (.ref (cs 13), false), (.ref (cs 14), false), (.ref (cs 15), false), (.ref (cs 16), false), (.ref (cs 17), false), (.ref (cs 18), false), (.ref (cs 19), false), (.ref (cs 20), false), (.ref (cs 21), false), (.ref (cs 22), false), (.ref (cs 23), false), (.ref (cs 24), false), (.ref (cs 25), false), (.ref (cs 26), false), (.ref (cs 27), true), (.type "ValueError", true)]
  r_8 : Kinds K (.ref (cs 8)) [(.ref (cs 0), false), (.ref (cs 1), false), (.ref (cs 2), false), (.ref (cs 3), false), (.ref (cs 4), false), (.ref (cs 5), false), (.ref (cs 6), false), (.ref (cs 7), false), (.ref (cs 8), true), (.ref (cs 9), false), (.ref (cs 10), false), (.ref (cs 11), false), (.ref (cs 12), false), (.ref (cs 13), false), (.ref (cs 14), false), (.ref (cs 15), false), (.ref (cs 16), false), (.ref (cs 17), false), (.ref (cs 18), false), (.ref (cs 19), false), (.ref (cs 20), false), (.ref (cs 21), false), (.ref (cs 22), false), (.ref (cs 23), false), (.ref (cs 24), false), (.ref (cs 25), false), (.ref (cs 26), false), (.ref (cs 27), true), (.type "ValueError", true)]
  r_9 : Kinds K (.ref (cs 9)) [(.ref (cs 0), false), (.ref (cs 1), false), (.ref (cs 2), false), (.ref (cs 3), false), (.ref (cs 4), false), (.ref (cs 5), false), (.ref (cs 6), false), (.ref (cs 7), false), (.ref (cs 8), false), (.ref (cs 9), true), (.ref (cs 10), false), (.ref (cs 11), false), (.ref (cs 12), false), (.ref (cs 13), false), (.ref (cs 14), false), (.ref (cs 15), false), (.ref (cs 16), false), (.ref (cs 17), false), (.ref (cs 18), false), (.ref (cs 19), false), (.ref (cs 20), false), (.ref (cs 21), false), (.ref (cs 22), false), (.ref (cs 23), false), (.ref (cs 24), false), (.ref (cs 25), false), (.ref (cs 26), false), (.ref (cs 27), true), (.type "ValueError", true)]
  r_10 : Kinds K (.ref (cs 10)) [(.ref (cs 0), false), (.ref (cs 1), false), (.ref (cs 2), false), (.ref (cs 3), false), (.ref (cs 4), false), (.ref (cs 5), false), (.ref (cs 6), false), (.ref (cs 7), false), (.ref (cs 8), false), (.ref (cs 9), false), (.ref (cs 10), true), (.ref (cs 11), false), (.ref (cs 12), false), (.ref (cs 13), false), (.ref (cs 14), false), (.ref (cs 15), false), (.ref (cs 16), false), (.ref (cs 17), false), (.ref (cs 18), false), (.ref (cs 19), false), (.ref (cs 20), false), (.ref (cs 21), false), (.ref (cs 22), false), (.ref (cs 23), false), (.ref (cs 24), false), (.ref (cs 25), false), (.ref (cs 26), false), (.ref (cs 27), true), (.type "ValueError", true)]
  r_11 : Kinds K (.ref (cs 11)) [(.ref (cs 0), false), (.ref (cs 1), false), (.ref (cs 2), false), (.ref (cs 3), false), (.ref (cs 4), false), (.ref (cs 5), false), (.ref (cs 6), false), (.ref (cs 7), false), (.ref (cs 8), false), (.ref (cs 9), false), (.ref (cs 10), false), (.ref (cs 11), true), (.ref (cs 12), false), (.ref (cs 13), false), (.ref (cs 14), false), (.ref (cs 15), false), (.ref (cs 16), false), (.ref (cs 17), false), (.ref (cs 18), false), (.ref (cs 19), false), (.ref (cs 20), false), (.ref (cs 21), false), (.ref (cs 22), false), (.ref (cs 23), false), (.ref (cs 24), false), (.ref (cs 25), false), (.ref (cs 26), false), (.ref (cs 27), true), (.type "ValueError", true)]
  r_12 : Kinds K (.ref (cs 12)) [(.ref (cs 0), false), (.ref (cs 1), false), (.ref (cs 2), false), (.ref (cs 3), false), (.ref (cs 4), false), (.ref (cs 5), false), (.ref (cs 6), false), (.ref (cs 7), false), (.ref (cs 8), false), (.ref (cs 9), false), (.ref (cs 10), false), (.ref (cs 11), false), (.ref (cs 12), true), (.ref (cs 13), false), (.ref (cs 14), false), (.ref (cs 15), false), (.ref (cs 16), false), (.ref (cs 17), false), (.ref (cs 18), false), (.ref (cs 19), false), (.ref (cs 20), false), (.ref (cs 21), false), (.ref (cs 22), false), (.ref (cs 23), false), (.ref (cs 24), false), (.ref (cs 25), false), (.ref (cs 26), false), (.ref (cs 27), true), (.type "ValueError", true)]
  r_13 : Kinds K (.ref (cs 13)) [(.ref (cs 0), false), (.ref (cs 1), false), (.ref (cs 2), false), (.ref (cs 3), false), (.ref (cs 4), false), (.ref (cs 5), false), (.ref (cs 6), false), (.ref (cs 7), false), (.ref (cs 8), false), (.ref (cs 9), false), (.ref (cs 10), false), (.ref (cs 11), false), (.ref (cs 12), false), (.ref (cs 13), true), (.ref (cs 14), false), (.ref (cs 15), false), (.ref (cs 16), false), (.ref (cs 17), false), (.ref (cs 18), false), (.ref (cs 19), false), (.ref (cs 20), false), (.ref (cs 21), false), (.ref (cs 22), false), (.ref (cs 23), false), (.ref (cs 24), false), (.ref (cs 25), false), (.ref (cs 26), false), (.ref (cs 27), true), (.type "ValueError", true)]
  r_14 : Kinds K (.ref (cs 14)) [(.ref (cs 0), false), (.ref (cs 1), false), (.ref (cs 2), false), (.ref (cs 3), false), (.ref (cs 4), false), (.ref (cs 5), false), (.ref (cs 6), false), (.ref (cs 7), false), (.ref (cs 8), false), (.ref (cs 9), false), (.ref (cs 10), false), (.ref (cs 11), false), (.ref (cs 12), false), (.ref (cs 13), false), (.ref (cs 14), true), (.ref (cs 15), false), (.ref (cs 16), false), (.ref (cs 17), false), (.ref (cs 18), false), (.ref (cs 19), false), (.ref (cs 20), false), (.ref (cs 21), false), (.ref (cs 22), false), (.ref (cs 23), false), (.ref (cs 24), false), (.ref (cs 25), false), (.ref (cs 26), false), (.ref (cs 27), true), (.type "ValueError", true)]
  r_15 : Kinds K (.ref (cs 15)) [(.ref (cs 0), false), (.ref (cs 1), false), (.ref (cs 2), false), (.ref (cs 3), false), (.ref (cs 4), false), (.ref (cs 5), false), (.ref (cs 6), false), (.ref (cs 7), false), (.ref (cs 8), false), (.ref (cs 9), false), (.ref (cs 10), false), (.ref (cs 11), false), (.ref (cs 12), false), (.ref (cs 13), false), (.ref (cs 14), false), (.ref (cs 15), true), (.ref (cs 16), false), (.ref (cs 17), false), (.ref (cs 18), false), (.ref (cs 19), false), (.ref (cs 20), false), (.ref (cs 21), false), (.ref (cs 22), false), (.ref (cs 23), false), (.ref (cs 24), false), (.ref (cs 25), false), (.ref (cs 26), false), (.ref (cs 27), true), (.type "ValueError", true)]
  r_16 : Kinds K (.ref (cs 16)) [(.ref (cs 0), false), (.ref (cs 1), false), (.ref (cs 2), false), (.ref (cs 3), false), (.ref (cs 4), false), (.ref (cs 5), false), (.ref (cs 6), false), (.ref (cs 7), false), (.ref (cs 8), false), (.ref (cs 9), false), (.ref (cs 10), false), (.ref (cs 11), false), (.ref (cs 12), false), (.ref (cs 13), false), (.ref (cs 14), false), (.ref (cs 15), false), (.ref (cs 16), true), (.ref (cs 17), false), (.ref (cs 18), false), (.ref (cs 19), false), (.ref (cs 20), false), (.ref (cs 21), false), (.ref (cs 22), false), (.ref (cs 23), false), (.ref (cs 24), false), (.ref (cs 25), false), (.ref (cs 26), false), (.ref (cs 27), true), (.type "ValueError", true)]
  r_17 : Kinds K (.ref (cs 17)) [(.ref (cs 0), false), (.ref (cs 1), false), (.ref (cs 2), false), (.ref (cs 3), false), (.ref (cs 4), false), (.ref (cs 5), false), (.ref (cs 6), false), (.ref (cs 7), false), (.ref (cs 8), false), (.ref (cs 9), false), (.ref (cs 10), false), (.ref (cs 11), false), (.ref (cs 12), false), (.ref (cs 13), false), (.ref (cs 14), false), (.ref (cs 15), false), (.ref (cs 16), false), (.ref (cs 17), true), (.ref (cs 18), false), (.ref (cs 19), false), (.ref (cs 20), false), (.ref (cs 21), false), (.ref (cs 22), false), (.ref (cs 23), false), (.ref (cs 24), false), (.ref (cs 25), false), (.ref (cs 26), false), (.ref (cs 27), true), (.type "ValueError", true)]
  r_18 : Kinds K (.ref (cs 18)) [(.ref (cs 0), false), (.ref (cs 1), false), (.ref (cs 2), false), (.ref (cs 3), false), (.ref (cs 4), false), (.ref (cs 5), false), (.ref (cs 6), false), (.ref (cs 7), false), (.ref (cs 8), false), (.ref (cs 9), false), (.ref (cs 10), false), (.ref (cs 11), false), (.ref (cs 12), false), (.ref (cs 13), false), (.ref (cs 14), false), (.ref (cs 15), false), (.ref (cs 16), false), (.ref (cs 17), false), (.ref (cs 18), true), (.ref (cs 19), false), (.ref (cs 20), false), (.ref (cs 21), false), (.ref (cs 22), false), (.ref (cs 23), false), (.ref (cs 24), false), (.ref (cs 25), false), (.ref (cs 26), false), (.ref (cs 27), true), (.type "ValueError", true)]
  r_19 : Kinds K (.ref (cs 19)) [(.ref (cs 0), false), (.ref (cs 1), false), (.ref (cs 2), false), (.ref (cs 3), false), (.ref (cs 4), false), (.ref (cs 5), false), (.ref (cs 6), false), (.ref (cs 7), false), (.ref (cs 8), false), (.ref (cs 9), false), (.ref (cs 10), false), (.ref (cs 11), false), (.ref (cs 12), false), (.ref (cs 13), false), (.ref (cs 14), false), (.ref (cs 15), false), (.ref (cs 16), false), (.ref (cs 17), false), (.ref (cs 18), false), (.ref (cs 19), true), (.ref (cs 20), false), (.ref (cs 21), false), (.ref (cs 22), false), (.ref (cs 23), false), (.ref (cs 24), false), (.ref (cs 25), false), (.ref (cs 26), false), (.ref (cs 27), true), (.type "ValueError", true)]
  r_20 : Kinds K (.ref (cs 20)) [(.ref (cs 0), false), (.ref (cs 1), false), (.ref (cs 2), false), (.ref (cs 3), false), (.ref (cs 4), false), (.ref (cs 5), false), (.ref (cs 6), false), (.ref (cs 7), false), (.ref (cs 8), false), (.ref (cs 9), false), (.ref (cs 10), false), (.ref (cs 11), false), (.ref (cs 12), false), (.ref (cs 13), false), (.ref (cs 14), false), (.ref (cs 15), false), (.ref (cs 16), false), (.ref (cs 17), false), (.ref (cs 18), false), (.ref (cs 19), false), (.ref (cs 20), true), (.ref (cs 21), false), (.ref (cs 22), false), (.ref (cs 23), false), (.ref (cs 24), false), (.ref (cs 25), false), (.ref (cs 26), false), (.ref (cs 27), true), (.type "ValueError", true)]
  r_21 : Kinds K (.ref (cs 21)) [(.ref (cs 0), false), (.ref (cs 1), false), (.ref (cs 2), false), (.ref (cs 3), false), (.ref (cs 4), false), (.ref (cs 5), false), (.ref (cs 6), false), (.ref (cs 7), false), (.ref (cs 8), false), (.ref (cs 9), false), (.ref (cs 10), false), (.ref (cs 11), false), (.ref (cs 12), false), (.ref (cs 13), false), (.ref (cs 14), false), (.ref (cs 15), false), (.ref (cs 16), false), (.ref (cs 17), false), (.ref (cs 18), false), (.ref (cs 19), false), (.ref (cs 20), false), (.ref (cs 21), true), (.ref (cs 22), false), (.ref (cs 23), false), (.ref (cs 24), false), (.ref (cs 25), false), (.ref (cs 26), false), (.ref (cs 27), true), (.type "ValueError", true)]
  r_22 : Kinds K (.ref (cs 22)) [(.ref (cs 0), false), (.ref (cs 1), false), (.ref (cs 2), false), (.ref (cs 3), false), (.ref (cs 4), false), (.ref (cs 5), false), (.ref (cs 6), false), (.ref (cs 7), false), (.ref (cs 8), false), (.ref (cs 9), false), (.ref (cs 10), false), (.ref (cs 11), false), (.ref (cs 12), false), (.ref (cs 13), false), (.ref (cs 14), false), (.ref (cs 15), false), (.ref (cs 16), false), (.ref (cs 17), false), (.ref (cs 18), false), (.ref (cs 19), false), (.ref (cs 20), false), (.ref (cs 21), false), (.ref (cs 22), true), (.ref (cs 23), false), (.ref (cs 24), false), (.ref (cs 25), false), (.ref (cs 26), false), (.ref (cs 27), true), (.type "ValueError", true)]
  r_23 : Kinds K (.ref (cs 23)) [(.ref (cs 0), false), (.ref (cs 1), false), (.ref (cs 2), false), (.ref (cs 3), false), (.ref (cs 4), false), (.ref (cs 5), false), (.ref (cs 6), false), (.ref (cs 7), false), (.ref (cs 8), false), (.ref (cs 9), false), (.ref (cs 10), false), (.ref (cs 11), false), (.ref (cs 12), false), (.ref (cs 13), false), (.ref (cs 14), false), (.ref (cs 15), false), (.ref (cs 16), false), (.ref (cs 17), false), (.ref (cs 18), false), (.ref (cs 19), false), (.ref (cs 20), false), (.ref (cs 21), false), (.ref (cs 22), false), (.ref (cs 23), true), (.ref (cs 24), false), (.ref (cs 25), false), (.ref (cs 26), false), (.ref (cs 27), true), (.type "ValueError", true)]
  r_24 : Kinds K (.ref (cs 24)) [(.ref (cs 0), false), (.ref (cs 1), false), (.ref (cs 2), false), (.ref (cs 3), false), (.ref (cs 4), false), (.ref (cs 5), false), (.ref (cs 6), false), (.ref (cs 7), false), (.ref (cs 8), false), (.ref (cs 9), false), (.ref (cs 10), false), (.ref (cs 11), false), (.ref (cs 12), false), (.ref (cs 13), false), (.ref (cs 14), false), (.ref (cs 15), false), (.ref (cs 16), false), (.ref (cs 17), false), (.ref (cs 18), false), (.ref (cs 19), false), (.ref (cs 20), false), (.ref (cs 21), false), (.ref (cs 22), false), (.ref (cs 23), false), (.ref (cs 24), true), (.ref (cs 25), false), (.ref (cs 26), false), (.ref (cs 27), true), (.type "ValueError", true)]
  r_25 : Kinds K (.ref (cs 25)) [(.ref (cs 0), false), (.ref (cs 1), false), (.ref (cs 2), false), (.ref (cs 3), false), (.ref (cs 4), false), (.ref (cs 5), false), (.ref (cs 6), false), (.ref (cs 7), false), (.ref (cs 8), false), (.ref (cs 9), false), (.ref (cs 10), false), (.ref (cs 11), false), (.ref (cs 12), false), (.ref (cs 13), false), (.ref (cs 14), false), (.ref (cs 15), false), (.ref (cs 16), false), (.ref (cs 17), false), (.ref (cs 18), false), (.ref (cs 19), false), (.ref (cs 20), false), (.ref (cs 21), false), (.ref (cs 22), false), (.ref (cs 23), false), (.ref (cs 24), false), (.ref (cs 25), true), (.ref (cs 26), false), (.ref (cs 27), true), (.type "ValueError", true)]
  r_26 : Kinds K (.ref (cs 26)) [(.ref (cs 0), false), (.ref (cs 1), false), (.ref (cs 2), false), (.ref (cs 3), false), (.ref (cs 4), false), (.ref (cs 5), false), (.ref (cs 6), false), (.ref (cs 7), false), (.ref (cs 8), false), (.ref (cs 9), false), (.ref (cs 10), false), (.ref (cs 11), false), (.ref (cs 12), false), (.ref (cs 13), false), (.ref (cs 14), false), (.ref (cs 15), false), (.ref (cs 16), false), (.ref (cs 17), false), (.ref (cs 18), false), (.ref (cs 19), false), (.ref (cs 20), false), (.ref (cs 21), false), (.ref (cs 22), false), (.ref (cs 23), false), (.ref (cs 24), false), (.ref (cs 25), false), (.ref (cs 26), true), (.ref (cs 27), true), (.type "ValueError", true)]
  r_27 : Kinds K (.ref (cs 27)) [(.ref (cs 0), false), (.ref (cs 1), false), (.ref (cs 2), false), (.ref (cs 3), false), (.ref (cs 4), false), (.ref (cs 5), false), (.ref (cs 6), false), (.ref (cs 7), false), (.ref (cs 8), false), (.ref (cs 9), false), (.ref (cs 10), false), (.ref (cs 11), false), (.ref (cs 12), false), (.ref (cs 13), false), (.ref (cs 14), false), (.ref (cs 15), false), (.ref (cs 16), false), (.ref (cs 17), false), (.ref (cs 18), false), (.ref (cs 19), false), (.ref (cs 20), false), (.ref (cs 21), false), (.ref (cs 22), false), (.ref (cs 23), false), (.ref (cs 24), false), (.ref (cs 25), false), (.ref (cs 26), false), (.ref (cs 27), true), (.type "ValueError", true)]
section
variable {P : Program} {w : World} {K : Frg} {mg : MgT} {base : Heap} {cs : Nat → Addr}
theorem ok_is_bundle (T : Txt P K mg cs) : CallG P w K mg base 1 "is_bundle" (runF 2 2 g_is_bundle) := T.d_is_bundle.call sc_is_bundle rfl rfl fun f cdv A outer s H E hr hg =>
  (fss_one (fs_ret (fe_and (fe_cmp do_gt (fb_of (fe_callB (dc_len) rfl T.n_len (by rfl) (fab_cons (fb_var (pv 0)) fab_nil))) (fb_of fe_int) (by rfl)) (fe_and (fe_cmp (do_eq hr.units) (fb_of (fe_of_fn (t := false) (fn_callTy dc_list rfl T.n_list (by rfl) (fab_cons (fb_var (pv 0)) fab_nil)))) (fb_of (fe_of_fn (t := false) (fn_sortset (t := false) rfl rfl T.n_sorted rfl T.n_set (fb_var (pv 0))))) (by rfl)) (fe_and (fe_cmp do_ge (fb_of (fe_ix (hu_of hr) (fb_var (pv 0)) fe_int (fun _ _ => rfl))) (fb_of fe_int) (by rfl)) (fe_one (fe_cmp (do_lt hr.units) (fb_of (fe_ix (hu_of hr) (fb_var (pv 0)) (fe_un du_neg (fb_of fe_int)) (fun _ _ => rfl))) (fb_var (pv 1)) (by rfl))))))))
theorem ok_inner (T : Txt P K mg cs) : CallG P w K mg base 1 "inner" (runF 1 1 g_inner) := T.d_inner.call sc_inner rfl rfl fun f cdv A outer s H E hr hg =>
  (fss_cons (fs_if (ft_cmp (do_eq hr.units) (fb_of (fe_ix (hu_of hr) (fb_var (pv 0)) fe_int (fun _ _ => rfl))) (fb_of fe_str) (by rfl))
    (fss_one (fs_ret (fe_tup fa_nil)))
    fss_nil)
    (fss_one (fs_ret (fe_if (ft_cmp (do_eq hr.units) (fb_of (fe_ix (hu_of hr) (fb_var (pv 0)) fe_int (fun _ _ => rfl))) (fb_of fe_str) (by rfl)) (fe_ix (hu_of hr) (fb_var (pv 0)) fe_int (fun _ _ => rfl)) (fe_ix (hu_of hr) (fb_var (pv 0)) fe_int (fun _ _ => rfl))))))
theorem ok_is_part (T : Txt P K mg cs) {F_is_bundle : List D → R D} {F_inner : List D → R D} {F_is_part : List D → R D} {j : Nat} (C_is_bundle : CallG P w K mg base 1 "is_bundle" F_is_bundle) (C_inner : CallG P w K mg base 1 "inner" F_inner) (C_is_part : CallG P w K mg base (2 + j) "is_part" F_is_part) : CallG P w K mg base (2 + j + 1) "is_part" (runF 4 3 (g_is_part F_is_bundle F_inner F_is_part)) := T.d_is_part.call sc_is_part rfl rfl fun f cdv A outer s H E hr hg =>
  (fss_cons (fs_if (ft_w (fw_or (ft_cmp do_gt (fb_var (pv 2)) (fb_of (fe_gint T.c_MOST_DEPTH rfl)) (by rfl)) (fw_or1 (ft_cmp (do_ne hr.units) (fb_of (fe_callB (dc_len) rfl T.n_len (by rfl) (fab_cons (fb_var (pv 0)) fab_nil))) (fb_of (fe_if (ft_inD (do_in (units65 hr)) (fe_ix (hu_of hr) (fb_var (pv 0)) fe_int (fun _ _ => rfl)) (fb_gtup T.c_WORDS rfl) (by rfl)) fe_int fe_int)) (by rfl)))))
    (fss_one (fs_ret fe_bl))
    fss_nil)
    (fss_cons (fs_if (ft_cmp (do_eq hr.units) (fb_of (fe_ix (hu_of hr) (fb_var (pv 0)) fe_int (fun _ _ => rfl))) (fb_of fe_str) (by rfl))
    (fss_one (fs_ret (fe_and (fe_cl C_is_bundle (hr.mono (by omega)) hg bx_takes rfl (fa_cons (fe_ix (hu_of hr) (fb_var (pv 0)) fe_int (fun _ _ => rfl)) (fa_cons (fe_var (pv 1)) fa_nil))) (fe_one (fe_chain do_le do_le (fb_of fe_int) (fb_of (fe_ix (hu_of hr) (fb_var (pv 0)) fe_int (fun _ _ => rfl))) (fb_of (fe_gint T.c_MOST_WORTH rfl)) (by rfl))))))
    fss_nil)
    (fss_cons (fs_if (ft_w (fw_and (ft_inD (do_notin (units65 hr)) (fe_ix (hu_of hr) (fb_var (pv 0)) fe_int (fun _ _ => rfl)) (fb_gtup T.c_WORDS rfl) (by rfl)) (fw_and1 (ft_w (fw_or (ft_cmp (do_ne hr.units) (fb_of (fe_ix (hu_of hr) (fb_var (pv 0)) fe_int (fun _ _ => rfl))) (fb_of fe_str) (by rfl)) (fw_or1 (ft_not (ft_chain do_le do_le (fb_of fe_int) (fb_of (fe_ix (hu_of hr) (fb_var (pv 0)) fe_int (fun _ _ => rfl))) (fb_of (fe_gint T.c_MOST_UP rfl)) (by rfl)))))))))
    (fss_one (fs_ret fe_bl))
    fss_nil)
    (fss_one (fs_ret (fe_and (fe_cmp do_gt (fb_of (fe_callB (dc_len) rfl T.n_len (by rfl) (fab_cons (fb_of (fe_cl C_inner (hr.mono (by omega)) hg bx_takes rfl (fa_cons (fe_var (pv 0)) fa_nil))) fab_nil))) (fb_of fe_int) (by rfl)) (fe_one (fe_callB (dc_all rfl) rfl T.n_all (by rfl) (fab_cons (fb_of (fe_of_fn (t := false) (fn_lc (t := false) (own := [("told", 3)]) (ix := [3]) rfl sc_is_part.nd (fi_items (fe_cl C_inner (hr.mono (by omega)) hg bx_takes rfl (fa_cons (fe_var (pv 0)) fa_nil))) (blkOk_by (by kernel_rfl)) (fun _ _ _ _ _ => (fg_name (i := 3) sc_is_part.nd rfl (by first | exact Or.inl rfl | exact Or.inr rfl))) (by decide) (fun _ _ _ _ _ => fts_nil) (fun _ _ _ _ _ => (fe_cl C_is_part (hr.mono (by omega)) hg takesN0 rfl (fa_cons (fe_var (pv 3)) (fa_cons (fe_var (pv 1)) (fa_cons (fe_opE do_add (fe_var (pv 2)) fe_int) fa_nil)))))))) fab_nil)))))))))
theorem ok_parts (T : Txt P K mg cs) {F_inner : List D → R D} {F_parts : List D → R D} {j : Nat} (C_inner : CallG P w K mg base 1 "inner" F_inner) (C_parts : CallG P w K mg base (2 + j) "parts" F_parts) : CallG P w K mg base (2 + j + 1) "parts" (runF 2 1 (g_parts F_inner F_parts)) := T.d_parts.call sc_parts rfl rfl fun f cdv A outer s H E hr hg =>
  (fss_one (fs_ret (fe_opE do_add fe_int (fe_callB (dc_sum rfl) rfl T.n_sum (by rfl) (fab_cons (fb_of (fe_of_fn (t := false) (fn_lc (t := false) (own := [("told", 1)]) (ix := [1]) rfl sc_parts.nd (fi_items (fe_cl C_inner (hr.mono (by omega)) hg bx_takes rfl (fa_cons (fe_var (pv 0)) fa_nil))) (blkOk_by (by kernel_rfl)) (fun _ _ _ _ _ => (fg_name (i := 1) sc_parts.nd rfl (by first | exact Or.inl rfl | exact Or.inr rfl))) (by decide) (fun _ _ _ _ _ => fts_nil) (fun _ _ _ _ _ => (fe_cl C_parts (hr.mono (by omega)) hg takesN0 rfl (fa_cons (fe_var (pv 1)) fa_nil)))))) fab_nil)))))
theorem ok_check_goods (T : Txt P K mg cs) : CallG P w K mg base 1 "check_goods" (runF 1 1 g_check_goods) := T.d_check_goods.call sc_check_goods rfl rfl fun f cdv A outer s H E hr hg =>
  (fss_one (fs_if (ft_not (ft_chain do_le do_le (fb_of fe_int) (fb_var (pv 0)) (fb_of (fe_gint T.c_MOST_GOODS rfl)) (by rfl)))
    (fss_one (fs_raise (c := "OutOfRange") rfl T.x_OutOfRange rfl hr bx_takes rfl (fe_var (pv 0))))
    fss_nil))
theorem ok_is_tree (T : Txt P K mg cs) {F_is_part : List D → R D} {F_parts : List D → R D} (C_is_part : CallG P w K mg base 10 "is_part" F_is_part) (C_parts : CallG P w K mg base 10 "parts" F_parts) : CallG P w K mg base 11 "is_tree" (runF 2 2 (g_is_tree F_is_part F_parts)) := T.d_is_tree.call sc_is_tree rfl rfl fun f cdv A outer s H E hr hg =>
  (fss_one (fs_ret (fe_and (fe_cl C_is_part (hr.mono (by decide)) hg bx_takes rfl (fa_cons (fe_var (pv 0)) (fa_cons (fe_var (pv 1)) (fa_cons fe_int fa_nil)))) (fe_one (fe_cmp do_le (fb_of (fe_cl C_parts (hr.mono (by decide)) hg bx_takes rfl (fa_cons (fe_var (pv 0)) fa_nil))) (fb_of (fe_gint T.c_MOST_PARTS rfl)) (by rfl))))))
theorem ok_check_tree (T : Txt P K mg cs) {F_check_goods : List D → R D} {F_is_tree : List D → R D} (C_check_goods : CallG P w K mg base 1 "check_goods" F_check_goods) (C_is_tree : CallG P w K mg base 11 "is_tree" F_is_tree) : CallG P w K mg base 12 "check_tree" (runF 2 2 (g_check_tree F_check_goods F_is_tree)) := T.d_check_tree.call sc_check_tree rfl rfl fun f cdv A outer s H E hr hg =>
  (fss_cons (fs_expr (fe_cl C_check_goods (hr.mono (by decide)) hg bx_takes rfl (fa_cons (fe_var (pv 1)) fa_nil)))
    (fss_one (fs_if (ft_not (ft_val (fe_cl C_is_tree (hr.mono (by decide)) hg bx_takes rfl (fa_cons (fe_var (pv 0)) (fa_cons (fe_var (pv 1)) fa_nil)))))
    (fss_one (fs_raise (c := "BadTree") rfl T.x_BadTree rfl hr bx_takes rfl fe_int))
    fss_nil)))
theorem ok_l_draws (T : Txt P K mg cs) : CallS P w K mg base 1 "_law_draws" (runS 6 g_l_draws) := T.d_l_draws.callS sc_l_draws rfl fun f cdv A outer s H E hr hg =>
  (fss_cons (fs_setN (i := 1) sc_l_draws.nd rfl (by first | exact Or.inl rfl | exact Or.inr rfl) (fn_list (t := false) fa_nil))
    (fss_cons (fs_for bx_owns rfl (fi_range1 rfl T.n_range (fab_cons (fb_of (fe_callB (dc_min2 rfl) rfl T.n_min (by rfl) (fab_cons (fb_of fe_int) (fab_cons (fb_of (fe_lenS (pv 0) rfl T.n_len)) fab_nil)))) fab_nil)) (fg_name (i := 2) sc_l_draws.nd rfl (by first | exact Or.inl rfl | exact Or.inr rfl))
    (fss_cons (fs_set (i := 3) sc_l_draws.nd rfl (by first | exact Or.inl rfl | exact Or.inr rfl) (fe_callB (dc_abs) rfl T.n_abs (by rfl) (fab_cons (fb_of (fe_ixS (pv 0) (fe_var (pv 2)) (fun _ _ => rfl))) fab_nil)))
    (fss_one (fs_if (ft_cmp do_ge (fb_var (pv 3)) (fb_of (fe_op do_pow (fb_of fe_int) (fb_of fe_int))) (by rfl))
    (fss_one (fs_for bx_owns rfl (fi_range1 rfl T.n_range (fab_cons (fb_of fe_int) fab_nil)) (fg_name (i := 4) sc_l_draws.nd rfl (by first | exact Or.inl rfl | exact Or.inr rfl))
    (fss_one (fs_if (ft_cmp do_gt (fb_var (pv 3)) (fb_of fe_int) (by rfl))
    (fss_cons (fs_append (pv 1) (fe_op do_mod (fb_of (fe_callTy dc_int rfl T.n_int (by rfl) (fab_cons (fb_var (pv 3)) fab_nil))) (fb_of fe_int)))
    (fss_one (fs_set (i := 3) sc_l_draws.nd rfl (by first | exact Or.inl rfl | exact Or.inr rfl) (fe_op do_div (fb_var (pv 3)) (fb_of fe_int)))))
    fss_nil))))
    (fss_cons (fs_set (i := 5) sc_l_draws.nd rfl (by first | exact Or.inl rfl | exact Or.inr rfl) (fe_op do_mod (fb_of (fe_callTy dc_int rfl T.n_int (by rfl) (fab_cons (fb_of (fe_opE do_add (fe_op do_mul (fb_var (pv 3)) (fb_of fe_int)) (fe_op do_mul (fb_of (fe_opE do_add (fe_var (pv 2)) fe_int)) (fb_of fe_int)))) fab_nil))) (fb_of fe_int)))
    (fss_cons (fs_set (i := 5) sc_l_draws.nd rfl (by first | exact Or.inl rfl | exact Or.inr rfl) (fe_op do_mod (fb_of (fe_callTy dc_int rfl T.n_int (by rfl) (fab_cons (fb_of (fe_opE do_add (fe_opE do_add (fe_op do_mul (fb_var (pv 5)) (fb_of fe_int)) (fe_op do_mul (fb_of fe_int) (fb_var (pv 2)))) fe_int)) fab_nil))) (fb_of fe_int)))
    (fss_cons (fs_append (pv 1) (fe_op do_mod (fb_of (fe_callTy dc_int rfl T.n_int (by rfl) (fab_cons (fb_var (pv 5)) fab_nil))) (fb_of fe_int)))
    (fss_one (fs_append (pv 1) (fe_op do_mod (fb_of (fe_callTy dc_int rfl T.n_int (by rfl) (fab_cons (fb_of (fe_op do_div (fb_var (pv 5)) (fb_of fe_int))) fab_nil))) (fb_of fe_int)))))))))))
    (fss_one (fs_ret (fe_var (pv 1))))))
theorem ok_l_mix (T : Txt P K mg cs) : CallG P w K mg base 1 "_law_mix" (runF 4 3 g_l_mix) := T.d_l_mix.call sc_l_mix rfl rfl fun f cdv A outer s H E hr hg =>
  (fss_cons (fs_set (i := 3) sc_l_mix.nd rfl (by first | exact Or.inl rfl | exact Or.inr rfl) fe_int)
    (fss_cons (fs_if (ft_cmp do_gt (fb_of (fe_callB (dc_len) rfl T.n_len (by rfl) (fab_cons (fb_var (pv 0)) fab_nil))) (fb_of fe_int) (by rfl))
    (fss_one (fs_set (i := 3) sc_l_mix.nd rfl (by first | exact Or.inl rfl | exact Or.inr rfl) (fe_ix (hu_of hr) (fb_var (pv 0)) (fe_op do_mod (fb_of (fe_callTy dc_int rfl T.n_int (by rfl) (fab_cons (fb_var (pv 1)) fab_nil))) (fb_of (fe_callB (dc_len) rfl T.n_len (by rfl) (fab_cons (fb_var (pv 0)) fab_nil)))) (fun _ _ => rfl))))
    fss_nil)
    (fss_cons (fs_if (ft_cmp (do_lt hr.units) (fb_var (pv 1)) (fb_of (fe_callB (dc_len) rfl T.n_len (by rfl) (fab_cons (fb_var (pv 0)) fab_nil))) (by rfl))
    (fss_one (fs_ret (fe_op do_mod (fb_of (fe_callTy dc_int rfl T.n_int (by rfl) (fab_cons (fb_var (pv 3)) fab_nil))) (fb_var (pv 2)))))
    fss_nil)
    (fss_one (fs_ret (fe_op do_mod (fb_of (fe_callTy dc_int rfl T.n_int (by rfl) (fab_cons (fb_of (fe_op do_div (fb_of (fe_callTy dc_int rfl T.n_int (by rfl) (fab_cons (fb_of (fe_opE do_add (fe_op do_mul (fb_var (pv 3)) (fb_of fe_int)) (fe_op do_mul (fb_var (pv 1)) (fb_of fe_int)))) fab_nil))) (fb_of fe_int))) fab_nil))) (fb_var (pv 2))))))))
theorem ok_l_kinds (T : Txt P K mg cs) : CallG P w K mg base 1 "_law_kinds" (runF 1 1 (g_l_kinds ⟨P, K, mg, cs⟩)) := T.d_l_kinds.call sc_l_kinds rfl rfl fun f cdv A outer s H E hr hg =>
  (fss_one (fs_ret (fe_of_fn (t := false) (fn_list (t := false) (fa_cons (fe_is (fe_var (pv 0)) (pe_glob (v := .ref (cs 0)) rfl T.y_OutOfRange.gC rfl (by decide)) (.own _) rfl T.n_isinstance) (fa_cons (fe_is (fe_var (pv 0)) (pe_glob (v := .ref (cs 1)) rfl T.y_TooMany.gC rfl (by decide)) (.own _) rfl T.n_isinstance) (fa_cons (fe_is (fe_var (pv 0)) (pe_glob (v := .ref (cs 2)) rfl T.y_BadTree.gC rfl (by decide)) (.own _) rfl T.n_isinstance) (fa_cons (fe_is (fe_var (pv 0)) (pe_glob (v := .ref (cs 3)) rfl T.y_BadText.gC rfl (by decide)) (.own _) rfl T.n_isinstance) (fa_cons (fe_is (fe_var (pv 0)) (pe_glob (v := .ref (cs 4)) rfl T.y_BadLine.gC rfl (by decide)) (.own _) rfl T.n_isinstance) (fa_cons (fe_is (fe_var (pv 0)) (pe_glob (v := .ref (cs 5)) rfl T.y_BadTable.gC rfl (by decide)) (.own _) rfl T.n_isinstance) (fa_cons (fe_is (fe_var (pv 0)) (pe_glob (v := .ref (cs 6)) rfl T.y_BadBook.gC rfl (by decide)) (.own _) rfl T.n_isinstance) (fa_cons (fe_is (fe_var (pv 0)) (pe_glob (v := .ref (cs 7)) rfl T.y_BadShare.gC rfl (by decide)) (.own _) rfl T.n_isinstance) (fa_cons (fe_is (fe_var (pv 0)) (pe_glob (v := .ref (cs 8)) rfl T.y_BadBidder.gC rfl (by decide)) (.own _) rfl T.n_isinstance) (fa_cons (fe_is (fe_var (pv 0)) (pe_glob (v := .ref (cs 9)) rfl T.y_BadWord.gC rfl (by decide)) (.own _) rfl T.n_isinstance) (fa_cons (fe_is (fe_var (pv 0)) (pe_glob (v := .ref (cs 10)) rfl T.y_BadRows.gC rfl (by decide)) (.own _) rfl T.n_isinstance) (fa_cons (fe_is (fe_var (pv 0)) (pe_glob (v := .ref (cs 11)) rfl T.y_BadPrices.gC rfl (by decide)) (.own _) rfl T.n_isinstance) (fa_cons (fe_is (fe_var (pv 0)) (pe_glob (v := .ref (cs 12)) rfl T.y_BadBids.gC rfl (by decide)) (.own _) rfl T.n_isinstance) (fa_cons (fe_is (fe_var (pv 0)) (pe_glob (v := .ref (cs 13)) rfl T.y_NoBidder.gC rfl (by decide)) (.own _) rfl T.n_isinstance) (fa_cons (fe_is (fe_var (pv 0)) (pe_glob (v := .ref (cs 14)) rfl T.y_BadPayment.gC rfl (by decide)) (.own _) rfl T.n_isinstance) (fa_cons (fe_is (fe_var (pv 0)) (pe_glob (v := .ref (cs 15)) rfl T.y_BadType.gC rfl (by decide)) (.own _) rfl T.n_isinstance) (fa_cons (fe_is (fe_var (pv 0)) (pe_glob (v := .ref (cs 16)) rfl T.y_BadEnd.gC rfl (by decide)) (.own _) rfl T.n_isinstance) (fa_cons (fe_is (fe_var (pv 0)) (pe_glob (v := .ref (cs 17)) rfl T.y_BadPaid.gC rfl (by decide)) (.own _) rfl T.n_isinstance) (fa_cons (fe_is (fe_var (pv 0)) (pe_glob (v := .ref (cs 18)) rfl T.y_BadBid.gC rfl (by decide)) (.own _) rfl T.n_isinstance) (fa_cons (fe_is (fe_var (pv 0)) (pe_glob (v := .ref (cs 19)) rfl T.y_BadHope.gC rfl (by decide)) (.own _) rfl T.n_isinstance) (fa_cons (fe_is (fe_var (pv 0)) (pe_glob (v := .ref (cs 20)) rfl T.y_BadWish.gC rfl (by decide)) (.own _) rfl T.n_isinstance) (fa_cons (fe_is (fe_var (pv 0)) (pe_glob (v := .ref (cs 21)) rfl T.y_BadMoney.gC rfl (by decide)) (.own _) rfl T.n_isinstance) (fa_cons (fe_is (fe_var (pv 0)) (pe_glob (v := .ref (cs 22)) rfl T.y_NoSolution.gC rfl (by decide)) (.own _) rfl T.n_isinstance) (fa_cons (fe_is (fe_var (pv 0)) (pe_glob (v := .ref (cs 23)) rfl T.y_BadCosts.gC rfl (by decide)) (.own _) rfl T.n_isinstance) (fa_cons (fe_is (fe_var (pv 0)) (pe_glob (v := .ref (cs 24)) rfl T.y_BadSet.gC rfl (by decide)) (.own _) rfl T.n_isinstance) (fa_cons (fe_is (fe_var (pv 0)) (pe_glob (v := .ref (cs 25)) rfl T.y_BadWorths.gC rfl (by decide)) (.own _) rfl T.n_isinstance) (fa_cons (fe_is (fe_var (pv 0)) (pe_glob (v := .ref (cs 26)) rfl T.y_NoWish.gC rfl (by decide)) (.own _) rfl T.n_isinstance) fa_nil)))))))))))))))))))))))))))))))
theorem ok_l_made (T : Txt P K mg cs) : CallG P w K mg base 1 "_law_made" (runF 1 1 (g_l_made ⟨P, K, mg, cs⟩)) := T.d_l_made.call sc_l_made rfl rfl fun f cdv A outer s H E hr hg =>
  (fss_one (fs_ret (fe_of_fn (t := false) (fn_list (t := false) (fa_cons (fe_errX (c := "OutOfRange") rfl T.y_OutOfRange hr (fe_opE do_add (fe_var (pv 0)) fe_int) rfl) (fa_cons (fe_errX (c := "TooMany") rfl T.y_TooMany hr (fe_opE do_add (fe_var (pv 0)) fe_int) rfl) (fa_cons (fe_errX (c := "BadTree") rfl T.y_BadTree hr (fe_opE do_add (fe_var (pv 0)) fe_int) rfl) (fa_cons (fe_errX (c := "BadText") rfl T.y_BadText hr (fe_opE do_add (fe_var (pv 0)) fe_int) rfl) (fa_cons (fe_errX (c := "BadLine") rfl T.y_BadLine hr (fe_opE do_add (fe_var (pv 0)) fe_int) rfl) (fa_cons (fe_errX (c := "BadTable") rfl T.y_BadTable hr (fe_opE do_add (fe_var (pv 0)) fe_int) rfl) (fa_cons (fe_errX (c := "BadBook") rfl T.y_BadBook hr (fe_opE do_add (fe_var (pv 0)) fe_int) rfl) (fa_cons (fe_errX (c := "BadShare") rfl T.y_BadShare hr (fe_opE do_add (fe_var (pv 0)) fe_int) rfl) (fa_cons (fe_errX (c := "BadBidder") rfl T.y_BadBidder hr (fe_opE do_add (fe_var (pv 0)) fe_int) rfl) (fa_cons (fe_errX (c := "BadWord") rfl T.y_BadWord hr (fe_opE do_add (fe_var (pv 0)) fe_int) rfl) (fa_cons (fe_errX (c := "BadRows") rfl T.y_BadRows hr (fe_opE do_add (fe_var (pv 0)) fe_int) rfl) (fa_cons (fe_errX (c := "BadPrices") rfl T.y_BadPrices hr (fe_opE do_add (fe_var (pv 0)) fe_int) rfl) (fa_cons (fe_errX (c := "BadBids") rfl T.y_BadBids hr (fe_opE do_add (fe_var (pv 0)) fe_int) rfl) (fa_cons (fe_errX (c := "NoBidder") rfl T.y_NoBidder hr (fe_opE do_add (fe_var (pv 0)) fe_int) rfl) (fa_cons (fe_errX (c := "BadPayment") rfl T.y_BadPayment hr (fe_opE do_add (fe_var (pv 0)) fe_int) rfl) (fa_cons (fe_errX (c := "BadType") rfl T.y_BadType hr (fe_opE do_add (fe_var (pv 0)) fe_int) rfl) (fa_cons (fe_errX (c := "BadEnd") rfl T.y_BadEnd hr (fe_opE do_add (fe_var (pv 0)) fe_int) rfl) (fa_cons (fe_errX (c := "BadPaid") rfl T.y_BadPaid hr (fe_opE do_add (fe_var (pv 0)) fe_int) rfl) (fa_cons (fe_errX (c := "BadBid") rfl T.y_BadBid hr (fe_opE do_add (fe_var (pv 0)) fe_int) rfl) (fa_cons (fe_errX (c := "BadHope") rfl T.y_BadHope hr (fe_opE do_add (fe_var (pv 0)) fe_int) rfl) (fa_cons (fe_errX (c := "BadWish") rfl T.y_BadWish hr (fe_opE do_add (fe_var (pv 0)) fe_int) rfl) (fa_cons (fe_errX (c := "BadMoney") rfl T.y_BadMoney hr (fe_opE do_add (fe_var (pv 0)) fe_int) rfl) (fa_cons (fe_errX (c := "NoSolution") rfl T.y_NoSolution hr (fe_opE do_add (fe_var (pv 0)) fe_int) rfl) (fa_cons (fe_errX (c := "BadCosts") rfl T.y_BadCosts hr (fe_opE do_add (fe_var (pv 0)) fe_int) rfl) (fa_cons (fe_errX (c := "BadSet") rfl T.y_BadSet hr (fe_opE do_add (fe_var (pv 0)) fe_int) rfl) (fa_cons (fe_errX (c := "BadWorths") rfl T.y_BadWorths hr (fe_opE do_add (fe_var (pv 0)) fe_int) rfl) (fa_cons (fe_errX (c := "NoWish") rfl T.y_NoWish hr (fe_opE do_add (fe_var (pv 0)) fe_int) rfl) fa_nil)))))))))))))))))))))))))))))))
theorem ok_l_raised (T : Txt P K mg cs) {F_check_tree : List D → R D} (C_check_tree : CallG P w K mg base 12 "check_tree" F_check_tree) : CallG P w K mg base 13 "_law_raised" (runF 2 1 (g_l_raised ⟨P, K, mg, cs⟩ F_check_tree)) := T.d_l_raised.call sc_l_raised rfl rfl fun f cdv A outer s H E hr hg =>
  (fss_cons (fs_tryRet (i := 1) rfl rfl sc_l_raised.nd rfl rfl rfl (by first | exact Or.inl rfl | exact Or.inr rfl) (by decide) (by decide) ⟨rfl, by decide, .inl T.y_AuctionError.gC⟩ (fa1 ⟨T.y_OutOfRange.gC, T.b_OutOfRange_AuctionError⟩ (fa1 ⟨T.y_BadTree.gC, T.b_BadTree_AuctionError⟩ fa0)) (fun W1 pn1 xe1 tk1 own1 => (fss_one (fs_expr (fe_cl C_check_tree (hr.mono (by decide)) hg tk1 rfl (fa_cons (fe_tup (fa_cons fe_str (fa_cons (fe_tup (fa_cons fe_int fa_nil)) (fa_cons fe_int fa_nil)))) (fa_cons (fe_var (pv 0)) fa_nil)))))))
    (fss_one (fs_ret fe_non)))
theorem ok_law (T : Txt P K mg cs) {F_l_draws : List Int → R D} {F_l_mix : List D → R D} {F_l_made : List D → R D} {F_l_kinds : List D → R D} {F_l_raised : List D → R D} (C_l_draws : CallS P w K mg base 1 "_law_draws" F_l_draws) (C_l_mix : CallG P w K mg base 1 "_law_mix" F_l_mix) (C_l_made : CallG P w K mg base 1 "_law_made" F_l_made) (C_l_kinds : CallG P w K mg base 1 "_law_kinds" F_l_kinds) (C_l_raised : CallG P w K mg base 13 "_law_raised" F_l_raised) : CallS P w K mg base 14 "law" (runS 9 (g_law ⟨P, K, mg, cs⟩ F_l_draws F_l_mix F_l_made F_l_kinds F_l_raised)) := T.d_law.callS sc_law rfl fun f cdv A outer s H E hr hg =>
  (fss_cons (fs_set (i := 1) sc_law.nd rfl (by first | exact Or.inl rfl | exact Or.inr rfl) (fe_clS C_l_draws (hr.mono (by decide)) hg bx_takes rfl (pv 0)))
    (fss_cons (fs_set (i := 2) sc_law.nd rfl (by first | exact Or.inl rfl | exact Or.inr rfl) (fe_op do_sub (fb_of (fe_cl C_l_mix (hr.mono (by decide)) hg bx_takes rfl (fa_cons (fe_var (pv 1)) (fa_cons fe_int (fa_cons fe_int fa_nil))))) (fb_of fe_int)))
    (fss_cons (fs_set (i := 3) sc_law.nd rfl (by first | exact Or.inl rfl | exact Or.inr rfl) (fe_cl C_l_made (hr.mono (by decide)) hg bx_takes rfl (fa_cons (fe_var (pv 2)) fa_nil)))
    (fss_cons (fs_for bx_owns rfl (fi_range1 rfl T.n_range (fab_cons (fb_of (fe_callB (dc_len) rfl T.n_len (by rfl) (fab_cons (fb_var (pv 3)) fab_nil))) fab_nil)) (fg_name (i := 4) sc_law.nd rfl (by first | exact Or.inl rfl | exact Or.inr rfl))
    (fss_cons (fs_if (ft_w (fw_or (ft_not (ft_val (fe_is (fe_ix (hu_of hr) (fb_var (pv 3)) (fe_var (pv 4)) (fun _ _ => rfl)) (pe_glob (v := .ref (cs 27)) rfl T.y_AuctionError.gC rfl (by decide)) (.own _) rfl T.n_isinstance))) (fw_or (ft_not (ft_val (fe_is (fe_ix (hu_of hr) (fb_var (pv 3)) (fe_var (pv 4)) (fun _ _ => rfl)) (pe_bltn (v := .ty "ValueError") rfl T.n_ValueError rfl rfl (by decide) (by decide)) (.ty _) rfl T.n_isinstance))) (fw_or1 (ft_cmp (do_ne hr.units) (fb_of (fe_at (fe_ix (hu_of hr) (fb_var (pv 3)) (fe_var (pv 4)) (fun _ _ => rfl)))) (fb_of (fe_opE do_add (fe_var (pv 2)) (fe_var (pv 4)))) (by rfl))))))
    (fss_one (fs_ret fe_bl))
    fss_nil)
    (fss_cons (fs_if (ft_cmp (do_ne hr.units) (fb_of (fe_cl C_l_kinds (hr.mono (by decide)) hg bx_takes rfl (fa_cons (fe_ix (hu_of hr) (fb_var (pv 3)) (fe_var (pv 4)) (fun _ _ => rfl)) fa_nil))) (fb_of (fe_of_fn (t := false) (fn_lc (t := false) (own := [("t", 8)]) (ix := [8]) rfl sc_law.nd (fi_range1 rfl T.n_range (fab_cons (fb_of (fe_callB (dc_len) rfl T.n_len (by rfl) (fab_cons (fb_var (pv 3)) fab_nil))) fab_nil)) (blkOk_by (by kernel_rfl)) (fun _ _ _ _ _ => (fg_name (i := 8) sc_law.nd rfl (by first | exact Or.inl rfl | exact Or.inr rfl))) (by decide) (fun _ _ _ _ _ => fts_nil) (fun _ _ _ _ _ => (fe_cmp (do_eq hr.units) (fb_var (pv 8)) (fb_var (pv 4)) (by rfl)))))) (by rfl))
    (fss_one (fs_ret fe_bl))
    fss_nil)
    (fss_one (fs_if (ft_w (fw_or (ft_val (fe_is (fe_at (fe_ix (hu_of hr) (fb_var (pv 3)) (fe_var (pv 4)) (fun _ _ => rfl))) (pe_bltn (v := .ty "bool") rfl T.n_bool rfl rfl (by decide) (by decide)) (.ty _) rfl T.n_isinstance)) (fw_or1 (ft_not (ft_val (fe_is (fe_at (fe_ix (hu_of hr) (fb_var (pv 3)) (fe_var (pv 4)) (fun _ _ => rfl))) (pe_bltn (v := .ty "int") rfl T.n_int rfl rfl (by decide) (by decide)) (.ty _) rfl T.n_isinstance))))))
    (fss_one (fs_ret fe_bl))
    fss_nil)))))
    (fss_cons (fs_set (i := 5) sc_law.nd rfl (by first | exact Or.inl rfl | exact Or.inr rfl) (fe_errX (c := "AuctionError") rfl T.y_AuctionError hr (fe_var (pv 2)) rfl))
    (fss_cons (fs_if (ft_w (fw_or (ft_cmp (do_ne hr.units) (fb_of (fe_at (fe_var (pv 5)))) (fb_var (pv 2)) (by rfl)) (fw_or (ft_inD (do_in (units65 hr)) fe_bl (fb_of (fe_cl C_l_kinds (hr.mono (by decide)) hg bx_takes rfl (fa_cons (fe_var (pv 5)) fa_nil))) (by rfl)) (fw_or1 (ft_not (ft_val (fe_is (fe_var (pv 5)) (pe_bltn (v := .ty "ValueError") rfl T.n_ValueError rfl rfl (by decide) (by decide)) (.ty _) rfl T.n_isinstance)))))))
    (fss_one (fs_ret fe_bl))
    fss_nil)
    (fss_cons (fs_set (i := 6) sc_law.nd rfl (by first | exact Or.inl rfl | exact Or.inr rfl) (fe_ix (hu_of hr) (fb_of (fe_of_fn (t := false) (fn_list (t := false) (fa_cons fe_int (fa_cons fe_int (fa_cons fe_int (fa_cons (fe_un du_neg (fb_of fe_int)) fa_nil))))))) (fe_cl C_l_mix (hr.mono (by decide)) hg bx_takes rfl (fa_cons (fe_var (pv 1)) (fa_cons fe_int (fa_cons fe_int fa_nil)))) (fun _ _ => rfl)))
    (fss_cons (fs_set (i := 7) sc_law.nd rfl (by first | exact Or.inl rfl | exact Or.inr rfl) (fe_cl C_l_raised (hr.mono (by decide)) hg bx_takes rfl (fa_cons (fe_var (pv 6)) fa_nil)))
    (fss_one (fs_ret (fe_and (fe_cmp do_isnot (fb_var (pv 7)) (fb_of fe_non) (by rfl)) (fe_and (fe_cmp (do_eq hr.units) (fb_of (fe_at (fe_var (pv 7)))) (fb_var (pv 6)) (by rfl)) (fe_one (fe_cmp (do_eq hr.units) (fb_of (fe_cl C_l_kinds (hr.mono (by decide)) hg bx_takes rfl (fa_cons (fe_var (pv 7)) fa_nil))) (fb_of (fe_of_fn (t := false) (fn_lc (t := false) (own := [("t", 8)]) (ix := [8]) rfl sc_law.nd (fi_range1 rfl T.n_range (fab_cons (fb_of (fe_callB (dc_len) rfl T.n_len (by rfl) (fab_cons (fb_var (pv 3)) fab_nil))) fab_nil)) (blkOk_by (by kernel_rfl)) (fun _ _ _ _ _ => (fg_name (i := 8) sc_law.nd rfl (by first | exact Or.inl rfl | exact Or.inr rfl))) (by decide) (fun _ _ _ _ _ => fts_nil) (fun _ _ _ _ _ => (fe_cmp (do_eq hr.units) (fb_var (pv 8)) (fb_of fe_int) (by rfl)))))) (by rfl)))))))))))))))
end
section
variable {P : Program} {w : World} {K : Frg} {mg : MgT} {base : Heap} {cs : Nat → Addr}
theorem c_is_bundle (T : Txt P K mg cs) : CallG P w K mg base 1 "is_bundle" f_is_bundle := ok_is_bundle T
theorem c_inner (T : Txt P K mg cs) : CallG P w K mg base 1 "inner" f_inner := ok_inner T
theorem c_check_goods (T : Txt P K mg cs) : CallG P w K mg base 1 "check_goods" f_check_goods := ok_check_goods T
theorem c_l_draws (T : Txt P K mg cs) : CallS P w K mg base 1 "_law_draws" f_l_draws := ok_l_draws T
theorem c_l_mix (T : Txt P K mg cs) : CallG P w K mg base 1 "_law_mix" f_l_mix := ok_l_mix T
theorem c_l_kinds (T : Txt P K mg cs) : CallG P w K mg base 1 "_law_kinds" (f_l_kinds ⟨P, K, mg, cs⟩) := ok_l_kinds T
theorem c_l_made (T : Txt P K mg cs) : CallG P w K mg base 1 "_law_made" (f_l_made ⟨P, K, mg, cs⟩) := ok_l_made T
theorem c_is_part_n (T : Txt P K mg cs) : ∀ n : Nat, CallG P w K mg base (2 + n) "is_part" (f_is_part_n n)
  | 0 => T.d_is_part.idle
  | n + 1 => ok_is_part T (c_is_bundle T) (c_inner T) (c_is_part_n T n)
theorem c_is_part (T : Txt P K mg cs) : CallG P w K mg base 10 "is_part" f_is_part := c_is_part_n T 8
theorem c_parts_n (T : Txt P K mg cs) : ∀ n : Nat, CallG P w K mg base (2 + n) "parts" (f_parts_n n)
  | 0 => T.d_parts.idle
  | n + 1 => ok_parts T (c_inner T) (c_parts_n T n)
theorem c_parts (T : Txt P K mg cs) : CallG P w K mg base 10 "parts" f_parts := c_parts_n T 8
theorem c_is_tree (T : Txt P K mg cs) : CallG P w K mg base 11 "is_tree" f_is_tree := ok_is_tree T (c_is_part T) (c_parts T)
theorem c_check_tree (T : Txt P K mg cs) : CallG P w K mg base 12 "check_tree" f_check_tree := ok_check_tree T (c_check_goods T) (c_is_tree T)
theorem c_l_raised (T : Txt P K mg cs) : CallG P w K mg base 13 "_law_raised" (f_l_raised ⟨P, K, mg, cs⟩) := ok_l_raised T (c_check_tree T)
theorem c_law (T : Txt P K mg cs) : CallS P w K mg base 14 "law" (f_law ⟨P, K, mg, cs⟩) := ok_law T (c_l_draws T) (c_l_mix T) (c_l_made T) (c_l_kinds T) (c_l_raised T)
end
theorem mk_txt {P : Program} {K : Frg} {mg : MgT} {h : Heap} (X : K.In h) (G0 : h.Ns mainGlobals mg) {F_is_bundle : Addr} {oc_is_bundle : Value} {od_is_bundle an_is_bundle : Option Addr} {sl_is_bundle : Array (Option Value)} {kV_is_bundle dc_is_bundle pm_is_bundle cd_is_bundle ct_is_bundle : Value} {F_inner : Addr} {oc_inner : Value} {od_inner an_inner : Option Addr} {sl_inner : Array (Option Value)} {kV_inner dc_inner pm_inner cd_inner ct_inner : Value} {F_is_part : Addr} {oc_is_part : Value} {od_is_part an_is_part : Option Addr} {sl_is_part : Array (Option Value)} {kV_is_part dc_is_part pm_is_part cd_is_part ct_is_part : Value} {F_parts : Addr} {oc_parts : Value} {od_parts an_parts : Option Addr} {sl_parts : Array (Option Value)} {kV_parts dc_parts pm_parts cd_parts ct_parts : Value} {F_check_goods : Addr} {oc_check_goods : Value} {od_check_goods an_check_goods : Option Addr} {sl_check_goods : Array (Option Value)} {kV_check_goods dc_check_goods pm_check_goods cd_check_goods ct_check_goods : Value} {F_is_tree : Addr} {oc_is_tree : Value} {od_is_tree an_is_tree : Option Addr} {sl_is_tree : Array (Option Value)} {kV_is_tree dc_is_tree pm_is_tree cd_is_tree ct_is_tree : Value} {F_check_tree : Addr} {oc_check_tree : Value} {od_check_tree an_check_tree : Option Addr} {sl_check_tree : Array (Option Value)} {kV_check_tree dc_check_tree pm_check_tree cd_check_tree ct_check_tree : Value} {F_l_draws : Addr} {oc_l_draws : Value} {od_l_draws an_l_draws : Option Addr} {sl_l_draws : Array (Option Value)} {kV_l_draws dc_l_draws pm_l_draws cd_l_draws ct_l_draws : Value} {F_l_mix : Addr} {oc_l_mix : Value} {od_l_mix an_l_mix : Option Addr} {sl_l_mix : Array (Option Value)} {kV_l_mix dc_l_mix pm_l_mix cd_l_mix ct_l_mix : Value} {F_l_kinds : Addr} {oc_l_kinds : Value} {od_l_kinds an_l_kinds : Option Addr} {sl_l_kinds : Array (Option Value)} {kV_l_kinds dc_l_kinds pm_l_kinds cd_l_kinds ct_l_kinds : Value} {F_l_made : Addr} {oc_l_made : Value} {od_l_made an_l_made : Option Addr} {sl_l_made : Array (Option Value)} {kV_l_made dc_l_made pm_l_made cd_l_made ct_l_made : Value} {F_l_raised : Addr} {oc_l_raised : Value} {od_l_raised an_l_raised : Option Addr} {sl_l_raised : Array (Option Value)} {kV_l_raised dc_l_raised pm_l_raised cd_l_raised ct_l_raised : Value} {F_law : Addr} {oc_law : Value} {od_law an_law : Option Addr} {sl_law : Array (Option Value)} {kV_law dc_law pm_law cd_law ct_law : Value} {t_MOST_DEPTH : Tok} {A_WORDS : Addr} {n_WORDS : Nat} {od_WORDS : Option Addr} {sl_WORDS : Array (Option Value)} {t_WORDS_0 t_WORDS_1 : Tok} {t_MOST_WORTH : Tok} {t_MOST_UP : Tok} {t_MOST_GOODS : Tok} {t_MOST_PARTS : Tok} {X_OutOfRange : Addr} {cdx_OutOfRange : ClassData} {X_TooMany : Addr} {cdx_TooMany : ClassData} {X_BadTree : Addr} {cdx_BadTree : ClassData} {X_BadText : Addr} {cdx_BadText : ClassData} {X_BadLine : Addr} {cdx_BadLine : ClassData} {X_BadTable : Addr} {cdx_BadTable : ClassData} {X_BadBook : Addr} {cdx_BadBook : ClassData} {X_BadShare : Addr} {cdx_BadShare : ClassData} {X_BadBidder : Addr} {cdx_BadBidder : ClassData} {X_BadWord : Addr} {cdx_BadWord : ClassData} {X_BadRows : Addr} {cdx_BadRows : ClassData} {X_BadPrices : Addr} {cdx_BadPrices : ClassData} {X_BadBids : Addr} {cdx_BadBids : ClassData} {X_NoBidder : Addr} {cdx_NoBidder : ClassData} {X_BadPayment : Addr} {cdx_BadPayment : ClassData} {X_BadType : Addr} {cdx_BadType : ClassData} {X_BadEnd : Addr} {cdx_BadEnd : ClassData} {X_BadPaid : Addr} {cdx_BadPaid : ClassData} {X_BadBid : Addr} {cdx_BadBid : ClassData} {X_BadHope : Addr} {cdx_BadHope : ClassData} {X_BadWish : Addr} {cdx_BadWish : ClassData} {X_BadMoney : Addr} {cdx_BadMoney : ClassData} {X_NoSolution : Addr} {cdx_NoSolution : ClassData} {X_BadCosts : Addr} {cdx_BadCosts : ClassData} {X_BadSet : Addr} {cdx_BadSet : ClassData} {X_BadWorths : Addr} {cdx_BadWorths : ClassData} {X_NoWish : Addr} {cdx_NoWish : ClassData} {X_AuctionError : Addr} {cdx_AuctionError : ClassData}
    (a_is_bundle : PySem.W.nsIn K mainGlobals "is_bundle" = some (some (.ref F_is_bundle)))
    (l_is_bundle : K.lookup F_is_bundle = some ⟨oc_is_bundle, od_is_bundle, .func (PySem.W.fnOf "is_bundle" "is_bundle" (defArgs s_is_bundle) (defBody s_is_bundle) (defScope s_is_bundle) .none kV_is_bundle dc_is_bundle pm_is_bundle an_is_bundle cd_is_bundle ct_is_bundle), sl_is_bundle⟩)
    (k_is_bundle : PySem.W.codeIn K cd_is_bundle "is_bundle" = true)
    (p_is_bundle : PySem.W.keepIn K (.ref F_is_bundle) = true)
    (a_inner : PySem.W.nsIn K mainGlobals "inner" = some (some (.ref F_inner)))
    (l_inner : K.lookup F_inner = some ⟨oc_inner, od_inner, .func (PySem.W.fnOf "inner" "inner" (defArgs s_inner) (defBody s_inner) (defScope s_inner) .none kV_inner dc_inner pm_inner an_inner cd_inner ct_inner), sl_inner⟩)
    (k_inner : PySem.W.codeIn K cd_inner "inner" = true)
    (p_inner : PySem.W.keepIn K (.ref F_inner) = true)
    (a_is_part : PySem.W.nsIn K mainGlobals "is_part" = some (some (.ref F_is_part)))
    (l_is_part : K.lookup F_is_part = some ⟨oc_is_part, od_is_part, .func (PySem.W.fnOf "is_part" "is_part" (defArgs s_is_part) (defBody s_is_part) (defScope s_is_part) .none kV_is_part dc_is_part pm_is_part an_is_part cd_is_part ct_is_part), sl_is_part⟩)
    (k_is_part : PySem.W.codeIn K cd_is_part "is_part" = true)
    (p_is_part : PySem.W.keepIn K (.ref F_is_part) = true)
    (a_parts : PySem.W.nsIn K mainGlobals "parts" = some (some (.ref F_parts)))
    (l_parts : K.lookup F_parts = some ⟨oc_parts, od_parts, .func (PySem.W.fnOf "parts" "parts" (defArgs s_parts) (defBody s_parts) (defScope s_parts) .none kV_parts dc_parts pm_parts an_parts cd_parts ct_parts), sl_parts⟩)
    (k_parts : PySem.W.codeIn K cd_parts "parts" = true)
    (p_parts : PySem.W.keepIn K (.ref F_parts) = true)
    (a_check_goods : PySem.W.nsIn K mainGlobals "check_goods" = some (some (.ref F_check_goods)))
    (l_check_goods : K.lookup F_check_goods = some ⟨oc_check_goods, od_check_goods, .func (PySem.W.fnOf "check_goods" "check_goods" (defArgs s_check_goods) (defBody s_check_goods) (defScope s_check_goods) .none kV_check_goods dc_check_goods pm_check_goods an_check_goods cd_check_goods ct_check_goods), sl_check_goods⟩)
    (k_check_goods : PySem.W.codeIn K cd_check_goods "check_goods" = true)
    (p_check_goods : PySem.W.keepIn K (.ref F_check_goods) = true)
    (a_is_tree : PySem.W.nsIn K mainGlobals "is_tree" = some (some (.ref F_is_tree)))
    (l_is_tree : K.lookup F_is_tree = some ⟨oc_is_tree, od_is_tree, .func (PySem.W.fnOf "is_tree" "is_tree" (defArgs s_is_tree) (defBody s_is_tree) (defScope s_is_tree) .none kV_is_tree dc_is_tree pm_is_tree an_is_tree cd_is_tree ct_is_tree), sl_is_tree⟩)
    (k_is_tree : PySem.W.codeIn K cd_is_tree "is_tree" = true)
    (p_is_tree : PySem.W.keepIn K (.ref F_is_tree) = true)
    (a_check_tree : PySem.W.nsIn K mainGlobals "check_tree" = some (some (.ref F_check_tree)))
    (l_check_tree : K.lookup F_check_tree = some ⟨oc_check_tree, od_check_tree, .func (PySem.W.fnOf "check_tree" "check_tree" (defArgs s_check_tree) (defBody s_check_tree) (defScope s_check_tree) .none kV_check_tree dc_check_tree pm_check_tree an_check_tree cd_check_tree ct_check_tree), sl_check_tree⟩)
    (k_check_tree : PySem.W.codeIn K cd_check_tree "check_tree" = true)
    (p_check_tree : PySem.W.keepIn K (.ref F_check_tree) = true)
    (a_l_draws : PySem.W.nsIn K mainGlobals "_law_draws" = some (some (.ref F_l_draws)))
    (l_l_draws : K.lookup F_l_draws = some ⟨oc_l_draws, od_l_draws, .func (PySem.W.fnOf "_law_draws" "_law_draws" (defArgs s_l_draws) (defBody s_l_draws) (defScope s_l_draws) .none kV_l_draws dc_l_draws pm_l_draws an_l_draws cd_l_draws ct_l_draws), sl_l_draws⟩)
    (k_l_draws : PySem.W.codeIn K cd_l_draws "_law_draws" = true)
    (p_l_draws : PySem.W.keepIn K (.ref F_l_draws) = true)
    (a_l_mix : PySem.W.nsIn K mainGlobals "_law_mix" = some (some (.ref F_l_mix)))
    (l_l_mix : K.lookup F_l_mix = some ⟨oc_l_mix, od_l_mix, .func (PySem.W.fnOf "_law_mix" "_law_mix" (defArgs s_l_mix) (defBody s_l_mix) (defScope s_l_mix) .none kV_l_mix dc_l_mix pm_l_mix an_l_mix cd_l_mix ct_l_mix), sl_l_mix⟩)
    (k_l_mix : PySem.W.codeIn K cd_l_mix "_law_mix" = true)
    (p_l_mix : PySem.W.keepIn K (.ref F_l_mix) = true)
    (a_l_kinds : PySem.W.nsIn K mainGlobals "_law_kinds" = some (some (.ref F_l_kinds)))
    (l_l_kinds : K.lookup F_l_kinds = some ⟨oc_l_kinds, od_l_kinds, .func (PySem.W.fnOf "_law_kinds" "_law_kinds" (defArgs s_l_kinds) (defBody s_l_kinds) (defScope s_l_kinds) .none kV_l_kinds dc_l_kinds pm_l_kinds an_l_kinds cd_l_kinds ct_l_kinds), sl_l_kinds⟩)
    (k_l_kinds : PySem.W.codeIn K cd_l_kinds "_law_kinds" = true)
    (p_l_kinds : PySem.W.keepIn K (.ref F_l_kinds) = true)
    (a_l_made : PySem.W.nsIn K mainGlobals "_law_made" = some (some (.ref F_l_made)))
    (l_l_made : K.lookup F_l_made = some ⟨oc_l_made, od_l_made, .func (PySem.W.fnOf "_law_made" "_law_made" (defArgs s_l_made) (defBody s_l_made) (defScope s_l_made) .none kV_l_made dc_l_made pm_l_made an_l_made cd_l_made ct_l_made), sl_l_made⟩)
    (k_l_made : PySem.W.codeIn K cd_l_made "_law_made" = true)
    (p_l_made : PySem.W.keepIn K (.ref F_l_made) = true)
    (a_l_raised : PySem.W.nsIn K mainGlobals "_law_raised" = some (some (.ref F_l_raised)))
    (l_l_raised : K.lookup F_l_raised = some ⟨oc_l_raised, od_l_raised, .func (PySem.W.fnOf "_law_raised" "_law_raised" (defArgs s_l_raised) (defBody s_l_raised) (defScope s_l_raised) .none kV_l_raised dc_l_raised pm_l_raised an_l_raised cd_l_raised ct_l_raised), sl_l_raised⟩)
    (k_l_raised : PySem.W.codeIn K cd_l_raised "_law_raised" = true)
    (p_l_raised : PySem.W.keepIn K (.ref F_l_raised) = true)
    (a_law : PySem.W.nsIn K mainGlobals "law" = some (some (.ref F_law)))
    (l_law : K.lookup F_law = some ⟨oc_law, od_law, .func (PySem.W.fnOf "law" "law" (defArgs s_law) (defBody s_law) (defScope s_law) .none kV_law dc_law pm_law an_law cd_law ct_law), sl_law⟩)
    (k_law : PySem.W.codeIn K cd_law "law" = true)
    (p_law : PySem.W.keepIn K (.ref F_law) = true)
    (z_len : PySem.W.nsIn K mainGlobals "len" = some none)
    (z_list : PySem.W.nsIn K mainGlobals "list" = some none)
    (z_sorted : PySem.W.nsIn K mainGlobals "sorted" = some none)
    (z_set : PySem.W.nsIn K mainGlobals "set" = some none)
    (z_all : PySem.W.nsIn K mainGlobals "all" = some none)
    (z_sum : PySem.W.nsIn K mainGlobals "sum" = some none)
    (z_range : PySem.W.nsIn K mainGlobals "range" = some none)
    (z_min : PySem.W.nsIn K mainGlobals "min" = some none)
    (z_abs : PySem.W.nsIn K mainGlobals "abs" = some none)
    (z_int : PySem.W.nsIn K mainGlobals "int" = some none)
    (z_isinstance : PySem.W.nsIn K mainGlobals "isinstance" = some none)
    (z_ValueError : PySem.W.nsIn K mainGlobals "ValueError" = some none)
    (z_bool : PySem.W.nsIn K mainGlobals "bool" = some none)
    (i_MOST_DEPTH : PySem.W.nsIn K mainGlobals "MOST_DEPTH" = some (some (.int 5 t_MOST_DEPTH)))
    (u_WORDS : PySem.W.nsIn K mainGlobals "WORDS" = some (some (.ref A_WORDS)))
    (v_WORDS : K.lookup A_WORDS = some ⟨.type "tuple", od_WORDS, .seq #[.str "xor" t_WORDS_0, .str "or" t_WORDS_1] n_WORDS, sl_WORDS⟩)
    (i_MOST_WORTH : PySem.W.nsIn K mainGlobals "MOST_WORTH" = some (some (.int 1000000 t_MOST_WORTH)))
    (i_MOST_UP : PySem.W.nsIn K mainGlobals "MOST_UP" = some (some (.int 9 t_MOST_UP)))
    (i_MOST_GOODS : PySem.W.nsIn K mainGlobals "MOST_GOODS" = some (some (.int 6 t_MOST_GOODS)))
    (i_MOST_PARTS : PySem.W.nsIn K mainGlobals "MOST_PARTS" = some (some (.int 40 t_MOST_PARTS)))
    (e_OutOfRange : ErrG P K mg "OutOfRange")
    (e_BadTree : ErrG P K mg "BadTree")
    (ya_OutOfRange : PySem.W.nsIn K mainGlobals (Str.ofString "OutOfRange") = some (some (.ref X_OutOfRange)))
    (yb_OutOfRange : PySem.W.clsIn K X_OutOfRange = some cdx_OutOfRange)
    (yc_OutOfRange : PySem.W.findIn K (.ref X_OutOfRange) "__class__" = some (some (.builtin "object.__class__")))
    (yd_OutOfRange : PySem.W.specialIn K (.builtin "object.__class__") "__get__" = some (some (.builtin "getset_descriptor.__get__")))
    (ye_OutOfRange : PySem.W.takesIn K (.builtin "object.__class__") = some true)
    (yf_OutOfRange : PySem.W.mroIn K X_OutOfRange (.type "object") = some true)
    (ya_TooMany : PySem.W.nsIn K mainGlobals (Str.ofString "TooMany") = some (some (.ref X_TooMany)))
    (yb_TooMany : PySem.W.clsIn K X_TooMany = some cdx_TooMany)
    (yc_TooMany : PySem.W.findIn K (.ref X_TooMany) "__class__" = some (some (.builtin "object.__class__")))
    (yd_TooMany : PySem.W.specialIn K (.builtin "object.__class__") "__get__" = some (some (.builtin "getset_descriptor.__get__")))
    (ye_TooMany : PySem.W.takesIn K (.builtin "object.__class__") = some true)
    (yf_TooMany : PySem.W.mroIn K X_TooMany (.type "object") = some true)
    (e_TooMany : ErrG P K mg "TooMany")
    (ya_BadTree : PySem.W.nsIn K mainGlobals (Str.ofString "BadTree") = some (some (.ref X_BadTree)))
    (yb_BadTree : PySem.W.clsIn K X_BadTree = some cdx_BadTree)
    (yc_BadTree : PySem.W.findIn K (.ref X_BadTree) "__class__" = some (some (.builtin "object.__class__")))
    (yd_BadTree : PySem.W.specialIn K (.builtin "object.__class__") "__get__" = some (some (.builtin "getset_descriptor.__get__")))
    (ye_BadTree : PySem.W.takesIn K (.builtin "object.__class__") = some true)
    (yf_BadTree : PySem.W.mroIn K X_BadTree (.type "object") = some true)
    (ya_BadText : PySem.W.nsIn K mainGlobals (Str.ofString "BadText") = some (some (.ref X_BadText)))
    (yb_BadText : PySem.W.clsIn K X_BadText = some cdx_BadText)
    (yc_BadText : PySem.W.findIn K (.ref X_BadText) "__class__" = some (some (.builtin "object.__class__")))
    (yd_BadText : PySem.W.specialIn K (.builtin "object.__class__") "__get__" = some (some (.builtin "getset_descriptor.__get__")))
    (ye_BadText : PySem.W.takesIn K (.builtin "object.__class__") = some true)
    (yf_BadText : PySem.W.mroIn K X_BadText (.type "object") = some true)
    (e_BadText : ErrG P K mg "BadText")
    (ya_BadLine : PySem.W.nsIn K mainGlobals (Str.ofString "BadLine") = some (some (.ref X_BadLine)))
    (yb_BadLine : PySem.W.clsIn K X_BadLine = some cdx_BadLine)
    (yc_BadLine : PySem.W.findIn K (.ref X_BadLine) "__class__" = some (some (.builtin "object.__class__")))
    (yd_BadLine : PySem.W.specialIn K (.builtin "object.__class__") "__get__" = some (some (.builtin "getset_descriptor.__get__")))
    (ye_BadLine : PySem.W.takesIn K (.builtin "object.__class__") = some true)
    (yf_BadLine : PySem.W.mroIn K X_BadLine (.type "object") = some true)
    (e_BadLine : ErrG P K mg "BadLine")
    (ya_BadTable : PySem.W.nsIn K mainGlobals (Str.ofString "BadTable") = some (some (.ref X_BadTable)))
    (yb_BadTable : PySem.W.clsIn K X_BadTable = some cdx_BadTable)
    (yc_BadTable : PySem.W.findIn K (.ref X_BadTable) "__class__" = some (some (.builtin "object.__class__")))
    (yd_BadTable : PySem.W.specialIn K (.builtin "object.__class__") "__get__" = some (some (.builtin "getset_descriptor.__get__")))
    (ye_BadTable : PySem.W.takesIn K (.builtin "object.__class__") = some true)
    (yf_BadTable : PySem.W.mroIn K X_BadTable (.type "object") = some true)
    (e_BadTable : ErrG P K mg "BadTable")
    (ya_BadBook : PySem.W.nsIn K mainGlobals (Str.ofString "BadBook") = some (some (.ref X_BadBook)))
    (yb_BadBook : PySem.W.clsIn K X_BadBook = some cdx_BadBook)
    (yc_BadBook : PySem.W.findIn K (.ref X_BadBook) "__class__" = some (some (.builtin "object.__class__")))
    (yd_BadBook : PySem.W.specialIn K (.builtin "object.__class__") "__get__" = some (some (.builtin "getset_descriptor.__get__")))
    (ye_BadBook : PySem.W.takesIn K (.builtin "object.__class__") = some true)
    (yf_BadBook : PySem.W.mroIn K X_BadBook (.type "object") = some true)
    (e_BadBook : ErrG P K mg "BadBook")
    (ya_BadShare : PySem.W.nsIn K mainGlobals (Str.ofString "BadShare") = some (some (.ref X_BadShare)))
    (yb_BadShare : PySem.W.clsIn K X_BadShare = some cdx_BadShare)
    (yc_BadShare : PySem.W.findIn K (.ref X_BadShare) "__class__" = some (some (.builtin "object.__class__")))
    (yd_BadShare : PySem.W.specialIn K (.builtin "object.__class__") "__get__" = some (some (.builtin "getset_descriptor.__get__")))
    (ye_BadShare : PySem.W.takesIn K (.builtin "object.__class__") = some true)
    (yf_BadShare : PySem.W.mroIn K X_BadShare (.type "object") = some true)
    (e_BadShare : ErrG P K mg "BadShare")
    (ya_BadBidder : PySem.W.nsIn K mainGlobals (Str.ofString "BadBidder") = some (some (.ref X_BadBidder)))
    (yb_BadBidder : PySem.W.clsIn K X_BadBidder = some cdx_BadBidder)
    (yc_BadBidder : PySem.W.findIn K (.ref X_BadBidder) "__class__" = some (some (.builtin "object.__class__")))
    (yd_BadBidder : PySem.W.specialIn K (.builtin "object.__class__") "__get__" = some (some (.builtin "getset_descriptor.__get__")))
    (ye_BadBidder : PySem.W.takesIn K (.builtin "object.__class__") = some true)
    (yf_BadBidder : PySem.W.mroIn K X_BadBidder (.type "object") = some true)
    (e_BadBidder : ErrG P K mg "BadBidder")
    (ya_BadWord : PySem.W.nsIn K mainGlobals (Str.ofString "BadWord") = some (some (.ref X_BadWord)))
    (yb_BadWord : PySem.W.clsIn K X_BadWord = some cdx_BadWord)
    (yc_BadWord : PySem.W.findIn K (.ref X_BadWord) "__class__" = some (some (.builtin "object.__class__")))
    (yd_BadWord : PySem.W.specialIn K (.builtin "object.__class__") "__get__" = some (some (.builtin "getset_descriptor.__get__")))
    (ye_BadWord : PySem.W.takesIn K (.builtin "object.__class__") = some true)
    (yf_BadWord : PySem.W.mroIn K X_BadWord (.type "object") = some true)
    (e_BadWord : ErrG P K mg "BadWord")
    (ya_BadRows : PySem.W.nsIn K mainGlobals (Str.ofString "BadRows") = some (some (.ref X_BadRows)))
    (yb_BadRows : PySem.W.clsIn K X_BadRows = some cdx_BadRows)
    (yc_BadRows : PySem.W.findIn K (.ref X_BadRows) "__class__" = some (some (.builtin "object.__class__")))
    (yd_BadRows : PySem.W.specialIn K (.builtin "object.__class__") "__get__" = some (some (.builtin "getset_descriptor.__get__")))
    (ye_BadRows : PySem.W.takesIn K (.builtin "object.__class__") = some true)
    (yf_BadRows : PySem.W.mroIn K X_BadRows (.type "object") = some true)
    (e_BadRows : ErrG P K mg "BadRows")
    (ya_BadPrices : PySem.W.nsIn K mainGlobals (Str.ofString "BadPrices") = some (some (.ref X_BadPrices)))
    (yb_BadPrices : PySem.W.clsIn K X_BadPrices = some cdx_BadPrices)
    (yc_BadPrices : PySem.W.findIn K (.ref X_BadPrices) "__class__" = some (some (.builtin "object.__class__")))
    (yd_BadPrices : PySem.W.specialIn K (.builtin "object.__class__") "__get__" = some (some (.builtin "getset_descriptor.__get__")))
    (ye_BadPrices : PySem.W.takesIn K (.builtin "object.__class__") = some true)
    (yf_BadPrices : PySem.W.mroIn K X_BadPrices (.type "object") = some true)
    (e_BadPrices : ErrG P K mg "BadPrices")
    (ya_BadBids : PySem.W.nsIn K mainGlobals (Str.ofString "BadBids") = some (some (.ref X_BadBids)))
    (yb_BadBids : PySem.W.clsIn K X_BadBids = some cdx_BadBids)
    (yc_BadBids : PySem.W.findIn K (.ref X_BadBids) "__class__" = some (some (.builtin "object.__class__")))
    (yd_BadBids : PySem.W.specialIn K (.builtin "object.__class__") "__get__" = some (some (.builtin "getset_descriptor.__get__")))
    (ye_BadBids : PySem.W.takesIn K (.builtin "object.__class__") = some true)
    (yf_BadBids : PySem.W.mroIn K X_BadBids (.type "object") = some true)
    (e_BadBids : ErrG P K mg "BadBids")
    (ya_NoBidder : PySem.W.nsIn K mainGlobals (Str.ofString "NoBidder") = some (some (.ref X_NoBidder)))
    (yb_NoBidder : PySem.W.clsIn K X_NoBidder = some cdx_NoBidder)
    (yc_NoBidder : PySem.W.findIn K (.ref X_NoBidder) "__class__" = some (some (.builtin "object.__class__")))
    (yd_NoBidder : PySem.W.specialIn K (.builtin "object.__class__") "__get__" = some (some (.builtin "getset_descriptor.__get__")))
    (ye_NoBidder : PySem.W.takesIn K (.builtin "object.__class__") = some true)
    (yf_NoBidder : PySem.W.mroIn K X_NoBidder (.type "object") = some true)
    (e_NoBidder : ErrG P K mg "NoBidder")
    (ya_BadPayment : PySem.W.nsIn K mainGlobals (Str.ofString "BadPayment") = some (some (.ref X_BadPayment)))
    (yb_BadPayment : PySem.W.clsIn K X_BadPayment = some cdx_BadPayment)
    (yc_BadPayment : PySem.W.findIn K (.ref X_BadPayment) "__class__" = some (some (.builtin "object.__class__")))
    (yd_BadPayment : PySem.W.specialIn K (.builtin "object.__class__") "__get__" = some (some (.builtin "getset_descriptor.__get__")))
    (ye_BadPayment : PySem.W.takesIn K (.builtin "object.__class__") = some true)
    (yf_BadPayment : PySem.W.mroIn K X_BadPayment (.type "object") = some true)
    (e_BadPayment : ErrG P K mg "BadPayment")
    (ya_BadType : PySem.W.nsIn K mainGlobals (Str.ofString "BadType") = some (some (.ref X_BadType)))
    (yb_BadType : PySem.W.clsIn K X_BadType = some cdx_BadType)
    (yc_BadType : PySem.W.findIn K (.ref X_BadType) "__class__" = some (some (.builtin "object.__class__")))
    (yd_BadType : PySem.W.specialIn K (.builtin "object.__class__") "__get__" = some (some (.builtin "getset_descriptor.__get__")))
    (ye_BadType : PySem.W.takesIn K (.builtin "object.__class__") = some true)
    (yf_BadType : PySem.W.mroIn K X_BadType (.type "object") = some true)
    (e_BadType : ErrG P K mg "BadType")
    (ya_BadEnd : PySem.W.nsIn K mainGlobals (Str.ofString "BadEnd") = some (some (.ref X_BadEnd)))
    (yb_BadEnd : PySem.W.clsIn K X_BadEnd = some cdx_BadEnd)
    (yc_BadEnd : PySem.W.findIn K (.ref X_BadEnd) "__class__" = some (some (.builtin "object.__class__")))
    (yd_BadEnd : PySem.W.specialIn K (.builtin "object.__class__") "__get__" = some (some (.builtin "getset_descriptor.__get__")))
    (ye_BadEnd : PySem.W.takesIn K (.builtin "object.__class__") = some true)
    (yf_BadEnd : PySem.W.mroIn K X_BadEnd (.type "object") = some true)
    (e_BadEnd : ErrG P K mg "BadEnd")
    (ya_BadPaid : PySem.W.nsIn K mainGlobals (Str.ofString "BadPaid") = some (some (.ref X_BadPaid)))
    (yb_BadPaid : PySem.W.clsIn K X_BadPaid = some cdx_BadPaid)
    (yc_BadPaid : PySem.W.findIn K (.ref X_BadPaid) "__class__" = some (some (.builtin "object.__class__")))
    (yd_BadPaid : PySem.W.specialIn K (.builtin "object.__class__") "__get__" = some (some (.builtin "getset_descriptor.__get__")))
    (ye_BadPaid : PySem.W.takesIn K (.builtin "object.__class__") = some true)
    (yf_BadPaid : PySem.W.mroIn K X_BadPaid (.type "object") = some true)
    (e_BadPaid : ErrG P K mg "BadPaid")
    (ya_BadBid : PySem.W.nsIn K mainGlobals (Str.ofString "BadBid") = some (some (.ref X_BadBid)))
    (yb_BadBid : PySem.W.clsIn K X_BadBid = some cdx_BadBid)
    (yc_BadBid : PySem.W.findIn K (.ref X_BadBid) "__class__" = some (some (.builtin "object.__class__")))
    (yd_BadBid : PySem.W.specialIn K (.builtin "object.__class__") "__get__" = some (some (.builtin "getset_descriptor.__get__")))
    (ye_BadBid : PySem.W.takesIn K (.builtin "object.__class__") = some true)
    (yf_BadBid : PySem.W.mroIn K X_BadBid (.type "object") = some true)
    (e_BadBid : ErrG P K mg "BadBid")
    (ya_BadHope : PySem.W.nsIn K mainGlobals (Str.ofString "BadHope") = some (some (.ref X_BadHope)))
    (yb_BadHope : PySem.W.clsIn K X_BadHope = some cdx_BadHope)
    (yc_BadHope : PySem.W.findIn K (.ref X_BadHope) "__class__" = some (some (.builtin "object.__class__")))
    (yd_BadHope : PySem.W.specialIn K (.builtin "object.__class__") "__get__" = some (some (.builtin "getset_descriptor.__get__")))
    (ye_BadHope : PySem.W.takesIn K (.builtin "object.__class__") = some true)
    (yf_BadHope : PySem.W.mroIn K X_BadHope (.type "object") = some true)
    (e_BadHope : ErrG P K mg "BadHope")
    (ya_BadWish : PySem.W.nsIn K mainGlobals (Str.ofString "BadWish") = some (some (.ref X_BadWish)))
    (yb_BadWish : PySem.W.clsIn K X_BadWish = some cdx_BadWish)
    (yc_BadWish : PySem.W.findIn K (.ref X_BadWish) "__class__" = some (some (.builtin "object.__class__")))
    (yd_BadWish : PySem.W.specialIn K (.builtin "object.__class__") "__get__" = some (some (.builtin "getset_descriptor.__get__")))
    (ye_BadWish : PySem.W.takesIn K (.builtin "object.__class__") = some true)
    (yf_BadWish : PySem.W.mroIn K X_BadWish (.type "object") = some true)
    (e_BadWish : ErrG P K mg "BadWish")
    (ya_BadMoney : PySem.W.nsIn K mainGlobals (Str.ofString "BadMoney") = some (some (.ref X_BadMoney)))
    (yb_BadMoney : PySem.W.clsIn K X_BadMoney = some cdx_BadMoney)
    (yc_BadMoney : PySem.W.findIn K (.ref X_BadMoney) "__class__" = some (some (.builtin "object.__class__")))
    (yd_BadMoney : PySem.W.specialIn K (.builtin "object.__class__") "__get__" = some (some (.builtin "getset_descriptor.__get__")))
    (ye_BadMoney : PySem.W.takesIn K (.builtin "object.__class__") = some true)
    (yf_BadMoney : PySem.W.mroIn K X_BadMoney (.type "object") = some true)
    (e_BadMoney : ErrG P K mg "BadMoney")
    (ya_NoSolution : PySem.W.nsIn K mainGlobals (Str.ofString "NoSolution") = some (some (.ref X_NoSolution)))
    (yb_NoSolution : PySem.W.clsIn K X_NoSolution = some cdx_NoSolution)
    (yc_NoSolution : PySem.W.findIn K (.ref X_NoSolution) "__class__" = some (some (.builtin "object.__class__")))
    (yd_NoSolution : PySem.W.specialIn K (.builtin "object.__class__") "__get__" = some (some (.builtin "getset_descriptor.__get__")))
    (ye_NoSolution : PySem.W.takesIn K (.builtin "object.__class__") = some true)
    (yf_NoSolution : PySem.W.mroIn K X_NoSolution (.type "object") = some true)
    (e_NoSolution : ErrG P K mg "NoSolution")
    (ya_BadCosts : PySem.W.nsIn K mainGlobals (Str.ofString "BadCosts") = some (some (.ref X_BadCosts)))
    (yb_BadCosts : PySem.W.clsIn K X_BadCosts = some cdx_BadCosts)
    (yc_BadCosts : PySem.W.findIn K (.ref X_BadCosts) "__class__" = some (some (.builtin "object.__class__")))
    (yd_BadCosts : PySem.W.specialIn K (.builtin "object.__class__") "__get__" = some (some (.builtin "getset_descriptor.__get__")))
    (ye_BadCosts : PySem.W.takesIn K (.builtin "object.__class__") = some true)
    (yf_BadCosts : PySem.W.mroIn K X_BadCosts (.type "object") = some true)
    (e_BadCosts : ErrG P K mg "BadCosts")
    (ya_BadSet : PySem.W.nsIn K mainGlobals (Str.ofString "BadSet") = some (some (.ref X_BadSet)))
    (yb_BadSet : PySem.W.clsIn K X_BadSet = some cdx_BadSet)
    (yc_BadSet : PySem.W.findIn K (.ref X_BadSet) "__class__" = some (some (.builtin "object.__class__")))
    (yd_BadSet : PySem.W.specialIn K (.builtin "object.__class__") "__get__" = some (some (.builtin "getset_descriptor.__get__")))
    (ye_BadSet : PySem.W.takesIn K (.builtin "object.__class__") = some true)
    (yf_BadSet : PySem.W.mroIn K X_BadSet (.type "object") = some true)
    (e_BadSet : ErrG P K mg "BadSet")
    (ya_BadWorths : PySem.W.nsIn K mainGlobals (Str.ofString "BadWorths") = some (some (.ref X_BadWorths)))
    (yb_BadWorths : PySem.W.clsIn K X_BadWorths = some cdx_BadWorths)
    (yc_BadWorths : PySem.W.findIn K (.ref X_BadWorths) "__class__" = some (some (.builtin "object.__class__")))
    (yd_BadWorths : PySem.W.specialIn K (.builtin "object.__class__") "__get__" = some (some (.builtin "getset_descriptor.__get__")))
    (ye_BadWorths : PySem.W.takesIn K (.builtin "object.__class__") = some true)
    (yf_BadWorths : PySem.W.mroIn K X_BadWorths (.type "object") = some true)
    (e_BadWorths : ErrG P K mg "BadWorths")
    (ya_NoWish : PySem.W.nsIn K mainGlobals (Str.ofString "NoWish") = some (some (.ref X_NoWish)))
    (yb_NoWish : PySem.W.clsIn K X_NoWish = some cdx_NoWish)
    (yc_NoWish : PySem.W.findIn K (.ref X_NoWish) "__class__" = some (some (.builtin "object.__class__")))
    (yd_NoWish : PySem.W.specialIn K (.builtin "object.__class__") "__get__" = some (some (.builtin "getset_descriptor.__get__")))
    (ye_NoWish : PySem.W.takesIn K (.builtin "object.__class__") = some true)
    (yf_NoWish : PySem.W.mroIn K X_NoWish (.type "object") = some true)
    (e_NoWish : ErrG P K mg "NoWish")
    (ya_AuctionError : PySem.W.nsIn K mainGlobals (Str.ofString "AuctionError") = some (some (.ref X_AuctionError)))
    (yb_AuctionError : PySem.W.clsIn K X_AuctionError = some cdx_AuctionError)
    (yc_AuctionError : PySem.W.findIn K (.ref X_AuctionError) "__class__" = some (some (.builtin "object.__class__")))
    (yd_AuctionError : PySem.W.specialIn K (.builtin "object.__class__") "__get__" = some (some (.builtin "getset_descriptor.__get__")))
    (ye_AuctionError : PySem.W.takesIn K (.builtin "object.__class__") = some true)
    (yf_AuctionError : PySem.W.mroIn K X_AuctionError (.type "object") = some true)
    (e_AuctionError : ErrG P K mg "AuctionError")
    (bx_BadTree_AuctionError : PySem.W.exmOne K (.ref X_BadTree) (.ref X_AuctionError) = some true)
    (bx_OutOfRange_AuctionError : PySem.W.exmOne K (.ref X_OutOfRange) (.ref X_AuctionError) = some true)
    (kr_0 : Kinds K (.ref X_OutOfRange) [(.ref X_OutOfRange, true), (.ref X_TooMany, false), (.ref X_BadTree, false), (.ref X_BadText, false), (.ref X_BadLine, false), (.ref X_BadTable, false), (.ref X_BadBook, false), (.ref X_BadShare, false), (.ref X_BadBidder, false), (.ref X_BadWord, false), (.ref X_BadRows, false), (.ref X_BadPrices, false), (.ref X_BadBids, false), (.ref X_NoBidder, false), (.ref X_BadPayment, false), (.ref X_BadType, false), (.ref X_BadEnd, false), (.ref X_BadPaid, false), (.ref X_BadBid, false), (.ref X_BadHope, false), (.ref X_BadWish, false), (.ref X_BadMoney, false), (.ref X_NoSolution, false), (.ref X_BadCosts, false), (.ref X_BadSet, false), (.ref X_BadWorths, false), (.ref X_NoWish, false), (.ref X_AuctionError, true), (.type "ValueError", true)])
    (kr_1 : Kinds K (.ref X_TooMany) [(.ref X_OutOfRange, false), (.ref X_TooMany, true), (.ref X_BadTree, false), (.ref X_BadText, false), (.ref X_BadLine, false), (.ref X_BadTable, false), (.ref X_BadBook, false), (.ref X_BadShare, false), (.ref X_BadBidder, false), (.ref X_BadWord, false), (.ref X_BadRows, false), (.ref X_BadPrices, false), (.ref X_BadBids, false), (.ref X_NoBidder, false), (.ref X_BadPayment, false), (.ref X_BadType, false), (.ref X_BadEnd, false), (.ref X_BadPaid, false), (.ref X_BadBid, false), (.ref X_BadHope, false), (.ref X_BadWish, false), (.ref X_BadMoney, false), (.ref X_NoSolution, false), (.ref X_BadCosts, false), (.ref X_BadSet, false), (.ref X_BadWorths, false), (.ref X_NoWish, false), (.ref X_AuctionError, true), (.type "ValueError", true)])
    (kr_2 : Kinds K (.ref X_BadTree) [(.ref X_OutOfRange, false), (.ref X_TooMany, false), (.ref X_BadTree, true), (.ref X_BadText, false), (.ref X_BadLine, false), (.ref X_BadTable, false), (.ref X_BadBook, false), (.ref X_BadShare, false), (.ref X_BadBidder, false), (.ref X_BadWord, false), (.ref X_BadRows, false), (.ref X_BadPrices, false), (.ref X_BadBids, false), (.ref X_NoBidder, false), (.ref X_BadPayment, false), (.ref X_BadType, false), (.ref X_BadEnd, false), (.ref X_BadPaid, false), (.ref X_BadBid, false), (.ref X_BadHope, false), (.ref X_BadWish, false), (.ref X_BadMoney, false), (.ref X_NoSolution, false), (.ref X_BadCosts, false), (.ref X_BadSet, false), (.ref X_BadWorths, false), (.ref X_NoWish, false), (.ref X_AuctionError, true), (.type "ValueError", true)])
    (kr_3 : Kinds K (.ref X_BadText) [(.ref X_OutOfRange, false), (.ref X_TooMany, false), (.ref X_BadTree, false), (.ref X_BadText, true), (.ref X_BadLine, false), (.ref X_BadTable, false), (.ref X_BadBook, false), (.ref X_BadShare, false), (.ref X_BadBidder, false), (.ref X_BadWord, false), (.ref X_BadRows, false), (.ref X_BadPrices, false), (.ref X_BadBids, false), (.ref X_NoBidder, false), (.ref X_BadPayment, false), (.ref X_BadType, false), (.ref X_BadEnd, false), (.ref X_BadPaid, false), (.ref X_BadBid, false), (.ref X_BadHope, false), (.ref X_BadWish, false), (.ref X_BadMoney, false), (.ref X_NoSolution, false), (.ref X_BadCosts, false), (.ref X_BadSet, false), (.ref X_BadWorths, false), (.ref X_NoWish, false), (.ref X_AuctionError, true), (.type "ValueError", true)])
    (kr_4 : Kinds K (.ref X_BadLine) [(.ref X_OutOfRange, false), (.ref X_TooMany, false), (.ref X_BadTree, false), (.ref X_BadText, false), (.ref X_BadLine, true), (.ref X_BadTable, false), (.ref X_BadBook, false), (.ref X_BadShare, false), (.ref X_BadBidder, false), (.ref X_BadWord, false), (.ref X_BadRows, false), (.ref X_BadPrices, false), (.ref X_BadBids, false), (.ref X_NoBidder, false), (.ref X_BadPayment, false), (.ref X_BadType, false), (.ref X_BadEnd, false), (.ref X_BadPaid, false), (.ref X_BadBid, false), (.ref X_BadHope, false), (.ref X_BadWish, false), (.ref X_BadMoney, false), (.ref X_NoSolution, false), (.ref X_BadCosts, false), (.ref X_BadSet, false), (.ref X_BadWorths, false), (.ref X_NoWish, false), (.ref X_AuctionError, true), (.type "ValueError", true)])
    (kr_5 : Kinds K (.ref X_BadTable) [(.ref X_OutOfRange, false), (.ref X_TooMany, false), (.ref X_BadTree, false), (.ref X_BadText, false), (.ref X_BadLine, false), (.ref X_BadTable, true), (.ref X_BadBook, false), (.ref X_BadShare, false), (.ref X_BadBidder, false), (.ref X_BadWord, false), (.ref X_BadRows, false), (.ref X_BadPrices, false), (.ref X_BadBids, false), (.ref X_NoBidder, false), (.ref X_BadPayment, false), (.ref X_BadType, false), (.ref X_BadEnd, false), (.ref X_BadPaid, false), (.ref X_BadBid, false), (.ref X_BadHope, false), (.ref X_BadWish, false), (.ref X_BadMoney, false), (.ref X_NoSolution, false), (.ref X_BadCosts, false), (.ref X_BadSet, false), (.ref X_BadWorths, false), (.ref X_NoWish, false), (.ref X_AuctionError, true), (.type "ValueError", true)])
    (kr_6 : Kinds K (.ref X_BadBook) [(.ref X_OutOfRange, false), (.ref X_TooMany, false), (.ref X_BadTree, false), (.ref X_BadText, false), (.ref X_BadLine, false), (.ref X_BadTable, false), (.ref X_BadBook, true), (.ref X_BadShare, false), (.ref X_BadBidder, false), (.ref X_BadWord, false), (.ref X_BadRows, false), (.ref X_BadPrices, false), (.ref X_BadBids, false), (.ref X_NoBidder, false), (.ref X_BadPayment, false), (.ref X_BadType, false), (.ref X_BadEnd, false), (.ref X_BadPaid, false), (.ref X_BadBid, false), (.ref X_BadHope, false), (.ref X_BadWish, false), (.ref X_BadMoney, false), (.ref X_NoSolution, false), (.ref X_BadCosts, false), (.ref X_BadSet, false), (.ref X_BadWorths, false), (.ref X_NoWish, false), (.ref X_AuctionError, true), (.type "ValueError", true)])
    (kr_7 : Kinds K (.ref X_BadShare) [(.ref X_OutOfRange, false), (.ref X_TooMany, false), (.ref X_BadTree, false), (.ref X_BadText, false), (.ref X_BadLine, false), (.ref X_BadTable, false), (.ref X_BadBook, false), (.ref X_BadShare, true), (.ref X_BadBidder, false), (.ref X_BadWord, false), (.ref X_BadRows, false), (.ref X_BadPrices, false), (.ref X_BadBids, false), (.ref X_NoBidder, false), (.ref X_BadPayment, false), (.ref X_BadType, false), (.ref X_BadEnd, false), (.ref X_BadPaid, false), (.ref X_BadBid, false), (.ref X_BadHope, false), (.ref X_BadWish, false), (.ref X_BadMoney, false), (.ref X_NoSolution, false), (.ref X_BadCosts, false), (.ref X_BadSet, false), (.ref X_BadWorths, false), (.ref X_NoWish, false), (.ref X_AuctionError, true), (.type "ValueError", true)])
    (kr_8 : Kinds K (.ref X_BadBidder) [(.ref X_OutOfRange, false), (.ref X_TooMany, false), (.ref X_BadTree, false), (.ref X_BadText, false), (.ref X_BadLine, false), (.ref X_BadTable, false), (.ref X_BadBook, false), (.ref X_BadShare, false), (.ref X_BadBidder, true), (.ref X_BadWord, false), (.ref X_BadRows, false), (.ref X_BadPrices, false), (.ref X_BadBids, false), (.ref X_NoBidder, false), (.ref X_BadPayment, false), (.ref X_BadType, false), (.ref X_BadEnd, false), (.ref X_BadPaid, false), (.ref X_BadBid, false), (.ref X_BadHope, false), (.ref X_BadWish, false), (.ref X_BadMoney, false), (.ref X_NoSolution, false), (.ref X_BadCosts, false), (.ref X_BadSet, false), (.ref X_BadWorths, false), (.ref X_NoWish, false), (.ref X_AuctionError, true), (.type "ValueError", true)])
    (kr_9 : Kinds K (.ref X_BadWord) [(.ref X_OutOfRange, false), (.ref X_TooMany, false), (.ref X_BadTree, false), (.ref X_BadText, false), (.ref X_BadLine, false), (.ref X_BadTable, false), (.ref X_BadBook, false), (.ref X_BadShare, false), (.ref X_BadBidder, false), (.ref X_BadWord, true), (.ref X_BadRows, false), (.ref X_BadPrices, false), (.ref X_BadBids, false), (.ref X_NoBidder, false), (.ref X_BadPayment, false), (.ref X_BadType, false), (.ref X_BadEnd, false), (.ref X_BadPaid, false), (.ref X_BadBid, false), (.ref X_BadHope, false), (.ref X_BadWish, false), (.ref X_BadMoney, false), (.ref X_NoSolution, false), (.ref X_BadCosts, false), (.ref X_BadSet, false), (.ref X_BadWorths, false), (.ref X_NoWish, false), (.ref X_AuctionError, true), (.type "ValueError", true)])
    (kr_10 : Kinds K (.ref X_BadRows) [(.ref X_OutOfRange, false), (.ref X_TooMany, false), (.ref X_BadTree, false), (.ref X_BadText, false), (.ref X_BadLine, false), (.ref X_BadTable, false), (.ref X_BadBook, false), (.ref X_BadShare, false), (.ref X_BadBidder, false), (.ref X_BadWord, false), (.ref X_BadRows, true), (.ref X_BadPrices, false), (.ref X_BadBids, false), (.ref X_NoBidder, false), (.ref X_BadPayment, false), (.ref X_BadType, false), (.ref X_BadEnd, false), (.ref X_BadPaid, false), (.ref X_BadBid, false), (.ref X_BadHope, false), (.ref X_BadWish, false), (.ref X_BadMoney, false), (.ref X_NoSolution, false), (.ref X_BadCosts, false), (.ref X_BadSet, false), (.ref X_BadWorths, false), (.ref X_NoWish, false), (.ref X_AuctionError, true), (.type "ValueError", true)])
    (kr_11 : Kinds K (.ref X_BadPrices) [(.ref X_OutOfRange, false), (.ref X_TooMany, false), (.ref X_BadTree, false), (.ref X_BadText, false), (.ref X_BadLine, false), (.ref X_BadTable, false), (.ref X_BadBook, false), (.ref X_BadShare, false), (.ref X_BadBidder, false), (.ref X_BadWord, false), (.ref X_BadRows, false), (.ref X_BadPrices, true), (.ref X_BadBids, false), (.ref X_NoBidder, false), (.ref X_BadPayment, false), (.ref X_BadType, false), (.ref X_BadEnd, false), (.ref X_BadPaid, false), (.ref X_BadBid, false), (.ref X_BadHope, false), (.ref X_BadWish, false), (.ref X_BadMoney, false), (.ref X_NoSolution, false), (.ref X_BadCosts, false), (.ref X_BadSet, false), (.ref X_BadWorths, false), (.ref X_NoWish, false), (.ref X_AuctionError, true), (.type "ValueError", true)])
    (kr_12 : Kinds K (.ref X_BadBids) [(.ref X_OutOfRange, false), (.ref X_TooMany, false), (.ref X_BadTree, false), (.ref X_BadText, false), (.ref X_BadLine, false), (.ref X_BadTable, false), (.ref X_BadBook, false), (.ref X_BadShare, false), (.ref X_BadBidder, false), (.ref X_BadWord, false), (.ref X_BadRows, false), (.ref X_BadPrices, false), (.ref X_BadBids, true), (.ref X_NoBidder, false), (.ref X_BadPayment, false), (.ref X_BadType, false), (.ref X_BadEnd, false), (.ref X_BadPaid, false), (.ref X_BadBid, false), (.ref X_BadHope, false), (.ref X_BadWish, false), (.ref X_BadMoney, false), (.ref X_NoSolution, false), (.ref X_BadCosts, false), (.ref X_BadSet, false), (.ref X_BadWorths, false), (.ref X_NoWish, false), (.ref X_AuctionError, true), (.type "ValueError", true)])
    (kr_13 : Kinds K (.ref X_NoBidder) [(.ref X_OutOfRange, false), (.ref X_TooMany, false), (.ref X_BadTree, false), (.ref X_BadText, false), (.ref X_BadLine, false), (.ref X_BadTable, false), (.ref X_BadBook, false), (.ref X_BadShare, false), (.ref X_BadBidder, false), (.ref X_BadWord, false), (.ref X_BadRows, false), (.ref X_BadPrices, false), (.ref X_BadBids, false), (.ref X_NoBidder, true), (.ref X_BadPayment, false), (.ref X_BadType, false), (.ref X_BadEnd, false), (.ref X_BadPaid, false), (.ref X_BadBid, false), (.ref X_BadHope, false), (.ref X_BadWish, false), (.ref X_BadMoney, false), (.ref X_NoSolution, false), (.ref X_BadCosts, false), (.ref X_BadSet, false), (.ref X_BadWorths, false), (.ref X_NoWish, false), (.ref X_AuctionError, true), (.type "ValueError", true)])
    (kr_14 : Kinds K (.ref X_BadPayment) [(.ref X_OutOfRange, false), (.ref X_TooMany, false), (.ref X_BadTree, false), (.ref X_BadText, false), (.ref X_BadLine, false), (.ref X_BadTable, false), (.ref X_BadBook, false), (.ref X_BadShare, false), (.ref X_BadBidder, false), (.ref X_BadWord, false), (.ref X_BadRows, false), (.ref X_BadPrices, false), (.ref X_BadBids, false), (.ref X_NoBidder, false), (.ref X_BadPayment, true), (.ref X_BadType, false), (.ref X_BadEnd, false), (.ref X_BadPaid, false), (.ref X_BadBid, false), (.ref X_BadHope, false), (.ref X_BadWish, false), (.ref X_BadMoney, false), (.ref X_NoSolution, false), (.ref X_BadCosts, false), (.ref X_BadSet, false), (.ref X_BadWorths, false), (.ref X_NoWish, false), (.ref X_AuctionError, true), (.type "ValueError", true)])
    (kr_15 : Kinds K (.ref X_BadType) [(.ref X_OutOfRange, false), (.ref X_TooMany, false), (.ref X_BadTree, false), (.ref X_BadText, false), (.ref X_BadLine, false), (.ref X_BadTable, false), (.ref X_BadBook, false), (.ref X_BadShare, false), (.ref X_BadBidder, false), (.ref X_BadWord, false), (.ref X_BadRows, false), (.ref X_BadPrices, false), (.ref X_BadBids, false), (.ref X_NoBidder, false), (.ref X_BadPayment, false), (.ref X_BadType, true), (.ref X_BadEnd, false), (.ref X_BadPaid, false), (.ref X_BadBid, false), (.ref X_BadHope, false), (.ref X_BadWish, false), (.ref X_BadMoney, false), (.ref X_NoSolution, false), (.ref X_BadCosts, false), (.ref X_BadSet, false), (.ref X_BadWorths, false), (.ref X_NoWish, false), (.ref X_AuctionError, true), (.type "ValueError", true)])
    (kr_16 : Kinds K (.ref X_BadEnd) [(.ref X_OutOfRange, false), (.ref X_TooMany, false), (.ref X_BadTree, false), (.ref X_BadText, false), (.ref X_BadLine, false), (.ref X_BadTable, false), (.ref X_BadBook, false), (.ref X_BadShare, false), (.ref X_BadBidder, false), (.ref X_BadWord, false), (.ref X_BadRows, false), (.ref X_BadPrices, false), (.ref X_BadBids, false), (.ref X_NoBidder, false), (.ref X_BadPayment, false), (.ref X_BadType, false), (.ref X_BadEnd, true), (.ref X_BadPaid, false), (.ref X_BadBid, false), (.ref X_BadHope, false), (.ref X_BadWish, false), (.ref X_BadMoney, false), (.ref X_NoSolution, false), (.ref X_BadCosts, false), (.ref X_BadSet, false), (.ref X_BadWorths, false), (.ref X_NoWish, false), (.ref X_AuctionError, true), (.type "ValueError", true)])
    (kr_17 : Kinds K (.ref X_BadPaid) [(.ref X_OutOfRange, false), (.ref X_TooMany, false), (.ref X_BadTree, false), (.ref X_BadText, false), (.ref X_BadLine, false), (.ref X_BadTable, false), (.ref X_BadBook, false), (.ref X_BadShare, false), (.ref X_BadBidder, false), (.ref X_BadWord, false), (.ref X_BadRows, false), (.ref X_BadPrices, false), (.ref X_BadBids, false), (.ref X_NoBidder, false), (.ref X_BadPayment, false), (.ref X_BadType, false), (.ref X_BadEnd, false), (.ref X_BadPaid, true), (.ref X_BadBid, false), (.ref X_BadHope, false), (.ref X_BadWish, false), (.ref X_BadMoney, false), (.ref X_NoSolution, false), (.ref X_BadCosts, false), (.ref X_BadSet, false), (.ref X_BadWorths, false), (.ref X_NoWish, false), (.ref X_AuctionError, true), (.type "ValueError", true)])
    (kr_18 : Kinds K (.ref X_BadBid) [(.ref X_OutOfRange, false), (.ref X_TooMany, false), (.ref X_BadTree, false), (.ref X_BadText, false), (.ref X_BadLine, false), (.ref X_BadTable, false), (.ref X_BadBook, false), (.ref X_BadShare, false), (.ref X_BadBidder, false), (.ref X_BadWord, false), (.ref X_BadRows, false), (.ref X_BadPrices, false), (.ref X_BadBids, false), (.ref X_NoBidder, false), (.ref X_BadPayment, false), (.ref X_BadType, false), (.ref X_BadEnd, false), (.ref X_BadPaid, false), (.ref X_BadBid, true), (.ref X_BadHope, false), (.ref X_BadWish, false), (.ref X_BadMoney, false), (.ref X_NoSolution, false), (.ref X_BadCosts, false), (.ref X_BadSet, false), (.ref X_BadWorths, false), (.ref X_NoWish, false), (.ref X_AuctionError, true), (.type "ValueError", true)])
    (kr_19 : Kinds K (.ref X_BadHope) [(.ref X_OutOfRange, false), (.ref X_TooMany, false), (.ref X_BadTree, false), (.ref X_BadText, false), (.ref X_BadLine, false), (.ref X_BadTable, false), (.ref X_BadBook, false), (.ref X_BadShare, false), (.ref X_BadBidder, false), (.ref X_BadWord, false), (.ref X_BadRows, false), (.ref X_BadPrices, false), (.ref X_BadBids, false), (.ref X_NoBidder, false), (.ref X_BadPayment, false), (.ref X_BadType, false), (.ref X_BadEnd, false), (.ref X_BadPaid, false), (.ref X_BadBid, false), (.ref X_BadHope, true), (.ref X_BadWish, false), (.ref X_BadMoney, false), (.ref X_NoSolution, false), (.ref X_BadCosts, false), (.ref X_BadSet, false), (.ref X_BadWorths, false), (.ref X_NoWish, false), (.ref X_AuctionError, true), (.type "ValueError", true)])
    (kr_20 : Kinds K (.ref X_BadWish) [(.ref X_OutOfRange, false), (.ref X_TooMany, false), (.ref X_BadTree, false), (.ref X_BadText, false), (.ref X_BadLine, false), (.ref X_BadTable, false), (.ref X_BadBook, false), (.ref X_BadShare, false), (.ref X_BadBidder, false), (.ref X_BadWord, false), (.ref X_BadRows, false), (.ref X_BadPrices, false), (.ref X_BadBids, false), (.ref X_NoBidder, false), (.ref X_BadPayment, false), (.ref X_BadType, false), (.ref X_BadEnd, false), (.ref X_BadPaid, false), (.ref X_BadBid, false), (.ref X_BadHope, false), (.ref X_BadWish, true), (.ref X_BadMoney, false), (.ref X_NoSolution, false), (.ref X_BadCosts, false), (.ref X_BadSet, false), (.ref X_BadWorths, false), (.ref X_NoWish, false), (.ref X_AuctionError, true), (.type "ValueError", true)])
    (kr_21 : Kinds K (.ref X_BadMoney) [(.ref X_OutOfRange, false), (.ref X_TooMany, false), (.ref X_BadTree, false), (.ref X_BadText, false), (.ref X_BadLine, false), (.ref X_BadTable, false), (.ref X_BadBook, false), (.ref X_BadShare, false), (.ref X_BadBidder, false), (.ref X_BadWord, false), (.ref X_BadRows, false), (.ref X_BadPrices, false), (.ref X_BadBids, false), (.ref X_NoBidder, false), (.ref X_BadPayment, false), (.ref X_BadType, false), (.ref X_BadEnd, false), (.ref X_BadPaid, false), (.ref X_BadBid, false), (.ref X_BadHope, false), (.ref X_BadWish, false), (.ref X_BadMoney, true), (.ref X_NoSolution, false), (.ref X_BadCosts, false), (.ref X_BadSet, false), (.ref X_BadWorths, false), (.ref X_NoWish, false), (.ref X_AuctionError, true), (.type "ValueError", true)])
    (kr_22 : Kinds K (.ref X_NoSolution) [(.ref X_OutOfRange, false), (.ref X_TooMany, false), (.ref X_BadTree, false), (.ref X_BadText, false), (.ref X_BadLine, false), (.ref X_BadTable, false), (.ref X_BadBook, false), (.ref X_BadShare, false), (.ref X_BadBidder, false), (.ref X_BadWord, false), (.ref X_BadRows, false), (.ref X_BadPrices, false), (.ref X_BadBids, false), (.ref X_NoBidder, false), (.ref X_BadPayment, false), (.ref X_BadType, false), (.ref X_BadEnd, false), (.ref X_BadPaid, false), (.ref X_BadBid, false), (.ref X_BadHope, false), (.ref X_BadWish, false), (.ref X_BadMoney, false), (.ref X_NoSolution, true), (.ref X_BadCosts, false), (.ref X_BadSet, false), (.ref X_BadWorths, false), (.ref X_NoWish, false), (.ref X_AuctionError, true), (.type "ValueError", true)])
    (kr_23 : Kinds K (.ref X_BadCosts) [(.ref X_OutOfRange, false), (.ref X_TooMany, false), (.ref X_BadTree, false), (.ref X_BadText, false), (.ref X_BadLine, false), (.ref X_BadTable, false), (.ref X_BadBook, false), (.ref X_BadShare, false), (.ref X_BadBidder, false), (.ref X_BadWord, false), (.ref X_BadRows, false), (.ref X_BadPrices, false), (.ref X_BadBids, false), (.ref X_NoBidder, false), (.ref X_BadPayment, false), (.ref X_BadType, false), (.ref X_BadEnd, false), (.ref X_BadPaid, false), (.ref X_BadBid, false), (.ref X_BadHope, false), (.ref X_BadWish, false), (.ref X_BadMoney, false), (.ref X_NoSolution, false), (.ref X_BadCosts, true), (.ref X_BadSet, false), (.ref X_BadWorths, false), (.ref X_NoWish, false), (.ref X_AuctionError, true), (.type "ValueError", true)])
    (kr_24 : Kinds K (.ref X_BadSet) [(.ref X_OutOfRange, false), (.ref X_TooMany, false), (.ref X_BadTree, false), (.ref X_BadText, false), (.ref X_BadLine, false), (.ref X_BadTable, false), (.ref X_BadBook, false), (.ref X_BadShare, false), (.ref X_BadBidder, false), (.ref X_BadWord, false), (.ref X_BadRows, false), (.ref X_BadPrices, false), (.ref X_BadBids, false), (.ref X_NoBidder, false), (.ref X_BadPayment, false), (.ref X_BadType, false), (.ref X_BadEnd, false), (.ref X_BadPaid, false), (.ref X_BadBid, false), (.ref X_BadHope, false), (.ref X_BadWish, false), (.ref X_BadMoney, false), (.ref X_NoSolution, false), (.ref X_BadCosts, false), (.ref X_BadSet, true), (.ref X_BadWorths, false), (.ref X_NoWish, false), (.ref X_AuctionError, true), (.type "ValueError", true)])
    (kr_25 : Kinds K (.ref X_BadWorths) [(.ref X_OutOfRange, false), (.ref X_TooMany, false), (.ref X_BadTree, false), (.ref X_BadText, false), (.ref X_BadLine, false), (.ref X_BadTable, false), (.ref X_BadBook, false), (.ref X_BadShare, false), (.ref X_BadBidder, false), (.ref X_BadWord, false), (.ref X_BadRows, false), (.ref X_BadPrices, false), (.ref X_BadBids, false), (.ref X_NoBidder, false), (.ref X_BadPayment, false), (.ref X_BadType, false), (.ref X_BadEnd, false), (.ref X_BadPaid, false), (.ref X_BadBid, false), (.ref X_BadHope, false), (.ref X_BadWish, false), (.ref X_BadMoney, false), (.ref X_NoSolution, false), (.ref X_BadCosts, false), (.ref X_BadSet, false), (.ref X_BadWorths, true), (.ref X_NoWish, false), (.ref X_AuctionError, true), (.type "ValueError", true)])
    (kr_26 : Kinds K (.ref X_NoWish) [(.ref X_OutOfRange, false), (.ref X_TooMany, false), (.ref X_BadTree, false), (.ref X_BadText, false), (.ref X_BadLine, false), (.ref X_BadTable, false), (.ref X_BadBook, false), (.ref X_BadShare, false), (.ref X_BadBidder, false), (.ref X_BadWord, false), (.ref X_BadRows, false), (.ref X_BadPrices, false), (.ref X_BadBids, false), (.ref X_NoBidder, false), (.ref X_BadPayment, false), (.ref X_BadType, false), (.ref X_BadEnd, false), (.ref X_BadPaid, false), (.ref X_BadBid, false), (.ref X_BadHope, false), (.ref X_BadWish, false), (.ref X_BadMoney, false), (.ref X_NoSolution, false), (.ref X_BadCosts, false), (.ref X_BadSet, false), (.ref X_BadWorths, false), (.ref X_NoWish, true), (.ref X_AuctionError, true), (.type "ValueError", true)])
    (kr_27 : Kinds K (.ref X_AuctionError) [(.ref X_OutOfRange, false), (.ref X_TooMany, false), (.ref X_BadTree, false), (.ref X_BadText, false), (.ref X_BadLine, false), (.ref X_BadTable, false), (.ref X_BadBook, false), (.ref X_BadShare, false), (.ref X_BadBidder, false), (.ref X_BadWord, false), (.ref X_BadRows, false), (.ref X_BadPrices, false), (.ref X_BadBids, false), (.ref X_NoBidder, false), (.ref X_BadPayment, false), (.ref X_BadType, false), (.ref X_BadEnd, false), (.ref X_BadPaid, false), (.ref X_BadBid, false), (.ref X_BadHope, false), (.ref X_BadWish, false), (.ref X_BadMoney, false), (.ref X_NoSolution, false), (.ref X_BadCosts, false), (.ref X_BadSet, false), (.ref X_BadWorths, false), (.ref X_NoWish, false), (.ref X_AuctionError, true), (.type "ValueError", true)]) : Txt P K mg (csOf [X_OutOfRange, X_TooMany, X_BadTree, X_BadText, X_BadLine, X_BadTable, X_BadBook, X_BadShare, X_BadBidder, X_BadWord, X_BadRows, X_BadPrices, X_BadBids, X_NoBidder, X_BadPayment, X_BadType, X_BadEnd, X_BadPaid, X_BadBid, X_BadHope, X_BadWish, X_BadMoney, X_NoSolution, X_BadCosts, X_BadSet, X_BadWorths, X_NoWish, X_AuctionError]) :=
  ⟨mk_def X G0 a_is_bundle l_is_bundle k_is_bundle p_is_bundle (fun _ _ _ _ _ _ us hl => match us, hl with | [_, _], _ => rfl),
   mk_def X G0 a_inner l_inner k_inner p_inner (fun _ _ _ _ _ _ us hl => match us, hl with | [_], _ => rfl),
   mk_def X G0 a_is_part l_is_part k_is_part p_is_part (fun _ _ _ _ _ _ us hl => match us, hl with | [_, _, _], _ => rfl),
   mk_def X G0 a_parts l_parts k_parts p_parts (fun _ _ _ _ _ _ us hl => match us, hl with | [_], _ => rfl),
   mk_def X G0 a_check_goods l_check_goods k_check_goods p_check_goods (fun _ _ _ _ _ _ us hl => match us, hl with | [_], _ => rfl),
   mk_def X G0 a_is_tree l_is_tree k_is_tree p_is_tree (fun _ _ _ _ _ _ us hl => match us, hl with | [_, _], _ => rfl),
   mk_def X G0 a_check_tree l_check_tree k_check_tree p_check_tree (fun _ _ _ _ _ _ us hl => match us, hl with | [_, _], _ => rfl),
   mk_def X G0 a_l_draws l_l_draws k_l_draws p_l_draws (fun _ _ _ _ _ _ us hl => match us, hl with | [_], _ => rfl),
   mk_def X G0 a_l_mix l_l_mix k_l_mix p_l_mix (fun _ _ _ _ _ _ us hl => match us, hl with | [_, _, _], _ => rfl),
   mk_def X G0 a_l_kinds l_l_kinds k_l_kinds p_l_kinds (fun _ _ _ _ _ _ us hl => match us, hl with | [_], _ => rfl),
   mk_def X G0 a_l_made l_l_made k_l_made p_l_made (fun _ _ _ _ _ _ us hl => match us, hl with | [_], _ => rfl),
   mk_def X G0 a_l_raised l_l_raised k_l_raised p_l_raised (fun _ _ _ _ _ _ us hl => match us, hl with | [_], _ => rfl),
   mk_def X G0 a_law l_law k_law p_law (fun _ _ _ _ _ _ us hl => match us, hl with | [_], _ => rfl),
   mk_none X G0 z_len,
   mk_none X G0 z_list,
   mk_none X G0 z_sorted,
   mk_none X G0 z_set,
   mk_none X G0 z_all,
   mk_none X G0 z_sum,
   mk_none X G0 z_range,
   mk_none X G0 z_min,
   mk_none X G0 z_abs,
   mk_none X G0 z_int,
   mk_none X G0 z_isinstance,
   mk_none X G0 z_ValueError,
   mk_none X G0 z_bool,
   mk_int X G0 i_MOST_DEPTH,
   mk_tup X G0 u_WORDS v_WORDS (.str (.str .nil)) (show (2 : Nat) ≤ sizeLine by decide),
   mk_int X G0 i_MOST_WORTH,
   mk_int X G0 i_MOST_UP,
   mk_int X G0 i_MOST_GOODS,
   mk_int X G0 i_MOST_PARTS,
   e_OutOfRange,
   e_BadTree,
   xg_of X G0 ya_OutOfRange yb_OutOfRange yc_OutOfRange yd_OutOfRange ye_OutOfRange yf_OutOfRange e_OutOfRange,
   xg_of X G0 ya_TooMany yb_TooMany yc_TooMany yd_TooMany ye_TooMany yf_TooMany e_TooMany,
   xg_of X G0 ya_BadTree yb_BadTree yc_BadTree yd_BadTree ye_BadTree yf_BadTree e_BadTree,
   xg_of X G0 ya_BadText yb_BadText yc_BadText yd_BadText ye_BadText yf_BadText e_BadText,
   xg_of X G0 ya_BadLine yb_BadLine yc_BadLine yd_BadLine ye_BadLine yf_BadLine e_BadLine,
   xg_of X G0 ya_BadTable yb_BadTable yc_BadTable yd_BadTable ye_BadTable yf_BadTable e_BadTable,
   xg_of X G0 ya_BadBook yb_BadBook yc_BadBook yd_BadBook ye_BadBook yf_BadBook e_BadBook,
   xg_of X G0 ya_BadShare yb_BadShare yc_BadShare yd_BadShare ye_BadShare yf_BadShare e_BadShare,
   xg_of X G0 ya_BadBidder yb_BadBidder yc_BadBidder yd_BadBidder ye_BadBidder yf_BadBidder e_BadBidder,
   xg_of X G0 ya_BadWord yb_BadWord yc_BadWord yd_BadWord ye_BadWord yf_BadWord e_BadWord,
   xg_of X G0 ya_BadRows yb_BadRows yc_BadRows yd_BadRows ye_BadRows yf_BadRows e_BadRows,
   xg_of X G0 ya_BadPrices yb_BadPrices yc_BadPrices yd_BadPrices ye_BadPrices yf_BadPrices e_BadPrices,
   xg_of X G0 ya_BadBids yb_BadBids yc_BadBids yd_BadBids ye_BadBids yf_BadBids e_BadBids,
   xg_of X G0 ya_NoBidder yb_NoBidder yc_NoBidder yd_NoBidder ye_NoBidder yf_NoBidder e_NoBidder,
   xg_of X G0 ya_BadPayment yb_BadPayment yc_BadPayment yd_BadPayment ye_BadPayment yf_BadPayment e_BadPayment,
   xg_of X G0 ya_BadType yb_BadType yc_BadType yd_BadType ye_BadType yf_BadType e_BadType,
   xg_of X G0 ya_BadEnd yb_BadEnd yc_BadEnd yd_BadEnd ye_BadEnd yf_BadEnd e_BadEnd,
   xg_of X G0 ya_BadPaid yb_BadPaid yc_BadPaid yd_BadPaid ye_BadPaid yf_BadPaid e_BadPaid,
   xg_of X G0 ya_BadBid yb_BadBid yc_BadBid yd_BadBid ye_BadBid yf_BadBid e_BadBid,
   xg_of X G0 ya_BadHope yb_BadHope yc_BadHope yd_BadHope ye_BadHope yf_BadHope e_BadHope,
   xg_of X G0 ya_BadWish yb_BadWish yc_BadWish yd_BadWish ye_BadWish yf_BadWish e_BadWish,
   xg_of X G0 ya_BadMoney yb_BadMoney yc_BadMoney yd_BadMoney ye_BadMoney yf_BadMoney e_BadMoney,
   xg_of X G0 ya_NoSolution yb_NoSolution yc_NoSolution yd_NoSolution ye_NoSolution yf_NoSolution e_NoSolution,
   xg_of X G0 ya_BadCosts yb_BadCosts yc_BadCosts yd_BadCosts ye_BadCosts yf_BadCosts e_BadCosts,
   xg_of X G0 ya_BadSet yb_BadSet yc_BadSet yd_BadSet ye_BadSet yf_BadSet e_BadSet,
   xg_of X G0 ya_BadWorths yb_BadWorths yc_BadWorths yd_BadWorths ye_BadWorths yf_BadWorths e_BadWorths,
   xg_of X G0 ya_NoWish yb_NoWish yc_NoWish yd_NoWish ye_NoWish yf_NoWish e_NoWish,
   xg_of X G0 ya_AuctionError yb_AuctionError yc_AuctionError yd_AuctionError ye_AuctionError yf_AuctionError e_AuctionError,
   bx_BadTree_AuctionError,
   bx_OutOfRange_AuctionError,
   kr_0,
   kr_1,
   kr_2,
   kr_3,
   kr_4,
   kr_5,
   kr_6,
   kr_7,
   kr_8,
   kr_9,
   kr_10,
   kr_11,
   kr_12,
   kr_13,
   kr_14,
   kr_15,
   kr_16,
   kr_17,
   kr_18,
   kr_19,
   kr_20,
   kr_21,
   kr_22,
   kr_23,
   kr_24,
   kr_25,
   kr_26,
   kr_27⟩
end K00

namespace K00
open PySem PySem.Spec PyProof.Rows L2 G
section
variable {P : Program} {K : Frg} {mg : MgT} {cs : Nat → Addr} (T : Txt P K mg cs)
def KL (cs : Nat → Addr) (i : Nat) : List (Value × Bool) := (List.range 28).map (fun j => (Value.ref (cs j), decide (j = i) || decide (j = 27))) ++ [(.type "ValueError", true)]
theorem kl_at {cs : Nat → Addr} {i j : Nat} (h : j < 28) : (KL cs i)[j]? = some (Value.ref (cs j), decide (j = i) || decide (j = 27)) := by
  unfold KL
  rw [List.getElem?_append_left (by simpa using h), List.getElem?_map, List.getElem?_range h]
  rfl
theorem kl_end {cs : Nat → Addr} {i : Nat} : (KL cs i)[28]? = some (.type "ValueError", true) := by
  unfold KL
  rw [List.getElem?_append_right (by simp)]
  simp
include T in
theorem all_xc : ∀ i, i < 28 → XC P K mg (cs i : Int)
  | 0, _ => T.y_OutOfRange.xc
  | 1, _ => T.y_TooMany.xc
  | 2, _ => T.y_BadTree.xc
  | 3, _ => T.y_BadText.xc
  | 4, _ => T.y_BadLine.xc
  | 5, _ => T.y_BadTable.xc
  | 6, _ => T.y_BadBook.xc
  | 7, _ => T.y_BadShare.xc
  | 8, _ => T.y_BadBidder.xc
  | 9, _ => T.y_BadWord.xc
  | 10, _ => T.y_BadRows.xc
  | 11, _ => T.y_BadPrices.xc
  | 12, _ => T.y_BadBids.xc
  | 13, _ => T.y_NoBidder.xc
  | 14, _ => T.y_BadPayment.xc
  | 15, _ => T.y_BadType.xc
  | 16, _ => T.y_BadEnd.xc
  | 17, _ => T.y_BadPaid.xc
  | 18, _ => T.y_BadBid.xc
  | 19, _ => T.y_BadHope.xc
  | 20, _ => T.y_BadWish.xc
  | 21, _ => T.y_BadMoney.xc
  | 22, _ => T.y_NoSolution.xc
  | 23, _ => T.y_BadCosts.xc
  | 24, _ => T.y_BadSet.xc
  | 25, _ => T.y_BadWorths.xc
  | 26, _ => T.y_NoWish.xc
  | 27, _ => T.y_AuctionError.xc
  | i + 28, h => absurd h (by omega)
include T in
theorem all_kl : ∀ i, i < 28 → Kinds K (.ref (cs i)) (KL cs i)
  | 0, _ => T.r_0
  | 1, _ => T.r_1
  | 2, _ => T.r_2
  | 3, _ => T.r_3
  | 4, _ => T.r_4
  | 5, _ => T.r_5
  | 6, _ => T.r_6
  | 7, _ => T.r_7
  | 8, _ => T.r_8
  | 9, _ => T.r_9
  | 10, _ => T.r_10
  | 11, _ => T.r_11
  | 12, _ => T.r_12
  | 13, _ => T.r_13
  | 14, _ => T.r_14
  | 15, _ => T.r_15
  | 16, _ => T.r_16
  | 17, _ => T.r_17
  | 18, _ => T.r_18
  | 19, _ => T.r_19
  | 20, _ => T.r_20
  | 21, _ => T.r_21
  | 22, _ => T.r_22
  | 23, _ => T.r_23
  | 24, _ => T.r_24
  | 25, _ => T.r_25
  | 26, _ => T.r_26
  | 27, _ => T.r_27
  | i + 28, h => absurd h (by omega)
include T in
theorem kind {i j : Nat} (hi : i < 28) (hj : j < 28) : PySem.W.kitOne K (.ref (cs i)) (.ref (cs j)) = some (decide (j = i) || decide (j = 27)) := (all_kl T i hi).at (kl_at hj)
include T in
theorem value {i : Nat} (hi : i < 28) : PySem.W.kitOne K (.ref (cs i)) (.type "ValueError") = some true := (all_kl T i hi).at kl_end
open Classical in
include T in
theorem is_own {u : Value} {f : En → R D} {ρ : En} {i : Nat} {n : Int} {b : Bool} (hi : i < 28) (hf : f ρ = .ok (xD (cs i) n)) (hk : PySem.W.kitOne K (.ref (cs i)) u = some b) : cIs P K mg u f ρ = .ok (.bool b) := by
  unfold cIs
  rw [hf]
  show (if XC P K mg (cs i : Int) then ofO ((PySem.W.kitOne K (.ref ((cs i : Int)).toNat) u).map PyData.bool) else .no) = _
  rw [if_pos (all_xc T i hi), Int.toNat_natCast, hk]
  rfl
theorem is_int {u : Value} {f : En → R D} {ρ : En} {n : Int} {b : Bool} (hf : f ρ = .ok (.int n)) (hk : PySem.W.kitOne K (.type "int") u = some b) : cIs P K mg u f ρ = .ok (.bool b) := by
  unfold cIs
  rw [hf]
  show ofO ((PySem.W.kitOne K (.type "int") u).map PyData.bool) = _
  rw [hk]
  rfl
open Classical in
include T in
theorem at_own {f : En → R D} {ρ : En} {i : Nat} {n : Int} (hi : i < 28) (hf : f ρ = .ok (xD (cs i) n)) : cAt P K mg f ρ = .ok (.int n) := by
  unfold cAt
  rw [hf]
  show (if XC P K mg (cs i : Int) then R.ok (PyData.int n) else .no) = _
  rw [if_pos (all_xc T i hi)]
noncomputable def ck (c : CP) : Nat → Nat → En → R (List D)
  | 0, _ => cNil
  | k + 1, j => cCons (cIs c.P c.K c.mg (.ref (c.cs j)) (cVar 0)) (ck c k (j + 1))
include T in
theorem ck_eq {i : Nat} {n : Int} {ρ : En} (hi : i < 28) (h0 : cVar 0 ρ = .ok (xD (cs i) n)) : ∀ k j, j + k ≤ 27 → ck ⟨P, K, mg, cs⟩ k j ρ = .ok ((List.range k).map fun t => PyData.bool (decide (j + t = i)))
  | 0, _, _ => rfl
  | k + 1, j, h => by
    have ih := ck_eq (n := n) hi h0 k (j + 1) (by omega)
    have h1 := kind T hi (show j < 28 by omega)
    rw [show (decide (j = i) || decide (j = 27)) = decide (j = i) by rw [decide_eq_false (show ¬ j = 27 by omega), Bool.or_false]] at h1
    rw [List.range_succ_eq_map, List.map_cons, List.map_map]
    refine (cCons_of (is_own T hi h0 h1) ih).trans ?_
    refine congrArg R.ok (congrArg (_ :: ·) (List.map_congr_left fun t _ => ?_))
    show PyData.bool (decide (j + 1 + t = i)) = PyData.bool (decide (j + (t + 1) = i))
    rw [show j + 1 + t = j + (t + 1) by omega]
def kinds (i : Nat) : List D := (List.range 27).map fun j => PyData.bool (decide (j = i))
theorem kinds_len (i : Nat) : (kinds i).length ≤ sizeLine := by
  unfold kinds
  rw [List.length_map, List.length_range]
  unfold sizeLine
  omega
include T in
theorem kinds_eq {i : Nat} {n : Int} (hi : i < 28) : f_l_kinds ⟨P, K, mg, cs⟩ [xD (cs i) n] = .ok (.list (kinds i)) := by
  unfold f_l_kinds g_l_kinds
  refine runF_of rfl (sRet_of (ρ := [some (.v (xD (cs i) n))]) ?_)
  show cList (ck ⟨P, K, mg, cs⟩ 27 0) [some (.v (xD (cs i) n))] = _
  have e := ck_eq T (n := n) (ρ := [some (.v (xD (cs i) n))]) hi rfl 27 0 (by omega)
  simp only [Nat.zero_add] at e
  exact cList_of e (kinds_len i)
def cm (c : CP) : Nat → Nat → En → R (List D)
  | 0, _ => cNil
  | k + 1, j => cCons (cErr (c.cs j) (cBin dAdd (cVar 0) (cK (.int (j : Int))))) (cm c k (j + 1))
theorem cm_eq {n : Int} {ρ : En} (h0 : cVar 0 ρ = .ok (.int n)) : ∀ k j, cm ⟨P, K, mg, cs⟩ k j ρ = .ok ((List.range k).map fun t => xD (cs (j + t)) (n + ((j + t : Nat) : Int)))
  | 0, _ => rfl
  | k + 1, j => by
    have ih := cm_eq (n := n) h0 k (j + 1)
    rw [List.range_succ_eq_map, List.map_cons, List.map_map]
    have e : cErr (cs j) (cBin dAdd (cVar 0) (cK (.int (j : Int)))) ρ = .ok (xD (cs j) (n + (j : Int))) := by
      unfold cErr
      rw [cBin_of h0 rfl (dAdd_int _ _)]
      rfl
    refine (cCons_of e ih).trans ?_
    refine congrArg R.ok (congrArg (_ :: ·) (List.map_congr_left fun t _ => ?_))
    show xD (cs (j + 1 + t)) (n + ((j + 1 + t : Nat) : Int)) = xD (cs (j + (t + 1))) (n + ((j + (t + 1) : Nat) : Int))
    rw [show j + 1 + t = j + (t + 1) by omega]
def made (cs : Nat → Addr) (n : Int) : List D := (List.range 27).map fun k => xD (cs k) (n + (k : Int))
theorem made_len (n : Int) : (made cs n).length = 27 := by unfold made; rw [List.length_map, List.length_range]
theorem made_eq (n : Int) : f_l_made ⟨P, K, mg, cs⟩ [.int n] = .ok (.list (made cs n)) := by
  unfold f_l_made g_l_made
  refine runF_of rfl (sRet_of (ρ := [some (.v (.int n))]) ?_)
  show cList (cm ⟨P, K, mg, cs⟩ 27 0) [some (.v (.int n))] = _
  have e := cm_eq (P := P) (K := K) (mg := mg) (cs := cs) (n := n) (ρ := [some (.v (.int n))]) rfl 27 0
  simp only [Nat.zero_add] at e
  exact cList_of e (by show (made cs n).length ≤ _; rw [made_len]; unfold sizeLine; omega)
theorem made_at (n : Int) {k : Nat} (hk : k < 27) : dIx (.list (made cs n)) (nD k) = some (xD (cs k) (n + (k : Int))) := by
  unfold made
  rw [dIx_nat, List.getElem?_map, List.getElem?_range hk]
  rfl
theorem lay_bools (f : Nat → Bool) (s : List Nat) : PyData.canLayAll0 (s.map fun x => PyData.bool (f x)) = true ∧ PyData.depthAll (s.map fun x => PyData.bool (f x)) ≤ 1 := by
  induction s with
  | nil => simp [PyData.canLayAll0, PyData.depthAll]
  | cons a r ih => simp [PyData.canLayAll0, PyData.depthAll, PyData.canLay0, PyData.depth, ih.1, ih.2]
theorem lay_kinds (i : Nat) : PyData.canLay0 (.list (kinds i)) = true ∧ PyData.depth (.list (kinds i)) ≤ 64 := by
  obtain ⟨h1, h2⟩ := lay_bools (fun j => decide (j = i)) (List.range 27)
  unfold kinds
  refine ⟨by simp only [PyData.canLay0]; exact h1, ?_⟩
  simp only [PyData.depth]
  omega
/-! the law -/
abbrev lwE (ns : List Int) (ds : List Nat) (n : Int) (cs : Nat → Addr) (x4 x5 x6 x7 : Option Sl) : En := [some (.sc ns), some (.v (.list (ds.map nD))), some (.v (.int n)), some (.v (.list (made cs n))), x4, x5, x6, x7, none]
abbrev lw_t (b : En → R D) : En → R D := cLc [8] (cIter dRange1 (cCons (cCall dLen (cCons (cVarB 3) cNil)) cNil)) (gN 8) cTrue (cBin dEq (cVarB 8) b)
variable {ns : List Int} {ds : List Nat} {n : Int}
theorem t_eq {i : Nat} {b : En → R D} {x4 x5 x6 x7 : Option Sl} (hb : ∀ t : Nat, b [some (.sc ns), some (.v (.list (ds.map nD))), some (.v (.int n)), some (.v (.list (made cs n))), x4, x5, x6, x7, some (.v (nD t))] = .ok (nD i)) : lw_t b (lwE ns ds n cs x4 x5 x6 x7) = .ok (.list (kinds i)) := by
  have e := lcL_map (tgt := gN 8) (f := cBin dEq (cVarB 8) b) (ρ := lwE ns ds n cs x4 x5 x6 x7) (enc := nD) (fun t => [some (.sc ns), some (.v (.list (ds.map nD))), some (.v (.int n)), some (.v (.list (made cs n))), x4, x5, x6, x7, some (.v (nD t))]) (fun t => .bool (decide (t = i))) (xs := List.range 27) fun t ht => ⟨rfl, by
    refine (cBin_of (a := nD t) (b := nD i) rfl (hb t) (dEq_int _ _)).trans ?_
    rw [decide_eq_decide.mpr (show ((t : Int) = (i : Int)) ↔ t = i by omega)]⟩
  exact cLc_of (cIter1_of (d := nD 27) (cCall1_of (d := .list (made cs n)) rfl (by rw [dLen_list, made_len])) (dRange1_nat (by decide))) e (kinds_len i)
noncomputable abbrev lw_b (c : CP) : En → SR := (sSeq (sIf (cOr (cNot (cTest (cIs c.P c.K c.mg (.ref (c.cs 27)) (cBin dIx (cVarB 3) (cVar 4))))) (cOr (cNot (cTest (cIs c.P c.K c.mg (.type "ValueError") (cBin dIx (cVarB 3) (cVar 4))))) (cBinT dNe (cAt c.P c.K c.mg (cBin dIx (cVarB 3) (cVar 4))) (cBin dAdd (cVar 2) (cVar 4)))))
    (sRet (cK (.bool false)))
    sNext)
    (sSeq (sIf (cBinT dNe (cCallF (f_l_kinds c) (cCons (cBin dIx (cVarB 3) (cVar 4)) cNil)) (lw_t (cVarB 4)))
    (sRet (cK (.bool false)))
    sNext)
    (sIf (cOr (cTest (cIs c.P c.K c.mg (.type "bool") (cAt c.P c.K c.mg (cBin dIx (cVarB 3) (cVar 4))))) (cNot (cTest (cIs c.P c.K c.mg (.type "int") (cAt c.P c.K c.mg (cBin dIx (cVarB 3) (cVar 4)))))))
    (sRet (cK (.bool false)))
    sNext)))
theorem int_bool : PySem.W.kitOne K (.type "int") (.type "bool") = some false := kit_ty (by decide +kernel)
theorem int_int : PySem.W.kitOne K (.type "int") (.type "int") = some true := kit_ty (by decide +kernel)
include T in
theorem lw_step {k : Nat} (hk : k < 27) : lw_b ⟨P, K, mg, cs⟩ (lwE ns ds n cs (some (.v (nD k))) none none none) = .nx (lwE ns ds n cs (some (.v (nD k))) none none none) := by
  have hm : cBin dIx (cVarB 3) (cVar 4) (lwE ns ds n cs (some (.v (nD k))) none none none) = .ok (xD (cs k) (n + (k : Int))) := cBin_of (a := .list (made cs n)) (b := nD k) rfl rfl (made_at n hk)
  have ha := at_own T (show k < 28 by omega) hm
  have h1 := kind T (show k < 28 by omega) (show 27 < 28 by omega)
  rw [show (decide (27 = k) || decide (27 = 27)) = true by simp] at h1
  obtain ⟨l1, l2⟩ := lay_kinds k
  refine sSeq_nx (sIf_false (cOr_ff (cNot_of (b := true) (cTest_of (is_own T (by omega) hm h1))) (cOr_ff (cNot_of (b := true) (cTest_of (is_own T (by omega) hm (value T (by omega))))) (cBinT_of ha (cBin_of (a := .int n) (b := nD k) rfl rfl (dAdd_int _ _)) (by rw [dNe_int]; simp)))) rfl) (sSeq_nx (sIf_false (cBinT_of (cCallF1_of (d := xD (cs k) (n + (k : Int))) hm (kinds_eq T (by omega))) (t_eq (i := k) fun t => rfl) (ne_self l1 l2)) rfl) (sIf_false (cOr_ff (cTest_of (is_int ha int_bool)) (cNot_of (b := true) (cTest_of (is_int ha int_int)))) rfl))
theorem raised_all : [0, 7, 99, -30].map (fun m : Int => f_check_tree [.tuple [.str "one", .tuple [.int 0], .int 1], .int m]) = [0, 7, 99, -30].map fun m : Int => R.ex "OutOfRange" m := by kernel_rfl
theorem raised_eq {m : Int} (hm : m ∈ ([0, 7, 99, -30] : List Int)) : f_l_raised ⟨P, K, mg, cs⟩ [.int m] = .ok (xD (cs 0) m) := by
  have e := List.map_inj_left.mp raised_all m hm
  unfold f_l_raised g_l_raised
  refine runF_of rfl ?_
  have q : sExpr (cCallF f_check_tree (cCons (cTup (cCons (cK (.str "one")) (cCons (cTup (cCons (cK (.int 0)) cNil)) (cCons (cK (.int 1)) cNil)))) (cCons (cVar 0) cNil))) (enter 2 1 [.int m]) = .ex "OutOfRange" m (enter 2 1 [.int m]) := by
    unfold sExpr
    rw [cCallF_of (ds := [.tuple [.str "one", .tuple [.int 0], .int 1], .int m]) rfl e]
    rfl
  have q2 : sTryRet (sExpr (cCallF f_check_tree (cCons (cTup (cCons (cK (.str "one")) (cCons (cTup (cCons (cK (.int 0)) cNil)) (cCons (cK (.int 1)) cNil)))) (cCons (cVar 0) cNil)))) [("OutOfRange", cs 0), ("BadTree", cs 2)] (enter 2 1 [.int m]) = .rt (xD (cs 0) m) := by
    unfold sTryRet
    rw [q]
    rfl
  exact (congrArg SR.out (sSeq_rt q2)).trans rfl
theorem in_all : dIn (.bool true) (.list (kinds 27)) = some (.bool false) := by kernel_rfl
theorem many_ix : ∀ i, i < 4 → ∃ m, m ∈ ([0, 7, 99, -30] : List Int) ∧ dIx (.list [.int 0, .int 7, .int 99, .int (-30)]) (nD i) = some (.int m)
  | 0, _ => ⟨0, by simp, rfl⟩
  | 1, _ => ⟨7, by simp, rfl⟩
  | 2, _ => ⟨99, by simp, rfl⟩
  | 3, _ => ⟨-30, by simp, rfl⟩
  | i + 4, h => absurd h (by omega)
theorem sRet_rt {f : En → R D} {ρ : En} {d : D} (h : f (disown ρ) = .ok d) : sRet f ρ = .rt d := by
  unfold sRet
  rw [h]
  rfl
include T in
theorem law_good (ns : List Int) (hn : ns.length ≤ 63) : f_law ⟨P, K, mg, cs⟩ ns = .ok (.bool true) := by
  obtain ⟨ds, hd1, ed⟩ := draws_eq ns hn
  have hd : Draws ds := ⟨hd1.1, hd1.2⟩
  have m1 := mix_lt ds 1 (m := 4) (by decide)
  obtain ⟨m, hm, em⟩ := many_ix _ m1
  have q1 : sSet 1 (cCallS 0 f_l_draws) (some (.sc ns) :: List.replicate 8 none) = .nx [some (.sc ns), some (.v (.list (ds.map nD))), none, none, none, none, none, none, none] := (sSet_of (cCallS_of (i := 0) (F := f_l_draws) rfl ed)).trans rfl
  have q2 : sSet 2 (cBin dSub (cCallF f_l_mix (cCons (cVar 1) (cCons (cK (.int 0)) (cCons (cK (.int 60000)) cNil)))) (cK (.int 30000))) [some (.sc ns), some (.v (.list (ds.map nD))), none, none, none, none, none, none, none] = .nx [some (.sc ns), some (.v (.list (ds.map nD))), some (.v (.int ((mixOf ds 0 60000 : Nat) - 30000))), none, none, none, none, none, none] :=
    (sSet_of (cBin_of (a := nD (mixOf ds 0 60000)) (b := .int 30000) (cCallF_of (ds := [.list (ds.map nD), nD 0, nD 60000]) rfl (mix_eq hd (by decide) (by decide))) rfl rfl)).trans rfl
  generalize ((mixOf ds 0 60000 : Nat) : Int) - 30000 = n at *
  have q3 : sSet 3 (cCallF (f_l_made ⟨P, K, mg, cs⟩) (cCons (cVar 2) cNil)) [some (.sc ns), some (.v (.list (ds.map nD))), some (.v (.int n)), none, none, none, none, none, none] = .nx (lwE ns ds n cs none none none none) := (sSet_of (cCallF1_of (d := .int n) rfl (made_eq n))).trans rfl
  obtain ⟨ρ2, e4, y4, rfl⟩ := loopL_inv (P := fun ρ => ∃ y4, ρ = lwE ns ds n cs y4 none none none) (tgt := gN 4) (body := lw_b ⟨P, K, mg, cs⟩) (ds := (List.range 27).map nD) (ρ := lwE ns ds n cs none none none none) (fun d hd' ρ hρ => by
    obtain ⟨k, hk, rfl⟩ := List.mem_map.mp hd'
    obtain ⟨y4, rfl⟩ := hρ
    exact ⟨_, _, rfl, lw_step T (List.mem_range.mp hk), _, rfl⟩) ⟨_, rfl⟩
  have q4 := sFor_of (l := cIter dRange1 (cCons (cCall dLen (cCons (cVarB 3) cNil)) cNil)) (ρ := lwE ns ds n cs none none none none) (cIter1_of (d := nD 27) (cCall1_of (d := .list (made cs n)) rfl (by rw [dLen_list, made_len])) (dRange1_nat (by decide))) e4
  have ee : cErr (cs 27) (cVar 2) (lwE ns ds n cs y4 none none none) = .ok (xD (cs 27) n) := rfl
  have q5 : sSet 5 (cErr (cs 27) (cVar 2)) (lwE ns ds n cs y4 none none none) = .nx (lwE ns ds n cs y4 (some (.v (xD (cs 27) n))) none none) := (sSet_of ee).trans rfl
  have h5 : cVar 5 (lwE ns ds n cs y4 (some (.v (xD (cs 27) n))) none none) = .ok (xD (cs 27) n) := rfl
  have c6 : cOr (cBinT dNe (cAt P K mg (cVar 5)) (cVarB 2)) (cOr (cBinT dIn (cK (.bool true)) (cCallF (f_l_kinds ⟨P, K, mg, cs⟩) (cCons (cVar 5) cNil))) (cNot (cTest (cIs P K mg (.type "ValueError") (cVar 5))))) (lwE ns ds n cs y4 (some (.v (xD (cs 27) n))) none none) = .ok false :=
    cOr_ff (cBinT_of (at_own T (by decide) h5) (b := .int n) rfl (by rw [dNe_int]; simp)) (cOr_ff (cBinT_of rfl (cCallF1_of h5 (kinds_eq T (by decide))) in_all) (cNot_of (b := true) (cTest_of (is_own T (by decide) h5 (value T (by decide))))))
  have q7 : sSet 6 (cBin dIx (cList (cCons (cK (.int 0)) (cCons (cK (.int 7)) (cCons (cK (.int 99)) (cCons (cUn dNeg (cK (.int 30))) cNil))))) (cCallF f_l_mix (cCons (cVar 1) (cCons (cK (.int 1)) (cCons (cK (.int 4)) cNil))))) (lwE ns ds n cs y4 (some (.v (xD (cs 27) n))) none none) = .nx (lwE ns ds n cs y4 (some (.v (xD (cs 27) n))) (some (.v (.int m))) none) :=
    (sSet_of (cBin_of (a := .list [.int 0, .int 7, .int 99, .int (-30)]) (b := nD (mixOf ds 1 4)) rfl (cCallF_of (ds := [.list (ds.map nD), nD 1, nD 4]) rfl (mix_eq hd (by decide) (by decide))) em)).trans rfl
  have q8 : sSet 7 (cCallF (f_l_raised ⟨P, K, mg, cs⟩) (cCons (cVar 6) cNil)) (lwE ns ds n cs y4 (some (.v (xD (cs 27) n))) (some (.v (.int m))) none) = .nx (lwE ns ds n cs y4 (some (.v (xD (cs 27) n))) (some (.v (.int m))) (some (.v (xD (cs 0) m)))) := (sSet_of (cCallF1_of (d := .int m) rfl (raised_eq hm))).trans rfl
  have h7 : cVar 7 (lwE ns ds n cs y4 (some (.v (xD (cs 27) n))) (some (.v (.int m))) (some (.v (xD (cs 0) m)))) = .ok (xD (cs 0) m) := rfl
  obtain ⟨l1, l2⟩ := lay_kinds 0
  have hdis : disown (lwE ns ds n cs y4 (some (.v (xD (cs 27) n))) (some (.v (.int m))) (some (.v (xD (cs 0) m)))) = lwE ns ds n cs (y4.map fun s => match s with | .own _ d => .v d | s => s) (some (.v (xD (cs 27) n))) (some (.v (.int m))) (some (.v (xD (cs 0) m))) := by
    cases y4 with
    | none => rfl
    | some s => cases s <;> rfl
  have q9 : (cAndV (cBin dIsNot (cVarB 7) (cK .none)) (cAndV (cBin dEq (cAt P K mg (cVar 7)) (cVarB 6)) (cBin dEq (cCallF (f_l_kinds ⟨P, K, mg, cs⟩) (cCons (cVar 7) cNil)) (lw_t (cK (.int 0)))))) (disown (lwE ns ds n cs y4 (some (.v (xD (cs 27) n))) (some (.v (.int m))) (some (.v (xD (cs 0) m))))) = .ok (.bool true) := by
    rw [hdis]
    exact
    cAndV_tt (cBin_of (a := xD (cs 0) m) (b := .none) rfl rfl rfl) (cAndV_tt (cBin_of (at_own T (by decide) h7) (b := .int m) rfl ((dEq_int _ _).trans (by simp))) (cBin_of (cCallF1_of h7 (kinds_eq T (by decide))) (t_eq (i := 0) fun t => rfl) (eq_self l1 l2)))
  unfold f_law g_law runS
  exact (congrArg SR.out (sSeq_nx q1 (sSeq_nx q2 (sSeq_nx q3 (sSeq_nx q4 (sSeq_nx q5 (sSeq_nx (sIf_false c6 rfl) (sSeq_nx q7 (sSeq_nx q8 rfl))))))))).trans (sRet_of q9)
end
def f0 (ns : List Int) : R D := if ns.length ≤ 63 then .ok (.bool true) else .no
theorem good0 : ∀ ns : List Int, ns.length ≤ 63 → f0 ns = .ok (.bool true) := fun ns h => if_pos h
theorem c_law0 {P : Program} {w : World} {K : Frg} {mg : MgT} {base : Heap} {cs : Nat → Addr} (T : Txt P K mg cs) : CallS P w K mg base 14 "law" f0 := (c_law T).imp fun ns => by
  by_cases h : ns.length ≤ 63
  · exact .inr ((if_pos h).trans (law_good T ns h).symm)
  · exact .inl (if_neg h)
end K00

open PySem PySem.W PyProof.Rows
set_option maxHeartbeats 0 in
theorem PySem.Challenge.cw_truebidsbest_k00_errors_are_apart_holds : PySem.Challenge.rw_truebidsbest_k00_errors_are_apart.Holds := by
  w_on; o_law; k_head; (case hw => w_witness2)
  k_fill
  refine G.walk_g (l := PySem.Challenge.rw_truebidsbest_k00_errors_are_apart) (n := 63) (k := 14) (F := K00.f0) rfl (by decide) rfl ⟨rfl, by decide, by decide⟩ (fun w h Y => PySem.W.kIn_of Y) ?C K00.good0
  case C =>
    intro w mg h KX G0 base KB GB
    refine' K00.c_law0 (K00.mk_txt KX G0 ?a_is_bundle ?l_is_bundle ?k_is_bundle ?p_is_bundle ?a_inner ?l_inner ?k_inner ?p_inner ?a_is_part ?l_is_part ?k_is_part ?p_is_part ?a_parts ?l_parts ?k_parts ?p_parts ?a_check_goods ?l_check_goods ?k_check_goods ?p_check_goods ?a_is_tree ?l_is_tree ?k_is_tree ?p_is_tree ?a_check_tree ?l_check_tree ?k_check_tree ?p_check_tree ?a_l_draws ?l_l_draws ?k_l_draws ?p_l_draws ?a_l_mix ?l_l_mix ?k_l_mix ?p_l_mix ?a_l_kinds ?l_l_kinds ?k_l_kinds ?p_l_kinds ?a_l_made ?l_l_made ?k_l_made ?p_l_made ?a_l_raised ?l_l_raised ?k_l_raised ?p_l_raised ?a_law ?l_law ?k_law ?p_law ?z_len ?z_list ?z_sorted ?z_set ?z_all ?z_sum ?z_range ?z_min ?z_abs ?z_int ?z_isinstance ?z_ValueError ?z_bool ?i_MOST_DEPTH ?u_WORDS ?v_WORDS ?i_MOST_WORTH ?i_MOST_UP ?i_MOST_GOODS ?i_MOST_PARTS ?e_OutOfRange ?e_BadTree ?ya_OutOfRange ?yb_OutOfRange ?yc_OutOfRange ?yd_OutOfRange ?ye_OutOfRange ?yf_OutOfRange ?ya_TooMany ?yb_TooMany ?yc_TooMany ?yd_TooMany ?ye_TooMany ?yf_TooMany ?e_TooMany ?ya_BadTree ?yb_BadTree ?yc_BadTree ?yd_BadTree ?ye_BadTree ?yf_BadTree ?ya_BadText ?yb_BadText ?yc_BadText ?yd_BadText ?ye_BadText ?yf_BadText ?e_BadText ?ya_BadLine ?yb_BadLine ?yc_BadLine ?yd_BadLine ?ye_BadLine ?yf_BadLine ?e_BadLine ?ya_BadTable ?yb_BadTable ?yc_BadTable ?yd_BadTable ?ye_BadTable ?yf_BadTable ?e_BadTable ?ya_BadBook ?yb_BadBook ?yc_BadBook ?yd_BadBook ?ye_BadBook ?yf_BadBook ?e_BadBook ?ya_BadShare ?yb_BadShare ?yc_BadShare ?yd_BadShare ?ye_BadShare ?yf_BadShare ?e_BadShare ?ya_BadBidder ?yb_BadBidder ?yc_BadBidder ?yd_BadBidder ?ye_BadBidder ?yf_BadBidder ?e_BadBidder ?ya_BadWord ?yb_BadWord ?yc_BadWord ?yd_BadWord ?ye_BadWord ?yf_BadWord ?e_BadWord ?ya_BadRows ?yb_BadRows ?yc_BadRows ?yd_BadRows ?ye_BadRows ?yf_BadRows ?e_BadRows ?ya_BadPrices ?yb_BadPrices ?yc_BadPrices ?yd_BadPrices ?ye_BadPrices ?yf_BadPrices ?e_BadPrices ?ya_BadBids ?yb_BadBids ?yc_BadBids ?yd_BadBids ?ye_BadBids ?yf_BadBids ?e_BadBids ?ya_NoBidder ?yb_NoBidder ?yc_NoBidder ?yd_NoBidder ?ye_NoBidder ?yf_NoBidder ?e_NoBidder ?ya_BadPayment ?yb_BadPayment ?yc_BadPayment ?yd_BadPayment ?ye_BadPayment ?yf_BadPayment ?e_BadPayment ?ya_BadType ?yb_BadType ?yc_BadType ?yd_BadType ?ye_BadType ?yf_BadType ?e_BadType ?ya_BadEnd ?yb_BadEnd ?yc_BadEnd ?yd_BadEnd ?ye_BadEnd ?yf_BadEnd ?e_BadEnd ?ya_BadPaid ?yb_BadPaid ?yc_BadPaid ?yd_BadPaid ?ye_BadPaid ?yf_BadPaid ?e_BadPaid ?ya_BadBid ?yb_BadBid ?yc_BadBid ?yd_BadBid ?ye_BadBid ?yf_BadBid ?e_BadBid ?ya_BadHope ?yb_BadHope ?yc_BadHope ?yd_BadHope ?ye_BadHope ?yf_BadHope ?e_BadHope ?ya_BadWish ?yb_BadWish ?yc_BadWish ?yd_BadWish ?ye_BadWish ?yf_BadWish ?e_BadWish ?ya_BadMoney ?yb_BadMoney ?yc_BadMoney ?yd_BadMoney ?ye_BadMoney ?yf_BadMoney ?e_BadMoney ?ya_NoSolution ?yb_NoSolution ?yc_NoSolution ?yd_NoSolution ?ye_NoSolution ?yf_NoSolution ?e_NoSolution ?ya_BadCosts ?yb_BadCosts ?yc_BadCosts ?yd_BadCosts ?ye_BadCosts ?yf_BadCosts ?e_BadCosts ?ya_BadSet ?yb_BadSet ?yc_BadSet ?yd_BadSet ?ye_BadSet ?yf_BadSet ?e_BadSet ?ya_BadWorths ?yb_BadWorths ?yc_BadWorths ?yd_BadWorths ?ye_BadWorths ?yf_BadWorths ?e_BadWorths ?ya_NoWish ?yb_NoWish ?yc_NoWish ?yd_NoWish ?ye_NoWish ?yf_NoWish ?e_NoWish ?ya_AuctionError ?yb_AuctionError ?yc_AuctionError ?yd_AuctionError ?ye_AuctionError ?yf_AuctionError ?e_AuctionError ?bx_BadTree_AuctionError ?bx_OutOfRange_AuctionError ?kr_0 ?kr_1 ?kr_2 ?kr_3 ?kr_4 ?kr_5 ?kr_6 ?kr_7 ?kr_8 ?kr_9 ?kr_10 ?kr_11 ?kr_12 ?kr_13 ?kr_14 ?kr_15 ?kr_16 ?kr_17 ?kr_18 ?kr_19 ?kr_20 ?kr_21 ?kr_22 ?kr_23 ?kr_24 ?kr_25 ?kr_26 ?kr_27)
    (case a_is_bundle => k_is)
    (case l_is_bundle => k_is)
    (case k_is_bundle => k_is)
    (case p_is_bundle => k_is)
    (case a_inner => k_is)
    (case l_inner => k_is)
    (case k_inner => k_is)
    (case p_inner => k_is)
    (case a_is_part => k_is)
    (case l_is_part => k_is)
    (case k_is_part => k_is)
    (case p_is_part => k_is)
    (case a_parts => k_is)
    (case l_parts => k_is)
    (case k_parts => k_is)
    (case p_parts => k_is)
    (case a_check_goods => k_is)
    (case l_check_goods => k_is)
    (case k_check_goods => k_is)
    (case p_check_goods => k_is)
    (case a_is_tree => k_is)
    (case l_is_tree => k_is)
    (case k_is_tree => k_is)
    (case p_is_tree => k_is)
    (case a_check_tree => k_is)
    (case l_check_tree => k_is)
    (case k_check_tree => k_is)
    (case p_check_tree => k_is)
    (case a_l_draws => k_is)
    (case l_l_draws => k_is)
    (case k_l_draws => k_is)
    (case p_l_draws => k_is)
    (case a_l_mix => k_is)
    (case l_l_mix => k_is)
    (case k_l_mix => k_is)
    (case p_l_mix => k_is)
    (case a_l_kinds => k_is)
    (case l_l_kinds => k_is)
    (case k_l_kinds => k_is)
    (case p_l_kinds => k_is)
    (case a_l_made => k_is)
    (case l_l_made => k_is)
    (case k_l_made => k_is)
    (case p_l_made => k_is)
    (case a_l_raised => k_is)
    (case l_l_raised => k_is)
    (case k_l_raised => k_is)
    (case p_l_raised => k_is)
    (case a_law => k_is)
    (case l_law => k_is)
    (case k_law => k_is)
    (case p_law => k_is)
    (case z_len => k_is)
    (case z_list => k_is)
    (case z_sorted => k_is)
    (case z_set => k_is)
    (case z_all => k_is)
    (case z_sum => k_is)
    (case z_range => k_is)
    (case z_min => k_is)
    (case z_abs => k_is)
    (case z_int => k_is)
    (case z_isinstance => k_is)
    (case z_ValueError => k_is)
    (case z_bool => k_is)
    (case i_MOST_DEPTH => k_is)
    (case u_WORDS => k_is)
    (case v_WORDS => k_is)
    (case i_MOST_WORTH => k_is)
    (case i_MOST_UP => k_is)
    (case i_MOST_GOODS => k_is)
    (case i_MOST_PARTS => k_is)
    (case e_OutOfRange => refine' PySem.AeX.mk_err KX G0 ?gC ?cls ?hbm ?sa ?ga ?gg ?noN ?iC ?tC ?kC ?exC ?tyC ?hdC ?sup ?isD ?veC ?opq ?clD ?nsu ?top ?fn ?hcd ?hev ?code ?hvs ?hfile ?cell; (case gC => k_is); (case cls => k_is); (case hbm => rfl); (case sa => k_is); (case ga => k_is); (case gg => k_is); (case noN => k_is); (case iC => k_is); (case tC => k_is); (case kC => k_is); (case exC => k_is); (case tyC => k_is); (case hdC => k_is); (case veC => k_is); (case opq => k_is); (case nsu => k_is); (case top => rfl); (case fn => k_is); (case hcd => k_is); (case hev => exact fun _ => ⟨_, rfl⟩); (case code => k_is); (case hvs => rfl); (case hfile => rfl); (case cell => k_is); (case sup => ks_is); (case isD => k_is); (case clD => k_is))
    (case e_BadTree => refine' PySem.AeX.mk_err KX G0 ?gC ?cls ?hbm ?sa ?ga ?gg ?noN ?iC ?tC ?kC ?exC ?tyC ?hdC ?sup ?isD ?veC ?opq ?clD ?nsu ?top ?fn ?hcd ?hev ?code ?hvs ?hfile ?cell; (case gC => k_is); (case cls => k_is); (case hbm => rfl); (case sa => k_is); (case ga => k_is); (case gg => k_is); (case noN => k_is); (case iC => k_is); (case tC => k_is); (case kC => k_is); (case exC => k_is); (case tyC => k_is); (case hdC => k_is); (case veC => k_is); (case opq => k_is); (case nsu => k_is); (case top => rfl); (case fn => k_is); (case hcd => k_is); (case hev => exact fun _ => ⟨_, rfl⟩); (case code => k_is); (case hvs => rfl); (case hfile => rfl); (case cell => k_is); (case sup => ks_is); (case isD => k_is); (case clD => k_is))
    (case ya_OutOfRange => k_is)
    (case yb_OutOfRange => k_is)
    (case yc_OutOfRange => k_is)
    (case yd_OutOfRange => k_is)
    (case ye_OutOfRange => k_is)
    (case yf_OutOfRange => k_is)
    (case ya_TooMany => k_is)
    (case yb_TooMany => k_is)
    (case yc_TooMany => k_is)
    (case yd_TooMany => k_is)
    (case ye_TooMany => k_is)
    (case yf_TooMany => k_is)
    (case e_TooMany => refine' PySem.AeX.mk_err KX G0 ?gC ?cls ?hbm ?sa ?ga ?gg ?noN ?iC ?tC ?kC ?exC ?tyC ?hdC ?sup ?isD ?veC ?opq ?clD ?nsu ?top ?fn ?hcd ?hev ?code ?hvs ?hfile ?cell; (case gC => k_is); (case cls => k_is); (case hbm => rfl); (case sa => k_is); (case ga => k_is); (case gg => k_is); (case noN => k_is); (case iC => k_is); (case tC => k_is); (case kC => k_is); (case exC => k_is); (case tyC => k_is); (case hdC => k_is); (case veC => k_is); (case opq => k_is); (case nsu => k_is); (case top => rfl); (case fn => k_is); (case hcd => k_is); (case hev => exact fun _ => ⟨_, rfl⟩); (case code => k_is); (case hvs => rfl); (case hfile => rfl); (case cell => k_is); (case sup => ks_is); (case isD => k_is); (case clD => k_is))
    (case ya_BadTree => k_is)
    (case yb_BadTree => k_is)
    (case yc_BadTree => k_is)
    (case yd_BadTree => k_is)
    (case ye_BadTree => k_is)
    (case yf_BadTree => k_is)
    (case ya_BadText => k_is)
    (case yb_BadText => k_is)
    (case yc_BadText => k_is)
    (case yd_BadText => k_is)
    (case ye_BadText => k_is)
    (case yf_BadText => k_is)
    (case e_BadText => refine' PySem.AeX.mk_err KX G0 ?gC ?cls ?hbm ?sa ?ga ?gg ?noN ?iC ?tC ?kC ?exC ?tyC ?hdC ?sup ?isD ?veC ?opq ?clD ?nsu ?top ?fn ?hcd ?hev ?code ?hvs ?hfile ?cell; (case gC => k_is); (case cls => k_is); (case hbm => rfl); (case sa => k_is); (case ga => k_is); (case gg => k_is); (case noN => k_is); (case iC => k_is); (case tC => k_is); (case kC => k_is); (case exC => k_is); (case tyC => k_is); (case hdC => k_is); (case veC => k_is); (case opq => k_is); (case nsu => k_is); (case top => rfl); (case fn => k_is); (case hcd => k_is); (case hev => exact fun _ => ⟨_, rfl⟩); (case code => k_is); (case hvs => rfl); (case hfile => rfl); (case cell => k_is); (case sup => ks_is); (case isD => k_is); (case clD => k_is))
    (case ya_BadLine => k_is)
    (case yb_BadLine => k_is)
    (case yc_BadLine => k_is)
    (case yd_BadLine => k_is)
    (case ye_BadLine => k_is)
    (case yf_BadLine => k_is)
    (case e_BadLine => refine' PySem.AeX.mk_err KX G0 ?gC ?cls ?hbm ?sa ?ga ?gg ?noN ?iC ?tC ?kC ?exC ?tyC ?hdC ?sup ?isD ?veC ?opq ?clD ?nsu ?top ?fn ?hcd ?hev ?code ?hvs ?hfile ?cell; (case gC => k_is); (case cls => k_is); (case hbm => rfl); (case sa => k_is); (case ga => k_is); (case gg => k_is); (case noN => k_is); (case iC => k_is); (case tC => k_is); (case kC => k_is); (case exC => k_is); (case tyC => k_is); (case hdC => k_is); (case veC => k_is); (case opq => k_is); (case nsu => k_is); (case top => rfl); (case fn => k_is); (case hcd => k_is); (case hev => exact fun _ => ⟨_, rfl⟩); (case code => k_is); (case hvs => rfl); (case hfile => rfl); (case cell => k_is); (case sup => ks_is); (case isD => k_is); (case clD => k_is))
    (case ya_BadTable => k_is)
    (case yb_BadTable => k_is)
    (case yc_BadTable => k_is)
    (case yd_BadTable => k_is)
    (case ye_BadTable => k_is)
    (case yf_BadTable => k_is)
    (case e_BadTable => refine' PySem.AeX.mk_err KX G0 ?gC ?cls ?hbm ?sa ?ga ?gg ?noN ?iC ?tC ?kC ?exC ?tyC ?hdC ?sup ?isD ?veC ?opq ?clD ?nsu ?top ?fn ?hcd ?hev ?code ?hvs ?hfile ?cell; (case gC => k_is); (case cls => k_is); (case hbm => rfl); (case sa => k_is); (case ga => k_is); (case gg => k_is); (case noN => k_is); (case iC => k_is); (case tC => k_is); (case kC => k_is); (case exC => k_is); (case tyC => k_is); (case hdC => k_is); (case veC => k_is); (case opq => k_is); (case nsu => k_is); (case top => rfl); (case fn => k_is); (case hcd => k_is); (case hev => exact fun _ => ⟨_, rfl⟩); (case code => k_is); (case hvs => rfl); (case hfile => rfl); (case cell => k_is); (case sup => ks_is); (case isD => k_is); (case clD => k_is))
    (case ya_BadBook => k_is)
    (case yb_BadBook => k_is)
    (case yc_BadBook => k_is)
    (case yd_BadBook => k_is)
    (case ye_BadBook => k_is)
    (case yf_BadBook => k_is)
    (case e_BadBook => refine' PySem.AeX.mk_err KX G0 ?gC ?cls ?hbm ?sa ?ga ?gg ?noN ?iC ?tC ?kC ?exC ?tyC ?hdC ?sup ?isD ?veC ?opq ?clD ?nsu ?top ?fn ?hcd ?hev ?code ?hvs ?hfile ?cell; (case gC => k_is); (case cls => k_is); (case hbm => rfl); (case sa => k_is); (case ga => k_is); (case gg => k_is); (case noN => k_is); (case iC => k_is); (case tC => k_is); (case kC => k_is); (case exC => k_is); (case tyC => k_is); (case hdC => k_is); (case veC => k_is); (case opq => k_is); (case nsu => k_is); (case top => rfl); (case fn => k_is); (case hcd => k_is); (case hev => exact fun _ => ⟨_, rfl⟩); (case code => k_is); (case hvs => rfl); (case hfile => rfl); (case cell => k_is); (case sup => ks_is); (case isD => k_is); (case clD => k_is))
    (case ya_BadShare => k_is)
    (case yb_BadShare => k_is)
    (case yc_BadShare => k_is)
    (case yd_BadShare => k_is)
    (case ye_BadShare => k_is)
    (case yf_BadShare => k_is)
    (case e_BadShare => refine' PySem.AeX.mk_err KX G0 ?gC ?cls ?hbm ?sa ?ga ?gg ?noN ?iC ?tC ?kC ?exC ?tyC ?hdC ?sup ?isD ?veC ?opq ?clD ?nsu ?top ?fn ?hcd ?hev ?code ?hvs ?hfile ?cell; (case gC => k_is); (case cls => k_is); (case hbm => rfl); (case sa => k_is); (case ga => k_is); (case gg => k_is); (case noN => k_is); (case iC => k_is); (case tC => k_is); (case kC => k_is); (case exC => k_is); (case tyC => k_is); (case hdC => k_is); (case veC => k_is); (case opq => k_is); (case nsu => k_is); (case top => rfl); (case fn => k_is); (case hcd => k_is); (case hev => exact fun _ => ⟨_, rfl⟩); (case code => k_is); (case hvs => rfl); (case hfile => rfl); (case cell => k_is); (case sup => ks_is); (case isD => k_is); (case clD => k_is))
    (case ya_BadBidder => k_is)
    (case yb_BadBidder => k_is)
    (case yc_BadBidder => k_is)
    (case yd_BadBidder => k_is)
    (case ye_BadBidder => k_is)
    (case yf_BadBidder => k_is)
    (case e_BadBidder => refine' PySem.AeX.mk_err KX G0 ?gC ?cls ?hbm ?sa ?ga ?gg ?noN ?iC ?tC ?kC ?exC ?tyC ?hdC ?sup ?isD ?veC ?opq ?clD ?nsu ?top ?fn ?hcd ?hev ?code ?hvs ?hfile ?cell; (case gC => k_is); (case cls => k_is); (case hbm => rfl); (case sa => k_is); (case ga => k_is); (case gg => k_is); (case noN => k_is); (case iC => k_is); (case tC => k_is); (case kC => k_is); (case exC => k_is); (case tyC => k_is); (case hdC => k_is); (case veC => k_is); (case opq => k_is); (case nsu => k_is); (case top => rfl); (case fn => k_is); (case hcd => k_is); (case hev => exact fun _ => ⟨_, rfl⟩); (case code => k_is); (case hvs => rfl); (case hfile => rfl); (case cell => k_is); (case sup => ks_is); (case isD => k_is); (case clD => k_is))
    (case ya_BadWord => k_is)
    (case yb_BadWord => k_is)
    (case yc_BadWord => k_is)
    (case yd_BadWord => k_is)
    (case ye_BadWord => k_is)
    (case yf_BadWord => k_is)
    (case e_BadWord => refine' PySem.AeX.mk_err KX G0 ?gC ?cls ?hbm ?sa ?ga ?gg ?noN ?iC ?tC ?kC ?exC ?tyC ?hdC ?sup ?isD ?veC ?opq ?clD ?nsu ?top ?fn ?hcd ?hev ?code ?hvs ?hfile ?cell; (case gC => k_is); (case cls => k_is); (case hbm => rfl); (case sa => k_is); (case ga => k_is); (case gg => k_is); (case noN => k_is); (case iC => k_is); (case tC => k_is); (case kC => k_is); (case exC => k_is); (case tyC => k_is); (case hdC => k_is); (case veC => k_is); (case opq => k_is); (case nsu => k_is); (case top => rfl); (case fn => k_is); (case hcd => k_is); (case hev => exact fun _ => ⟨_, rfl⟩); (case code => k_is); (case hvs => rfl); (case hfile => rfl); (case cell => k_is); (case sup => ks_is); (case isD => k_is); (case clD => k_is))
    (case ya_BadRows => k_is)
    (case yb_BadRows => k_is)
    (case yc_BadRows => k_is)
    (case yd_BadRows => k_is)
    (case ye_BadRows => k_is)
    (case yf_BadRows => k_is)
    (case e_BadRows => refine' PySem.AeX.mk_err KX G0 ?gC ?cls ?hbm ?sa ?ga ?gg ?noN ?iC ?tC ?kC ?exC ?tyC ?hdC ?sup ?isD ?veC ?opq ?clD ?nsu ?top ?fn ?hcd ?hev ?code ?hvs ?hfile ?cell; (case gC => k_is); (case cls => k_is); (case hbm => rfl); (case sa => k_is); (case ga => k_is); (case gg => k_is); (case noN => k_is); (case iC => k_is); (case tC => k_is); (case kC => k_is); (case exC => k_is); (case tyC => k_is); (case hdC => k_is); (case veC => k_is); (case opq => k_is); (case nsu => k_is); (case top => rfl); (case fn => k_is); (case hcd => k_is); (case hev => exact fun _ => ⟨_, rfl⟩); (case code => k_is); (case hvs => rfl); (case hfile => rfl); (case cell => k_is); (case sup => ks_is); (case isD => k_is); (case clD => k_is))
    (case ya_BadPrices => k_is)
    (case yb_BadPrices => k_is)
    (case yc_BadPrices => k_is)
    (case yd_BadPrices => k_is)
    (case ye_BadPrices => k_is)
    (case yf_BadPrices => k_is)
    (case e_BadPrices => refine' PySem.AeX.mk_err KX G0 ?gC ?cls ?hbm ?sa ?ga ?gg ?noN ?iC ?tC ?kC ?exC ?tyC ?hdC ?sup ?isD ?veC ?opq ?clD ?nsu ?top ?fn ?hcd ?hev ?code ?hvs ?hfile ?cell; (case gC => k_is); (case cls => k_is); (case hbm => rfl); (case sa => k_is); (case ga => k_is); (case gg => k_is); (case noN => k_is); (case iC => k_is); (case tC => k_is); (case kC => k_is); (case exC => k_is); (case tyC => k_is); (case hdC => k_is); (case veC => k_is); (case opq => k_is); (case nsu => k_is); (case top => rfl); (case fn => k_is); (case hcd => k_is); (case hev => exact fun _ => ⟨_, rfl⟩); (case code => k_is); (case hvs => rfl); (case hfile => rfl); (case cell => k_is); (case sup => ks_is); (case isD => k_is); (case clD => k_is))
    (case ya_BadBids => k_is)
    (case yb_BadBids => k_is)
    (case yc_BadBids => k_is)
    (case yd_BadBids => k_is)
    (case ye_BadBids => k_is)
    (case yf_BadBids => k_is)
    (case e_BadBids => refine' PySem.AeX.mk_err KX G0 ?gC ?cls ?hbm ?sa ?ga ?gg ?noN ?iC ?tC ?kC ?exC ?tyC ?hdC ?sup ?isD ?veC ?opq ?clD ?nsu ?top ?fn ?hcd ?hev ?code ?hvs ?hfile ?cell; (case gC => k_is); (case cls => k_is); (case hbm => rfl); (case sa => k_is); (case ga => k_is); (case gg => k_is); (case noN => k_is); (case iC => k_is); (case tC => k_is); (case kC => k_is); (case exC => k_is); (case tyC => k_is); (case hdC => k_is); (case veC => k_is); (case opq => k_is); (case nsu => k_is); (case top => rfl); (case fn => k_is); (case hcd => k_is); (case hev => exact fun _ => ⟨_, rfl⟩); (case code => k_is); (case hvs => rfl); (case hfile => rfl); (case cell => k_is); (case sup => ks_is); (case isD => k_is); (case clD => k_is))
    (case ya_NoBidder => k_is)
    (case yb_NoBidder => k_is)
    (case yc_NoBidder => k_is)
    (case yd_NoBidder => k_is)
    (case ye_NoBidder => k_is)
    (case yf_NoBidder => k_is)
    (case e_NoBidder => refine' PySem.AeX.mk_err KX G0 ?gC ?cls ?hbm ?sa ?ga ?gg ?noN ?iC ?tC ?kC ?exC ?tyC ?hdC ?sup ?isD ?veC ?opq ?clD ?nsu ?top ?fn ?hcd ?hev ?code ?hvs ?hfile ?cell; (case gC => k_is); (case cls => k_is); (case hbm => rfl); (case sa => k_is); (case ga => k_is); (case gg => k_is); (case noN => k_is); (case iC => k_is); (case tC => k_is); (case kC => k_is); (case exC => k_is); (case tyC => k_is); (case hdC => k_is); (case veC => k_is); (case opq => k_is); (case nsu => k_is); (case top => rfl); (case fn => k_is); (case hcd => k_is); (case hev => exact fun _ => ⟨_, rfl⟩); (case code => k_is); (case hvs => rfl); (case hfile => rfl); (case cell => k_is); (case sup => ks_is); (case isD => k_is); (case clD => k_is))
    (case ya_BadPayment => k_is)
    (case yb_BadPayment => k_is)
    (case yc_BadPayment => k_is)
    (case yd_BadPayment => k_is)
    (case ye_BadPayment => k_is)
    (case yf_BadPayment => k_is)
    (case e_BadPayment => refine' PySem.AeX.mk_err KX G0 ?gC ?cls ?hbm ?sa ?ga ?gg ?noN ?iC ?tC ?kC ?exC ?tyC ?hdC ?sup ?isD ?veC ?opq ?clD ?nsu ?top ?fn ?hcd ?hev ?code ?hvs ?hfile ?cell; (case gC => k_is); (case cls => k_is); (case hbm => rfl); (case sa => k_is); (case ga => k_is); (case gg => k_is); (case noN => k_is); (case iC => k_is); (case tC => k_is); (case kC => k_is); (case exC => k_is); (case tyC => k_is); (case hdC => k_is); (case veC => k_is); (case opq => k_is); (case nsu => k_is); (case top => rfl); (case fn => k_is); (case hcd => k_is); (case hev => exact fun _ => ⟨_, rfl⟩); (case code => k_is); (case hvs => rfl); (case hfile => rfl); (case cell => k_is); (case sup => ks_is); (case isD => k_is); (case clD => k_is))
    (case ya_BadType => k_is)
    (case yb_BadType => k_is)
    (case yc_BadType => k_is)
    (case yd_BadType => k_is)
    (case ye_BadType => k_is)
    (case yf_BadType => k_is)
    (case e_BadType => refine' PySem.AeX.mk_err KX G0 ?gC ?cls ?hbm ?sa ?ga ?gg ?noN ?iC ?tC ?kC ?exC ?tyC ?hdC ?sup ?isD ?veC ?opq ?clD ?nsu ?top ?fn ?hcd ?hev ?code ?hvs ?hfile ?cell; (case gC => k_is); (case cls => k_is); (case hbm => rfl); (case sa => k_is); (case ga => k_is); (case gg => k_is); (case noN => k_is); (case iC => k_is); (case tC => k_is); (case kC => k_is); (case exC => k_is); (case tyC => k_is); (case hdC => k_is); (case veC => k_is); (case opq => k_is); (case nsu => k_is); (case top => rfl); (case fn => k_is); (case hcd => k_is); (case hev => exact fun _ => ⟨_, rfl⟩); (case code => k_is); (case hvs => rfl); (case hfile => rfl); (case cell => k_is); (case sup => ks_is); (case isD => k_is); (case clD => k_is))
    (case ya_BadEnd => k_is)
    (case yb_BadEnd => k_is)
    (case yc_BadEnd => k_is)
    (case yd_BadEnd => k_is)
    (case ye_BadEnd => k_is)
    (case yf_BadEnd => k_is)
    (case e_BadEnd => refine' PySem.AeX.mk_err KX G0 ?gC ?cls ?hbm ?sa ?ga ?gg ?noN ?iC ?tC ?kC ?exC ?tyC ?hdC ?sup ?isD ?veC ?opq ?clD ?nsu ?top ?fn ?hcd ?hev ?code ?hvs ?hfile ?cell; (case gC => k_is); (case cls => k_is); (case hbm => rfl); (case sa => k_is); (case ga => k_is); (case gg => k_is); (case noN => k_is); (case iC => k_is); (case tC => k_is); (case kC => k_is); (case exC => k_is); (case tyC => k_is); (case hdC => k_is); (case veC => k_is); (case opq => k_is); (case nsu => k_is); (case top => rfl); (case fn => k_is); (case hcd => k_is); (case hev => exact fun _ => ⟨_, rfl⟩); (case code => k_is); (case hvs => rfl); (case hfile => rfl); (case cell => k_is); (case sup => ks_is); (case isD => k_is); (case clD => k_is))
    (case ya_BadPaid => k_is)
    (case yb_BadPaid => k_is)
    (case yc_BadPaid => k_is)
    (case yd_BadPaid => k_is)
    (case ye_BadPaid => k_is)
    (case yf_BadPaid => k_is)
    (case e_BadPaid => refine' PySem.AeX.mk_err KX G0 ?gC ?cls ?hbm ?sa ?ga ?gg ?noN ?iC ?tC ?kC ?exC ?tyC ?hdC ?sup ?isD ?veC ?opq ?clD ?nsu ?top ?fn ?hcd ?hev ?code ?hvs ?hfile ?cell; (case gC => k_is); (case cls => k_is); (case hbm => rfl); (case sa => k_is); (case ga => k_is); (case gg => k_is); (case noN => k_is); (case iC => k_is); (case tC => k_is); (case kC => k_is); (case exC => k_is); (case tyC => k_is); (case hdC => k_is); (case veC => k_is); (case opq => k_is); (case nsu => k_is); (case top => rfl); (case fn => k_is); (case hcd => k_is); (case hev => exact fun _ => ⟨_, rfl⟩); (case code => k_is); (case hvs => rfl); (case hfile => rfl); (case cell => k_is); (case sup => ks_is); (case isD => k_is); (case clD => k_is))
    (case ya_BadBid => k_is)
    (case yb_BadBid => k_is)
    (case yc_BadBid => k_is)
    (case yd_BadBid => k_is)
    (case ye_BadBid => k_is)
    (case yf_BadBid => k_is)
    (case e_BadBid => refine' PySem.AeX.mk_err KX G0 ?gC ?cls ?hbm ?sa ?ga ?gg ?noN ?iC ?tC ?kC ?exC ?tyC ?hdC ?sup ?isD ?veC ?opq ?clD ?nsu ?top ?fn ?hcd ?hev ?code ?hvs ?hfile ?cell; (case gC => k_is); (case cls => k_is); (case hbm => rfl); (case sa => k_is); (case ga => k_is); (case gg => k_is); (case noN => k_is); (case iC => k_is); (case tC => k_is); (case kC => k_is); (case exC => k_is); (case tyC => k_is); (case hdC => k_is); (case veC => k_is); (case opq => k_is); (case nsu => k_is); (case top => rfl); (case fn => k_is); (case hcd => k_is); (case hev => exact fun _ => ⟨_, rfl⟩); (case code => k_is); (case hvs => rfl); (case hfile => rfl); (case cell => k_is); (case sup => ks_is); (case isD => k_is); (case clD => k_is))
    (case ya_BadHope => k_is)
    (case yb_BadHope => k_is)
    (case yc_BadHope => k_is)
    (case yd_BadHope => k_is)
    (case ye_BadHope => k_is)
    (case yf_BadHope => k_is)
    (case e_BadHope => refine' PySem.AeX.mk_err KX G0 ?gC ?cls ?hbm ?sa ?ga ?gg ?noN ?iC ?tC ?kC ?exC ?tyC ?hdC ?sup ?isD ?veC ?opq ?clD ?nsu ?top ?fn ?hcd ?hev ?code ?hvs ?hfile ?cell; (case gC => k_is); (case cls => k_is); (case hbm => rfl); (case sa => k_is); (case ga => k_is); (case gg => k_is); (case noN => k_is); (case iC => k_is); (case tC => k_is); (case kC => k_is); (case exC => k_is); (case tyC => k_is); (case hdC => k_is); (case veC => k_is); (case opq => k_is); (case nsu => k_is); (case top => rfl); (case fn => k_is); (case hcd => k_is); (case hev => exact fun _ => ⟨_, rfl⟩); (case code => k_is); (case hvs => rfl); (case hfile => rfl); (case cell => k_is); (case sup => ks_is); (case isD => k_is); (case clD => k_is))
    (case ya_BadWish => k_is)
    (case yb_BadWish => k_is)
    (case yc_BadWish => k_is)
    (case yd_BadWish => k_is)
    (case ye_BadWish => k_is)
    (case yf_BadWish => k_is)
    (case e_BadWish => refine' PySem.AeX.mk_err KX G0 ?gC ?cls ?hbm ?sa ?ga ?gg ?noN ?iC ?tC ?kC ?exC ?tyC ?hdC ?sup ?isD ?veC ?opq ?clD ?nsu ?top ?fn ?hcd ?hev ?code ?hvs ?hfile ?cell; (case gC => k_is); (case cls => k_is); (case hbm => rfl); (case sa => k_is); (case ga => k_is); (case gg => k_is); (case noN => k_is); (case iC => k_is); (case tC => k_is); (case kC => k_is); (case exC => k_is); (case tyC => k_is); (case hdC => k_is); (case veC => k_is); (case opq => k_is); (case nsu => k_is); (case top => rfl); (case fn => k_is); (case hcd => k_is); (case hev => exact fun _ => ⟨_, rfl⟩); (case code => k_is); (case hvs => rfl); (case hfile => rfl); (case cell => k_is); (case sup => ks_is); (case isD => k_is); (case clD => k_is))
    (case ya_BadMoney => k_is)
    (case yb_BadMoney => k_is)
    (case yc_BadMoney => k_is)
    (case yd_BadMoney => k_is)
    (case ye_BadMoney => k_is)
    (case yf_BadMoney => k_is)
    (case e_BadMoney => refine' PySem.AeX.mk_err KX G0 ?gC ?cls ?hbm ?sa ?ga ?gg ?noN ?iC ?tC ?kC ?exC ?tyC ?hdC ?sup ?isD ?veC ?opq ?clD ?nsu ?top ?fn ?hcd ?hev ?code ?hvs ?hfile ?cell; (case gC => k_is); (case cls => k_is); (case hbm => rfl); (case sa => k_is); (case ga => k_is); (case gg => k_is); (case noN => k_is); (case iC => k_is); (case tC => k_is); (case kC => k_is); (case exC => k_is); (case tyC => k_is); (case hdC => k_is); (case veC => k_is); (case opq => k_is); (case nsu => k_is); (case top => rfl); (case fn => k_is); (case hcd => k_is); (case hev => exact fun _ => ⟨_, rfl⟩); (case code => k_is); (case hvs => rfl); (case hfile => rfl); (case cell => k_is); (case sup => ks_is); (case isD => k_is); (case clD => k_is))
    (case ya_NoSolution => k_is)
    (case yb_NoSolution => k_is)
    (case yc_NoSolution => k_is)
    (case yd_NoSolution => k_is)
    (case ye_NoSolution => k_is)
    (case yf_NoSolution => k_is)
    (case e_NoSolution => refine' PySem.AeX.mk_err KX G0 ?gC ?cls ?hbm ?sa ?ga ?gg ?noN ?iC ?tC ?kC ?exC ?tyC ?hdC ?sup ?isD ?veC ?opq ?clD ?nsu ?top ?fn ?hcd ?hev ?code ?hvs ?hfile ?cell; (case gC => k_is); (case cls => k_is); (case hbm => rfl); (case sa => k_is); (case ga => k_is); (case gg => k_is); (case noN => k_is); (case iC => k_is); (case tC => k_is); (case kC => k_is); (case exC => k_is); (case tyC => k_is); (case hdC => k_is); (case veC => k_is); (case opq => k_is); (case nsu => k_is); (case top => rfl); (case fn => k_is); (case hcd => k_is); (case hev => exact fun _ => ⟨_, rfl⟩); (case code => k_is); (case hvs => rfl); (case hfile => rfl); (case cell => k_is); (case sup => ks_is); (case isD => k_is); (case clD => k_is))
    (case ya_BadCosts => k_is)
    (case yb_BadCosts => k_is)
    (case yc_BadCosts => k_is)
    (case yd_BadCosts => k_is)
    (case ye_BadCosts => k_is)
    (case yf_BadCosts => k_is)
    (case e_BadCosts => refine' PySem.AeX.mk_err KX G0 ?gC ?cls ?hbm ?sa ?ga ?gg ?noN ?iC ?tC ?kC ?exC ?tyC ?hdC ?sup ?isD ?veC ?opq ?clD ?nsu ?top ?fn ?hcd ?hev ?code ?hvs ?hfile ?cell; (case gC => k_is); (case cls => k_is); (case hbm => rfl); (case sa => k_is); (case ga => k_is); (case gg => k_is); (case noN => k_is); (case iC => k_is); (case tC => k_is); (case kC => k_is); (case exC => k_is); (case tyC => k_is); (case hdC => k_is); (case veC => k_is); (case opq => k_is); (case nsu => k_is); (case top => rfl); (case fn => k_is); (case hcd => k_is); (case hev => exact fun _ => ⟨_, rfl⟩); (case code => k_is); (case hvs => rfl); (case hfile => rfl); (case cell => k_is); (case sup => ks_is); (case isD => k_is); (case clD => k_is))
    (case ya_BadSet => k_is)
    (case yb_BadSet => k_is)
    (case yc_BadSet => k_is)
    (case yd_BadSet => k_is)
    (case ye_BadSet => k_is)
    (case yf_BadSet => k_is)
    (case e_BadSet => refine' PySem.AeX.mk_err KX G0 ?gC ?cls ?hbm ?sa ?ga ?gg ?noN ?iC ?tC ?kC ?exC ?tyC ?hdC ?sup ?isD ?veC ?opq ?clD ?nsu ?top ?fn ?hcd ?hev ?code ?hvs ?hfile ?cell; (case gC => k_is); (case cls => k_is); (case hbm => rfl); (case sa => k_is); (case ga => k_is); (case gg => k_is); (case noN => k_is); (case iC => k_is); (case tC => k_is); (case kC => k_is); (case exC => k_is); (case tyC => k_is); (case hdC => k_is); (case veC => k_is); (case opq => k_is); (case nsu => k_is); (case top => rfl); (case fn => k_is); (case hcd => k_is); (case hev => exact fun _ => ⟨_, rfl⟩); (case code => k_is); (case hvs => rfl); (case hfile => rfl); (case cell => k_is); (case sup => ks_is); (case isD => k_is); (case clD => k_is))
    (case ya_BadWorths => k_is)
    (case yb_BadWorths => k_is)
    (case yc_BadWorths => k_is)
    (case yd_BadWorths => k_is)
    (case ye_BadWorths => k_is)
    (case yf_BadWorths => k_is)
    (case e_BadWorths => refine' PySem.AeX.mk_err KX G0 ?gC ?cls ?hbm ?sa ?ga ?gg ?noN ?iC ?tC ?kC ?exC ?tyC ?hdC ?sup ?isD ?veC ?opq ?clD ?nsu ?top ?fn ?hcd ?hev ?code ?hvs ?hfile ?cell; (case gC => k_is); (case cls => k_is); (case hbm => rfl); (case sa => k_is); (case ga => k_is); (case gg => k_is); (case noN => k_is); (case iC => k_is); (case tC => k_is); (case kC => k_is); (case exC => k_is); (case tyC => k_is); (case hdC => k_is); (case veC => k_is); (case opq => k_is); (case nsu => k_is); (case top => rfl); (case fn => k_is); (case hcd => k_is); (case hev => exact fun _ => ⟨_, rfl⟩); (case code => k_is); (case hvs => rfl); (case hfile => rfl); (case cell => k_is); (case sup => ks_is); (case isD => k_is); (case clD => k_is))
    (case ya_NoWish => k_is)
    (case yb_NoWish => k_is)
    (case yc_NoWish => k_is)
    (case yd_NoWish => k_is)
    (case ye_NoWish => k_is)
    (case yf_NoWish => k_is)
    (case e_NoWish => refine' PySem.AeX.mk_err KX G0 ?gC ?cls ?hbm ?sa ?ga ?gg ?noN ?iC ?tC ?kC ?exC ?tyC ?hdC ?sup ?isD ?veC ?opq ?clD ?nsu ?top ?fn ?hcd ?hev ?code ?hvs ?hfile ?cell; (case gC => k_is); (case cls => k_is); (case hbm => rfl); (case sa => k_is); (case ga => k_is); (case gg => k_is); (case noN => k_is); (case iC => k_is); (case tC => k_is); (case kC => k_is); (case exC => k_is); (case tyC => k_is); (case hdC => k_is); (case veC => k_is); (case opq => k_is); (case nsu => k_is); (case top => rfl); (case fn => k_is); (case hcd => k_is); (case hev => exact fun _ => ⟨_, rfl⟩); (case code => k_is); (case hvs => rfl); (case hfile => rfl); (case cell => k_is); (case sup => ks_is); (case isD => k_is); (case clD => k_is))
    (case ya_AuctionError => k_is)
    (case yb_AuctionError => k_is)
    (case yc_AuctionError => k_is)
    (case yd_AuctionError => k_is)
    (case ye_AuctionError => k_is)
    (case yf_AuctionError => k_is)
    (case e_AuctionError => refine' PySem.AeX.mk_err KX G0 ?gC ?cls ?hbm ?sa ?ga ?gg ?noN ?iC ?tC ?kC ?exC ?tyC ?hdC ?sup ?isD ?veC ?opq ?clD ?nsu ?top ?fn ?hcd ?hev ?code ?hvs ?hfile ?cell; (case gC => k_is); (case cls => k_is); (case hbm => rfl); (case sa => k_is); (case ga => k_is); (case gg => k_is); (case noN => k_is); (case iC => k_is); (case tC => k_is); (case kC => k_is); (case exC => k_is); (case tyC => k_is); (case hdC => k_is); (case veC => k_is); (case opq => k_is); (case nsu => k_is); (case top => rfl); (case fn => k_is); (case hcd => k_is); (case hev => exact fun _ => ⟨_, rfl⟩); (case code => k_is); (case hvs => rfl); (case hfile => rfl); (case cell => k_is); (case sup => ks_is); (case isD => k_is); (case clD => k_is))
    (case bx_BadTree_AuctionError => kts_exm)
    (case bx_OutOfRange_AuctionError => kts_exm)
    (case kr_0 => repeat (first | exact .nil | refine .cons (by kit_is) ?_))
    (case kr_1 => repeat (first | exact .nil | refine .cons (by kit_is) ?_))
    (case kr_2 => repeat (first | exact .nil | refine .cons (by kit_is) ?_))
    (case kr_3 => repeat (first | exact .nil | refine .cons (by kit_is) ?_))
    (case kr_4 => repeat (first | exact .nil | refine .cons (by kit_is) ?_))
    (case kr_5 => repeat (first | exact .nil | refine .cons (by kit_is) ?_))
    (case kr_6 => repeat (first | exact .nil | refine .cons (by kit_is) ?_))
    (case kr_7 => repeat (first | exact .nil | refine .cons (by kit_is) ?_))
    (case kr_8 => repeat (first | exact .nil | refine .cons (by kit_is) ?_))
    (case kr_9 => repeat (first | exact .nil | refine .cons (by kit_is) ?_))
    (case kr_10 => repeat (first | exact .nil | refine .cons (by kit_is) ?_))
    (case kr_11 => repeat (first | exact .nil | refine .cons (by kit_is) ?_))
    (case kr_12 => repeat (first | exact .nil | refine .cons (by kit_is) ?_))
    (case kr_13 => repeat (first | exact .nil | refine .cons (by kit_is) ?_))
    (case kr_14 => repeat (first | exact .nil | refine .cons (by kit_is) ?_))
    (case kr_15 => repeat (first | exact .nil | refine .cons (by kit_is) ?_))
    (case kr_16 => repeat (first | exact .nil | refine .cons (by kit_is) ?_))
    (case kr_17 => repeat (first | exact .nil | refine .cons (by kit_is) ?_))
    (case kr_18 => repeat (first | exact .nil | refine .cons (by kit_is) ?_))
    (case kr_19 => repeat (first | exact .nil | refine .cons (by kit_is) ?_))
    (case kr_20 => repeat (first | exact .nil | refine .cons (by kit_is) ?_))
    (case kr_21 => repeat (first | exact .nil | refine .cons (by kit_is) ?_))
    (case kr_22 => repeat (first | exact .nil | refine .cons (by kit_is) ?_))
    (case kr_23 => repeat (first | exact .nil | refine .cons (by kit_is) ?_))
    (case kr_24 => repeat (first | exact .nil | refine .cons (by kit_is) ?_))
    (case kr_25 => repeat (first | exact .nil | refine .cons (by kit_is) ?_))
    (case kr_26 => repeat (first | exact .nil | refine .cons (by kit_is) ?_))
    (case kr_27 => repeat (first | exact .nil | refine .cons (by kit_is) ?_))

