import PyProof.Rows.All
import Wide.All
import OpenK.AllK
import Wide.FinOn
import HandS.ForMost
import HandS.ForExc
import HandS.TupAny
import HandS.TupLe
import HandS.Style
import HandS.Wide
import HandS.Deep
import KE.LtData
import HandS.Star
import HandS.SortInts
import HandS.More
import HandS.SortRule
import HandS.Small
import HandS.Zip
import HandS.CallSlots
import HandS.ExcOwn
import HandS.ExcCtx
import HandS.Ends
import HandS.SetFor
import HandS.Strs
import HandS.TupSets
import HandS.RaiseMore
import KE.KIndexOf
import KE.OsSetLaws
import PyProof.ReprRoads
import HandS.ForSpec
import KE.KExcSuper
import HandS.ExcSuper
import HandS.TryMany
import KE.GoesEnum
import KE.GoesMore
import HandS.TryOnly
import KE.SortData
import KE.DataMinMax
import PyProof.SumWalkG
import HandS.HotCalls
import KE.KExcIs
import HandS.Text
import KE.RegKIsAll
import HandS.ExcValue
import HandS.IsInst
import KE.KDictCopyH
import KE.KDictDisplayH
import KE.KDictOf
import HandS.Iter
import HandS.Conv
import KE.RegKSuper
import KE.RegKTryMore
import PySem.Challenge.RW_truebidsbest_k06_whole_shares_by_turns
set_option Elab.async false
set_option linter.all false
set_option maxRecDepth 100000
namespace G
open PySem PySem.Spec PyProof.Rows L2

abbrev D := PyData
abbrev Frg := PySem.W.Frag
abbrev MgT := Str → Option Value
abbrev St := L2.St

/-- what running a piece comes to: a value, an own error with its number, or nothing told -/
inductive R (α : Type) where
  | ok (a : α)
  | ex (c : String) (n : Int)
  | no
def R.bind {α β : Type} : R α → (α → R β) → R β
  | .ok a, f => f a
  | .ex c n, _ => .ex c n
  | .no, _ => .no
def R.map {α β : Type} (f : α → β) : R α → R β
  | .ok a => .ok (f a)
  | .ex c n => .ex c n
  | .no => .no
@[simp] theorem R.bind_ok {α β : Type} (a : α) (f : α → R β) : (R.ok a).bind f = f a := rfl
@[simp] theorem R.bind_ex {α β : Type} (c : String) (n : Int) (f : α → R β) : (R.ex c n).bind f = .ex c n := rfl
@[simp] theorem R.bind_no {α β : Type} (f : α → R β) : (R.no : R α).bind f = .no := rfl

/-- a slot: data that nobody changes any more; a list or dict that this frame alone holds; a caught error -/
inductive Sl where
  | v (d : D)
  | own (t : Bool) (d : D)
  | er (c : String) (n : Int)
  | sc (ns : List Int)
abbrev En := List (Option Sl)

/-! ### data in the abstract heap -/
def kD : Key → D
  | .inl i => .int i
  | .inr z => .str z
def TupK (K : Frg) (a : Addr) (vs : List V) : Prop :=
  ∃ (o : Obj) (its : Array Value) (n : Nat), K.lookup a = some o ∧ o.cls = .type "tuple" ∧ o.data = .seq its n ∧ its.size ≤ sizeLine ∧ Vals vs its.toList
/-- the written pairs (100, 1) and (101, 1) -/
def ZT (K : Frg) (a : Addr) (vs : List V) : Prop := TupK K a vs ∧ (vs = [.int 100, .int 1] ∨ vs = [.int 101, .int 1])
/-- an own error as a value: the object at a, of the class at C, its dict at dd -/
def XO (C dd a : Addr) : HO := .ext fun h => ∃ oe vs, h.get? a = some oe ∧ Zc (.ref C) (some dd) oe ∧ oe.data = .fields vs
mutual
inductive Rep (K : Frg) (H : Hp) (A : List Addr) : V → D → Prop
  | non : Rep K H A .non .none
  | bl (b : Bool) : Rep K H A (.bl b) (.bool b)
  | int (i : Int) : Rep K H A (.int i) (.int i)
  | str (z : Str) : Rep K H A (.str z) (.str z)
  | lst {a : Addr} {vs : List V} {ds : List D} : a ∉ A → H a = some (.lst vs) → RepL K H A vs ds → Rep K H A (.ref a) (.list ds)
  | tup {a : Addr} {vs : List V} {ds : List D} : a ∉ A → H a = some (.tup vs) → RepL K H A vs ds → Rep K H A (.ref a) (.tuple ds)
  | kt {a : Addr} {vs : List V} {ds : List D} : ZT K a vs → RepL K H A vs ds → Rep K H A (.ref a) (.tuple ds)
  | dk {a : Addr} {kvs : List (Key × V)} {ds : List (D × D)} : a ∉ A → Rd H a (.dK kvs) → RepK K H A kvs ds → Rep K H A (.ref a) (.dict ds)
  | dt {a : Addr} {kvs : List (List Key × V)} {ds : List (D × D)} : a ∉ A → Rd H a (.dT kvs) → RepT K H A kvs ds → Rep K H A (.ref a) (.dict ds)
  | xo {a dd C : Addr} {n : Int} : a ∉ A → dd ∉ A → H a = some (XO C dd a) → H dd = some (.xd [("at", .int n)]) → Rep K H A (.ref a) (.dict [(.none, .int C), (.int 0, .int n)])
inductive RepL (K : Frg) (H : Hp) (A : List Addr) : List V → List D → Prop
  | nil : RepL K H A [] []
  | cons {v : V} {vs : List V} {d : D} {ds : List D} : Rep K H A v d → RepL K H A vs ds → RepL K H A (v :: vs) (d :: ds)
inductive RepK (K : Frg) (H : Hp) (A : List Addr) : List (Key × V) → List (D × D) → Prop
  | nil : RepK K H A [] []
  | cons {k : Key} {v : V} {vs : List (Key × V)} {d : D} {ds : List (D × D)} : Rep K H A v d → RepK K H A vs ds → RepK K H A ((k, v) :: vs) ((kD k, d) :: ds)
inductive RepT (K : Frg) (H : Hp) (A : List Addr) : List (List Key × V) → List (D × D) → Prop
  | nil : RepT K H A [] []
  | cons {k : List Key} {v : V} {vs : List (List Key × V)} {d : D} {ds : List (D × D)} : Rep K H A v d → RepT K H A vs ds → RepT K H A ((k, v) :: vs) ((.tuple (k.map kD), d) :: ds)
end

/-- from one state to a later one: what is not ours alone stays; what is ours alone later was so, or is new -/
structure Tr (A : List Addr) (H : Hp) (A' : List Addr) (H' : Hp) : Prop where
  keep : ∀ b o, H b = some o → b ∉ A → H' b = some o
  new : ∀ a ∈ A', a ∈ A ∨ H a = none
theorem Tr.refl (A : List Addr) (H : Hp) : Tr A H A H := ⟨fun _ _ h _ => h, fun _ h => .inl h⟩
theorem Tr.same {A : List Addr} {H H' : Hp} (h : Same H H') : Tr A H A H' := ⟨fun b o q _ => h b o q, fun _ h => .inl h⟩
theorem Tr.out {A A' : List Addr} {H H' : Hp} (t : Tr A H A' H') {b : Addr} {o : HO} (h : H b = some o) (n : b ∉ A) : b ∉ A' := fun q => by
  rcases t.new b q with z | z
  · exact n z
  · rw [h] at z; cases z
theorem Tr.trans {A A1 A2 : List Addr} {H H1 H2 : Hp} (t : Tr A H A1 H1) (u : Tr A1 H1 A2 H2) : Tr A H A2 H2 where
  keep := fun b o h n => u.keep b o (t.keep b o h n) (t.out h n)
  new := fun a ha => by
    rcases u.new a ha with z | z
    · exact t.new a z
    · by_cases hA : a ∈ A
      · exact .inl hA
      · refine .inr ?_
        cases q : H a with
        | none => rfl
        | some o => rw [t.keep a o q hA] at z; cases z
theorem Tr.write {A : List Addr} {H : Hp} {a : Addr} {x : HO} (h : a ∈ A) : Tr A H A (upd H a x) := ⟨fun c y q n => by rw [upd_ne (show c ≠ a from fun z => n (by rw [z]; exact h))]; exact q, fun c hc => .inl hc⟩
theorem Tr.sub {A A' : List Addr} {H : Hp} (h : ∀ a ∈ A', a ∈ A) : Tr A H A' H := ⟨fun _ _ h _ => h, fun a ha => .inl (h a ha)⟩

/-- the law's script: a list of ints that is only read -/
def LRep (K : Frg) (H : Hp) (A : List Addr) (a : Addr) (vs : List V) : Prop := (a ∉ A ∧ Rd H a (.lst vs)) ∨
  ∃ (o : Obj) (its : Array Value) (n : Nat), K.lookup a = some o ∧ o.cls = .type "list" ∧ o.dict = none ∧ o.data = .seq its n ∧ its.size ≤ sizeLine ∧ Vals vs its.toList
theorem LRep.sq {K : Frg} {H : Hp} {A : List Addr} {a : Addr} {vs : List V} : LRep K H A a vs → SqL K H a vs
  | .inl h => .inl h.2
  | .inr h => .inr h
section
variable {K : Frg} {H H' : Hp} {A A' : List Addr}
theorem LRep.tr (t : Tr A H A' H') {a : Addr} {vs : List V} : LRep K H A a vs → LRep K H' A' a vs
  | .inl ⟨n, .inl h⟩ => .inl ⟨t.out h n, .inl (t.keep _ _ h n)⟩
  | .inl ⟨n, .inr ⟨o, h⟩⟩ => .inl ⟨t.out h n, .inr ⟨o, t.keep _ _ h n⟩⟩
  | .inr h => .inr h
mutual
theorem Rep.tr (t : Tr A H A' H') : ∀ {v : V} {d : D}, Rep K H A v d → Rep K H' A' v d
  | _, _, .non => .non
  | _, _, .bl b => .bl b
  | _, _, .int i => .int i
  | _, _, .str z => .str z
  | _, _, .lst n h r => .lst (t.out h n) (t.keep _ _ h n) (RepL.tr t r)
  | _, _, .tup n h r => .tup (t.out h n) (t.keep _ _ h n) (RepL.tr t r)
  | _, _, .kt z r => .kt z (RepL.tr t r)
  | _, _, .dk n h r => .dk (by rcases h with h | ⟨o, h⟩ <;> exact t.out h n) (by rcases h with h | ⟨o, h⟩; exact .inl (t.keep _ _ h n); exact .inr ⟨o, t.keep _ _ h n⟩) (RepK.tr t r)
  | _, _, .dt n h r => .dt (by rcases h with h | ⟨o, h⟩ <;> exact t.out h n) (by rcases h with h | ⟨o, h⟩; exact .inl (t.keep _ _ h n); exact .inr ⟨o, t.keep _ _ h n⟩) (RepT.tr t r)
  | _, _, .xo n n2 h h2 => .xo (t.out h n) (t.out h2 n2) (t.keep _ _ h n) (t.keep _ _ h2 n2)
theorem RepL.tr (t : Tr A H A' H') : ∀ {v : List V} {d : List D}, RepL K H A v d → RepL K H' A' v d
  | _, _, .nil => .nil
  | _, _, .cons a b => .cons (Rep.tr t a) (RepL.tr t b)
theorem RepK.tr (t : Tr A H A' H') : ∀ {v : List (Key × V)} {d : List (D × D)}, RepK K H A v d → RepK K H' A' v d
  | _, _, .nil => .nil
  | _, _, .cons a b => .cons (Rep.tr t a) (RepK.tr t b)
theorem RepT.tr (t : Tr A H A' H') : ∀ {v : List (List Key × V)} {d : List (D × D)}, RepT K H A v d → RepT K H' A' v d
  | _, _, .nil => .nil
  | _, _, .cons a b => .cons (Rep.tr t a) (RepT.tr t b)
end
theorem Rep.same (s : Same H H') {v : V} {d : D} (h : Rep K H A v d) : Rep K H' A v d := h.tr (Tr.same s)
theorem RepL.same (s : Same H H') {v : List V} {d : List D} (h : RepL K H A v d) : RepL K H' A v d := h.tr (Tr.same s)
theorem Rep.sub (s : ∀ a ∈ A', a ∈ A) {v : V} {d : D} (h : Rep K H A v d) : Rep K H A' v d := h.tr (Tr.sub s)
theorem RepL.sub (s : ∀ a ∈ A', a ∈ A) {v : List V} {d : List D} (h : RepL K H A v d) : RepL K H A' v d := h.tr (Tr.sub s)
theorem RepL.length : ∀ {vs : List V} {ds : List D}, RepL K H A vs ds → vs.length = ds.length
  | _, _, .nil => rfl
  | _, _, .cons _ t => by rw [List.length_cons, List.length_cons, RepL.length t]
theorem RepL.get : ∀ {vs : List V} {ds : List D} {i : Nat} {d : D}, RepL K H A vs ds → ds[i]? = some d → ∃ v, vs[i]? = some v ∧ Rep K H A v d
  | _, _, _, _, .nil, h => by simp at h
  | _, _, 0, _, .cons a _, h => by simp at h; subst h; exact ⟨_, rfl, a⟩
  | _, _, i + 1, _, .cons _ t, h => by
    obtain ⟨v, h1, h2⟩ := RepL.get (i := i) t (by simpa using h)
    exact ⟨v, by simpa using h1, h2⟩
theorem RepL.append : ∀ {vs us : List V} {ds es : List D}, RepL K H A vs ds → RepL K H A us es → RepL K H A (vs ++ us) (ds ++ es)
  | _, _, _, _, .nil, s => s
  | _, _, _, _, .cons a t, s => .cons a (RepL.append t s)
theorem RepL.set : ∀ {vs : List V} {ds : List D} {v : V} {d : D} (i : Nat), RepL K H A vs ds → Rep K H A v d → RepL K H A (vs.set i v) (ds.set i d)
  | _, _, _, _, _, .nil, _ => .nil
  | _, _, _, _, 0, .cons _ t, r => .cons r t
  | _, _, _, _, i + 1, .cons a t, r => .cons a (RepL.set i t r)
theorem RepL.take : ∀ {vs : List V} {ds : List D} (n : Nat), RepL K H A vs ds → RepL K H A (vs.take n) (ds.take n)
  | _, _, 0, _ => by rw [List.take_zero, List.take_zero]; exact .nil
  | _, _, _ + 1, .nil => .nil
  | _, _, n + 1, .cons r t => .cons r (RepL.take n t)
theorem RepL.drop : ∀ {vs : List V} {ds : List D} (n : Nat), RepL K H A vs ds → RepL K H A (vs.drop n) (ds.drop n)
  | _, _, 0, r => r
  | _, _, _ + 1, .nil => .nil
  | _, _, n + 1, .cons _ t => RepL.drop n t
theorem RepL.reverse : ∀ {vs : List V} {ds : List D}, RepL K H A vs ds → RepL K H A vs.reverse ds.reverse
  | _, _, .nil => .nil
  | _, _, .cons a t => by rw [List.reverse_cons, List.reverse_cons]; exact (RepL.reverse t).append (.cons a .nil)
theorem RepL.one {v : V} {d : D} (h : Rep K H A v d) : RepL K H A [v] [d] := .cons h .nil
theorem RepL.flatRep {vs : List V} {ds : List D} (h : RepL K H A vs ds) : ∀ n : Nat, RepL K H A (List.replicate n vs).flatten (List.replicate n ds).flatten
  | 0 => .nil
  | n + 1 => by rw [List.replicate_succ, List.replicate_succ, List.flatten_cons, List.flatten_cons]; exact h.append (flatRep h n)
theorem RepL.getV : ∀ {vs : List V} {ds : List D} {i : Nat} {v : V}, RepL K H A vs ds → vs[i]? = some v → ∃ d, ds[i]? = some d ∧ Rep K H A v d
  | _, _, _, _, .nil, h => by simp at h
  | _, _, 0, _, .cons a _, h => by simp at h; subst h; exact ⟨_, rfl, a⟩
  | _, _, i + 1, _, .cons _ t, h => by
    obtain ⟨v, h1, h2⟩ := RepL.getV (i := i) t (by simpa using h)
    exact ⟨v, by simpa using h1, h2⟩

/-- a list or dict of which the frame alone holds the object (t: a dict whose keys are tuples) -/
def ORep (K : Frg) (H : Hp) (A : List Addr) (a : Addr) (t : Bool) : D → Prop
  | .list ds => ∃ vs, H a = some (.lst vs) ∧ RepL K H A vs ds
  | .dict ds => (t = false ∧ ∃ kvs, H a = some (.dK kvs) ∧ RepK K H A kvs ds) ∨ (t = true ∧ ∃ kvs, H a = some (.dT kvs) ∧ RepT K H A kvs ds)
  | _ => False
/-- read, not kept -/
def RepB (K : Frg) (H : Hp) (A : List Addr) (v : V) (d : D) : Prop := Rep K H A v d ∨ (∃ a, v = .ref a ∧ a ∈ A ∧ ∃ t, ORep K H A a t d) ∨ ∃ a vs ds, v = .ref a ∧ d = .tuple ds ∧ TupK K a vs ∧ RepL K H A vs ds
theorem ORep.tr (s : Same H H') (u : Tr A H A' H') {a : Addr} {t : Bool} : ∀ {d : D}, ORep K H A a t d → ORep K H' A' a t d
  | .list _, ⟨vs, h, r⟩ => ⟨vs, s _ _ h, r.tr u⟩
  | .dict _, .inl ⟨e, vs, h, r⟩ => .inl ⟨e, vs, s _ _ h, r.tr u⟩
  | .dict _, .inr ⟨e, vs, h, r⟩ => .inr ⟨e, vs, s _ _ h, r.tr u⟩
  | .none, h => h.elim
  | .bool _, h => h.elim
  | .int _, h => h.elim
  | .str _, h => h.elim
  | .tuple _, h => h.elim
theorem ORep.same (s : Same H H') {a : Addr} {t : Bool} {d : D} (h : ORep K H A a t d) : ORep K H' A a t d := h.tr s (Tr.same s)
theorem RepB.same (s : Same H H') {v : V} {d : D} : RepB K H A v d → RepB K H' A v d
  | .inl h => .inl (h.same s)
  | .inr (.inl ⟨a, e, m, t, h⟩) => .inr (.inl ⟨a, e, m, t, h.same s⟩)
  | .inr (.inr ⟨a, vs, ds, e, e2, h, r⟩) => .inr (.inr ⟨a, vs, ds, e, e2, h, r.same s⟩)
theorem ORep.some {a : Addr} {t : Bool} : ∀ {d : D}, ORep K H A a t d → ∃ o, H a = Option.some o ∧ Mut (Option.some o)
  | .list _, ⟨vs, h, r⟩ => ⟨_, h, trivial⟩
  | .dict _, .inl ⟨_, vs, h, r⟩ => ⟨_, h, trivial⟩
  | .dict _, .inr ⟨_, vs, h, r⟩ => ⟨_, h, trivial⟩
  | .none, h => h.elim
  | .bool _, h => h.elim
  | .int _, h => h.elim
  | .str _, h => h.elim
  | .tuple _, h => h.elim
/-- the object at another place was changed -/
theorem ORep.other {a b : Addr} {t : Bool} {o : HO} (n : a ≠ b) (hb : b ∈ A) : ∀ {d : D}, ORep K H A a t d → ORep K (upd H b o) A a t d := by
  have u : Tr A H A (upd H b o) := ⟨fun c x h q => by rw [upd_ne (show c ≠ b from fun z => q (by rw [z]; exact hb))]; exact h, fun c h => .inl h⟩
  intro d h
  cases d with
  | list ds => obtain ⟨vs, h, r⟩ := h; exact ⟨vs, by rw [upd_ne n]; exact h, r.tr u⟩
  | dict ds =>
    rcases h with ⟨e, vs, h, r⟩ | ⟨e, vs, h, r⟩
    · exact .inl ⟨e, vs, by rw [upd_ne n]; exact h, r.tr u⟩
    · exact .inr ⟨e, vs, by rw [upd_ne n]; exact h, r.tr u⟩
  | _ => exact h.elim
/-- let go: from now on it is data that nobody changes -/
theorem ORep.free {a : Addr} {t : Bool} (ha : a ∉ A') (s : ∀ b ∈ A', b ∈ A) : ∀ {d : D}, ORep K H A a t d → Rep K H A' (.ref a) d
  | .list _, ⟨vs, h, r⟩ => .lst ha h (r.sub s)
  | .dict _, .inl ⟨_, vs, h, r⟩ => .dk ha (.inl h) (r.tr (Tr.sub s))
  | .dict _, .inr ⟨_, vs, h, r⟩ => .dt ha (.inl h) (r.tr (Tr.sub s))
  | .none, h => h.elim
  | .bool _, h => h.elim
  | .int _, h => h.elim
  | .str _, h => h.elim
  | .tuple _, h => h.elim
theorem ORep.sub {a : Addr} {t : Bool} (s : ∀ b ∈ A', b ∈ A) {d : D} (h : ORep K H A a t d) : ORep K H A' a t d := h.tr (Same.refl H) (Tr.sub s)
end

/-! ### the state as the meanings see it -/
def SRep (K : Frg) (H0 : Hp) (A0 A : List Addr) (H : Hp) (v : V) : Sl → Prop
  | .v d => Rep K H A v d
  | .own t d => ∃ a, v = .ref a ∧ a ∈ A ∧ (H0 a = none ∧ a ∉ A0) ∧ ORep K H A a t d
  | .er _ _ => True
  | .sc ns => ∃ a, v = .ref a ∧ LRep K H A a (ns.map V.int)
/-- an object that is kept: there, and no tuple -/
def Kp (H : Hp) (a : Addr) : Prop := H a ≠ none ∧ ∀ xs, H a ≠ some (.tup xs)
theorem Kp.same {H H' : Hp} {a : Addr} (s : Same H H') (h : Kp H a) : Kp H' a := by
  cases e : H a with
  | none => exact absurd e h.1
  | some o =>
    have e2 := s a o e
    refine ⟨fun z => (by rw [e2] at z; cases z), fun xs z => h.2 xs ?_⟩
    rw [e2] at z
    rw [e]
    exact z
theorem Kp.of {H : Hp} {a : Addr} {o : HO} (e : H a = some o) (h : ∀ xs, o ≠ .tup xs) : Kp H a := ⟨fun z => (by rw [e] at z; cases z), fun xs z => (by rw [e] at z; exact h xs (Option.some.inj z))⟩
theorem ORep.kp {K : Frg} {H : Hp} {A : List Addr} {a : Addr} {t : Bool} : ∀ {d : D}, ORep K H A a t d → Kp H a
  | .list _, ⟨vs, h, r⟩ => .of h fun _ z => nomatch z
  | .dict _, .inl ⟨_, vs, h, r⟩ => .of h fun _ z => nomatch z
  | .dict _, .inr ⟨_, vs, h, r⟩ => .of h fun _ z => nomatch z
  | .none, h => h.elim
  | .bool _, h => h.elim
  | .int _, h => h.elim
  | .str _, h => h.elim
  | .tuple _, h => h.elim
structure Ok (K : Frg) (H0 : Hp) (A0 A : List Addr) (ρ : En) (σ : St) (H : Hp) : Prop where
  len : σ.length = ρ.length
  ext : Same H0 H
  sub : ∀ a ∈ A0, a ∈ A
  new : ∀ a ∈ A, a ∈ A0 ∨ H0 a = none
  kp : ∀ a ∈ A, Kp H a
  slot : ∀ (i : Nat) (s : Sl), ρ[i]? = some (some s) → ∃ v, σ[i]? = some (some v) ∧ SRep K H0 A0 A H v s
  dis : ∀ (i j : Nat) (a : Addr) (t t' : Bool) (d d' : D), i ≠ j → ρ[i]? = some (some (.own t d)) → ρ[j]? = some (some (.own t' d')) → σ[i]? = some (some (.ref a)) → σ[j]? ≠ some (some (.ref a))
theorem Ok.has {K : Frg} {H0 H : Hp} {A0 A : List Addr} {ρ : En} {σ : St} (o : Ok K H0 A0 A ρ σ H) : ∀ a ∈ A, H a ≠ none := fun a h => (o.kp a h).1
theorem SRep.same {K : Frg} {H0 H H' : Hp} {A0 A : List Addr} (s : Same H H') {v : V} : ∀ {x : Sl}, SRep K H0 A0 A H v x → SRep K H0 A0 A H' v x
  | .v _, h => Rep.same s h
  | .own _ _, ⟨a, e, m, n, h⟩ => ⟨a, e, m, n, h.same s⟩
  | .er _ _, _ => trivial
  | .sc _, ⟨a, e, h⟩ => ⟨a, e, h.tr (Tr.same s)⟩
theorem Ok.same {K : Frg} {H0 H H' : Hp} {A0 A : List Addr} {ρ : En} {σ : St} (o : Ok K H0 A0 A ρ σ H) (s : Same H H') : Ok K H0 A0 A ρ σ H' :=
  ⟨o.len, o.ext.trans s, o.sub, o.new, fun a ha => (o.kp a ha).same s, fun i x h => let ⟨v, h1, h2⟩ := o.slot i x h; ⟨v, h1, h2.same s⟩, o.dis⟩
theorem Ok.fresh {K : Frg} {H0 H : Hp} {A0 A : List Addr} {ρ : En} {σ : St} (o : Ok K H0 A0 A ρ σ H) {p : Addr} (h : H p = none) : p ∉ A := fun z => o.has p z h

/-! ### meanings -/
section
variable (K : Frg) (mg : MgT) (W : WX)
/-- an own error of the class named c, its number n, in the later heap H' -/
def ErrAt (c : String) (n : Int) (u : Value) (p : Addr) (H' : Hp) : Prop := mg (Str.ofString c) = some u ∧ H' p = some (.xd [("at", .int n)])
def Post {α : Type} (σ : St) (H : Hp) (P : α → Hp → Prop) : R α → Prop
  | .ok a => ∀ H', Same H H' → P a H'
  | .ex c n => ∀ u p H', Same H H' → H p = none → ErrAt mg c n u p H' → W u (some p) σ H'
  | .no => False
end
section
variable {mg : MgT} {W : WX} {α β : Type} {σ : St} {H H1 : Hp} {P P' : α → Hp → Prop} {r : R α}
theorem Post.same (h : Post mg W σ H P r) (s : Same H H1) : Post mg W σ H1 P r := by
  cases r with
  | ok a => exact fun H' s' => h H' (s.trans s')
  | ex c n => exact fun u p H' s' f e => h u p H' (s.trans s') (s.free f) e
  | no => exact h
theorem Post.mono (h : Post mg W σ H P r) (m : ∀ a H1, Same H H1 → P a H1 → P' a H1) : Post mg W σ H P' r := by
  cases r with
  | ok a => exact fun H' s' => m a H' s' (h H' s')
  | ex c n => exact h
  | no => exact h
theorem Post.bind {Pb : β → Hp → Prop} {k : α → R β} (h : Post mg W σ H Pb (r.bind k)) : Post mg W σ H (fun a H1 => Post mg W σ H1 Pb (k a)) r := by
  cases r with
  | ok a => exact fun H' s' => Post.same (r := k a) h s'
  | ex c n => exact h
  | no => exact h
theorem Post.at {a : α} (h : Post mg W σ H P (.ok a)) : P a H := h H (Same.refl H)
end
section
variable (K : Frg) (mg : MgT) (W : WX)
def tF (f : En → R D) : TE := fun σ H Q => ∃ H0 A0 A ρ, Ok K H0 A0 A ρ σ H ∧ Post mg W σ H (fun d H' => ∀ v, Rep K H' A v d → Q v H') (f ρ)
def tFB (f : En → R D) : TE := fun σ H Q => ∃ H0 A0 A ρ, Ok K H0 A0 A ρ σ H ∧ Post mg W σ H (fun d H' => ∀ v, RepB K H' A v d → Q v H') (f ρ)
/-- a new list or dict, which nothing else holds -/
def RepN (K : Frg) (t : Bool) (H H' : Hp) (A : List Addr) (v : V) (d : D) : Prop := ∃ a, v = .ref a ∧ H a = none ∧ ORep K H' (a :: A) a t d
def tFN (t : Bool) (f : En → R D) : TE := fun σ H Q => ∃ H0 A0 A ρ, Ok K H0 A0 A ρ σ H ∧ Post mg W σ H (fun d H' => ∀ v, RepN K t H H' A v d → Q v H') (f ρ)
def tFT (f : En → R Bool) : TT := fun σ H Q => ∃ H0 A0 A ρ, Ok K H0 A0 A ρ σ H ∧ Post mg W σ H (fun b H' => Q b H') (f ρ)
def tFA (f : En → R (List D)) : TA := fun σ H Q => ∃ H0 A0 A ρ, Ok K H0 A0 A ρ σ H ∧ Post mg W σ H (fun ds H' => ∀ vs, RepL K H' A vs ds → Q vs H') (f ρ)
def tFAB (f : En → R (List D)) : TA := fun σ H Q => ∃ H0 A0 A ρ, Ok K H0 A0 A ρ σ H ∧ Post mg W σ H (fun ds H' => ∀ vs, Paired (RepB K H' A) vs ds → Q vs H') (f ρ)
end
/-- what a statement comes to -/
inductive SR where
  | nx (ρ : En)
  | rt (d : D)
  | bk (ρ : En)
  | ct (ρ : En)
  | ex (c : String) (n : Int) (ρ : En)
  | no
section
variable (K : Frg) (mg : MgT) (W : WX)
/-- new, and not kept for what is around -/
def Fr1 (H0 : Hp) (A0 : List Addr) (p : Addr) : Prop := H0 p = none ∧ p ∉ A0
def PostS (H0 : Hp) (A0 A : List Addr) (H : Hp) (E : Ends) : SR → Prop
  | .nx ρ' => ∀ σ' H' A', Ok K H0 A0 A' ρ' σ' H' → Tr A H A' H' → E.nx σ' H'
  | .rt d => ∀ v H', Same H0 H' → Rep K H' A0 v d → E.rt v H'
  | .bk ρ' => ∀ σ' H' A', Ok K H0 A0 A' ρ' σ' H' → Tr A H A' H' → E.bk σ' H'
  | .ct ρ' => ∀ σ' H' A', Ok K H0 A0 A' ρ' σ' H' → Tr A H A' H' → E.ct σ' H'
  | .ex c n ρ' => ∀ u p σ' H' A', Ok K H0 A0 A' ρ' σ' H' → Tr A H A' H' → Fr1 H0 A0 p → ErrAt mg c n u p H' → W u (some p) σ' H'
  | .no => False
def tFS (g : En → SR) : TS := fun E σ H => ∃ H0 A0 A ρ, Ok K H0 A0 A ρ σ H ∧ PostS K mg W H0 A0 A H E (g ρ)
end
abbrev FE (X : Cx) (W : WX) (e : Expr) (f : En → R D) : Prop := PE X e (tF X.K X.mg W f)
abbrev FB (X : Cx) (W : WX) (e : Expr) (f : En → R D) : Prop := PE X e (tFB X.K X.mg W f)
abbrev FN (X : Cx) (W : WX) (t : Bool) (e : Expr) (f : En → R D) : Prop := PE X e (tFN X.K X.mg W t f)
abbrev FT (X : Cx) (W : WX) (e : Expr) (f : En → R Bool) : Prop := PT X e (tFT X.K X.mg W f)
abbrev FA (X : Cx) (W : WX) (es : List Expr) (f : En → R (List D)) : Prop := PA X es (tFA X.K X.mg W f)
abbrev FAB (X : Cx) (W : WX) (es : List Expr) (f : En → R (List D)) : Prop := PA X es (tFAB X.K X.mg W f)
abbrev FS (X : Cx) (W : WX) (st : Stmt) (g : En → SR) : Prop := PS X st (tFS X.K X.mg W g)
abbrev FSs (X : Cx) (W : WX) (st : List Stmt) (g : En → SR) : Prop := PSs X st (tFS X.K X.mg W g)

section
variable {X : Cx}
theorem impE {e : Expr} {t t' : TE} (h : PE X e t) (i : ∀ σ H Q, t' σ H Q → t σ H Q) : PE X e t' := ⟨fun pins s σ H Q I q => h.run pins s σ H Q I (i _ _ _ q)⟩
theorem impT {e : Expr} {t t' : TT} (h : PT X e t) (i : ∀ σ H Q, t' σ H Q → t σ H Q) : PT X e t' := ⟨fun pins s σ H Q I q => h.run pins s σ H Q I (i _ _ _ q)⟩
theorem impW {e : Expr} {t t' : TT} (h : PW X e t) (i : ∀ σ H Q, t' σ H Q → t σ H Q) : PW X e t' := ⟨fun wh pins s σ H Q I q => h.run wh pins s σ H Q I (i _ _ _ q)⟩
theorem impA {e : List Expr} {t t' : TA} (h : PA X e t) (i : ∀ σ H Q, t' σ H Q → t σ H Q) : PA X e t' := ⟨fun pos pins s σ H Q I q => h.run pos pins s σ H Q I (i _ _ _ q)⟩
theorem impS {e : Stmt} {t t' : TS} (h : PS X e t) (i : ∀ D σ H, t' D σ H → t D σ H) : PS X e t' := ⟨fun pins s σ H D I q => h.run pins s σ H D I (i _ _ _ q)⟩
theorem impSs {e : List Stmt} {t t' : TS} (h : PSs X e t) (i : ∀ D σ H, t' D σ H → t D σ H) : PSs X e t' := ⟨fun pins s σ H D I q => h.run pins s σ H D I (i _ _ _ q)⟩
end

/-! ### reading shapes off -/
section
variable {K : Frg} {H : Hp} {A : List Addr} {v : V}
theorem RepB.of {d : D} (h : Rep K H A v d) : RepB K H A v d := .inl h
theorem RepB.int {i : Int} (h : RepB K H A v (.int i)) : v = .int i := by
  rcases h with h | ⟨a, _, _, _, h⟩ | ⟨_, _, _, _, e, _⟩
  · cases h; rfl
  · exact h.elim
  · cases e
theorem RepB.bool {i : Bool} (h : RepB K H A v (.bool i)) : v = .bl i := by
  rcases h with h | ⟨a, _, _, _, h⟩ | ⟨_, _, _, _, e, _⟩
  · cases h; rfl
  · exact h.elim
  · cases e
theorem RepB.str {i : Str} (h : RepB K H A v (.str i)) : v = .str i := by
  rcases h with h | ⟨a, _, _, _, h⟩ | ⟨_, _, _, _, e, _⟩
  · cases h; rfl
  · exact h.elim
  · cases e
theorem RepB.non (h : RepB K H A v .none) : v = .non := by
  rcases h with h | ⟨a, _, _, _, h⟩ | ⟨_, _, _, _, e, _⟩
  · cases h; rfl
  · exact h.elim
  · cases e
theorem RepB.lst {ds : List D} (h : RepB K H A v (.list ds)) : ∃ a vs, v = .ref a ∧ H a = some (.lst vs) ∧ RepL K H A vs ds := by
  rcases h with h | ⟨a, e, _, _, vs, h, r⟩ | ⟨_, _, _, _, e, _⟩
  · cases h with
    | lst n h r => exact ⟨_, _, rfl, h, r⟩
  · exact ⟨a, vs, e, h, r⟩
  · cases e
theorem RepB.tup {ds : List D} (h : RepB K H A v (.tuple ds)) : ∃ a vs, v = .ref a ∧ SqT K H a vs ∧ RepL K H A vs ds := by
  rcases h with h | ⟨a, e, _, _, h⟩ | ⟨a, vs, _, e, e2, h, r⟩
  · cases h with
    | tup n h r => exact ⟨_, _, rfl, .inl (.inl h), r⟩
    | kt z r => exact ⟨_, _, rfl, .inr z.1, r⟩
  · exact h.elim
  · cases e2
    exact ⟨a, vs, e, .inr h, r⟩
theorem RepB.dict {ds : List (D × D)} (h : RepB K H A v (.dict ds)) : ∃ a, v = .ref a ∧ ((∃ kvs, Rd H a (.dK kvs) ∧ RepK K H A kvs ds) ∨ (∃ kvs, Rd H a (.dT kvs) ∧ RepT K H A kvs ds) ∨ ∃ (C : Addr) (n : Int), ds = [(.none, .int C), (.int 0, .int n)]) := by
  rcases h with h | ⟨a, e, _, _, h⟩ | ⟨_, _, _, _, e, _⟩
  · cases h with
    | dk n h r => exact ⟨_, rfl, .inl ⟨_, h, r⟩⟩
    | dt n h r => exact ⟨_, rfl, .inr (.inl ⟨_, h, r⟩)⟩
    | xo n n2 h h2 => exact ⟨_, rfl, .inr (.inr ⟨_, _, rfl⟩)⟩
  · rcases h with ⟨_, kvs, h, r⟩ | ⟨_, kvs, h, r⟩
    · exact ⟨a, e, .inl ⟨kvs, .inl h, r⟩⟩
    · exact ⟨a, e, .inr (.inl ⟨kvs, .inl h, r⟩)⟩
  · cases e
mutual
/-- data without dicts, as the kit's own relation has it -/
theorem Rep.dp : ∀ {v : V} {d : D}, Rep K H A v d → d.hasDict = false → Dp K H v d
  | _, _, .non, _ => .non
  | _, _, .bl b, _ => .bl b
  | _, _, .int i, _ => .int i
  | _, _, .str z, _ => .str z
  | _, _, .lst _ h r, q => .lst (SqL.of h) (RepL.dp r (by simpa only [PyData.hasDict] using q))
  | _, _, .tup _ h r, q => .tup (.inl (.inl h)) (RepL.dp r (by simpa only [PyData.hasDict] using q))
  | _, _, .kt z r, q => .tup (.inr z.1) (RepL.dp r (by simpa only [PyData.hasDict] using q))
  | _, _, .dk _ _ _, q => by simp [PyData.hasDict] at q
  | _, _, .dt _ _ _, q => by simp [PyData.hasDict] at q
  | _, _, .xo _ _ _ _, q => by simp [PyData.hasDict] at q
theorem RepL.dp : ∀ {v : List V} {d : List D}, RepL K H A v d → PyData.hasDictAll d = false → DpAll K H v d
  | _, _, .nil, _ => .nil
  | _, _, .cons a b, q => by
    simp only [PyData.hasDictAll, Bool.or_eq_false_iff] at q
    exact .cons (Rep.dp a q.1) (RepL.dp b q.2)
end
theorem RepB.dp {d : D} (h : RepB K H A v d) (q : SeqAt.shaped d = true) : Dp K H v d := by
  have q' : d.hasDict = false := PyData.hasDict_of_canLay d (SeqAt.canLay_of_shaped q)
  rcases h with h | ⟨a, e, _, _, h⟩ | ⟨a, vs, ds, rfl, rfl, h, r⟩
  · exact h.dp q'
  rotate_left
  · exact .tup (.inr h) (r.dp (by simpa only [PyData.hasDict] using q'))
  · cases d with
    | list ds =>
      obtain ⟨vs, h, r⟩ := h
      subst e
      exact .lst (SqL.of h) (r.dp (by simpa only [PyData.hasDict] using q'))
    | dict ds => simp [PyData.hasDict] at q'
    | none => exact h.elim
    | bool _ => exact h.elim
    | int _ => exact h.elim
    | str _ => exact h.elim
    | tuple _ => exact h.elim
end
/-! ### new objects -/
theorem same_upd {H : Hp} {p : Addr} {o : HO} (h : H p = none) : Same H (upd H p o) := fun b x e => by
  rw [upd_ne (ne_of_none e h)]
  exact e
section
variable {K : Frg} {H : Hp} {A : List Addr} {p : Addr} {vs : List V} {ds : List D}
/-- what stood before the new object does not reach it -/
theorem Tr.new1 {o : HO} (hp : H p = none) : Tr A H (p :: A) (upd H p o) := ⟨fun b x e _ => same_upd hp b x e, fun a ha => by
  rcases List.mem_cons.mp ha with rfl | h
  · exact .inr hp
  · exact .inl h⟩
theorem orep_lst {t : Bool} (hp : H p = none) (r : RepL K H A vs ds) : ORep K (upd H p (.lst vs)) (p :: A) p t (.list ds) := ⟨vs, upd_same, r.tr (Tr.new1 hp)⟩
theorem rep_tup (ha : p ∉ A) (hp : H p = none) (r : RepL K H A vs ds) : Rep K (upd H p (.tup vs)) A (.ref p) (.tuple ds) := .tup ha upd_same (r.same (same_upd hp))
theorem rep_lst (ha : p ∉ A) (hp : H p = none) (r : RepL K H A vs ds) : Rep K (upd H p (.lst vs)) A (.ref p) (.list ds) := .lst ha upd_same (r.same (same_upd hp))
end
/-- no such pair is a key here -/
def noZ : List Key → Bool
  | [.inl 100, .inl 1] => false
  | [.inl 101, .inl 1] => false
  | _ => true
theorem zt_key {K : Frg} {H : Hp} {A : List Addr} {a : Addr} {vs : List V} (z : ZT K a vs) : ∀ {ks : List Key}, RepL K H A vs (ks.map kD) → noZ ks = false
  | [], r => by
    rcases z.2 with e | e <;> (subst e; cases r)
  | [_], r => by
    rcases z.2 with e | e <;> (subst e; cases r; rename_i t; cases t)
  | [k1, k2], r => by
    rcases z.2 with e | e <;> subst e
    all_goals
      cases r
      rename_i r1 t
      cases t
      rename_i r2 t
      cases k1 with
      | inr _ => cases r1
      | inl n1 =>
        cases k2 with
        | inr _ => cases r2
        | inl n2 =>
          cases r1
          cases r2
          rfl
  | _ :: _ :: _ :: _, r => by
    rcases z.2 with e | e <;> (subst e; cases r; rename_i t; cases t; rename_i t; cases t)
end G

namespace G
open PySem PySem.Spec PyProof.Rows L2

/-! ### names and constants -/
def cVar (i : Nat) : En → R D := fun ρ => match ρ[i]? with | some (some (.v d)) => .ok d | _ => .no
def cVarB (i : Nat) : En → R D := fun ρ => match ρ[i]? with | some (some (.v d)) => .ok d | some (some (.own _ d)) => .ok d | _ => .no
def cK (d : D) : En → R D := fun _ => .ok d
section
variable {X : Cx} {W : WX}
theorem fe_var {i : Nat} {x : Str} {pos : Pos} (h : PE X (.Name x pos) (tVar i)) : FE X W (.Name x pos) (cVar i)   := impE h fun σ H Q ⟨H0, A0, A, ρ, o, P⟩ => by
  unfold cVar at P
  split at P
  · rename_i d e
    obtain ⟨v, h1, h2⟩ := o.slot i _ e
    exact ⟨v, h1, P.at v h2⟩
  · exact P.elim
theorem fb_var {i : Nat} {x : Str} {pos : Pos} (h : PE X (.Name x pos) (tVar i)) : FB X W (.Name x pos) (cVarB i)   := impE h fun σ H Q ⟨H0, A0, A, ρ, o, P⟩ => by
  unfold cVarB at P
  split at P
  · rename_i d e
    obtain ⟨v, h1, h2⟩ := o.slot i _ e
    exact ⟨v, h1, P.at v (.inl h2)⟩
  · rename_i d e
    obtain ⟨v, h1, a, e2, m, n, h2⟩ := o.slot i _ e
    exact ⟨v, h1, P.at v (.inr (.inl ⟨a, e2, m, _, h2⟩))⟩
  · exact P.elim
theorem fe_k {e : Expr} {v : V} {d : D} (h : PE X e (tC v)) (r : ∀ H A, Rep X.K H A v d) : FE X W e (cK d)   := impE h fun σ H Q ⟨H0, A0, A, ρ, o, P⟩ => P.at v (r _ _)
theorem fe_int {i : Int} {j : Nat} {pos : Pos} : FE X W (.Constant (.int i) j pos) (cK (.int i)) := fe_k pe_int fun _ _ => .int i
theorem fe_bl {i : Bool} {j : Nat} {pos : Pos} : FE X W (.Constant (.bool i) j pos) (cK (.bool i)) := fe_k pe_bl fun _ _ => .bl i
theorem fe_str {i : Str} {j : Nat} {pos : Pos} : FE X W (.Constant (.str i) j pos) (cK (.str i)) := fe_k pe_str fun _ _ => .str i
theorem fe_non {j : Nat} {pos : Pos} : FE X W (.Constant .none j pos) (cK .none) := fe_k pe_non fun _ _ => .non
theorem fb_of {e : Expr} {f : En → R D} (h : FE X W e f) : FB X W e f := impE h fun σ H Q ⟨H0, A0, A, ρ, o, P⟩ => ⟨H0, A0, A, ρ, o, P.mono fun d H1 _ q v r => q v (.inl r)⟩
theorem fe_of_fn {t : Bool} {e : Expr} {f : En → R D} (h : FN X W t e f) : FE X W e f := impE h fun σ H Q ⟨H0, A0, A, ρ, o, P⟩ => ⟨H0, A0, A, ρ, o, P.mono fun d H1 _ q v ⟨a, e, n, r⟩ => q v (by
  rw [e]
  exact r.free (o.fresh n) fun b hb => List.mem_cons_of_mem _ hb)⟩
end

/-! ### operators -/
def ofO {α : Type} : Option α → R α
  | some a => .ok a
  | none => .no
@[simp] theorem ofO_some {α : Type} (a : α) : ofO (some a) = R.ok a := rfl
@[simp] theorem ofO_none {α : Type} : ofO (none : Option α) = R.no := rfl
theorem Post.ofO {mg : MgT} {W : WX} {α : Type} {σ : St} {H : Hp} {P : α → Hp → Prop} {o : Option α} (h : Post mg W σ H P (ofO o)) : ∃ a, o = some a ∧ ∀ H', Same H H' → P a H' := by
  cases o with
  | none => exact h.elim
  | some a => exact ⟨a, rfl, h⟩
def cBin (dop : D → D → Option D) (f g : En → R D) : En → R D := fun ρ => (f ρ).bind fun x => (g ρ).bind fun y => ofO (dop x y)
def cUn (dop : D → Option D) (f : En → R D) : En → R D := fun ρ => (f ρ).bind fun x => ofO (dop x)
/-- an operator of values does on data what dop says -/
def DOp (X : Cx) (F : Value → Value → Sem Value) (dop : D → D → Option D) : Prop :=
  ∃ r : R2, OpR X F r ∧ ∀ (H : Hp) (A : List Addr) (x y : V) (d1 d2 d : D) (Q : VK), (∀ a ∈ A, H a ≠ none) → RepB X.K H A x d1 → RepB X.K H A y d2 → dop d1 d2 = some d → (∀ v H', Same H H' → Rep X.K H' A v d → Q v H') → r x y H Q
/-- .. operands that are data nobody changes -/
def DOpE (X : Cx) (F : Value → Value → Sem Value) (dop : D → D → Option D) : Prop :=
  ∃ r : R2, OpR X F r ∧ ∀ (H : Hp) (A : List Addr) (x y : V) (d1 d2 d : D) (Q : VK), (∀ a ∈ A, H a ≠ none) → Rep X.K H A x d1 → Rep X.K H A y d2 → dop d1 d2 = some d → (∀ v H', Same H H' → Rep X.K H' A v d → Q v H') → r x y H Q
def DUn (X : Cx) (F : Value → Sem Value) (dop : D → Option D) : Prop :=
  ∃ r : V → Hp → VK → Prop, UnR X F r ∧ ∀ (H : Hp) (A : List Addr) (x : V) (d1 d : D) (Q : VK), (∀ a ∈ A, H a ≠ none) → RepB X.K H A x d1 → dop d1 = some d → (∀ v H', Same H H' → Rep X.K H' A v d → Q v H') → r x H Q
section
variable {X : Cx} {W : WX} {a b c : Expr} {f g h : En → R D} {dop dop' : D → D → Option D} {op op' : CmpOp} {pos : Pos}
theorem op_read {r : R2} (hs : ∀ (H : Hp) (A : List Addr) (x y : V) (d1 d2 d : D) (Q : VK), (∀ a ∈ A, H a ≠ none) → RepB X.K H A x d1 → RepB X.K H A y d2 → dop d1 d2 = some d → (∀ v H', Same H H' → Rep X.K H' A v d → Q v H') → r x y H Q)
    (σ : St) (H : Hp) (Q : VK) (q : tF X.K X.mg W (cBin dop f g) σ H Q) : tOp r (tFB X.K X.mg W f) (tFB X.K X.mg W g) σ H Q := by
  obtain ⟨H0, A0, A, ρ, o, P⟩ := q
  refine ⟨H0, A0, A, ρ, o, P.bind.mono fun d1 H1 s1 P1 x hx => ?_⟩
  refine ⟨H0, A0, A, ρ, o.same s1, P1.bind.mono fun d2 H2 s2 P2 y hy => ?_⟩
  obtain ⟨d, e, P3⟩ := P2.ofO
  exact hs H2 A x y d1 d2 d Q ((o.same s1).same s2).has (hx.same s2) hy e fun v H' s3 hv => P3 H' s3 v hv
theorem fe_op {op : Operator} (ho : DOp X (binaryOp op) dop) (ha : FB X W a f) (hb : FB X W b g) : FE X W (.BinOp a op b pos) (cBin dop f g) := by
  obtain ⟨r, hr, hs⟩ := ho
  exact impE (pe_op hr ha hb) (op_read hs)
theorem fe_opE {op : Operator} (ho : DOpE X (binaryOp op) dop) (ha : FE X W a f) (hb : FE X W b g) : FE X W (.BinOp a op b pos) (cBin dop f g) := by
  obtain ⟨r, hr, hs⟩ := ho
  refine impE (pe_op hr ha hb) fun σ H Q ⟨H0, A0, A, ρ, o, P⟩ => ?_
  refine ⟨H0, A0, A, ρ, o, P.bind.mono fun d1 H1 s1 P1 x hx => ?_⟩
  refine ⟨H0, A0, A, ρ, o.same s1, P1.bind.mono fun d2 H2 s2 P2 y hy => ?_⟩
  obtain ⟨d, e, P3⟩ := P2.ofO
  exact hs H2 A x y d1 d2 d Q ((o.same s1).same s2).has (hx.same s2) hy e fun v H' s3 hv => P3 H' s3 v hv
theorem fe_un {op : UnaryOp} {dop : D → Option D} (ho : DUn X (unaryOp op) dop) (ha : FB X W a f) : FE X W (.UnaryOp op a pos) (cUn dop f) := by
  obtain ⟨r, hr, hs⟩ := ho
  refine impE (pe_un hr ha) fun σ H Q ⟨H0, A0, A, ρ, o, P⟩ => ?_
  refine ⟨H0, A0, A, ρ, o, P.bind.mono fun d1 H1 s1 P1 x hx => ?_⟩
  obtain ⟨d, e, P3⟩ := P1.ofO
  exact hs H1 A x d1 d Q (o.same s1).has hx e fun v H' s3 hv => P3 H' s3 v hv
theorem fe_cmp (ho : DOp X (compareOp op) dop) (ha : FB X W a f) (hb : FB X W b g) (hm : behindInMarks op b = false) : FE X W (.Compare a [op] [b] pos) (cBin dop f g) := by
  obtain ⟨r, hr, hs⟩ := ho
  exact impE (pe_cmpR hr ha hb hm) (op_read hs)
def toB : D → Option Bool
  | .bool b => some b
  | _ => none
def cBinT (dop : D → D → Option D) (f g : En → R D) : En → R Bool := fun ρ => (f ρ).bind fun x => (g ρ).bind fun y => ofO ((dop x y).bind toB)
theorem toB_some {d : D} {k : Bool} (h : toB d = some k) : d = .bool k := by
  cases d <;> simp [toB] at h
  rw [h]
theorem ft_cmp (ho : DOp X (compareOp op) dop) (ha : FB X W a f) (hb : FB X W b g) (hm : behindInMarks op b = false) : FT X W (.Compare a [op] [b] pos) (cBinT dop f g) := by
  obtain ⟨r, hr, hs⟩ := ho
  refine impT (pt_cmpR hr ha hb hm) fun σ H Q ⟨H0, A0, A, ρ, o, P⟩ => ?_
  refine ⟨H0, A0, A, ρ, o, P.bind.mono fun d1 H1 s1 P1 x hx => ?_⟩
  refine ⟨H0, A0, A, ρ, o.same s1, P1.bind.mono fun d2 H2 s2 P2 y hy => ?_⟩
  obtain ⟨k, e, P3⟩ := P2.ofO
  obtain ⟨d, e1, e2⟩ := Option.bind_eq_some_iff.mp e
  obtain rfl := toB_some e2
  exact hs H2 A x y d1 d2 _ _ ((o.same s1).same s2).has (hx.same s2) hy e1 fun v H' s3 hv => ⟨k, (RepB.of hv).bool, P3 H' s3⟩
/-- a < b < c -/
def cChain (dop dop' : D → D → Option D) (f g h : En → R D) : En → R D := fun ρ => (f ρ).bind fun x => (g ρ).bind fun y => (ofO ((dop x y).bind toB)).bind fun k =>
  if k = true then (h ρ).bind fun z => ofO (dop' y z) else .ok (.bool false)
def cChainT (dop dop' : D → D → Option D) (f g h : En → R D) : En → R Bool := fun ρ => (f ρ).bind fun x => (g ρ).bind fun y => (ofO ((dop x y).bind toB)).bind fun k =>
  if k = true then (h ρ).bind fun z => ofO ((dop' y z).bind toB) else .ok false
theorem fe_chain (ho : DOp X (compareOp op) dop) (ho' : DOp X (compareOp op') dop') (ha : FB X W a f) (hb : FB X W b g) (hc : FB X W c h) (hm : lastMarks [op, op'] [b, c] = false) : FE X W (.Compare a [op, op'] [b, c] pos) (cChain dop dop' f g h) := by
  obtain ⟨r, hr, hs⟩ := ho
  obtain ⟨r', hr', hs'⟩ := ho'
  refine impE (pe_chain hr hr' ha hb hc hm) fun σ H Q ⟨H0, A0, A, ρ, o, P⟩ => ?_
  refine ⟨H0, A0, A, ρ, o, P.bind.mono fun d1 H1 s1 P1 x hx => ?_⟩
  have o1 := o.same s1
  refine ⟨H0, A0, A, ρ, o1, P1.bind.mono fun d2 H2 s2 P2 y hy => ?_⟩
  have o2 := o1.same s2
  have P2' := P2.bind
  obtain ⟨k, e, P3⟩ := P2'.ofO
  obtain ⟨d, e1, e2⟩ := Option.bind_eq_some_iff.mp e
  obtain rfl := toB_some e2
  refine hs H2 A x y d1 d2 _ _ o2.has (hx.same s2) hy e1 fun v H3 s3 hv => ⟨k, (RepB.of hv).bool, ?_⟩
  have P4 := P3 H3 s3
  have o3 := o2.same s3
  cases k with
  | false => exact Post.at (a := PyData.bool false) (P := fun d H' => ∀ v, Rep X.K H' A v d → Q v H') P4 _ (.bl false)
  | true =>
    refine ⟨H0, A0, A, ρ, o3, Post.mono (Post.bind (k := fun z => ofO (dop' d2 z)) P4) fun d3 H4 s4 P5 z hz => ?_⟩
    obtain ⟨d4, e4, P6⟩ := P5.ofO
    exact hs' H4 A y z d2 d3 d4 Q (o3.same s4).has ((hy.same s3).same s4) hz e4 fun v H' s5 hv => P6 H' s5 v hv
theorem ft_chain (ho : DOp X (compareOp op) dop) (ho' : DOp X (compareOp op') dop') (ha : FB X W a f) (hb : FB X W b g) (hc : FB X W c h) (hm : lastMarks [op, op'] [b, c] = false) : FT X W (.Compare a [op, op'] [b, c] pos) (cChainT dop dop' f g h) := by
  obtain ⟨r, hr, hs⟩ := ho
  obtain ⟨r', hr', hs'⟩ := ho'
  refine impT (pt_chain hr hr' ha hb hc hm) fun σ H Q ⟨H0, A0, A, ρ, o, P⟩ => ?_
  refine ⟨H0, A0, A, ρ, o, P.bind.mono fun d1 H1 s1 P1 x hx => ?_⟩
  have o1 := o.same s1
  refine ⟨H0, A0, A, ρ, o1, P1.bind.mono fun d2 H2 s2 P2 y hy => ?_⟩
  have o2 := o1.same s2
  have P2' := P2.bind
  obtain ⟨k, e, P3⟩ := P2'.ofO
  obtain ⟨d, e1, e2⟩ := Option.bind_eq_some_iff.mp e
  obtain rfl := toB_some e2
  refine hs H2 A x y d1 d2 _ _ o2.has (hx.same s2) hy e1 fun v H3 s3 hv => ⟨k, (RepB.of hv).bool, ?_⟩
  have P4 := P3 H3 s3
  have o3 := o2.same s3
  cases k with
  | false => exact ⟨false, rfl, Post.at (a := false) (P := fun b H' => Q b H') P4⟩
  | true =>
    refine ⟨H0, A0, A, ρ, o3, Post.mono (Post.bind (k := fun z => ofO ((dop' d2 z).bind toB)) P4) fun d3 H4 s4 P5 z hz => ?_⟩
    obtain ⟨k4, e4, P6⟩ := P5.ofO
    obtain ⟨d4, e5, e6⟩ := Option.bind_eq_some_iff.mp e4
    obtain rfl := toB_some e6
    exact hs' H4 A y z d2 d3 _ _ (o3.same s4).has ((hy.same s3).same s4) hz e5 fun v H' s5 hv => ⟨k4, (RepB.of hv).bool, P6 H' s5⟩
end

/-! ### the operators on data -/
def dAdd : D → D → Option D
  | .int i, .int j => some (.int (i + j))
  | .list xs, .list ys => if xs.length + ys.length ≤ sizeLine then some (.list (xs ++ ys)) else none
  | .tuple xs, .tuple ys => if xs.length + ys.length ≤ sizeLine then some (.tuple (xs ++ ys)) else none
  | .str x, .str y => if x.length + y.length ≤ sizeLine then some (.str (x ++ y)) else none
  | _, _ => none
def dAddB : D → D → Option D
  | .int i, .int j => some (.int (i + j))
  | .list xs, .list ys => if xs.length + ys.length ≤ sizeLine then some (.list (xs ++ ys)) else none
  | _, _ => none
def dSub : D → D → Option D
  | .int i, .int j => some (.int (i - j))
  | _, _ => none
def dMul : D → D → Option D
  | .int i, .int j => if i.natAbs.log2 + j.natAbs.log2 < 1000000 then some (.int (i * j)) else none
  | .list xs, .int k => if k < 1000000 ∧ xs.length * k.toNat ≤ sizeLine ∧ -1000000 < k then some (.list (List.replicate k.toNat xs).flatten) else none
  | _, _ => none
def dDiv : D → D → Option D
  | .int i, .int j => if j ≠ 0 ∧ j.natAbs.log2 < 9000 then some (.int (i.fdiv j)) else none
  | _, _ => none
def dMod : D → D → Option D
  | .int i, .int j => if j ≠ 0 then some (.int (i.fmod j)) else none
  | _, _ => none
def dNeg : D → Option D
  | .int i => some (.int (-i))
  | _ => none
def dLt : D → D → Option D
  | .int i, .int j => some (.bool (decide (i < j)))
  | x, y => if PySem.W.alike x y = true ∧ x.depth ≤ 64 ∧ SeqAt.shaped x = true ∧ SeqAt.shaped y = true ∧ PyData.eqv x .none = false then some (.bool (PySem.W.dataLt x y)) else none
def dLe : D → D → Option D
  | .int i, .int j => some (.bool (decide (i ≤ j)))
  | _, _ => none
def dGt : D → D → Option D
  | .int i, .int j => some (.bool (decide (j < i)))
  | _, _ => none
def dGe : D → D → Option D
  | .int i, .int j => some (.bool (decide (j ≤ i)))
  | _, _ => none
def dEq (x y : D) : Option D := if SeqAt.shaped x = true ∧ SeqAt.shaped y = true then some (.bool (PyData.eqv x y)) else none
def dNe (x y : D) : Option D := if SeqAt.shaped x = true ∧ SeqAt.shaped y = true then some (.bool (!PyData.eqv x y)) else none
/-- is: of None, of truth values -/
def dIs : D → D → Option D
  | .bool a, .bool b => some (.bool (decide (a = b)))
  | .none, .none => some (.bool true)
  | _, .none => some (.bool false)
  | _, _ => none
def dIsNot : D → D → Option D
  | .bool a, .bool b => some (.bool (!decide (a = b)))
  | .none, .none => some (.bool false)
  | _, .none => some (.bool true)
  | _, _ => none
section
variable {X : Cx}
theorem do_add : DOpE X (binaryOp .Add) dAdd := by
  refine ⟨_, OpR.or op_add (OpR.or op_cat (OpR.or op_catA op_add_str)), fun H A x y d1 d2 d Q ha hxr hyr e q => ?_⟩
  have hx := RepB.of hxr
  have hy := RepB.of hyr
  unfold dAdd at e
  split at e
  · cases e
    obtain rfl := hx.int
    obtain rfl := hy.int
    exact .inl ⟨_, _, rfl, rfl, q _ H (Same.refl H) (.int _)⟩
  · split at e
    · rename_i hl
      cases e
      obtain ⟨a, vs, rfl, h1, r1⟩ := hx.lst
      obtain ⟨b, us, rfl, h2, r2⟩ := hy.lst
      refine .inr (.inl ⟨a, b, vs, us, rfl, rfl, h1, h2, by rw [r1.length, r2.length]; exact hl, fun p hp => q _ _ (same_upd hp) (rep_lst (fun z => ha p z hp) hp (r1.append r2))⟩)
    · cases e
  · split at e
    · rename_i hl
      cases e
      obtain ⟨a, vs, rfl, h1, r1⟩ := hx.tup
      obtain ⟨b, us, rfl, h2, r2⟩ := hy.tup
      refine .inr (.inr (.inl ⟨a, b, vs, us, rfl, rfl, h1, h2, by rw [r1.length, r2.length]; exact hl, fun z => ?_, fun _ z => ?_, fun _ _ p hp => q _ _ (same_upd hp) (rep_tup (fun z => ha p z hp) hp (r1.append r2))⟩))
      · subst z
        cases r1
        exact q _ H (Same.refl H) hyr
      · subst z
        cases r2
        rw [List.append_nil] at q
        exact q _ H (Same.refl H) hxr
    · cases e
  · split at e
    · rename_i hl
      cases e
      obtain rfl := hx.str
      obtain rfl := hy.str
      exact .inr (.inr (.inr ⟨_, _, rfl, rfl, hl, q _ H (Same.refl H) (.str _)⟩))
    · cases e
  · cases e
theorem do_addB : DOp X (binaryOp .Add) dAddB := by
  refine ⟨_, OpR.or op_add op_cat, fun H A x y d1 d2 d Q ha hx hy e q => ?_⟩
  unfold dAddB at e
  split at e
  · cases e
    obtain rfl := hx.int
    obtain rfl := hy.int
    exact .inl ⟨_, _, rfl, rfl, q _ H (Same.refl H) (.int _)⟩
  · split at e
    · rename_i hl
      cases e
      obtain ⟨a, vs, rfl, h1, r1⟩ := hx.lst
      obtain ⟨b, us, rfl, h2, r2⟩ := hy.lst
      refine .inr ⟨a, b, vs, us, rfl, rfl, h1, h2, by rw [r1.length, r2.length]; exact hl, fun p hp => q _ _ (same_upd hp) (rep_lst (fun z => ha p z hp) hp (r1.append r2))⟩
    · cases e
  · cases e
theorem do_sub : DOp X (binaryOp .Sub) dSub := by
  refine ⟨_, op_sub, fun H A x y d1 d2 d Q ha hx hy e q => ?_⟩
  unfold dSub at e
  split at e
  · cases e
    obtain rfl := hx.int
    obtain rfl := hy.int
    exact ⟨_, _, rfl, rfl, q _ H (Same.refl H) (.int _)⟩
  · cases e
theorem do_mul : DOp X (binaryOp .Mult) dMul := by
  refine ⟨_, OpR.or op_mulW op_rep, fun H A x y d1 d2 d Q ha hx hy e q => ?_⟩
  unfold dMul at e
  split at e
  · split at e
    · rename_i hl
      cases e
      obtain rfl := hx.int
      obtain rfl := hy.int
      exact .inl ⟨_, _, rfl, rfl, hl, q _ H (Same.refl H) (.int _)⟩
    · cases e
  · split at e
    · rename_i hl
      cases e
      obtain ⟨a, vs, rfl, h1, r1⟩ := hx.lst
      obtain rfl := hy.int
      obtain ⟨h2, h3, h4⟩ := hl
      exact .inr ⟨a, _, vs, rfl, rfl, h1, by omega, by omega, by rw [r1.length]; exact h3, fun p hp => q _ _ (same_upd hp) (rep_lst (fun z => ha p z hp) hp (r1.flatRep _))⟩
    · cases e
  · cases e
def CDivX (_ j : Int) : Prop := j ≠ 0 ∧ j.natAbs.log2 < 9000
theorem op_fdivX : OpR X (binaryOp .FloorDiv) (rI CDivX fun i j => .int (i.fdiv j)) := opI fun i j _ _ _ _ _ hc q => floordiv_int hc.1 q (.inl (PyProof.noPylong_of_log2 hc.2))
theorem do_div : DOp X (binaryOp .FloorDiv) dDiv := by
  refine ⟨_, op_fdivX, fun H A x y d1 d2 d Q ha hx hy e q => ?_⟩
  unfold dDiv at e
  split at e
  · split at e
    · rename_i hl
      cases e
      obtain rfl := hx.int
      obtain rfl := hy.int
      exact ⟨_, _, rfl, rfl, hl, q _ H (Same.refl H) (.int _)⟩
    · cases e
  · cases e
theorem do_mod : DOp X (binaryOp .Mod) dMod := by
  refine ⟨_, op_modN, fun H A x y d1 d2 d Q ha hx hy e q => ?_⟩
  unfold dMod at e
  split at e
  · split at e
    · rename_i hl
      cases e
      obtain rfl := hx.int
      obtain rfl := hy.int
      exact ⟨_, _, rfl, rfl, hl, q _ H (Same.refl H) (.int _)⟩
    · cases e
  · cases e
theorem du_neg : DUn X (unaryOp .USub) dNeg := by
  refine ⟨_, un_neg, fun H A x d1 d Q ha hx e q => ?_⟩
  unfold dNeg at e
  split at e
  · cases e
    obtain rfl := hx.int
    exact ⟨_, rfl, q _ H (Same.refl H) (.int _)⟩
  · cases e
theorem do_le : DOp X (compareOp .LtE) dLe := by
  refine ⟨_, op_le, fun H A x y d1 d2 d Q ha hx hy e q => ?_⟩
  unfold dLe at e
  split at e
  · cases e
    obtain rfl := hx.int
    obtain rfl := hy.int
    exact ⟨_, _, rfl, rfl, q _ H (Same.refl H) (.bl _)⟩
  · cases e
theorem do_gt : DOp X (compareOp .Gt) dGt := by
  refine ⟨_, op_gt, fun H A x y d1 d2 d Q ha hx hy e q => ?_⟩
  unfold dGt at e
  split at e
  · cases e
    obtain rfl := hx.int
    obtain rfl := hy.int
    exact ⟨_, _, rfl, rfl, q _ H (Same.refl H) (.bl _)⟩
  · cases e
theorem do_ge : DOp X (compareOp .GtE) dGe := by
  refine ⟨_, op_ge, fun H A x y d1 d2 d Q ha hx hy e q => ?_⟩
  unfold dGe at e
  split at e
  · cases e
    obtain rfl := hx.int
    obtain rfl := hy.int
    exact ⟨_, _, rfl, rfl, q _ H (Same.refl H) (.bl _)⟩
  · cases e
theorem do_eq (hu : X.A.units + 64 < cLine) : DOp X (compareOp .Eq) dEq := by
  refine ⟨_, op_eqD hu, fun H A x y d1 d2 d Q ha hx hy e q => ?_⟩
  unfold dEq at e
  split at e
  · rename_i hs
    cases e
    exact ⟨d1, d2, hx.dp hs.1, hy.dp hs.2, hs.1, hs.2, q _ H (Same.refl H) (.bl _)⟩
  · cases e
theorem do_ne (hu : X.A.units + 64 < cLine) : DOp X (compareOp .NotEq) dNe := by
  refine ⟨_, op_neD hu, fun H A x y d1 d2 d Q ha hx hy e q => ?_⟩
  unfold dNe at e
  split at e
  · rename_i hs
    cases e
    exact ⟨d1, d2, hx.dp hs.1, hy.dp hs.2, hs.1, hs.2, q _ H (Same.refl H) (.bl _)⟩
  · cases e
def rLtD (K : Frg) : R2 := fun x y H Q => ∃ d e, Dp K H x d ∧ Dp K H y e ∧ PySem.W.alike d e = true ∧ d ≠ .none ∧ d.depth ≤ 64 ∧ Q (.bl (PySem.W.dataLt d e)) H
theorem op_ltD (hu : X.A.units + 64 < cLine) : OpR X (compareOp .Lt) (rLtD X.K) := by
  intro pins s σ H x y v u Q I rx ry h
  obtain ⟨d, e, hd, he, ha, hn, hdp, q⟩ := h
  obtain ⟨as, r1⟩ := Dp.reads I d x v hd rx
  obtain ⟨bs, r2⟩ := Dp.reads I e y u he ry
  have hm : min d.depth e.depth ≤ d.depth := Nat.min_le_left _ _
  exact PySem.W.rcLt_alike d e X.A s v u as bs r1 r2 ha hn (by omega) _ _ _ _ ⟨.bl _, H, I, rfl, q⟩
theorem do_lt (hu : X.A.units + 64 < cLine) : DOp X (compareOp .Lt) dLt := by
  refine ⟨_, OpR.or op_lt (op_ltD hu), fun H A x y d1 d2 d Q ha hx hy e q => ?_⟩
  unfold dLt at e
  split at e
  · cases e
    obtain rfl := hx.int
    obtain rfl := hy.int
    exact .inl ⟨_, _, rfl, rfl, q _ H (Same.refl H) (.bl _)⟩
  · split at e
    · rename_i hs
      cases e
      obtain ⟨h1, h2, h3, h4, h5⟩ := hs
      refine .inr ⟨d1, d2, hx.dp h3, hy.dp h4, h1, fun z => ?_, h2, q _ H (Same.refl H) (.bl _)⟩
      rw [z] at h5
      simp [PyData.eqv] at h5
    · cases e
theorem nnon {K : Frg} {H : Hp} {A : List Addr} {x : V} {d : D} (h : RepB K H A x d) (n : d ≠ .none) : decide (x = V.non) = false := by
  rcases h with h | ⟨a, e, _, _, _⟩ | ⟨a, _, _, e, _⟩
  · cases h <;> first | rfl | exact absurd rfl n
  · rw [e]; rfl
  · rw [e]; rfl
theorem do_is : DOp X (compareOp .Is) dIs := by
  refine ⟨_, OpR.or op_isN op_is_bl, fun H A x y d1 d2 d Q ha hx hy e q => ?_⟩
  unfold dIs at e
  split at e
  · cases e
    obtain rfl := hx.bool
    obtain rfl := hy.bool
    exact .inr ⟨_, _, rfl, rfl, q _ H (Same.refl H) (.bl _)⟩
  · cases e
    obtain rfl := hx.non
    obtain rfl := hy.non
    exact .inl ⟨rfl, q _ H (Same.refl H) (.bl _)⟩
  · rename_i n
    cases e
    obtain rfl := hy.non
    refine .inl ⟨rfl, ?_⟩
    rw [nnon hx n]
    exact q _ H (Same.refl H) (.bl _)
  · cases e
theorem do_isnot : DOp X (compareOp .IsNot) dIsNot := by
  refine ⟨_, OpR.or op_notN op_isnot_bl, fun H A x y d1 d2 d Q ha hx hy e q => ?_⟩
  unfold dIsNot at e
  split at e
  · cases e
    obtain rfl := hx.bool
    obtain rfl := hy.bool
    exact .inr ⟨_, _, rfl, rfl, q _ H (Same.refl H) (.bl _)⟩
  · cases e
    obtain rfl := hx.non
    obtain rfl := hy.non
    exact .inl ⟨rfl, q _ H (Same.refl H) (.bl _)⟩
  · rename_i n
    cases e
    obtain rfl := hy.non
    refine .inl ⟨rfl, ?_⟩
    rw [nnon hx n]
    exact q _ H (Same.refl H) (.bl _)
  · cases e
end
end G

namespace G
open PySem PySem.Spec PyProof.Rows L2
set_option maxHeartbeats 1000000
section
variable {X : Cx} {W : WX} {a b c e : Expr} {es rest : List Expr} {f g h : En → R D} {p q : En → R Bool} {pos : Pos}

/-! ### tests -/
def cTest (f : En → R D) : En → R Bool := fun ρ => (f ρ).bind fun d => ofO (toB d)
theorem ft_val (h : FE X W e f) (he : ∀ whole, isTrue e X.env whole = (do let v ← whole; standAt e.pos; holding [v] (truthy v)) := by intro _; rfl) : FT X W e (cTest f) := impT (pt_val h he) fun σ H Q ⟨H0, A0, A, ρ, o, P⟩ => by
  refine ⟨H0, A0, A, ρ, o, P.bind.mono fun d H1 s1 P1 v hv => ?_⟩
  obtain ⟨k, e1, P2⟩ := P1.ofO
  obtain rfl := toB_some e1
  exact ⟨k, (RepB.of hv).bool, P2 H1 (Same.refl _)⟩
def cNot (p : En → R Bool) : En → R Bool := fun ρ => (p ρ).bind fun k => .ok (!k)
def cAnd (p q : En → R Bool) : En → R Bool := fun ρ => (p ρ).bind fun k => if k = true then q ρ else .ok false
def cOr (p q : En → R Bool) : En → R Bool := fun ρ => (p ρ).bind fun k => if k = true then .ok true else q ρ
theorem ft_not (h : FT X W a p) : FT X W (.UnaryOp .Not a pos) (cNot p) := impT (pt_not h) fun σ H Q ⟨H0, A0, A, ρ, o, P⟩ => by
  refine ⟨H0, A0, A, ρ, o, P.bind.mono fun k H1 s1 P1 => P1.at⟩
abbrev FW (X : Cx) (W : WX) (e : Expr) (f : En → R Bool) : Prop := PW X e (tFT X.K X.mg W f)
theorem fw_and1 (h : FT X W a p) : FW X W (.BoolOp .And [a] pos) p := pw_and1 h
theorem fw_or1 (h : FT X W a p) : FW X W (.BoolOp .Or [a] pos) p := pw_or1 h
theorem fw_and (ha : FT X W a p) (hb : FW X W (.BoolOp .And (b :: rest) pos) q) : FW X W (.BoolOp .And (a :: b :: rest) pos) (cAnd p q) := impW (pw_and ha hb) fun σ H Q ⟨H0, A0, A, ρ, o, P⟩ => by
  refine ⟨H0, A0, A, ρ, o, P.bind.mono fun k H1 s1 P1 => ?_⟩
  cases k with
  | true => exact ⟨H0, A0, A, ρ, o.same s1, P1⟩
  | false => exact P1.at
theorem fw_or (ha : FT X W a p) (hb : FW X W (.BoolOp .Or (b :: rest) pos) q) : FW X W (.BoolOp .Or (a :: b :: rest) pos) (cOr p q) := impW (pw_or ha hb) fun σ H Q ⟨H0, A0, A, ρ, o, P⟩ => by
  refine ⟨H0, A0, A, ρ, o, P.bind.mono fun k H1 s1 P1 => ?_⟩
  cases k with
  | true => exact P1.at
  | false => exact ⟨H0, A0, A, ρ, o.same s1, P1⟩
theorem ft_w (h : FW X W e p) : FT X W e p := PW.pt h

/-! ### and, or, not, if as values -/
def cAndV (f g : En → R D) : En → R D := fun ρ => (cTest f ρ).bind fun k => if k = true then g ρ else .ok (.bool false)
def cOrV (f g : En → R D) : En → R D := fun ρ => (cTest f ρ).bind fun k => if k = true then .ok (.bool true) else g ρ
def cNotV (f : En → R D) : En → R D := fun ρ => (cTest f ρ).bind fun k => .ok (.bool (!k))
def cIf (p : En → R Bool) (f g : En → R D) : En → R D := fun ρ => (p ρ).bind fun k => if k = true then f ρ else g ρ
theorem fe_one {op} (h : FE X W a f) : FE X W (.BoolOp op [a] pos) f := pe_one h
theorem bind_test {α : Type} {f : En → R D} {ρ : En} {k : Bool → R α} : (cTest f ρ).bind k = (f ρ).bind fun d => (ofO (toB d)).bind k := by
  unfold cTest
  cases f ρ <;> rfl
theorem fe_and (ha : FE X W a f) (hb : FE X W (.BoolOp .And (b :: rest) pos) g) : FE X W (.BoolOp .And (a :: b :: rest) pos) (cAndV f g) := impE (pe_and ha hb) fun σ H Q ⟨H0, A0, A, ρ, o, P⟩ => by
  unfold cAndV at P
  rw [bind_test] at P
  refine ⟨H0, A0, A, ρ, o, P.bind.mono fun d H1 s1 P1 v hv => ?_⟩
  obtain ⟨k, e1, P2⟩ := P1.bind.ofO
  obtain rfl := toB_some e1
  refine ⟨k, (RepB.of hv).bool, ?_⟩
  have P3 := P2 H1 (Same.refl _)
  cases k with
  | true => exact ⟨H0, A0, A, ρ, o.same s1, P3⟩
  | false => exact Post.at (P := fun d H' => ∀ v, Rep X.K H' A v d → Q v H') (a := .bool false) P3 _ (.bl false)
theorem fe_or (ha : FE X W a f) (hb : FE X W (.BoolOp .Or (b :: rest) pos) g) : FE X W (.BoolOp .Or (a :: b :: rest) pos) (cOrV f g) := impE (pe_or ha hb) fun σ H Q ⟨H0, A0, A, ρ, o, P⟩ => by
  unfold cOrV at P
  rw [bind_test] at P
  refine ⟨H0, A0, A, ρ, o, P.bind.mono fun d H1 s1 P1 v hv => ?_⟩
  obtain ⟨k, e1, P2⟩ := P1.bind.ofO
  obtain rfl := toB_some e1
  refine ⟨k, (RepB.of hv).bool, ?_⟩
  have P3 := P2 H1 (Same.refl _)
  cases k with
  | false => exact ⟨H0, A0, A, ρ, o.same s1, P3⟩
  | true => exact Post.at (P := fun d H' => ∀ v, Rep X.K H' A v d → Q v H') (a := .bool true) P3 _ (.bl true)
theorem fe_not (ha : FE X W a f) : FE X W (.UnaryOp .Not a pos) (cNotV f) := impE (pe_not ha) fun σ H Q ⟨H0, A0, A, ρ, o, P⟩ => by
  unfold cNotV at P
  rw [bind_test] at P
  refine ⟨H0, A0, A, ρ, o, P.bind.mono fun d H1 s1 P1 v hv => ?_⟩
  obtain ⟨k, e1, P2⟩ := P1.bind.ofO
  obtain rfl := toB_some e1
  exact ⟨k, (RepB.of hv).bool, Post.at (P := fun d H' => ∀ v, Rep X.K H' A v d → Q v H') (a := .bool (!k)) (P2 H1 (Same.refl _)) _ (.bl _)⟩
theorem fe_if (hc : FT X W c p) (ha : FE X W a f) (hb : FE X W b g) : FE X W (.IfExp c a b pos) (cIf p f g) := impE (pe_ifExp hc ha hb) fun σ H Q ⟨H0, A0, A, ρ, o, P⟩ => by
  refine ⟨H0, A0, A, ρ, o, P.bind.mono fun k H1 s1 P1 => ?_⟩
  cases k with
  | true => exact ⟨H0, A0, A, ρ, o.same s1, P1⟩
  | false => exact ⟨H0, A0, A, ρ, o.same s1, P1⟩

/-! ### rows of expressions, displays -/
def cNil : En → R (List D) := fun _ => .ok []
def cCons (f : En → R D) (l : En → R (List D)) : En → R (List D) := fun ρ => (f ρ).bind fun d => (l ρ).bind fun ds => .ok (d :: ds)
def itemsOf : D → Option (List D)
  | .list xs => some xs
  | .tuple xs => some xs
  | _ => none
def cStar (f : En → R D) (l : En → R (List D)) : En → R (List D) := fun ρ => (f ρ).bind fun d => (ofO (itemsOf d)).bind fun xs => (l ρ).bind fun ds => .ok (xs ++ ds)
variable {l : En → R (List D)}
theorem fa_nil : FA X W [] cNil := impA pa_nil fun σ H Q ⟨H0, A0, A, ρ, o, P⟩ => Post.at (P := fun ds H' => ∀ vs, RepL X.K H' A vs ds → Q vs H') (a := []) P _ .nil
theorem fab_nil : FAB X W [] cNil := impA pa_nil fun σ H Q ⟨H0, A0, A, ρ, o, P⟩ => Post.at (P := fun ds H' => ∀ vs, Paired (RepB X.K H' A) vs ds → Q vs H') (a := []) P _ .nil
theorem fa_cons (ha : FE X W e f) (hr : FA X W es l) (hs : starEach (e :: es) X.env = (false, eval e X.env) :: starEach es X.env := by rfl) : FA X W (e :: es) (cCons f l) := impA (pa_cons ha hr hs) fun σ H Q ⟨H0, A0, A, ρ, o, P⟩ => by
  refine ⟨H0, A0, A, ρ, o, P.bind.mono fun d H1 s1 P1 v hv => ?_⟩
  refine ⟨H0, A0, A, ρ, o.same s1, P1.bind.mono fun ds H2 s2 P2 vs hvs => ?_⟩
  exact Post.at (P := fun ds H' => ∀ vs, RepL X.K H' A vs ds → Q vs H') (a := d :: ds) P2 _ (.cons (hv.same s2) hvs)
theorem fa_star (ha : FB X W e f) (hr : FA X W es l) (hs : starEach (.Starred e pos :: es) X.env = (true, eval e X.env) :: starEach es X.env := by rfl) : FA X W (.Starred e pos :: es) (cStar f l) := impA (StX.pa_star ha hr hs) fun σ H Q ⟨H0, A0, A, ρ, o, P⟩ => by
  refine ⟨H0, A0, A, ρ, o, P.bind.mono fun d H1 s1 P1 v hv => ?_⟩
  obtain ⟨xs, e1, P2⟩ := P1.bind.ofO
  have P3 := (P2 H1 (Same.refl _)).bind
  have key : ∀ us : List V, RepL X.K H1 A us xs → Post X.mg W σ H1 (fun ds H' => ∀ vs, RepL X.K H' A vs ds → Q (us ++ vs) H') (l ρ) := fun us r => P3.mono fun ds H2 s2 P4 vs hvs =>
    Post.at (P := fun ds H' => ∀ vs, RepL X.K H' A vs ds → Q vs H') (a := xs ++ ds) P4 _ ((r.same s2).append hvs)
  cases d with
  | list ys =>
    obtain ⟨a, us, rfl, h1, r⟩ := hv.lst
    cases e1
    exact ⟨a, us, rfl, .inr (SqL.of h1), H0, A0, A, ρ, o.same s1, key us r⟩
  | tuple ys =>
    obtain ⟨a, us, rfl, h1, r⟩ := hv.tup
    cases e1
    exact ⟨a, us, rfl, .inl h1, H0, A0, A, ρ, o.same s1, key us r⟩
  | _ => cases e1
theorem fab_cons (ha : FB X W e f) (hr : FAB X W es l) (hs : starEach (e :: es) X.env = (false, eval e X.env) :: starEach es X.env := by rfl) : FAB X W (e :: es) (cCons f l) := impA (pa_cons ha hr hs) fun σ H Q ⟨H0, A0, A, ρ, o, P⟩ => by
  refine ⟨H0, A0, A, ρ, o, P.bind.mono fun d H1 s1 P1 v hv => ?_⟩
  refine ⟨H0, A0, A, ρ, o.same s1, P1.bind.mono fun ds H2 s2 P2 vs hvs => ?_⟩
  exact Post.at (P := fun ds H' => ∀ vs, Paired (RepB X.K H' A) vs ds → Q vs H') (a := d :: ds) P2 _ (.cons (hv.same s2) hvs)
def cList (l : En → R (List D)) : En → R D := fun ρ => (l ρ).bind fun ds => if ds.length ≤ sizeLine then .ok (.list ds) else .no
def cTup (l : En → R (List D)) : En → R D := fun ρ => (l ρ).bind fun ds => if ds.length ≤ sizeLine then .ok (.tuple ds) else .no
theorem fn_list {t : Bool} (h : FA X W es l) : FN X W t (.List es pos) (cList l) := impE (pe_lst h) fun σ H Q ⟨H0, A0, A, ρ, o, P⟩ => by
  refine ⟨H0, A0, A, ρ, o, P.bind.mono fun ds H1 s1 P1 vs hvs => ?_⟩
  split at P1
  · rename_i hl
    exact ⟨by rw [hvs.length]; exact hl, fun p hp => P1 _ (same_upd hp) _ ⟨p, rfl, s1.free hp, orep_lst hp hvs⟩⟩
  · exact P1.elim
theorem fe_tup {x1} (h : FA X W es l) : FE X W (.Tuple es x1 pos) (cTup l) := impE (pe_tup h) fun σ H Q ⟨H0, A0, A, ρ, o, P⟩ => by
  refine ⟨H0, A0, A, ρ, o, P.bind.mono fun ds H1 s1 P1 vs hvs => ?_⟩
  split at P1
  · rename_i hl
    exact ⟨by rw [hvs.length]; exact hl, fun p hp => P1 _ (same_upd hp) _ (rep_tup ((o.same s1).fresh hp) hp hvs)⟩
  · exact P1.elim

/-! ### subscripts, slices -/
/-- a key of a dict, as data -/
def keyD : D → Option Key
  | .int i => some (.inl i)
  | .str z => some (.inr z)
  | _ => none
def keysD : List D → Option (List Key)
  | [] => some []
  | d :: ds => (keyD d).bind fun k => (keysD ds).map fun ks => k :: ks
theorem keyD_some {d : D} {k : Key} (h : keyD d = some k) : d = kD k := by
  cases d <;> simp [keyD] at h <;> subst h <;> rfl
theorem keysD_some : ∀ {ds : List D} {ks : List Key}, keysD ds = some ks → ds = ks.map kD
  | [], ks, h => by cases h; rfl
  | d :: ds, ks, h => by
    unfold keysD at h
    obtain ⟨k, h1, h2⟩ := Option.bind_eq_some_iff.mp h
    obtain ⟨r, h3, h4⟩ := Option.map_eq_some_iff.mp h2
    subst h4
    rw [keyD_some h1, keysD_some h3, List.map_cons]
/-- what a dict's rows hold under a key -/
def getK : List (D × D) → Key → Option D
  | [], _ => none
  | (d, v) :: r, k => if keyD d = some k then some v else getK r k
def getT : List (D × D) → List Key → Option D
  | [], _ => none
  | (d, v) :: r, k => if (match d with | .tuple ds => keysD ds | _ => none) = some k then some v else getT r k
theorem keyD_kD (k : Key) : keyD (kD k) = some k := by cases k <;> rfl
theorem keysD_map (k : List Key) : keysD (k.map kD) = some k := by
  induction k with
  | nil => rfl
  | cons a r ih => rw [List.map_cons]; unfold keysD; rw [keyD_kD, Option.bind_some, ih]; rfl
theorem getK_rep {K : Frg} {H : Hp} {A : List Addr} {k : Key} : ∀ {kvs : List (Key × V)} {ds : List (D × D)}, RepK K H A kvs ds → (∀ d, getK ds k = some d → ∃ v, valV kvs k = some v ∧ Rep K H A v d) ∧ (getK ds k = none → valV kvs k = none)
  | _, _, .nil => ⟨fun d h => by simp [getK] at h, fun _ => rfl⟩
  | _, _, .cons (k := k') (v := v) (d := d) r t => by
    have ih := getK_rep (k := k) t
    unfold getK valV
    rw [keyD_kD]
    by_cases e : k' = k
    · subst e
      simp only [if_true, List.find?_cons, decide_true, Option.map_some, Option.some.injEq]
      exact ⟨fun d' h => ⟨v, rfl, h ▸ r⟩, fun h => by cases h⟩
    · have e' : ¬ (some k' = some k) := fun z => e (Option.some.inj z)
      rw [if_neg e', List.find?_cons, decide_eq_false e]
      exact ih
theorem getT_rep {K : Frg} {H : Hp} {A : List Addr} {k : List Key} : ∀ {kvs : List (List Key × V)} {ds : List (D × D)}, RepT K H A kvs ds → (∀ d, getT ds k = some d → ∃ v, valV kvs k = some v ∧ Rep K H A v d) ∧ (getT ds k = none → valV kvs k = none)
  | _, _, .nil => ⟨fun d h => by simp [getT] at h, fun _ => rfl⟩
  | _, _, .cons (k := k') (v := v) (d := d) r t => by
    have ih := getT_rep (k := k) t
    unfold getT valV
    simp only [keysD_map]
    by_cases e : k' = k
    · subst e
      simp only [if_true, List.find?_cons, decide_true, Option.map_some, Option.some.injEq]
      exact ⟨fun d' h => ⟨v, rfl, h ▸ r⟩, fun h => by cases h⟩
    · have e' : ¬ (some k' = some k) := fun z => e (Option.some.inj z)
      rw [if_neg e', List.find?_cons, decide_eq_false e]
      exact ih
/-- a row's item, by a place of either sign -/
def dIx : D → D → Option D
  | .list xs, .int i => atI xs i
  | .tuple xs, .int i => atI xs i
  | .str z, .int i => if z.length ≤ sizeLine then (atI z.cps.toList i).map fun c => .str ⟨#[c]⟩ else none
  | .dict kvs, .int i => if (kvs.all fun kv => (keyD kv.1).isSome) = true then getK kvs (.inl i) else none
  | .dict kvs, .str z => if (kvs.all fun kv => (keyD kv.1).isSome) = true then getK kvs (.inr z) else none
  | .dict kvs, .tuple ds => (keysD ds).bind fun ks => if (kvs.all fun kv => (keyD kv.1).isNone) = true ∧ noZ ks = true then getT kvs ks else none
  | _, _ => none
theorem repK_keys {K : Frg} {H : Hp} {A : List Addr} : ∀ {kvs : List (Key × V)} {ds : List (D × D)}, RepK K H A kvs ds → (ds.all fun kv => (keyD kv.1).isSome) = true
  | _, _, .nil => rfl
  | _, _, .cons r t => by rw [List.all_cons, keyD_kD, repK_keys t]; rfl
theorem repT_keys {K : Frg} {H : Hp} {A : List Addr} : ∀ {kvs : List (List Key × V)} {ds : List (D × D)}, RepT K H A kvs ds → (ds.all fun kv => (keyD kv.1).isNone) = true
  | _, _, .nil => rfl
  | _, _, .cons r t => by rw [List.all_cons, repT_keys t]; rfl
theorem repK_of_T {K : Frg} {H : Hp} {A : List Addr} {kvs : List (List Key × V)} {ds : List (D × D)} (r : RepT K H A kvs ds) (h : (ds.all fun kv => (keyD kv.1).isSome) = true) : ds = [] := by
  cases r with
  | nil => rfl
  | cons a t => rw [List.all_cons] at h; simp [keyD] at h
theorem repT_of_K {K : Frg} {H : Hp} {A : List Addr} {kvs : List (Key × V)} {ds : List (D × D)} (r : RepK K H A kvs ds) (h : (ds.all fun kv => (keyD kv.1).isNone) = true) : ds = [] := by
  cases r with
  | nil => rfl
  | cons a t => rw [List.all_cons, keyD_kD] at h; simp at h
theorem atI_rep {K : Frg} {H : Hp} {A : List Addr} {vs : List V} {ds : List D} {i : Int} {d : D} (r : RepL K H A vs ds) (h : atI ds i = some d) : ∃ v, atI vs i = some v ∧ Rep K H A v d := by
  unfold atI at h ⊢
  rw [r.length]
  obtain ⟨j, h1, h2⟩ := Option.bind_eq_some_iff.mp h
  obtain ⟨v, h3, h4⟩ := r.get h2
  exact ⟨v, by rw [h1, Option.bind_some, h3], h4⟩
def rIxDc : R2 := fun x y H Q => ∃ a v, x = .ref a ∧ DGet H a y (some v) ∧ Q v H
theorem ix_dict (hu : X.A.units + 1 < cLine) : IxR X rIxDc := by
  intro value slice pins s σ H x y v u Q I rx ry h hs
  obtain ⟨a, z, rfl, hg, q⟩ := h
  cases rx
  exact tail_any (dict_typeIs I hg) PySem.F.slot_dict_getitem.lookup (d_getItem hu I hg ry fun w' s' I' r' => ⟨z, H, I', r', q⟩) hs
theorem rep_key {K : Frg} {H : Hp} {A : List Addr} {ks : List Key} : ∀ {vs : List V}, RepL K H A vs (ks.map kD) → vs = ks.map kV := by
  induction ks with
  | nil => intro vs r; cases r; rfl
  | cons k ks ih =>
    intro vs r
    rw [List.map_cons] at r
    cases r with
    | cons a t =>
      rw [List.map_cons, ← ih t]
      cases k with
      | inl i => cases a; rfl
      | inr i => cases a; rfl
theorem fe_ix (hu : X.A.units + 1 < cLine) (ha : FB X W a f) (hb : FE X W b g) (hs : PlainIx b) : FE X W (.Subscript a b pos) (cBin dIx f g) := by
  refine impE (pe_ix (IxR.or ix_seq (ix_dict hu)) ha hb hs) fun σ H Q ⟨H0, A0, A, ρ, o, P⟩ => ?_
  refine ⟨H0, A0, A, ρ, o, P.bind.mono fun d1 H1 s1 P1 x hx => ?_⟩
  refine ⟨H0, A0, A, ρ, o.same s1, P1.bind.mono fun d2 H2 s2 P2 y hy => ?_⟩
  obtain ⟨d, e, P3⟩ := P2.ofO
  have q := P3 H2 (Same.refl _)
  have hx := hx.same s2
  unfold dIx at e
  split at e
  · obtain ⟨p, vs, rfl, h1, r⟩ := hx.lst
    obtain rfl := (RepB.of hy).int
    obtain ⟨v, h2, h3⟩ := atI_rep r e
    exact .inl (.inl ⟨p, vs, _, v, rfl, rfl, SqL.of h1, h2, q v h3⟩)
  · obtain ⟨p, vs, rfl, h1, r⟩ := hx.tup
    obtain rfl := (RepB.of hy).int
    obtain ⟨v, h2, h3⟩ := atI_rep r e
    exact .inl (.inr (.inl ⟨p, vs, _, v, rfl, rfl, h1, h2, q v h3⟩))
  · split at e
    · rename_i hz
      obtain rfl := hx.str
      obtain rfl := (RepB.of hy).int
      obtain ⟨c, h1, h2⟩ := Option.map_eq_some_iff.mp e
      subst h2
      exact .inl (.inr (.inr ⟨_, _, c, rfl, rfl, hz, h1, q _ (.str _)⟩))
    · cases e
  · split at e
    · rename_i hk
      obtain rfl := (RepB.of hy).int
      obtain ⟨p, rfl, ⟨kvs, h1, r⟩ | ⟨kvs, h1, r⟩ | ⟨C0, n0, rfl⟩⟩ := hx.dict
      · obtain ⟨v, h2, h3⟩ := (getK_rep r).1 d e
        exact .inr ⟨p, v, rfl, .inl ⟨kvs, .inl _, h1, rfl, h2.symm⟩, q v h3⟩
      · rw [repK_of_T r hk] at e; cases e
      · exact Bool.noConfusion (show false = true from hk)
    · cases e
  · split at e
    · rename_i hk
      obtain rfl := (RepB.of hy).str
      obtain ⟨p, rfl, ⟨kvs, h1, r⟩ | ⟨kvs, h1, r⟩ | ⟨C0, n0, rfl⟩⟩ := hx.dict
      · obtain ⟨v, h2, h3⟩ := (getK_rep r).1 d e
        exact .inr ⟨p, v, rfl, .inl ⟨kvs, .inr _, h1, rfl, h2.symm⟩, q v h3⟩
      · rw [repK_of_T r hk] at e; cases e
      · exact Bool.noConfusion (show false = true from hk)
    · cases e
  · obtain ⟨ks, h0, e2⟩ := Option.bind_eq_some_iff.mp e
    clear e
    have h0 := keysD_some h0
    subst h0
    split at e2
    · rename_i hk
      obtain ⟨p, rfl, ⟨kvs, h1, r⟩ | ⟨kvs, h1, r⟩ | ⟨C0, n0, rfl⟩⟩ := hx.dict
      · rw [repT_of_K r hk.1] at e2; cases e2
      · obtain ⟨v, h2, h3⟩ := (getT_rep r).1 d e2
        cases hy with
        | tup n hb2 rk =>
          rw [rep_key rk] at hb2
          exact .inr ⟨p, v, rfl, .inr ⟨kvs, ks, _, h1, rfl, hb2, h2.symm⟩, q v h3⟩
        | kt z rk =>
          have := zt_key z rk
          rw [this] at hk
          exact absurd hk.2 (by decide)
      · exact Bool.noConfusion (show false = true from hk.1)
    · cases e2
  · cases e
end
end G

namespace G
open PySem PySem.Spec PyProof.Rows L2

/-! ### slices -/
def cutL (xs : List D) (lo hi : Option Int) : List D := (xs.drop (HT.sIx xs.length 0 lo)).take (HT.sIx xs.length xs.length hi - HT.sIx xs.length 0 lo)
def cutZ (z : Str) (lo hi : Option Int) : Str := ⟨((z.cps.toList.drop (HT.sIx z.length 0 lo)).take (HT.sIx z.length z.length hi - HT.sIx z.length 0 lo)).toArray⟩
def cPartN : En → R (Option Int) := fun _ => .ok none
def toI : D → Option Int
  | .int i => some i
  | _ => none
theorem toI_some {d : D} {i : Int} (h : toI d = some i) : d = .int i := by
  cases d <;> simp [toI] at h
  rw [h]
def cPart (f : En → R D) : En → R (Option Int) := fun ρ => (f ρ).bind fun d => (ofO (toI d)).bind fun i => .ok (some i)
def dCut (d : D) (lo hi : Option Int) : Option D := match d with
  | .list xs => some (.list (cutL xs lo hi))
  | .tuple xs => some (.tuple (cutL xs lo hi))
  | .str z => if z.length ≤ sizeLine then some (.str (cutZ z lo hi)) else none
  | _ => none
def cSlice (f : En → R D) (l h : En → R (Option Int)) : En → R D := fun ρ => (f ρ).bind fun d => (l ρ).bind fun lo => (h ρ).bind fun hi => ofO (dCut d lo hi)
def dRev : D → Option D
  | .list xs => some (.list xs.reverse)
  | _ => none
def cRev (f : En → R D) : En → R D := fun ρ => (f ρ).bind fun d => ofO (dRev d)
theorem RepL.cut {K : Frg} {H : Hp} {A : List Addr} {vs : List V} {ds : List D} (r : RepL K H A vs ds) (lo hi : Option Int) : RepL K H A (cutV vs lo hi) (cutL ds lo hi) := by
  unfold cutV cutL
  rw [r.length]
  exact (r.drop _).take _
section
variable {X : Cx} {W : WX} {a b c e : Expr} {es rest : List Expr} {f g h : En → R D} {p q : En → R Bool} {l : En → R (List D)} {lo hi : Option Expr} {pl ph : En → R (Option Int)} {pos p1 p2 p3 p4 : Pos}
/-- a slice's end -/
def tFO (K : Frg) (mg : MgT) (W : WX) (f : En → R (Option Int)) : TO := fun σ H Q => ∃ H0 A0 A ρ, Ok K H0 A0 A ρ σ H ∧ Post mg W σ H (fun o H' => Q o H') (f ρ)
abbrev FO (X : Cx) (W : WX) (o : Option Expr) (f : En → R (Option Int)) : Prop := PO X o (tFO X.K X.mg W f)
theorem impO {o : Option Expr} {t t' : TO} (h : PO X o t) (i : ∀ σ H Q, t' σ H Q → t σ H Q) : PO X o t' := ⟨fun pins s σ H Q I q => h.run pins s σ H Q I (i _ _ _ q)⟩
theorem fo_none : FO X W none cPartN := impO po_none fun σ H Q ⟨H0, A0, A, ρ, o, P⟩ => Post.at (a := (none : Option Int)) (P := fun o H' => Q o H') P
theorem fo_some (ha : FE X W a f) : FO X W (some a) (cPart f) := impO (po_some ha) fun σ H Q ⟨H0, A0, A, ρ, o, P⟩ => by
  refine ⟨H0, A0, A, ρ, o, P.bind.mono fun d H1 s1 P1 v hv => ?_⟩
  obtain ⟨i, e1, P2⟩ := P1.bind.ofO
  obtain rfl := toI_some e1
  exact ⟨i, (RepB.of hv).int, Post.at (a := some i) (P := fun o H' => Q o H') (P2 H1 (Same.refl _))⟩
theorem sl_all : SlR X (fun x l u H Q => rSlL X.K x l u H Q ∨ rSlA X.K x l u H Q ∨ rSlS x l u H Q) := SlR.or sl_list (SlR.or sl_tupA sl_str)
theorem fe_slice (ha : FE X W a f) (hl : FO X W lo pl) (hh : FO X W hi ph) : FE X W (.Subscript a (.Slice lo hi none p2) pos) (cSlice f pl ph) := impE (pe_slice sl_all ha hl hh) fun σ H Q ⟨H0, A0, A, ρ, o, P⟩ => by
  refine ⟨H0, A0, A, ρ, o, P.bind.mono fun d H1 s1 P1 v hv => ?_⟩
  refine ⟨H0, A0, A, ρ, o.same s1, P1.bind.mono fun l1 H2 s2 P2 => ?_⟩
  refine ⟨H0, A0, A, ρ, (o.same s1).same s2, P2.bind.mono fun l2 H3 s3 P3 => ?_⟩
  obtain ⟨d3, e3, P4⟩ := P3.ofO
  have hv := (hv.same s2).same s3
  have o3 := ((o.same s1).same s2).same s3
  unfold dCut at e3
  split at e3
  · cases e3
    obtain ⟨p, vs, rfl, h1, r⟩ := (RepB.of hv).lst
    exact .inl ⟨p, vs, rfl, SqL.of h1, fun p hp => P4 _ (same_upd hp) _ (rep_lst (o3.fresh hp) hp (r.cut l1 l2))⟩
  · cases e3
    obtain ⟨p, vs, rfl, h1, r⟩ := (RepB.of hv).tup
    refine .inr (.inl ⟨p, vs, rfl, h1, fun z => P4 _ (Same.refl _) _ ?_, fun z p hp => P4 _ (same_upd hp) _ (rep_tup (o3.fresh hp) hp (r.cut l1 l2))⟩)
    have e : ∀ xs : List D, xs.length = vs.length → cutL xs l1 l2 = xs := fun xs hx => by
      unfold cutL
      rw [hx, z.1, z.2, List.drop_zero, Nat.sub_zero, ← hx, List.take_length]
    rw [e _ r.length.symm]
    exact hv
  · split at e3
    · rename_i hz
      cases e3
      obtain rfl := (RepB.of hv).str
      exact .inr (.inr ⟨_, rfl, hz, P4 _ (Same.refl _) _ (.str _)⟩)
    · cases e3
  · cases e3
theorem fe_rev {k : Nat} (ha : FB X W a f) : FE X W (.Subscript a (.Slice none none (some (.UnaryOp .USub (.Constant (.int 1) k p1) p2)) p3) pos) (cRev f) := impE (pe_revL ha) fun σ H Q ⟨H0, A0, A, ρ, o, P⟩ => by
  refine ⟨H0, A0, A, ρ, o, P.bind.mono fun d H1 s1 P1 v hv => ?_⟩
  obtain ⟨d3, e3, P4⟩ := P1.ofO
  unfold dRev at e3
  split at e3
  · cases e3
    obtain ⟨p, vs, rfl, h1, r⟩ := hv.lst
    exact ⟨p, vs, rfl, SqL.of h1, fun p hp => P4 _ (same_upd hp) _ (rep_lst ((o.same s1).fresh hp) hp r.reverse)⟩
  · cases e3

/-! ### built-in functions -/
def cCall (df : List D → Option D) (l : En → R (List D)) : En → R D := fun ρ => (l ρ).bind fun ds => ofO (df ds)
def DCall (X : Cx) (F : Value) (df : List D → Option D) : Prop :=
  ∃ r : List V → Hp → VK → Prop, CallR X F r ∧ ∀ (H : Hp) (A : List Addr) (vs : List V) (ds : List D) (d : D) (Q : VK), (∀ a ∈ A, H a ≠ none) → Paired (RepB X.K H A) vs ds → df ds = some d → (∀ v H', Same H H' → Rep X.K H' A v d → Q v H') → r vs H Q
/-- .. data that nobody changes -/
def DCallE (X : Cx) (F : Value) (df : List D → Option D) : Prop :=
  ∃ r : List V → Hp → VK → Prop, CallR X F r ∧ ∀ (H : Hp) (A : List Addr) (vs : List V) (ds : List D) (d : D) (Q : VK), (∀ a ∈ A, H a ≠ none) → RepL X.K H A vs ds → df ds = some d → (∀ v H', Same H H' → Rep X.K H' A v d → Q v H') → r vs H Q
/-- .. that hand back a new list -/
def DCallN (X : Cx) (F : Value) (df : List D → Option D) : Prop :=
  ∃ r : List V → Hp → VK → Prop, CallR X F r ∧ ∀ (H : Hp) (A : List Addr) (vs : List V) (ds : List D) (d : D) (Q : VK), (∀ a ∈ A, H a ≠ none) → Paired (RepB X.K H A) vs ds → df ds = some d → (∀ v H', Same H H' → RepN X.K false H H' A v d → Q v H') → r vs H Q
theorem repN_rep {t : Bool} {K : Frg} {H H' : Hp} {A : List Addr} (ha : ∀ a ∈ A, H a ≠ none) {v : V} {d : D} (h : RepN K t H H' A v d) : Rep K H' A v d := by
  obtain ⟨a, e, n, r⟩ := h
  rw [e]
  exact r.free (fun z => ha a z n) fun b hb => List.mem_cons_of_mem _ hb
theorem DCallN.call {F : Value} {df : List D → Option D} (h : DCallN X F df) : DCall X F df := by
  obtain ⟨r, hr, hs⟩ := h
  exact ⟨r, hr, fun H A vs ds d Q ha hv e q => hs H A vs ds d Q ha hv e fun v H' s n => q v H' s (repN_rep ha n)⟩
theorem DCall.orE {F : Value} {df dg : List D → Option D} (h : DCall X F df) (h' : DCall X F dg) : DCall X F (fun ds => (df ds).orElse fun _ => dg ds) := by
  obtain ⟨r, hr, hs⟩ := h
  obtain ⟨r', hr', hs'⟩ := h'
  refine ⟨_, CallR.or hr hr', fun H A vs ds d Q ha hv e q => ?_⟩
  have e : ((df ds).orElse fun _ => dg ds) = some d := e
  cases e1 : df ds with
  | some d1 => rw [e1] at e; cases e; exact .inl (hs H A vs ds _ Q ha hv e1 q)
  | none => rw [e1] at e; exact .inr (hs' H A vs ds _ Q ha hv e q)
variable {x : Str} {id T : String} {df : List D → Option D}
theorem call_read {F : Value} {r : List V → Hp → VK → Prop} (hs : ∀ (H : Hp) (A : List Addr) (vs : List V) (ds : List D) (d : D) (Q : VK), (∀ a ∈ A, H a ≠ none) → Paired (RepB X.K H A) vs ds → df ds = some d → (∀ v H', Same H H' → Rep X.K H' A v d → Q v H') → r vs H Q)
    (σ : St) (H : Hp) (Q : VK) (hq : tF X.K X.mg W (cCall df l) σ H Q) : tCB r (tFAB X.K X.mg W l) σ H Q := by
  obtain ⟨H0, A0, A, ρ, o, P⟩ := hq
  refine ⟨H0, A0, A, ρ, o, P.bind.mono fun ds H1 s1 P1 vs hvs => ?_⟩
  obtain ⟨d, e, P2⟩ := P1.ofO
  exact hs H1 A vs ds d Q (o.same s1).has hvs e fun v H' s hv => P2 H' s v hv
theorem fe_callB (hc : DCall X (.builtin id) df) (hg : Gl X x) (hm : X.mg x = none) (hv : bootBuiltins x = some (.builtin id)) (ha : FAB X W (e :: es) l) (hn : x ≠ "__name__" := by decide) (hdb : (x == ("__debug__" : Str)) = false := by decide)
    (he : starEach (e :: es) X.env = (false, eval e X.env) :: starEach es X.env := by rfl) (hpl : (backTo pos (starEach es X.env)).any (·.1) = false := by rfl) : FE X W (.Call (.Name x p1) (e :: es) [] pos) (cCall df l) := by
  obtain ⟨r, hr, hs⟩ := hc
  exact impE (pe_callB hr hg hm hv ha hn hdb he hpl) (call_read (F := .builtin id) hs)
theorem fe_callTy (hc : DCall X (.type T) df) (hg : Gl X x) (hm : X.mg x = none) (hv : bootBuiltins x = some (.type T)) (ha : FAB X W (e :: es) l) (hn : x ≠ "__name__" := by decide) (hdb : (x == ("__debug__" : Str)) = false := by decide)
    (he : starEach (e :: es) X.env = (false, eval e X.env) :: starEach es X.env := by rfl) (hpl : (backTo pos (starEach es X.env)).any (·.1) = false := by rfl) : FE X W (.Call (.Name x p1) (e :: es) [] pos) (cCall df l) := by
  obtain ⟨r, hr, hs⟩ := hc
  exact impE (pe_callTy hr hg hm hv ha hn hdb he hpl) (call_read (F := .type T) hs)
theorem fe_callTyE (hc : DCallE X (.type T) df) (hg : Gl X x) (hm : X.mg x = none) (hv : bootBuiltins x = some (.type T)) (ha : FA X W (e :: es) l) (hn : x ≠ "__name__" := by decide) (hdb : (x == ("__debug__" : Str)) = false := by decide)
    (he : starEach (e :: es) X.env = (false, eval e X.env) :: starEach es X.env := by rfl) (hpl : (backTo pos (starEach es X.env)).any (·.1) = false := by rfl) : FE X W (.Call (.Name x p1) (e :: es) [] pos) (cCall df l) := by
  obtain ⟨r, hr, hs⟩ := hc
  refine impE (pe_callTy hr hg hm hv ha hn hdb he hpl) fun σ H Q ⟨H0, A0, A, ρ, o, P⟩ => ?_
  refine ⟨H0, A0, A, ρ, o, P.bind.mono fun ds H1 s1 P1 vs hvs => ?_⟩
  obtain ⟨d, e, P2⟩ := P1.ofO
  exact hs H1 A vs ds d Q (o.same s1).has hvs e fun v H' s hv => P2 H' s v hv
theorem fn_callTy (hc : DCallN X (.type T) df) (hg : Gl X x) (hm : X.mg x = none) (hv : bootBuiltins x = some (.type T)) (ha : FAB X W (e :: es) l) (hn : x ≠ "__name__" := by decide) (hdb : (x == ("__debug__" : Str)) = false := by decide)
    (he : starEach (e :: es) X.env = (false, eval e X.env) :: starEach es X.env := by rfl) (hpl : (backTo pos (starEach es X.env)).any (·.1) = false := by rfl) : FN X W false (.Call (.Name x p1) (e :: es) [] pos) (cCall df l) := by
  obtain ⟨r, hr, hs⟩ := hc
  refine impE (pe_callTy hr hg hm hv ha hn hdb he hpl) fun σ H Q ⟨H0, A0, A, ρ, o, P⟩ => ?_
  refine ⟨H0, A0, A, ρ, o, P.bind.mono fun ds H1 s1 P1 vs hvs => ?_⟩
  obtain ⟨d, e, P2⟩ := P1.ofO
  refine hs H1 A vs ds d Q (o.same s1).has hvs e fun v H' s hv => P2 H' s v ?_
  obtain ⟨p, e, n, r⟩ := hv
  exact ⟨p, e, s1.free n, r⟩

theorem pair1 {α β : Type} {F : α → β → Prop} {vs : List α} {d : β} (h : Paired F vs [d]) : ∃ v, vs = [v] ∧ F v d := by
  cases h with
  | cons a t => cases t; exact ⟨_, rfl, a⟩
theorem pair2 {α β : Type} {F : α → β → Prop} {vs : List α} {d d2 : β} (h : Paired F vs [d, d2]) : ∃ v v2, vs = [v, v2] ∧ F v d ∧ F v2 d2 := by
  cases h with
  | cons a t =>
    obtain ⟨v2, rfl, b⟩ := pair1 t
    exact ⟨_, _, rfl, a, b⟩
def dLen : List D → Option D
  | [.list xs] => some (.int xs.length)
  | [.tuple xs] => some (.int xs.length)
  | [.str z] => if z.length ≤ sizeLine then some (.int z.length) else none
  | _ => none
theorem dc_len : DCall X (.builtin "len") dLen := by
  refine ⟨_, CallR.or call_len_seq call_len_str, fun H A vs ds d Q ha hv e q => ?_⟩
  unfold dLen at e
  split at e
  · cases e
    obtain ⟨v, rfl, h⟩ := pair1 hv
    obtain ⟨p, us, rfl, h1, r⟩ := h.lst
    exact .inl ⟨p, us, rfl, .inl (SqL.of h1), by rw [r.length]; exact q _ H (Same.refl H) (.int _)⟩
  · cases e
    obtain ⟨v, rfl, h⟩ := pair1 hv
    obtain ⟨p, us, rfl, h1, r⟩ := h.tup
    exact .inl ⟨p, us, rfl, .inr h1, by rw [r.length]; exact q _ H (Same.refl H) (.int _)⟩
  · split at e
    · rename_i hz
      cases e
      obtain ⟨v, rfl, h⟩ := pair1 hv
      obtain rfl := h.str
      exact .inr ⟨_, rfl, hz, q _ H (Same.refl H) (.int _)⟩
    · cases e
  · cases e
/-- whole numbers -/
def intsOf : List D → Option (List Int)
  | [] => some []
  | .int i :: r => (intsOf r).map fun ns => i :: ns
  | _ => none
@[simp] theorem intsOf_map (ns : List Int) : intsOf (ns.map PyData.int) = some ns := by
  induction ns with
  | nil => rfl
  | cons a r ih => rw [List.map_cons]; unfold intsOf; rw [ih]; rfl
theorem intsOf_rep {K : Frg} {H : Hp} {A : List Addr} : ∀ {vs : List V} {ds : List D} {ns : List Int}, RepL K H A vs ds → intsOf ds = some ns → vs = ns.map V.int
  | _, _, ns, .nil, h => by cases h; rfl
  | _, _, ns, .cons (d := d) a t, h => by
    cases d with
    | int i =>
      unfold intsOf at h
      obtain ⟨r, h1, h2⟩ := Option.map_eq_some_iff.mp h
      subst h2
      rw [List.map_cons, ← intsOf_rep t h1, (RepB.of a).int]
    | _ => cases h
def boolsOf : List D → Option (List Bool)
  | [] => some []
  | .bool i :: r => (boolsOf r).map fun ns => i :: ns
  | _ => none
@[simp] theorem boolsOf_map (ns : List Bool) : boolsOf (ns.map PyData.bool) = some ns := by
  induction ns with
  | nil => rfl
  | cons a r ih => rw [List.map_cons]; unfold boolsOf; rw [ih]; rfl
theorem boolsOf_rep {K : Frg} {H : Hp} {A : List Addr} : ∀ {vs : List V} {ds : List D} {ns : List Bool}, RepL K H A vs ds → boolsOf ds = some ns → vs = ns.map V.bl
  | _, _, ns, .nil, h => by cases h; rfl
  | _, _, ns, .cons (d := d) a t, h => by
    cases d with
    | bool i =>
      unfold boolsOf at h
      obtain ⟨r, h1, h2⟩ := Option.map_eq_some_iff.mp h
      subst h2
      rw [List.map_cons, ← boolsOf_rep t h1, (RepB.of a).bool]
    | _ => cases h
def dSum : List D → Option D
  | [.list xs] => (intsOf xs).map fun ns => .int ns.sum
  | _ => none
theorem dc_sum (hc : X.calm = true) : DCall X (.builtin "sum") dSum := by
  refine ⟨_, cr_sum hc, fun H A vs ds d Q ha hv e q => ?_⟩
  unfold dSum at e
  split at e
  · obtain ⟨ns, h1, h2⟩ := Option.map_eq_some_iff.mp e
    cases h2
    obtain ⟨v, rfl, h⟩ := pair1 hv
    obtain ⟨p, us, rfl, h3, r⟩ := h.lst
    exact ⟨p, ns, rfl, SqL.of (by rw [← intsOf_rep r h1]; exact h3), q _ H (Same.refl H) (.int _)⟩
  · cases e
def maxI : List Int → Option Int
  | [] => none
  | n :: r => some (r.foldl max n)
def minI : List Int → Option Int
  | [] => none
  | n :: r => some (r.foldl min n)
theorem foldl_max (n : Int) (r : List Int) : (r.foldl max n ∈ n :: r) ∧ ∀ y ∈ n :: r, y ≤ r.foldl max n := by
  induction r generalizing n with
  | nil => exact ⟨List.mem_cons_self, fun y hy => by simp at hy; simp [hy]⟩
  | cons a r ih =>
    obtain ⟨h1, h2⟩ := ih (max n a)
    rw [List.foldl_cons]
    refine ⟨?_, fun y hy => ?_⟩
    · rcases List.mem_cons.mp h1 with z | z
      · rw [z]
        rcases Int.le_total n a with w | w
        · rw [Int.max_eq_right w]; simp
        · rw [Int.max_eq_left w]; simp
      · exact List.mem_cons_of_mem _ (List.mem_cons_of_mem _ z)
    · have h3 := h2 (max n a) List.mem_cons_self
      rcases List.mem_cons.mp hy with z | z
      · rw [z]; omega
      · rcases List.mem_cons.mp z with z | z
        · rw [z]; omega
        · exact h2 y (List.mem_cons_of_mem _ z)
theorem foldl_min (n : Int) (r : List Int) : (r.foldl min n ∈ n :: r) ∧ ∀ y ∈ n :: r, r.foldl min n ≤ y := by
  induction r generalizing n with
  | nil => exact ⟨List.mem_cons_self, fun y hy => by simp at hy; simp [hy]⟩
  | cons a r ih =>
    obtain ⟨h1, h2⟩ := ih (min n a)
    rw [List.foldl_cons]
    refine ⟨?_, fun y hy => ?_⟩
    · rcases List.mem_cons.mp h1 with z | z
      · rw [z]
        rcases Int.le_total n a with w | w
        · rw [Int.min_eq_left w]; simp
        · rw [Int.min_eq_right w]; simp
      · exact List.mem_cons_of_mem _ (List.mem_cons_of_mem _ z)
    · have h3 := h2 (min n a) List.mem_cons_self
      rcases List.mem_cons.mp hy with z | z
      · rw [z]; omega
      · rcases List.mem_cons.mp z with z | z
        · rw [z]; omega
        · exact h2 y (List.mem_cons_of_mem _ z)
def dMax : List D → Option D
  | [.list xs] => ((intsOf xs).bind maxI).map .int
  | [.int i, .int j] => some (.int (max i j))
  | _ => none
def dMin : List D → Option D
  | [.list xs] => ((intsOf xs).bind minI).map .int
  | [.int i, .int j] => some (.int (min i j))
  | _ => none
theorem dc_max (hc : X.calm = true) : DCall X (.builtin "max") dMax := by
  refine ⟨_, CallR.or (cr_max hc) (call_max2 hc), fun H A vs ds d Q ha hv e q => ?_⟩
  unfold dMax at e
  split at e
  · obtain ⟨m, h1, h2⟩ := Option.map_eq_some_iff.mp e
    cases h2
    obtain ⟨ns, h3, h4⟩ := Option.bind_eq_some_iff.mp h1
    obtain ⟨v, rfl, h⟩ := pair1 hv
    obtain ⟨p, us, rfl, h5, r⟩ := h.lst
    cases ns with
    | nil => cases h4
    | cons n r2 =>
      cases h4
      obtain ⟨f1, f2⟩ := foldl_max n r2
      refine .inl ⟨p, n :: r2, rfl, SqL.of (by rw [← intsOf_rep r h3]; exact h5), by simp, fun m hm1 hm2 => ?_⟩
      have e1 := hm2 _ f1
      have e2 := f2 m hm1
      have : m = r2.foldl max n := by omega
      rw [this]
      exact q _ H (Same.refl H) (.int _)
  · cases e
    obtain ⟨v, v2, rfl, h, h'⟩ := pair2 hv
    obtain rfl := h.int
    obtain rfl := h'.int
    rename_i i j
    refine .inr ⟨i, j, rfl, ?_⟩
    have e : (if j > i then j else i) = max i j := by split <;> omega
    rw [e]
    exact q _ H (Same.refl H) (.int _)
  · cases e
theorem dc_min (hc : X.calm = true) : DCall X (.builtin "min") dMin := by
  refine ⟨_, CallR.or (cr_min hc) (call_min2 hc), fun H A vs ds d Q ha hv e q => ?_⟩
  unfold dMin at e
  split at e
  · obtain ⟨m, h1, h2⟩ := Option.map_eq_some_iff.mp e
    cases h2
    obtain ⟨ns, h3, h4⟩ := Option.bind_eq_some_iff.mp h1
    obtain ⟨v, rfl, h⟩ := pair1 hv
    obtain ⟨p, us, rfl, h5, r⟩ := h.lst
    cases ns with
    | nil => cases h4
    | cons n r2 =>
      cases h4
      obtain ⟨f1, f2⟩ := foldl_min n r2
      refine .inl ⟨p, n :: r2, rfl, SqL.of (by rw [← intsOf_rep r h3]; exact h5), by simp, fun m hm1 hm2 => ?_⟩
      have e1 := hm2 _ f1
      have e2 := f2 m hm1
      have : m = r2.foldl min n := by omega
      rw [this]
      exact q _ H (Same.refl H) (.int _)
  · cases e
    obtain ⟨v, v2, rfl, h, h'⟩ := pair2 hv
    obtain rfl := h.int
    obtain rfl := h'.int
    rename_i i j
    refine .inr ⟨i, j, rfl, ?_⟩
    have e : (if j < i then j else i) = min i j := by split <;> omega
    rw [e]
    exact q _ H (Same.refl H) (.int _)
  · cases e
def dAbs : List D → Option D
  | [.int i] => some (.int (i.natAbs : Int))
  | _ => none
theorem dc_abs : DCall X (.builtin "abs") dAbs := by
  refine ⟨_, call_abs, fun H A vs ds d Q ha hv e q => ?_⟩
  unfold dAbs at e
  split at e
  · cases e
    obtain ⟨v, rfl, h⟩ := pair1 hv
    obtain rfl := h.int
    rename_i i
    refine ⟨i, rfl, ?_⟩
    have e : (if i < 0 then -i else i) = (i.natAbs : Int) := by split <;> omega
    rw [e]
    exact q _ H (Same.refl H) (.int _)
  · cases e
def dInt : List D → Option D
  | [.int i] => some (.int i)
  | [.bool b] => some (.int (if b then 1 else 0))
  | _ => none
theorem dc_int : DCall X (.type "int") dInt := by
  refine ⟨_, call_int1, fun H A vs ds d Q ha hv e q => ?_⟩
  unfold dInt at e
  split at e
  · cases e
    obtain ⟨v, rfl, h⟩ := pair1 hv
    obtain rfl := h.int
    exact .inl ⟨_, rfl, q _ H (Same.refl H) (.int _)⟩
  · cases e
    obtain ⟨v, rfl, h⟩ := pair1 hv
    obtain rfl := h.bool
    exact .inr ⟨_, rfl, q _ H (Same.refl H) (.int _)⟩
  · cases e
def dAny : List D → Option D
  | [.list xs] => (boolsOf xs).map fun bs => .bool (bs.any fun b => b)
  | _ => none
def dAll : List D → Option D
  | [.list xs] => (boolsOf xs).map fun bs => .bool (bs.all fun b => b)
  | _ => none
theorem dc_any (hc : X.calm = true) : DCall X (.builtin "any") dAny := by
  refine ⟨_, cr_any hc, fun H A vs ds d Q ha hv e q => ?_⟩
  unfold dAny at e
  split at e
  · obtain ⟨ns, h1, h2⟩ := Option.map_eq_some_iff.mp e
    cases h2
    obtain ⟨v, rfl, h⟩ := pair1 hv
    obtain ⟨p, us, rfl, h3, r⟩ := h.lst
    exact ⟨p, ns, rfl, SqL.of (by rw [← boolsOf_rep r h1]; exact h3), q _ H (Same.refl H) (.bl _)⟩
  · cases e
theorem dc_all (hc : X.calm = true) : DCall X (.builtin "all") dAll := by
  refine ⟨_, cr_all hc, fun H A vs ds d Q ha hv e q => ?_⟩
  unfold dAll at e
  split at e
  · obtain ⟨ns, h1, h2⟩ := Option.map_eq_some_iff.mp e
    cases h2
    obtain ⟨v, rfl, h⟩ := pair1 hv
    obtain ⟨p, us, rfl, h3, r⟩ := h.lst
    exact ⟨p, ns, rfl, SqL.of (by rw [← boolsOf_rep r h1]; exact h3), q _ H (Same.refl H) (.bl _)⟩
  · cases e
def dListOf : List D → Option D
  | [.list xs] => some (.list xs)
  | [.tuple xs] => some (.list xs)
  | _ => none
theorem dc_list : DCallN X (.type "list") dListOf := by
  refine ⟨_, call_list_of, fun H A vs ds d Q ha hv e q => ?_⟩
  unfold dListOf at e
  split at e
  · cases e
    obtain ⟨v, rfl, h⟩ := pair1 hv
    obtain ⟨p, us, rfl, h1, r⟩ := h.lst
    exact ⟨p, us, rfl, .inl (SqL.of h1), fun n hn => q _ _ (same_upd hn) ⟨n, rfl, hn, orep_lst hn r⟩⟩
  · cases e
    obtain ⟨v, rfl, h⟩ := pair1 hv
    obtain ⟨p, us, rfl, h1, r⟩ := h.tup
    exact ⟨p, us, rfl, .inr h1, fun n hn => q _ _ (same_upd hn) ⟨n, rfl, hn, orep_lst hn r⟩⟩
  · cases e
def dTupOf : List D → Option D
  | [.list xs] => some (.tuple xs)
  | [.tuple xs] => some (.tuple xs)
  | _ => none
theorem dc_tuple : DCallE X (.type "tuple") dTupOf := by
  refine ⟨_, call_tuple_of, fun H A vs ds d Q ha hv e q => ?_⟩
  unfold dTupOf at e
  split at e
  · cases e
    cases hv with
    | cons h t =>
      cases t
      obtain ⟨p, us, rfl, h1, r⟩ := (RepB.of h).lst
      exact ⟨p, us, rfl, .inl ⟨SqL.of h1, fun n hn => q _ _ (same_upd hn) (rep_tup (fun z => ha n z hn) hn r)⟩⟩
  · cases e
    cases hv with
    | cons h t =>
      cases t
      obtain ⟨p, us, rfl, h1, r⟩ := (RepB.of h).tup
      exact ⟨p, us, rfl, .inr ⟨h1, q _ _ (Same.refl H) h⟩⟩
  · cases e
end
end G

namespace G
open PySem PySem.Spec PyProof.Rows L2

/-! ### how the state changes -/
section
variable {K : Frg} {H0 H H' : Hp} {A0 A A' : List Addr} {ρ : En} {σ : St} {i : Nat} {v : V} {d : D} {a : Addr} {t : Bool}
theorem SRep.tr (s : Same H H') (u : Tr A H A' H') (m : ∀ b ∈ A, b ∈ A') : ∀ {x : Sl}, SRep K H0 A0 A H v x → SRep K H0 A0 A' H' v x
  | .v _, h => Rep.tr u h
  | .own _ _, ⟨a, e, m1, n, h⟩ => ⟨a, e, m a m1, n, h.tr s u⟩
  | .er _ _, _ => trivial
  | .sc _, ⟨a, e, h⟩ => ⟨a, e, h.tr u⟩
theorem get_set_some {α : Type} {l : List α} {i j : Nat} {x y : α} (h : (l.set i x)[j]? = some y) : (j = i ∧ i < l.length ∧ x = y) ∨ (j ≠ i ∧ l[j]? = some y) := by
  by_cases e : j = i
  · subst e
    by_cases hl : j < l.length
    · rw [List.getElem?_set_self hl] at h
      exact .inl ⟨rfl, hl, Option.some.inj h⟩
    · rw [List.getElem?_eq_none (by simpa using hl)] at h; cases h
  · rw [List.getElem?_set_ne (Ne.symm e)] at h
    exact .inr ⟨e, h⟩
/-- a name gets data -/
theorem Ok.set (o : Ok K H0 A0 A ρ σ H) (i : Nat) (r : Rep K H A v d) : Ok K H0 A0 A (ρ.set i (some (.v d))) (σ.set i (some v)) H where
  len := by rw [List.length_set, List.length_set]; exact o.len
  ext := o.ext
  sub := o.sub
  new := o.new
  kp := o.kp
  slot := fun j s h => by
    rcases get_set_some h with ⟨e, hl, e2⟩ | ⟨e, h⟩
    · subst e
      cases e2
      exact ⟨v, by rw [List.getElem?_set_self (by rw [o.len]; exact hl)], r⟩
    · obtain ⟨v', h1, h2⟩ := o.slot j s h
      exact ⟨v', by rw [List.getElem?_set_ne (Ne.symm e)]; exact h1, h2⟩
  dis := fun j k b t t' d1 d2 ne h1 h2 h3 => by
    rcases get_set_some h1 with ⟨_, _, e2⟩ | ⟨e, h1⟩
    · cases e2
    · rcases get_set_some h2 with ⟨_, _, e2⟩ | ⟨e', h2⟩
      · cases e2
      · rw [List.getElem?_set_ne (Ne.symm e)] at h3
        rw [List.getElem?_set_ne (Ne.symm e')]
        exact o.dis j k b t t' d1 d2 ne h1 h2 h3
/-- a name is forgotten -/
theorem Ok.forget (o : Ok K H0 A0 A ρ σ H) (i : Nat) : Ok K H0 A0 A (ρ.set i none) σ H where
  len := by rw [List.length_set]; exact o.len
  ext := o.ext
  sub := o.sub
  new := o.new
  kp := o.kp
  slot := fun j s h => by
    rcases get_set_some h with ⟨_, _, e2⟩ | ⟨e, h⟩
    · cases e2
    · exact o.slot j s h
  dis := fun j k b t t' d1 d2 ne h1 h2 h3 => by
    rcases get_set_some h1 with ⟨_, _, e2⟩ | ⟨e, h1⟩
    · cases e2
    · rcases get_set_some h2 with ⟨_, _, e2⟩ | ⟨e', h2⟩
      · cases e2
      · exact o.dis j k b t t' d1 d2 ne h1 h2 h3
/-- a name gets an object that it alone holds -/
theorem Ok.setOwn (o : Ok K H0 A0 A ρ σ H) (s : Same H H') (i : Nat) (n : H a = none) (r : ORep K H' (a :: A) a t d) : Ok K H0 A0 (a :: A) (ρ.set i (some (.own t d))) (σ.set i (some (.ref a))) H' := by
  have u : Tr A H (a :: A) H' := ⟨fun b x h _ => s b x h, fun b hb => by
    rcases List.mem_cons.mp hb with rfl | hb
    · exact .inr n
    · exact .inl hb⟩
  have n0 : H0 a = none := o.ext.free n
  have old : ∀ (j : Nat) (t' : Bool) (d' : D), ρ[j]? = some (some (.own t' d')) → σ[j]? ≠ some (some (.ref a)) := fun j t' d' h z => by
    obtain ⟨v', h1, b, e, hb, _, _⟩ := o.slot j _ h
    rw [h1] at z
    cases z
    cases e
    exact o.has _ hb n
  exact {
    len := by rw [List.length_set, List.length_set]; exact o.len
    ext := o.ext.trans s
    sub := fun b hb => List.mem_cons_of_mem _ (o.sub b hb)
    new := fun b hb => by
      rcases List.mem_cons.mp hb with rfl | hb
      · exact .inr n0
      · exact o.new b hb
    kp := fun b hb => by
      rcases List.mem_cons.mp hb with rfl | hb
      · exact r.kp
      · exact (o.kp b hb).same s
    slot := fun j x h => by
      rcases get_set_some h with ⟨e, hl, e2⟩ | ⟨e, h⟩
      · subst e
        cases e2
        exact ⟨.ref a, by rw [List.getElem?_set_self (by rw [o.len]; exact hl)], a, rfl, List.mem_cons_self, ⟨n0, fun z => o.has a (o.sub a z) n⟩, r⟩
      · obtain ⟨v', h1, h2⟩ := o.slot j x h
        exact ⟨v', by rw [List.getElem?_set_ne (Ne.symm e)]; exact h1, h2.tr s u fun b hb => List.mem_cons_of_mem _ hb⟩
    dis := fun j k b t1 t2 d1 d2 ne h1 h2 h3 => by
      rcases get_set_some h1 with ⟨e, hl, e2⟩ | ⟨e, h1⟩
      · subst e
        rw [List.getElem?_set_self (by rw [o.len]; exact hl)] at h3
        cases h3
        rcases get_set_some h2 with ⟨e', _, _⟩ | ⟨e', h2⟩
        · exact absurd e'.symm ne
        · rw [List.getElem?_set_ne (Ne.symm e')]
          exact old k t2 d2 h2
      · rw [List.getElem?_set_ne (Ne.symm e)] at h3
        rcases get_set_some h2 with ⟨e', hl, _⟩ | ⟨e', h2⟩
        · rw [e', List.getElem?_set_self (by rw [o.len]; exact hl)]
          intro z
          cases z
          exact old j t1 d1 h1 h3
        · rw [List.getElem?_set_ne (Ne.symm e')]
          exact o.dis j k b t1 t2 d1 d2 ne h1 h2 h3 }
/-- the object that a name alone holds is changed -/
theorem Ok.mut {x : HO} {d' : D} (o : Ok K H0 A0 A ρ σ H) (h : ρ[i]? = some (some (.own t d))) (hv : σ[i]? = some (some (.ref a))) (r : ORep K (upd H a x) A a t d') :
    Ok K H0 A0 A (ρ.set i (some (.own t d'))) σ (upd H a x) ∧ Tr A H A (upd H a x) := by
  obtain ⟨v', h1, b, e, hb, n0, r0⟩ := o.slot i _ h
  rw [hv] at h1
  cases h1
  cases e
  have u : Tr A H A (upd H a x) := ⟨fun c y q n => by rw [upd_ne (show c ≠ a from fun z => n (by rw [z]; exact hb))]; exact q, fun c hc => .inl hc⟩
  refine ⟨⟨by rw [List.length_set]; exact o.len, fun c y q => ?_, o.sub, o.new, fun c hc => ?_, fun j s q => ?_, fun j k c t1 t2 d1 d2 ne q1 q2 q3 => ?_⟩, u⟩
  · rw [upd_ne (show c ≠ a from fun z => by rw [z, n0.1] at q; cases q)]
    exact o.ext c y q
  · by_cases e : c = a
    · subst e; exact r.kp
    · have := o.kp c hc
      unfold Kp at this ⊢
      rw [upd_ne e]
      exact this
  · rcases get_set_some q with ⟨e, _, e2⟩ | ⟨e, q⟩
    · subst e
      cases e2
      exact ⟨_, hv, a, rfl, hb, n0, r⟩
    · obtain ⟨v', h1, h2⟩ := o.slot j s q
      refine ⟨v', h1, ?_⟩
      cases s with
      | v d1 => exact Rep.tr u h2
      | own t1 d1 =>
        obtain ⟨c, e1, hc, nc, rc⟩ := h2
        subst e1
        exact ⟨c, rfl, hc, nc, rc.other (fun z => by
          subst z
          exact o.dis i j c t t1 d d1 (Ne.symm e) h q hv h1) hb⟩
      | er _ _ => exact trivial
      | sc ns =>
        obtain ⟨c, e1, h3⟩ := h2
        exact ⟨c, e1, h3.tr u⟩
  · rcases get_set_some q1 with ⟨e, hl, e2⟩ | ⟨e, q1⟩
    · subst e
      rcases get_set_some q2 with ⟨e', _, _⟩ | ⟨e', q2⟩
      · exact absurd e'.symm ne
      · exact o.dis j k c t t2 d d2 ne h q2 q3
    · rcases get_set_some q2 with ⟨e', _, _⟩ | ⟨e', q2⟩
      · rw [e']
        exact o.dis j i c t1 t d1 d e q1 h q3
      · exact o.dis j k c t1 t2 d1 d2 ne q1 q2 q3
/-- a name's object is let go: shared data from now on -/
def frz (i : Nat) (ρ : En) : En := match ρ[i]? with
  | some (some (.own _ d)) => ρ.set i (some (.v d))
  | _ => ρ
theorem Ok.frz (o : Ok K H0 A0 A ρ σ H) (i : Nat) : ∃ A', Ok K H0 A0 A' (frz i ρ) σ H ∧ Tr A H A' H := by
  unfold G.frz
  split
  · rename_i t d h
    obtain ⟨v, h1, a, e, ha, n0, r⟩ := o.slot i _ h
    subst e
    have hs : ∀ b ∈ A.filter (fun b => decide (b ≠ a)), b ∈ A := fun b hb => (List.mem_filter.mp hb).1
    have hna : a ∉ A.filter (fun b => decide (b ≠ a)) := fun hb => by simpa using (List.mem_filter.mp hb).2
    refine ⟨A.filter fun b => decide (b ≠ a), ⟨by rw [List.length_set]; exact o.len, o.ext, fun b hb => ?_, fun b hb => o.new b (hs b hb), fun b hb => o.kp b (hs b hb), fun j s q => ?_, fun j k c t1 t2 d1 d2 ne q1 q2 q3 => ?_⟩, Tr.sub hs⟩
    · refine List.mem_filter.mpr ⟨o.sub b hb, decide_eq_true fun z => ?_⟩
      subst z
      exact n0.2 hb
    · rcases get_set_some q with ⟨e, _, e2⟩ | ⟨e, q⟩
      · subst e
        cases e2
        exact ⟨_, h1, r.free hna hs⟩
      · obtain ⟨v', g1, g2⟩ := o.slot j s q
        refine ⟨v', g1, ?_⟩
        cases s with
        | v d1 => exact Rep.sub hs g2
        | own t1 d1 =>
          obtain ⟨c, e1, hc, nc, rc⟩ := g2
          subst e1
          exact ⟨c, rfl, List.mem_filter.mpr ⟨hc, decide_eq_true fun z => by
            subst z
            exact o.dis i j c t t1 d d1 (Ne.symm e) h q h1 g1⟩, nc, rc.sub hs⟩
        | er _ _ => exact trivial
        | sc ns =>
          obtain ⟨c, e1, h3⟩ := g2
          exact ⟨c, e1, h3.tr (Tr.sub hs)⟩
    · rcases get_set_some q1 with ⟨_, _, e2⟩ | ⟨_, q1⟩
      · cases e2
      · rcases get_set_some q2 with ⟨_, _, e2⟩ | ⟨_, q2⟩
        · cases e2
        · exact o.dis j k c t1 t2 d1 d2 ne q1 q2 q3
  · exact ⟨A, o, Tr.refl A H⟩
/-- all objects are let go -/
def letGo : Option Sl → Option Sl
  | some (.own _ d) => some (.v d)
  | s => s
def disown (ρ : En) : En := ρ.map letGo
theorem Ok.disown (o : Ok K H0 A0 A ρ σ H) : Ok K H0 A0 A0 (disown ρ) σ H where
  len := by unfold G.disown; rw [List.length_map]; exact o.len
  ext := o.ext
  sub := fun _ h => h
  new := fun _ h => .inl h
  kp := fun a h => o.kp a (o.sub a h)
  slot := fun j s h => by
    unfold G.disown at h
    rw [List.getElem?_map] at h
    obtain ⟨x, h1, h2⟩ := Option.map_eq_some_iff.mp h
    cases x with
    | none => cases h2
    | some x =>
      obtain ⟨v, g1, g2⟩ := o.slot j x h1
      refine ⟨v, g1, ?_⟩
      cases x with
      | v d => cases h2; exact Rep.sub o.sub g2
      | own t d =>
        cases h2
        obtain ⟨a, e, ha, n0, r⟩ := g2
        subst e
        exact r.free n0.2 o.sub
      | er c n => cases h2; exact trivial
      | sc ns =>
        cases h2
        obtain ⟨c, e1, h3⟩ := g2
        exact ⟨c, e1, h3.tr (Tr.sub o.sub)⟩
  dis := fun j k c t1 t2 d1 d2 ne q1 q2 q3 => by
    unfold G.disown at q1
    rw [List.getElem?_map] at q1
    obtain ⟨x, h1, h2⟩ := Option.map_eq_some_iff.mp q1
    cases x with
    | none => cases h2
    | some x => cases x <;> cases h2
theorem flat_rep {w : V} : ∀ {d : D}, Rep K H A w d → (match d with | .list _ => false | .tuple _ => false | .dict _ => false | _ => true) = true → Rep K H A' w d
  | .none, .non, _ => .non
  | .bool _, .bl b, _ => .bl b
  | .int _, .int b, _ => .int b
  | .str _, .str b, _ => .str b
end

/-- the same but at the places ix -/
def Agree (ix : List Nat) (σ σ' : St) : Prop := σ'.length = σ.length ∧ ∀ j, j ∉ ix → σ'[j]? = σ[j]?
/-- names of a block forgotten -/
def wipeE (ρ : En) : List Nat → En
  | [] => ρ
  | v :: vs => (wipeE ρ vs).set v none
theorem wipe_out {σ : St} {i : Nat} : ∀ {vs : List Nat}, i ∉ vs → (wipe σ vs)[i]? = σ[i]?
  | [], _ => rfl
  | v :: vs, h => by
    unfold wipe
    rw [List.getElem?_set_ne (fun z => h (by simp [z])), wipe_out fun z => h (List.mem_cons_of_mem _ z)]
theorem wipe_in {σ : St} {i : Nat} : ∀ {vs : List Nat}, i ∈ vs → (wipe σ vs)[i]? = if i < σ.length then some none else none
  | v :: vs, h => by
    unfold wipe
    by_cases e : v = i
    · subst e
      by_cases hl : v < σ.length
      · rw [List.getElem?_set_self (by rw [wipe_length]; exact hl), if_pos hl]
      · rw [List.getElem?_eq_none (by rw [List.length_set, wipe_length]; omega), if_neg hl]
    · rw [List.getElem?_set_ne e]
      rcases List.mem_cons.mp h with z | z
      · exact absurd z.symm e
      · exact wipe_in z
theorem wipe_agree {ix vs : List Nat} {σ σ' : St} (h : ∀ i ∈ ix, i ∈ vs) (a : Agree ix σ σ') : wipe σ' vs = wipe σ vs := by
  refine List.ext_getElem? fun i => ?_
  by_cases e : i ∈ vs
  · rw [wipe_in e, wipe_in e, a.1]
  · rw [wipe_out e, wipe_out e]
    exact a.2 i fun z => e (h i z)
theorem wipe_wipe {vs : List Nat} {σ : St} : wipe (wipe σ vs) vs = wipe σ vs := by
  refine List.ext_getElem? fun i => ?_
  by_cases e : i ∈ vs
  · rw [wipe_in e, wipe_in e, wipe_length]
  · rw [wipe_out e, wipe_out e]
theorem wipeE_length (ρ : En) : ∀ vs : List Nat, (wipeE ρ vs).length = ρ.length
  | [] => rfl
  | v :: vs => by unfold wipeE; rw [List.length_set, wipeE_length ρ vs]
theorem Ok.wipe {K : Frg} {H0 H : Hp} {A0 A : List Addr} {ρ : En} {σ : St} (o : Ok K H0 A0 A ρ σ H) : ∀ vs : List Nat, Ok K H0 A0 A (wipeE ρ vs) (L2.wipe σ vs) H
  | [] => o
  | v :: vs => by
    have p := (o.wipe vs).forget v
    refine ⟨by rw [L2.wipe_length, wipeE_length]; exact o.len, o.ext, o.sub, o.new, o.kp, fun i s h => ?_, fun i j a t t' d d' ne h1 h2 h3 => ?_⟩
    · have h' : ((wipeE ρ vs).set v none)[i]? = some (some s) := h
      obtain ⟨x, h1, h2⟩ := p.slot i s h'
      refine ⟨x, ?_, h2⟩
      unfold L2.wipe
      rcases get_set_some h' with ⟨_, _, e⟩ | ⟨e, _⟩
      · cases e
      · rw [List.getElem?_set_ne (Ne.symm e)]; exact h1
    · have h1' : ((wipeE ρ vs).set v none)[i]? = some (some (.own t d)) := h1
      have h2' : ((wipeE ρ vs).set v none)[j]? = some (some (.own t' d')) := h2
      have hi : i ≠ v := by
        rcases get_set_some h1' with ⟨_, _, e⟩ | ⟨e, _⟩
        · cases e
        · exact e
      have hj : j ≠ v := by
        rcases get_set_some h2' with ⟨_, _, e⟩ | ⟨e, _⟩
        · cases e
        · exact e
      unfold L2.wipe at h3 ⊢
      rw [List.getElem?_set_ne (Ne.symm hi)] at h3
      rw [List.getElem?_set_ne (Ne.symm hj)]
      exact p.dis i j a t t' d d' ne h1' h2' h3
/-- one more object that is ours alone, kept for what is around -/
theorem Ok.grow {K : Frg} {H0 H H' : Hp} {A0 A : List Addr} {ρ : En} {σ : St} {l : Addr} (o : Ok K H0 A0 A ρ σ H) (s : Same H H') (n : H l = none) (y : Kp H' l) : Ok K H0 (l :: A0) (l :: A) ρ σ H' := by
  have u : Tr A H (l :: A) H' := ⟨fun b x h _ => s b x h, fun b hb => by
    rcases List.mem_cons.mp hb with rfl | hb
    · exact .inr n
    · exact .inl hb⟩
  refine ⟨o.len, o.ext.trans s, fun b hb => ?_, fun b hb => ?_, fun b hb => ?_, fun i x h => ?_, o.dis⟩
  · rcases List.mem_cons.mp hb with rfl | hb
    · exact List.mem_cons_self
    · exact List.mem_cons_of_mem _ (o.sub b hb)
  · rcases List.mem_cons.mp hb with rfl | hb
    · exact .inl List.mem_cons_self
    · rcases o.new b hb with h | h
      · exact .inl (List.mem_cons_of_mem _ h)
      · exact .inr h
  · rcases List.mem_cons.mp hb with rfl | hb
    · exact y
    · exact (o.kp b hb).same s
  · obtain ⟨v, h1, h2⟩ := o.slot i x h
    refine ⟨v, h1, ?_⟩
    cases x with
    | v d => exact Rep.tr u h2
    | er c n => exact trivial
    | sc ns =>
      obtain ⟨c, e1, h3⟩ := h2
      exact ⟨c, e1, h3.tr u⟩
    | own t d =>
      obtain ⟨a, e, ha, n0, r⟩ := h2
      exact ⟨a, e, List.mem_cons_of_mem _ ha, ⟨n0.1, fun z => by
        rcases List.mem_cons.mp z with z | z
        · exact o.has a ha (by rw [z]; exact n)
        · exact n0.2 z⟩, r.tr s u⟩
/-- what is kept for what is around is changed -/
theorem Ok.touch {K : Frg} {H0 H : Hp} {A0 A : List Addr} {ρ : En} {σ : St} {l : Addr} {x : HO} (o : Ok K H0 A0 A ρ σ H) (hl : l ∈ A0) (n : H0 l = none) (hx : ∀ xs, x ≠ .tup xs := by intro _ z; cases z) : Ok K H0 A0 A ρ σ (upd H l x) := by
  have hA := o.sub l hl
  refine ⟨o.len, fun c y q => ?_, o.sub, o.new, fun b hb => ?_, fun i s h => ?_, o.dis⟩
  · rw [upd_ne (show c ≠ l from fun z => by rw [z, n] at q; cases q)]
    exact o.ext c y q
  · by_cases e : b = l
    · subst e; exact .of upd_same hx
    · have := o.kp b hb
      unfold Kp at this ⊢
      rw [upd_ne e]
      exact this
  · obtain ⟨v, h1, h2⟩ := o.slot i s h
    refine ⟨v, h1, ?_⟩
    cases s with
    | v d => exact Rep.tr (Tr.write hA) h2
    | er c n => exact trivial
    | sc ns =>
      obtain ⟨c, e1, h3⟩ := h2
      exact ⟨c, e1, h3.tr (Tr.write hA)⟩
    | own t d =>
      obtain ⟨a, e, ha, n0, r⟩ := h2
      exact ⟨a, e, ha, n0, r.other (fun z => n0.2 (by rw [z]; exact hl)) hA⟩

/-! ### what follows a piece -/
def SR.of {α : Type} (r : R α) (ρ : En) (k : α → SR) : SR := match r with
  | .ok a => k a
  | .ex c n => .ex c n ρ
  | .no => .no
@[simp] theorem SR.of_ok {α : Type} (a : α) (ρ : En) (k : α → SR) : SR.of (.ok a) ρ k = k a := rfl
@[simp] theorem SR.of_ex {α : Type} (c : String) (n : Int) (ρ : En) (k : α → SR) : SR.of (.ex c n : R α) ρ k = .ex c n ρ := rfl
@[simp] theorem SR.of_no {α : Type} (ρ : En) (k : α → SR) : SR.of (.no : R α) ρ k = .no := rfl
section
variable {K : Frg} {mg : MgT} {W : WX} {H0 H H1 : Hp} {A0 A A1 : List Addr} {E : Ends} {ρ : En} {σ : St}
theorem PostS.tr {r : SR} (h : PostS K mg W H0 A0 A H E r) (u : Tr A H A1 H1) : PostS K mg W H0 A0 A1 H1 E r := by
  cases r with
  | nx ρ' => exact fun σ' H' A' o t => h σ' H' A' o (u.trans t)
  | rt d => exact h
  | bk ρ' => exact fun σ' H' A' o t => h σ' H' A' o (u.trans t)
  | ct ρ' => exact fun σ' H' A' o t => h σ' H' A' o (u.trans t)
  | ex c n ρ' => exact fun u' p σ' H' A' o t => h u' p σ' H' A' o (u.trans t)
  | no => exact h
theorem PostS.same {r : SR} (h : PostS K mg W H0 A0 A H E r) (s : Same H H1) : PostS K mg W H0 A0 A H1 E r := h.tr (Tr.same s)
theorem PostS.of {α : Type} {r : R α} {k : α → SR} (o : Ok K H0 A0 A ρ σ H) (h : PostS K mg W H0 A0 A H E (SR.of r ρ k)) : Post mg W σ H (fun a _ => PostS K mg W H0 A0 A H E (k a)) r := by
  cases r with
  | ok a => exact fun H1 s => h
  | ex c n => exact fun u p H1 s f e => h u p σ H1 A (o.same s) (Tr.same s) ⟨o.ext.free f, fun y => o.has p (o.sub p y) f⟩ e
  | no => exact h
/-- the end of a piece replaced -/
theorem PostS.seq {r : SR} {g2 : En → SR} (h : PostS K mg W H0 A0 A H E (match r with | .nx ρ' => g2 ρ' | r => r)) : PostS K mg W H0 A0 A H { E with nx := tFS K mg W g2 E } r := by
  cases r with
  | nx ρ' => exact fun σ' H' A' o t => ⟨H0, A0, A', ρ', o, PostS.tr (r := g2 ρ') h t⟩
  | rt d => exact h
  | bk ρ' => exact h
  | ct ρ' => exact h
  | ex c n ρ' => exact h
  | no => exact h
end

/-! ### statements -/
def sNext : En → SR := fun ρ => .nx ρ
def sSeq (g1 g2 : En → SR) : En → SR := fun ρ => match g1 ρ with
  | .nx ρ' => g2 ρ'
  | r => r
def sExpr (f : En → R D) : En → SR := fun ρ => .of (f ρ) ρ fun _ => .nx ρ
def sRet (f : En → R D) : En → SR := fun ρ => .of (f (disown ρ)) (disown ρ) .rt
def sRetN : En → SR := fun ρ => .rt .none
def sIf (p : En → R Bool) (g1 g2 : En → SR) : En → SR := fun ρ => .of (p ρ) ρ fun b => if b = true then g1 ρ else g2 ρ
def sSet (i : Nat) (f : En → R D) : En → SR := fun ρ => .of (f ρ) ρ fun d => .nx (ρ.set i (some (.v d)))
def sSetN (i : Nat) (t : Bool) (f : En → R D) : En → SR := fun ρ => .of (f ρ) ρ fun d => .nx (ρ.set i (some (.own t d)))
def sFrz (i : Nat) (g : En → SR) : En → SR := fun ρ => g (frz i ρ)
section
variable {X : Cx} {W : WX} {e a b c : Expr} {f h : En → R D} {p : En → R Bool} {g g1 g2 : En → SR} {st : Stmt} {rest s1 s2 : List Stmt} {pos pos' : Pos} {x : Str} {i : Nat} {t : Bool}
theorem fss_nil : FSs X W [] sNext := impSs pss_nil fun D σ H ⟨H0, A0, A, ρ, o, P⟩ => P σ H A o (Tr.refl A H)
theorem fss_cons (h1 : FS X W st g1) (h2 : FSs X W rest g2) : FSs X W (st :: rest) (sSeq g1 g2) := impSs (pss_cons h1 h2) fun D σ H ⟨H0, A0, A, ρ, o, P⟩ => ⟨H0, A0, A, ρ, o, PostS.seq P⟩
theorem fss_one (h1 : FS X W st g1) : FSs X W [st] g1 := pss_one h1
theorem fs_pass : FS X W (.Pass pos) sNext := impS ps_pass fun D σ H ⟨H0, A0, A, ρ, o, P⟩ => P σ H A o (Tr.refl A H)
theorem fs_doc {z : Str} {j : Nat} : FS X W (.Expr (.Constant (.str z) j pos) pos') sNext := impS ps_doc fun D σ H ⟨H0, A0, A, ρ, o, P⟩ => P σ H A o (Tr.refl A H)
theorem fs_break : FS X W (.Break pos) (fun ρ => .bk ρ) := impS ps_break fun D σ H ⟨H0, A0, A, ρ, o, P⟩ => P σ H A o (Tr.refl A H)
theorem fs_continue : FS X W (.Continue pos) (fun ρ => .ct ρ) := impS ps_continue fun D σ H ⟨H0, A0, A, ρ, o, P⟩ => P σ H A o (Tr.refl A H)
theorem fs_expr (he : FE X W e f) (hs : swapsWith e none pos.line X.env = pure false := by rfl) : FS X W (.Expr e pos) (sExpr f) := impS (ps_expr he hs) fun D σ H ⟨H0, A0, A, ρ, o, P⟩ =>
  ⟨H0, A0, A, ρ, o, (P.of o).mono fun d H1 s1 P1 v _ => P1 σ H1 A (o.same s1) (Tr.same s1)⟩
theorem fs_ret (he : FE X W e f) : FS X W (.Return (some e) pos) (sRet f) := impS (ps_ret he) fun D σ H ⟨H0, A0, A, ρ, o, P⟩ => by
  have P' : PostS X.K X.mg W H0 A0 A0 H D (SR.of (f (disown ρ)) (disown ρ) .rt) := PostS.tr (r := sRet f ρ) P (Tr.sub o.sub)
  exact ⟨H0, A0, A0, disown ρ, o.disown, (P'.of o.disown).mono fun d H1 s1 P1 v r => P1 v H1 (o.ext.trans s1) r⟩
theorem fs_retN : FS X W (.Return none pos) sRetN := impS ps_retN fun D σ H ⟨H0, A0, A, ρ, o, P⟩ => P _ H o.ext .non
theorem fs_if (hc : FT X W c p) (ha : FSs X W s1 g1) (hb : FSs X W s2 g2) : FS X W (.If c s1 s2 pos) (sIf p g1 g2) := impS (ps_if hc ha hb) fun D σ H ⟨H0, A0, A, ρ, o, P⟩ => by
  refine ⟨H0, A0, A, ρ, o, (P.of o).mono fun b H1 s1 P1 => ?_⟩
  cases b with
  | true => exact ⟨H0, A0, A, ρ, o.same s1, PostS.same (r := g1 ρ) P1 s1⟩
  | false => exact ⟨H0, A0, A, ρ, o.same s1, PostS.same (r := g2 ρ) P1 s1⟩
theorem fs_set (hN : X.N.Nodup) (hi : X.N[i]? = some x) (hx : Loc X.env.scope x) (he : FE X W e f) (hs : swapsWith e (some (.Name x pos')) pos.line X.env = pure false := by rfl) (hf : X.fn x = true ∨ X.env.scope.names.lookup x = some .local := by first | exact .inl rfl | exact .inr rfl | assumption) :
    FS X W (.Assign [.Name x pos'] e pos) (sSet i f) := impS (ps_set hN hi hx he hs hf) fun D σ H ⟨H0, A0, A, ρ, o, P⟩ =>
  ⟨H0, A0, A, ρ, o, (P.of o).mono fun d H1 s1 P1 v r => P1 _ H1 A ((o.same s1).set i r) (Tr.same s1)⟩
theorem fs_setN (hN : X.N.Nodup) (hi : X.N[i]? = some x) (hx : Loc X.env.scope x) (he : FN X W t e f) (hs : swapsWith e (some (.Name x pos')) pos.line X.env = pure false := by rfl) (hf : X.fn x = true ∨ X.env.scope.names.lookup x = some .local := by first | exact .inl rfl | exact .inr rfl | assumption) :
    FS X W (.Assign [.Name x pos'] e pos) (sSetN i t f) := impS (ps_set hN hi hx he hs hf) fun D σ H ⟨H0, A0, A, ρ, o, P⟩ =>
  ⟨H0, A0, A, ρ, o, (P.of o).mono fun d H1 s1 P1 v ⟨a, e, n, r⟩ => by
    subst e
    exact P1 _ H1 (a :: A) (o.setOwn s1 i n r) ⟨fun b x h _ => s1 b x h, fun b hb => by
      rcases List.mem_cons.mp hb with rfl | hb
      · exact .inr n
      · exact .inl hb⟩⟩
theorem fs_frz (i : Nat) (hs : FS X W st g) : FS X W st (sFrz i g) := impS hs fun D σ H ⟨H0, A0, A, ρ, o, P⟩ => by
  obtain ⟨A', o', u⟩ := o.frz i
  exact ⟨H0, A0, A', _, o', PostS.tr (r := g (frz i ρ)) P u⟩
theorem fss_frz (i : Nat) (hs : FSs X W s1 g) : FSs X W s1 (sFrz i g) := impSs hs fun D σ H ⟨H0, A0, A, ρ, o, P⟩ => by
  obtain ⟨A', o', u⟩ := o.frz i
  exact ⟨H0, A0, A', _, o', PostS.tr (r := g (frz i ρ)) P u⟩
/-- a call that hands back nothing that could hold what it was handed -/
def flatD : D → Bool
  | .list _ => false
  | .tuple _ => false
  | .dict _ => false
  | _ => true
def cFlat (f : En → R D) : En → R D := fun ρ => (f (disown ρ)).bind fun d => if flatD d = true then .ok d else .no
theorem fe_flat (he : FE X W e f) : FE X W e (cFlat f) := impE he fun σ H Q ⟨H0, A0, A, ρ, o, P⟩ => by
  refine ⟨H0, A0, A0, disown ρ, o.disown, P.bind.mono fun d H1 s1 P1 v r => ?_⟩
  split at P1
  · rename_i hf
    exact P1 H1 (Same.refl _) v (flat_rep r hf)
  · exact P1.elim

/-! ### targets -/
abbrev TgF := D → En → Option En
def tFG (K : Frg) (ix : List Nat) (t : TgF) : TG := fun v σ H Q => ∃ H0 A0 A ρ d ρ', Ok K H0 A0 A ρ σ H ∧ Rep K H A v d ∧ t d ρ = some ρ' ∧ ∀ σ', Ok K H0 A0 A ρ' σ' H → Agree ix σ σ' → Q σ' H
abbrev FG (X : Cx) (tg : Expr) (ix : List Nat) (t : TgF) : Prop := PG X tg (tFG X.K ix t)
def tFGs (K : Frg) (ix : List Nat) (t : List D → En → Option En) : TGs := fun vs σ H Q => ∃ H0 A0 A ρ ds ρ', Ok K H0 A0 A ρ σ H ∧ RepL K H A vs ds ∧ t ds ρ = some ρ' ∧ ∀ σ', Ok K H0 A0 A ρ' σ' H → Agree ix σ σ' → Q σ' H
abbrev FGs (X : Cx) (tg : List Expr) (ix : List Nat) (t : List D → En → Option En) : Prop := PGs X tg (tFGs X.K ix t)
theorem impG {e : Expr} {t t' : TG} (h : PG X e t) (i : ∀ v σ H Q, t' v σ H Q → t v σ H Q) : PG X e t' := ⟨fun pins s σ H v u Q I r q => h.run pins s σ H v u Q I r (i _ _ _ _ q)⟩
theorem impGs {e : List Expr} {t t' : TGs} (h : PGs X e t) (i : ∀ v σ H Q, t' v σ H Q → t v σ H Q) : PGs X e t' := ⟨fun pins s σ H v u Q I r q => h.run pins s σ H v u Q I r (i _ _ _ _ q)⟩
def gN (i : Nat) : TgF := fun d ρ => some (ρ.set i (some (.v d)))
def gT (t : List D → En → Option En) : TgF := fun d ρ => match d with
  | .tuple ds => t ds ρ
  | _ => none
def gE : List D → En → Option En := fun ds ρ => match ds with
  | [] => some ρ
  | _ => none
def gC (t : TgF) (u : List D → En → Option En) : List D → En → Option En := fun ds ρ => match ds with
  | d :: ds => (t d ρ).bind (u ds)
  | [] => none
theorem fg_name (hN : X.N.Nodup) (hi : X.N[i]? = some x) (hx : Loc X.env.scope x) (hf : X.fn x = true ∨ X.env.scope.names.lookup x = some .local := by first | exact .inl rfl | exact .inr rfl | assumption) : FG X (.Name x pos) [i] (gN i) :=
  impG (pg_name hN hi hx hf) fun v σ H Q ⟨H0, A0, A, ρ, d, ρ', o, r, e, q⟩ => by
    cases e
    exact q _ (o.set i r) ⟨List.length_set, fun j hj => List.getElem?_set_ne (fun z => hj (by simp [z]))⟩
theorem fgs_nil : FGs X [] [] gE := impGs pgs_nil fun vs σ H Q ⟨H0, A0, A, ρ, ds, ρ', o, r, e, q⟩ => by
  cases r with
  | nil => cases e; exact ⟨rfl, q _ o ⟨rfl, fun _ _ => rfl⟩⟩
  | cons _ _ => cases e
theorem fgs_cons {es : List Expr} {ix1 ix2 : List Nat} {tg : TgF} {tgs : List D → En → Option En} (h1 : FG X e ix1 tg) (h2 : FGs X es ix2 tgs)
    (hs : (assignEach (e :: es) X.env).map (·.2) = assign e X.env :: (assignEach es X.env).map (·.2) := by rfl) : FGs X (e :: es) (ix1 ++ ix2) (gC tg tgs) := impGs (pgs_cons h1 h2 hs) fun vs σ H Q ⟨H0, A0, A, ρ, ds, ρ', o, r, e, q⟩ => by
  cases r with
  | nil => cases e
  | cons a t =>
    obtain ⟨ρ1, e1, e2⟩ := Option.bind_eq_some_iff.mp (show (tg _ ρ).bind (tgs _) = some ρ' from e)
    exact ⟨_, _, rfl, H0, A0, A, ρ, _, ρ1, o, a, e1, fun σ1 o1 g1 => ⟨H0, A0, A, ρ1, _, ρ', o1, t, e2, fun σ2 o2 g2 => q σ2 o2 ⟨g2.1.trans g1.1, fun j hj => (g2.2 j fun z => hj (List.mem_append_right _ z)).trans (g1.2 j fun z => hj (List.mem_append_left _ z))⟩⟩⟩
theorem fg_tup {es : List Expr} {k n : Nat} {ix : List Nat} {tgs : List D → En → Option En} (hc : X.calm = true) (hg : FGs X es ix tgs) (hl : ∀ ds ρ ρ', tgs ds ρ = some ρ' → ds.length = n)
    (hn : (assignEach es X.env).length = n := by rfl) (hst : (assignEach es X.env).findIdx? (·.1) = none := by rfl) : FG X (.Tuple es k pos) ix (gT tgs) := impG (pg_tup hc hg hn hst) fun v σ H Q ⟨H0, A0, A, ρ, d, ρ', o, r, e, q⟩ => by
  unfold gT at e
  split at e
  · obtain ⟨a, vs, rfl, h1, r1⟩ := (RepB.of r).tup
    exact ⟨a, vs, rfl, h1, by rw [r1.length]; exact hl _ _ _ e, H0, A0, A, ρ, _, ρ', o, r1, e, q⟩
  · cases e
theorem gE_len {ds : List D} {ρ ρ' : En} (h : gE ds ρ = some ρ') : ds.length = 0 := by
  cases ds with
  | nil => rfl
  | cons _ _ => cases h
theorem gC_len {tg : TgF} {tgs : List D → En → Option En} {n : Nat} (h : ∀ ds ρ ρ', tgs ds ρ = some ρ' → ds.length = n) {ds : List D} {ρ ρ' : En} (q : gC tg tgs ds ρ = some ρ') : ds.length = n + 1 := by
  cases ds with
  | nil => cases q
  | cons d ds =>
    obtain ⟨ρ1, e1, e2⟩ := Option.bind_eq_some_iff.mp (show (tg d ρ).bind (tgs ds) = some ρ' from q)
    rw [List.length_cons, h _ _ _ e2]
/-- target = e -/
def sAsg (t : TgF) (f : En → R D) : En → SR := fun ρ => .of (f ρ) ρ fun d => match t d ρ with
  | some ρ' => .nx ρ'
  | none => .no
theorem fs_asg {tg : Expr} {ix : List Nat} {t : TgF} (he : FE X W e f) (hg : FG X tg ix t) (hs : swapsWithSole [tg] e pos.line X.env = pure false := by rfl) (hw : swappedStores [tg] e X.env = pure none := by rfl)
    (h1 : (assignEach [tg] X.env).map (·.2) = [assign tg X.env] := by rfl) : FS X W (.Assign [tg] e pos) (sAsg t f) := impS (ps_asg he hg hs hw h1) fun D σ H ⟨H0, A0, A, ρ, o, P⟩ => by
  refine ⟨H0, A0, A, ρ, o, (P.of o).mono fun d H1 s1 P1 v r => ?_⟩
  split at P1
  · rename_i ρ' e
    exact ⟨H0, A0, A, ρ, d, ρ', o.same s1, r, e, fun σ' o' _ => P1 σ' H1 A o' (Tr.same s1)⟩
  · exact P1.elim
/-- a, b = e1, e2: two plain local names -/
def sPar (i j : Nat) (l : En → R (List D)) : En → SR := fun ρ => .of (l ρ) ρ fun ds => match ds with
  | [d, d2] => .nx ((ρ.set i (some (.v d))).set j (some (.v d2)))
  | _ => .no
theorem fs_par {j : Nat} {y : Str} {px py pt : Pos} {kt k2 pt2} {l : En → R (List D)} (hc : X.calm = true) (hN : X.N.Nodup) (hi : X.N[i]? = some x) (hj : X.N[j]? = some y) (hij : i ≠ j)
    (hx : X.env.scope.names.lookup x = some .local) (hy : X.env.scope.names.lookup y = some .local) (ha : FA X W [a, b] l)
    (hw : swappedStores [.Tuple [.Name x px, .Name y py] kt pt] (.Tuple [a, b] k2 pt2) X.env = pure (some [x, y]))
    (hs : swapsWithSole [.Tuple [.Name x px, .Name y py] kt pt] (.Tuple [a, b] k2 pt2) pos.line X.env = pure false := by rfl) :
    FS X W (.Assign [.Tuple [.Name x px, .Name y py] kt pt] (.Tuple [a, b] k2 pt2) pos) (sPar i j l) := impS (ps_par hc hN hi hj hij hx hy ha hw hs) fun D σ H ⟨H0, A0, A, ρ, o, P⟩ => by
  refine ⟨H0, A0, A, ρ, o, (P.of o).mono fun ds H1 s1 P1 vs r => ?_⟩
  split at P1
  · cases r with
    | cons r1 t1 =>
      cases t1 with
      | cons r2 t2 =>
        cases t2
        exact ⟨_, _, rfl, P1 _ H1 A (((o.same s1).set i r1).set j r2) (Tr.same s1)⟩
  · exact P1.elim

/-! ### objects that the frame alone holds, changed -/
/-- the list that a name alone holds -/
def ownL (ρ : En) (i : Nat) : Option (Bool × List D) := match ρ[i]? with
  | some (some (.own t (.list ds))) => some (t, ds)
  | _ => none
def ownD (ρ : En) (i : Nat) : Option (Bool × List (D × D)) := match ρ[i]? with
  | some (some (.own t (.dict ds))) => some (t, ds)
  | _ => none
theorem ownL_some {ρ : En} {t : Bool} {ds : List D} (h : ownL ρ i = some (t, ds)) : ρ[i]? = some (some (.own t (.list ds))) := by
  unfold ownL at h
  split at h
  · rename_i e; cases h; exact e
  · cases h
theorem ownD_some {ρ : En} {t : Bool} {ds : List (D × D)} (h : ownD ρ i = some (t, ds)) : ρ[i]? = some (some (.own t (.dict ds))) := by
  unfold ownD at h
  split at h
  · rename_i e; cases h; exact e
  · cases h
def sAppend (i : Nat) (f : En → R D) : En → SR := fun ρ => match ownL ρ i with
  | some (t, ds) => .of (f ρ) ρ fun d => if ds.length < sizeLine then .nx (ρ.set i (some (.own t (.list (ds ++ [d]))))) else .no
  | none => .no
/-- x[k] = e on a list, in bounds -/
def sSetL (i : Nat) (fi f : En → R D) : En → SR := fun ρ => match ownL ρ i with
  | some (t, ds) => .of ((f ρ).bind fun d => (fi ρ).bind fun k => ofO ((toI k).bind fun k => (ixN ds.length k).map fun j => (j, d))) ρ fun q => .nx (ρ.set i (some (.own t (.list (ds.set q.1 q.2)))))
  | none => .no
/-- rows with one more, or one changed -/
def putD (p : D → Bool) (k v : D) (ds : List (D × D)) : List (D × D) :=
  if (ds.any fun kv => p kv.1) = true then ds.map (fun kv => if p kv.1 = true then (kv.1, v) else kv) else ds ++ [(k, v)]
def isK (k : Key) (d : D) : Bool := decide (keyD d = some k)
def isT (k : List Key) (d : D) : Bool := match d with
  | .tuple ds => decide (keysD ds = some k)
  | _ => false
def dPut (t : Bool) (ds : List (D × D)) (k v : D) : Option (List (D × D)) :=
  if ds.length < sizeLine then (match t, k with
    | false, k => (keyD k).map fun q => putD (isK q) k v ds
    | true, .tuple ks => ((keysD ks).bind fun q => if noZ q = true then some q else none).map fun q => putD (isT q) k v ds
    | _, _ => none) else none
/-- x[k] = e on a dict -/
def sSetD (i : Nat) (fi f : En → R D) : En → SR := fun ρ => match ownD ρ i with
  | some (t, ds) => .of ((f ρ).bind fun d => (fi ρ).bind fun k => ofO (dPut t ds k d)) ρ fun q => .nx (ρ.set i (some (.own t (.dict q))))
  | none => .no
end
end G

namespace G
open PySem PySem.Spec PyProof.Rows L2
section
variable {X : Cx} {W : WX} {e a b c o i e1 : Expr} {f fo fi : En → R D} {p : En → R Bool} {g g1 g2 : En → SR} {st : Stmt} {rest s1 s2 : List Stmt} {pos pos' p1 p2 p3 : Pos} {x : Str} {ix : Nat} {t : Bool}

/-! ### x.append(e), x[i] = e of objects that the frame alone holds -/
theorem fs_append {apos cpos : Pos} (hv : PE X (.Name x p1) (tVar ix)) (he : FE X W e f)
    (hbase : attributeBase (.Name x p1) "append" X.env (eval (.Name x p1) X.env) = eval (.Name x p1) X.env := by rfl)
    (hfew : ((backTo cpos (starEach (e :: []) X.env)).all (fun x => !x.1) && (backToKw cpos (keywordEach [] X.env)).all (fun x => x.1.isSome)
      && decide ((e :: []).length + ([] : List Keyword).length + (if ([] : List Keyword).isEmpty then 0 else 1) < 30)) = true := by rfl)
    (hline : (apos.endLine == cpos.line) = true := by rfl) (hs : starEach (e :: []) X.env = (false, eval e X.env) :: starEach [] X.env := by rfl) (hplain : (backTo cpos (starEach [] X.env)).any (·.1) = false := by rfl)
    (hsw : swapsWith (.Call (.Attribute (.Name x p1) "append" apos) [e] [] cpos) none pos.line X.env = pure false := by rfl) :
    FS X W (.Expr (.Call (.Attribute (.Name x p1) "append" apos) [e] [] cpos) pos) (sAppend ix f) := by
  refine impS (ps_expr (pe_bm PySem.F.plainAttrs_list PySem.F.slot_list_append PySem.F.type_list_append mt_append hv (pa_cons he pa_nil hs) hbase hfew hline hs hplain) hsw) fun Ee σ H ⟨H0, A0, A, ρ, ok, P⟩ => ?_
  unfold sAppend at P
  split at P
  · rename_i t ds hh
    have h := ownL_some hh
    obtain ⟨v, h1, l, e2, hl, n0, vs, h2, r⟩ := ok.slot ix _ h
    subst e2
    refine ⟨_, h1, Or.inl ⟨rfl, vs, SqL.of h2⟩, H0, A0, A, ρ, ok, (P.of ok).mono fun d H1 s1 P2 y hy => ?_⟩
    split at P2
    · rename_i hz
      refine ⟨l, vs, y, rfl, rfl, s1 _ _ h2, by rw [r.length]; exact hz, ?_⟩
      obtain ⟨o', u⟩ := (ok.same s1).mut (x := .lst (vs ++ [y])) (d' := .list (ds ++ [d])) h h1 ⟨_, upd_same, ((r.same s1).append (.one hy)).tr (Tr.write hl)⟩
      exact P2 _ _ A o' ((Tr.same s1).trans u)
    · exact P2.elim
  · exact P.elim
theorem PSet.or {t t' : TSet} (h : PSet X t) (h' : PSet X t') : PSet X (fun o i v H Q => t o i v H Q ∨ t' o i v H Q) := by
  intro pins s σ H o i v ov iv u Q I ro ri rv q
  rcases q with q | q
  · exact h pins s σ H o i v ov iv u Q I ro ri rv q
  · exact h' pins s σ H o i v ov iv u Q I ro ri rv q
theorem fs_setL (hv : PE X (.Name x p1) (tVar ix)) (hi : FE X W i fi) (he : FE X W e f)
    (ha : ∀ v, assign (.Subscript (.Name x p1) i p2) X.env v = (do
      let ov ← holding [v] (eval (.Name x p1) X.env)
      let iv ← holding [v, ov] (eval i X.env)
      standAt p2
      holding [v, ov, iv] (setItem ov iv v)
      release [v, ov, iv] []) := by intro _; rfl)
    (hs : swapsWithSole [.Subscript (.Name x p1) i p2] e pos.line X.env = pure false := by rfl) (hw : swappedStores [.Subscript (.Name x p1) i p2] e X.env = pure none := by rfl)
    (h1 : (assignEach [.Subscript (.Name x p1) i p2] X.env).map (·.2) = [assign (.Subscript (.Name x p1) i p2) X.env] := by rfl) :
    FS X W (.Assign [.Subscript (.Name x p1) i p2] e pos) (sSetL ix fi f) := by
  refine impS (ps_asg he (pg_sub hv hi set_list ha) hs hw h1) fun Ee σ H ⟨H0, A0, A, ρ, ok, P⟩ => ?_
  unfold sSetL at P
  split at P
  · rename_i t ds hh
    have h := ownL_some hh
    obtain ⟨v, h1, l, e2, hl, n0, vs, h2, r⟩ := ok.slot ix _ h
    subst e2
    refine ⟨H0, A0, A, ρ, ok, (P.of ok).bind.mono fun d H1 s1 P2 y hy => ⟨_, h1, H0, A0, A, ρ, ok.same s1, P2.bind.mono fun k H2 s2 P3 z hz => ?_⟩⟩
    obtain ⟨q, e3, P4⟩ := P3.ofO
    have P4 := P4 H2 (Same.refl _)
    obtain ⟨k', e4, e5⟩ := Option.bind_eq_some_iff.mp e3
    obtain ⟨j, e6, e7⟩ := Option.map_eq_some_iff.mp e5
    obtain rfl := toI_some e4
    subst e7
    refine ⟨l, vs, k', j, rfl, (RepB.of hz).int, s2 _ _ (s1 _ _ h2), by rw [r.length]; exact e6, ?_⟩
    obtain ⟨o', u⟩ := ((ok.same s1).same s2).mut (x := .lst (vs.set j y)) (d' := .list (ds.set j d)) h h1 ⟨_, upd_same, (RepL.set j ((r.same s1).same s2) (hy.same s2)).tr (Tr.write hl)⟩
    exact P4 _ _ A o' (((Tr.same s1).trans (Tr.same s2)).trans u)
  · exact P.elim
theorem any_repK {K : Frg} {H : Hp} {A : List Addr} {k : Key} : ∀ {kvs : List (Key × V)} {ds : List (D × D)}, RepK K H A kvs ds → (kvs.any fun kv => decide (kv.1 = k)) = (ds.any fun kv => isK k kv.1)
  | _, _, .nil => rfl
  | _, _, .cons (k := k') r t => by
    rw [List.any_cons, List.any_cons, any_repK t]
    congr 1
    show _ = decide (keyD (kD k') = some k)
    rw [keyD_kD]
    by_cases e : k' = k
    · subst e; simp
    · rw [decide_eq_false e, decide_eq_false (show ¬ some k' = some k from fun z => e (Option.some.inj z))]
theorem any_repT {K : Frg} {H : Hp} {A : List Addr} {k : List Key} : ∀ {kvs : List (List Key × V)} {ds : List (D × D)}, RepT K H A kvs ds → (kvs.any fun kv => decide (kv.1 = k)) = (ds.any fun kv => isT k kv.1)
  | _, _, .nil => rfl
  | _, _, .cons (k := k') r t => by
    rw [List.any_cons, List.any_cons, any_repT t]
    congr 1
    show _ = decide (keysD (k'.map kD) = some k)
    rw [keysD_map]
    by_cases e : k' = k
    · subst e; simp
    · rw [decide_eq_false e, decide_eq_false (show ¬ some k' = some k from fun z => e (Option.some.inj z))]
theorem map_repK {K : Frg} {H : Hp} {A : List Addr} {k : Key} {v : V} {d : D} (hv : Rep K H A v d) : ∀ {kvs : List (Key × V)} {ds : List (D × D)}, RepK K H A kvs ds → RepK K H A (kvs.map fun kv => if kv.1 = k then (kv.1, v) else kv) (ds.map fun kv => if isK k kv.1 = true then (kv.1, d) else kv)
  | _, _, .nil => .nil
  | _, _, .cons (k := k') r t => by
    rw [List.map_cons, List.map_cons]
    have e : isK k (kD k') = decide (k' = k) := by
      unfold isK
      rw [keyD_kD]
      by_cases e : k' = k
      · subst e; simp
      · rw [decide_eq_false e, decide_eq_false (show ¬ some k' = some k from fun z => e (Option.some.inj z))]
    by_cases q : k' = k
    · rw [if_pos (show k' = k from q), if_pos (show isK k (kD k') = true by rw [e]; exact decide_eq_true q)]
      exact .cons hv (map_repK hv t)
    · rw [if_neg (show ¬ k' = k from q), if_neg (show ¬ isK k (kD k') = true by rw [e]; simpa using q)]
      exact .cons r (map_repK hv t)
theorem map_repT {K : Frg} {H : Hp} {A : List Addr} {k : List Key} {v : V} {d : D} (hv : Rep K H A v d) : ∀ {kvs : List (List Key × V)} {ds : List (D × D)}, RepT K H A kvs ds → RepT K H A (kvs.map fun kv => if kv.1 = k then (kv.1, v) else kv) (ds.map fun kv => if isT k kv.1 = true then (kv.1, d) else kv)
  | _, _, .nil => .nil
  | _, _, .cons (k := k') r t => by
    rw [List.map_cons, List.map_cons]
    have e : isT k (.tuple (k'.map kD)) = decide (k' = k) := by
      show decide (keysD (k'.map kD) = some k) = _
      rw [keysD_map]
      by_cases e : k' = k
      · subst e; simp
      · rw [decide_eq_false e, decide_eq_false (show ¬ some k' = some k from fun z => e (Option.some.inj z))]
    by_cases q : k' = k
    · rw [if_pos (show k' = k from q), if_pos (show isT k (.tuple (k'.map kD)) = true by rw [e]; exact decide_eq_true q)]
      exact .cons hv (map_repT hv t)
    · rw [if_neg (show ¬ k' = k from q), if_neg (show ¬ isT k (.tuple (k'.map kD)) = true by rw [e]; simpa using q)]
      exact .cons r (map_repT hv t)
theorem RepK.append {K : Frg} {H : Hp} {A : List Addr} : ∀ {a b : List (Key × V)} {ds es : List (D × D)}, RepK K H A a ds → RepK K H A b es → RepK K H A (a ++ b) (ds ++ es)
  | _, _, _, _, .nil, s => s
  | _, _, _, _, .cons a t, s => .cons a (RepK.append t s)
theorem RepT.append {K : Frg} {H : Hp} {A : List Addr} : ∀ {a b : List (List Key × V)} {ds es : List (D × D)}, RepT K H A a ds → RepT K H A b es → RepT K H A (a ++ b) (ds ++ es)
  | _, _, _, _, .nil, s => s
  | _, _, _, _, .cons a t, s => .cons a (RepT.append t s)
theorem put_repK {K : Frg} {H : Hp} {A : List Addr} {k : Key} {v : V} {d : D} (hv : Rep K H A v d) {kvs : List (Key × V)} {ds : List (D × D)} (r : RepK K H A kvs ds) : RepK K H A (putK kvs k v) (putD (isK k) (kD k) d ds) := by
  unfold putK putD
  rw [any_repK r]
  split
  · exact map_repK hv r
  · exact r.append (.cons hv .nil)
theorem put_repT {K : Frg} {H : Hp} {A : List Addr} {k : List Key} {v : V} {d : D} (hv : Rep K H A v d) {kvs : List (List Key × V)} {ds : List (D × D)} (r : RepT K H A kvs ds) : RepT K H A (putK kvs k v) (putD (isT k) (.tuple (k.map kD)) d ds) := by
  unfold putK putD
  rw [any_repT r]
  split
  · exact map_repT hv r
  · exact r.append (.cons hv .nil)
theorem RepK.length {K : Frg} {H : Hp} {A : List Addr} : ∀ {a : List (Key × V)} {ds : List (D × D)}, RepK K H A a ds → a.length = ds.length
  | _, _, .nil => rfl
  | _, _, .cons _ t => by rw [List.length_cons, List.length_cons, RepK.length t]
theorem RepT.length {K : Frg} {H : Hp} {A : List Addr} : ∀ {a : List (List Key × V)} {ds : List (D × D)}, RepT K H A a ds → a.length = ds.length
  | _, _, .nil => rfl
  | _, _, .cons _ t => by rw [List.length_cons, List.length_cons, RepT.length t]
theorem fs_setD (hu : X.A.units + 1 < cLine) (hv : PE X (.Name x p1) (tVar ix)) (hi : FE X W i fi) (he : FE X W e f)
    (ha : ∀ v, assign (.Subscript (.Name x p1) i p2) X.env v = (do
      let ov ← holding [v] (eval (.Name x p1) X.env)
      let iv ← holding [v, ov] (eval i X.env)
      standAt p2
      holding [v, ov, iv] (setItem ov iv v)
      release [v, ov, iv] []) := by intro _; rfl)
    (hs : swapsWithSole [.Subscript (.Name x p1) i p2] e pos.line X.env = pure false := by rfl) (hw : swappedStores [.Subscript (.Name x p1) i p2] e X.env = pure none := by rfl)
    (h1 : (assignEach [.Subscript (.Name x p1) i p2] X.env).map (·.2) = [assign (.Subscript (.Name x p1) i p2) X.env] := by rfl) :
    FS X W (.Assign [.Subscript (.Name x p1) i p2] e pos) (sSetD ix fi f) := by
  refine impS (ps_asg he (pg_sub hv hi (set_dict hu) ha) hs hw h1) fun Ee σ H ⟨H0, A0, A, ρ, ok, P⟩ => ?_
  unfold sSetD at P
  split at P
  · rename_i t ds hh
    have h := ownD_some hh
    obtain ⟨v, h1, l, e2, hl, n0, hr⟩ := ok.slot ix _ h
    subst e2
    refine ⟨H0, A0, A, ρ, ok, (P.of ok).bind.mono fun d H1 s1 P2 y hy => ⟨_, h1, H0, A0, A, ρ, ok.same s1, P2.bind.mono fun k H2 s2 P3 z hz => ?_⟩⟩
    obtain ⟨q, e3, P4⟩ := P3.ofO
    have P4 := P4 H2 (Same.refl _)
    have hy2 := hy.same s2
    unfold dPut at e3
    split at e3
    · rename_i hlen
      rcases hr with ⟨rfl, kvs, h2, r⟩ | ⟨rfl, kvs, h2, r⟩
      · obtain ⟨k', e4, e5⟩ := Option.map_eq_some_iff.mp e3
        obtain rfl := keyD_some e4
        subst e5
        have ez : z = kV k' := by
          cases k' with
          | inl n => exact (RepB.of hz).int
          | inr n => exact (RepB.of hz).str
        have r2 : RepK X.K H2 A kvs ds := (r.tr (Tr.same s1)).tr (Tr.same s2)
        refine ⟨l, _, rfl, .inl ⟨kvs, k', s2 _ _ (s1 _ _ h2), ez, by rw [r.length]; exact hlen, rfl⟩, ?_⟩
        obtain ⟨o', u⟩ := ((ok.same s1).same s2).mut (x := .dK (putK kvs k' y)) (d' := .dict (putD (isK k') (kD k') d ds)) h h1 (.inl ⟨rfl, _, upd_same, (put_repK hy2 r2).tr (Tr.write hl)⟩)
        exact P4 _ _ A o' (((Tr.same s1).trans (Tr.same s2)).trans u)
      · cases k with
        | tuple ks =>
          obtain ⟨k', e4, e5⟩ := Option.map_eq_some_iff.mp (show ((keysD ks).bind _).map _ = some q from e3)
          obtain ⟨k2, e4, e6⟩ := Option.bind_eq_some_iff.mp e4
          split at e6
          rotate_left
          · cases e6
          rename_i hnz
          cases e6
          obtain rfl := keysD_some e4
          subst e5
          have r2 : RepT X.K H2 A kvs ds := (r.tr (Tr.same s1)).tr (Tr.same s2)
          cases hz with
          | tup nz hb rk =>
            rw [rep_key rk] at hb
            refine ⟨l, _, rfl, .inr ⟨kvs, k', _, s2 _ _ (s1 _ _ h2), rfl, hb, by rw [r.length]; exact hlen, rfl⟩, ?_⟩
            obtain ⟨o', u⟩ := ((ok.same s1).same s2).mut (x := .dT (putK kvs k' y)) (d' := .dict (putD (isT k') (.tuple (k'.map kD)) d ds)) h h1 (.inr ⟨rfl, _, upd_same, (put_repT hy2 r2).tr (Tr.write hl)⟩)
            exact P4 _ _ A o' (((Tr.same s1).trans (Tr.same s2)).trans u)
          | kt z rk =>
            rw [zt_key z rk] at hnz
            cases hnz
        | _ => cases e3
    · cases e3
  · exact P.elim

/-! ### loops -/
def loopL (tgt : TgF) (body : En → SR) : List D → En → SR
  | [], ρ => .nx ρ
  | d :: ds, ρ => match tgt d ρ with
    | none => .no
    | some ρ1 => match body ρ1 with
      | .nx ρ2 => loopL tgt body ds ρ2
      | .ct ρ2 => loopL tgt body ds ρ2
      | .bk ρ2 => .nx ρ2
      | r => r
def whileL (c : En → R Bool) (body : En → SR) : Nat → En → SR
  | 0, _ => .no
  | n + 1, ρ => .of (c ρ) ρ fun b => if b = true then (match body ρ with
      | .nx ρ2 => whileL c body n ρ2
      | .ct ρ2 => whileL c body n ρ2
      | .bk ρ2 => .nx ρ2
      | r => r) else .nx ρ
/-- an iterator that yields these data, one after another, as long as they stand -/
def WalkJ (K : Frg) (A : List Addr) (J : It) (H : Hp) (ds : List D) : Prop :=
  ∀ A' H', Tr A H A' H' → (∀ a ∈ A', Kp H' a) → (∀ (i : Nat) (d : D), ds[i]? = some d → J.go i H' ∧ ∀ x H'', J.yld i H' x H'' → Same H' H'' ∧ Rep K H'' A' x d) ∧ J.stop ds.length H'
def tFI (K : Frg) (mg : MgT) (W : WX) (f : En → R (List D)) : TI := fun σ H Rr => ∃ H0 A0 A ρ, Ok K H0 A0 A ρ σ H ∧ Post mg W σ H (fun ds H1 => ∀ J, WalkJ K A J H1 ds → Rr J H1) (f ρ)
abbrev FI (X : Cx) (W : WX) (tg iter : Expr) (f : En → R (List D)) : Prop := PI X tg iter (tFI X.K X.mg W f)
theorem impI {tg iter : Expr} {t t' : TI} (h : PI X tg iter t) (i : ∀ σ H Q, t' σ H Q → t σ H Q) : PI X tg iter t' := ⟨fun pins s σ H R I q => h.run pins s σ H R I (i _ _ _ q)⟩
def sFor (tgt : TgF) (l : En → R (List D)) (body : En → SR) : En → SR := fun ρ => .of (l ρ) ρ fun ds => loopL tgt body ds ρ
theorem fs_for {tg iter : Expr} {body : List Stmt} {l : En → R (List D)} {tgt : TgF} {gb : En → SR} {jx : List Nat} (hp : PassesOwn (model X.prog X.w) X.A X.env X.xe) (hc : X.calm = true) (hi : FI X W tg iter l) (hg : FG X tg jx tgt) (hb : FSs X W body gb)
    (hs : ∀ x, foldedSetIterable iter X.env x = pure x := by intro _; rfl) : FS X W (.For tg iter body [] pos) (sFor tgt l gb) := by
  refine impS (ps_for hp hc hi hg hb hs) fun Ee σ H ⟨H0, A0, A, ρ, ok, P⟩ => ?_
  refine ⟨H0, A0, A, ρ, ok, (P.of ok).mono fun ds H1 s1 P1 J hJ => ?_⟩
  refine ⟨fun i m σ2 H2 => m = ds.length - i ∧ i ≤ ds.length ∧ ∃ A2 ρ2, Ok X.K H0 A0 A2 ρ2 σ2 H2 ∧ Tr A H1 A2 H2 ∧ PostS X.K X.mg W H0 A0 A2 H2 Ee (loopL tgt gb (ds.drop i) ρ2), ⟨ds.length, rfl, Nat.zero_le _, A, ρ, ok.same s1, Tr.refl _ _, PostS.same (r := loopL tgt gb ds ρ) P1 s1⟩, ?_⟩
  rintro i m σ2 H2 ⟨rfl, hi, A2, ρ2, ok2, u2, P2⟩
  obtain ⟨hgo, hst⟩ := hJ A2 H2 u2 ok2.kp
  by_cases hlt : i < ds.length
  · refine .inr ⟨(hgo i ds[i] (by simp [hlt])).1, fun σ' H' => ∃ A' ρ', Ok X.K H0 A0 A' ρ' σ' H' ∧ Tr A H1 A' H' ∧ PostS X.K X.mg W H0 A0 A' H' Ee (loopL tgt gb (ds.drop (i + 1)) ρ'), fun σ' H' ⟨A', ρ', h1, h2, h3⟩ => ⟨ds.length - (i + 1), by omega, rfl, hlt, A', ρ', h1, h2, h3⟩, fun x H' hy => ?_⟩
    obtain ⟨sx, rx⟩ := (hgo i ds[i] (by simp [hlt])).2 x H' hy
    rw [List.drop_eq_getElem_cons hlt] at P2
    unfold loopL at P2
    split at P2
    · exact P2.elim
    · rename_i ρ3 e3
      refine ⟨H0, A0, A2, ρ2, ds[i], ρ3, ok2.same sx, rx, e3, fun σ3 o3 _ => ⟨H0, A0, A2, ρ3, o3, ?_⟩⟩
      have u3 : Tr A H1 A2 H' := u2.trans (Tr.same sx)
      have back : ∀ (ρ4 : En), PostS X.K X.mg W H0 A0 A2 H2 Ee (loopL tgt gb (ds.drop (i + 1)) ρ4) → ∀ σ' H'' A', Ok X.K H0 A0 A' ρ4 σ' H'' → Tr A2 H' A' H'' → ∃ A' ρ', Ok X.K H0 A0 A' ρ' σ' H'' ∧ Tr A H1 A' H'' ∧ PostS X.K X.mg W H0 A0 A' H'' Ee (loopL tgt gb (ds.drop (i + 1)) ρ') :=
        fun ρ4 q σ' H'' A' o' t => ⟨A', ρ4, o', u3.trans t, PostS.tr q ((Tr.same sx).trans t)⟩
      cases hb : gb ρ3 with
      | nx ρ4 => rw [hb] at P2; exact fun σ' H'' A' o' t => back ρ4 P2 σ' H'' A' o' t
      | ct ρ4 => rw [hb] at P2; exact fun σ' H'' A' o' t => back ρ4 P2 σ' H'' A' o' t
      | bk ρ4 => rw [hb] at P2; exact fun σ' H'' A' o' t => P2 σ' H'' A' o' ((Tr.same sx).trans t)
      | rt d => rw [hb] at P2; exact P2
      | ex cc n ρ4 => rw [hb] at P2; exact fun u p σ' H'' A' o' t => P2 u p σ' H'' A' o' ((Tr.same sx).trans t)
      | no => rw [hb] at P2; exact P2
  · have e : i = ds.length := by omega
    subst e
    rw [List.drop_length] at P2
    exact .inl ⟨hst, P2 σ2 H2 A2 ok2 (Tr.refl _ _)⟩
def sWhile (n : Nat) (c : En → R Bool) (body : En → SR) : En → SR := whileL c body n
theorem fs_while {n : Nat} {body : List Stmt} {gb : En → SR} (hp : PassesOwn (model X.prog X.w) X.A X.env X.xe) (hc : FT X W c p) (hb : FSs X W body gb) : FS X W (.While c body [] pos) (sWhile n p gb) := by
  refine impS (ps_while hp hc hb) fun Ee σ H ⟨H0, A0, A, ρ, ok, P⟩ => ?_
  refine ⟨fun m σ2 H2 => ∃ A2 ρ2, Ok X.K H0 A0 A2 ρ2 σ2 H2 ∧ PostS X.K X.mg W H0 A0 A2 H2 Ee (whileL p gb m ρ2), ⟨n, A, ρ, ok, P⟩, ?_⟩
  rintro m σ2 H2 ⟨A2, ρ2, ok2, P2⟩
  cases m with
  | zero => exact P2.elim
  | succ m =>
    unfold whileL at P2
    refine ⟨H0, A0, A2, ρ2, ok2, (P2.of ok2).mono fun b H3 s3 P3 => ?_⟩
    cases b with
    | false => exact P3 σ2 H3 A2 (ok2.same s3) (Tr.same s3)
    | true =>
      refine ⟨fun σ' H' => ∃ A' ρ', Ok X.K H0 A0 A' ρ' σ' H' ∧ PostS X.K X.mg W H0 A0 A' H' Ee (whileL p gb m ρ'), fun σ' H' ⟨A', ρ', h1, h2⟩ => ⟨m, Nat.lt_succ_self _, A', ρ', h1, h2⟩, H0, A0, A2, ρ2, ok2.same s3, ?_⟩
      cases hb : gb ρ2 with
      | nx ρ4 => rw [hb] at P3; exact fun σ' H'' A' o' t => ⟨A', ρ4, o', PostS.tr (r := whileL p gb m ρ4) P3 ((Tr.same s3).trans t)⟩
      | ct ρ4 => rw [hb] at P3; exact fun σ' H'' A' o' t => ⟨A', ρ4, o', PostS.tr (r := whileL p gb m ρ4) P3 ((Tr.same s3).trans t)⟩
      | bk ρ4 => rw [hb] at P3; exact fun σ' H'' A' o' t => P3 σ' H'' A' o' ((Tr.same s3).trans t)
      | rt d => rw [hb] at P3; exact P3
      | ex cc n ρ4 => rw [hb] at P3; exact fun u p σ' H'' A' o' t => P3 u p σ' H'' A' o' ((Tr.same s3).trans t)
      | no => rw [hb] at P3; exact P3
end
end G

namespace G
open PySem PySem.Spec PyProof.Rows L2 RZ
section
variable {X : Cx} {W : WX} {e a b c o i elt tg iter tg1 iter1 : Expr} {ifs ifs1 : List Expr} {es : List Expr} {f fo fi : En → R D} {p p1 : En → R Bool} {l l1 : En → R (List D)} {tgt tgt1 : TgF} {pos pos' q1 q2 q3 : Pos} {x : Str}
theorem PI.or {t t' : TI} (h : PI X tg iter t) (h' : PI X tg iter t') : PI X tg iter (fun σ H R => t σ H R ∨ t' σ H R) := ⟨fun pins s σ H R I q => by
  rcases q with q | q
  · exact h.run pins s σ H R I q
  · exact h'.run pins s σ H R I q⟩

/-! ### what a for goes through -/
def cItems (f : En → R D) : En → R (List D) := fun ρ => (f ρ).bind fun d => ofO (itemsOf d)
theorem rep_listAt {K : Frg} {H H' : Hp} {A A' : List Addr} {v : V} {ds : List D} (r : Rep K H A v (.list ds)) : ∃ a vs, v = .ref a ∧ H a = some (.lst vs) ∧ RepL K H A vs ds ∧ a ∉ A := by
  cases r with
  | lst n h r => exact ⟨_, _, rfl, h, r, n⟩
theorem rep_tupAt {K : Frg} {H H' : Hp} {A A' : List Addr} {v : V} {ds : List D} (r : Rep K H A v (.tuple ds)) : ∃ a vs, v = .ref a ∧ SqT K H a vs ∧ RepL K H A vs ds ∧ True := by
  cases r with
  | tup n h r => exact ⟨_, _, rfl, SqT.of h, r, True.intro⟩
  | kt z r => exact ⟨_, _, rfl, .inr z.1, r, True.intro⟩
theorem sql_uniq {K : Frg} {H : Hp} {a : Addr} {vs : List V} {I : Nat} {x : V} (h : ∀ xs, SqL K H a xs → xs[I]? = some x) (e : H a = some (.lst vs)) : vs[I]? = some x := h vs (SqL.of e)
theorem walk_itl {K : Frg} {A : List Addr} {H : Hp} {a : Addr} {ds : List D} (r : Rep K H A (.ref a) (.list ds)) : WalkJ K A (Itl K a) H ds := fun A' H' u _ => by
  have r' := r.tr u
  obtain ⟨b, vs, e, h, rl, _⟩ := rep_listAt (H' := H') (A' := A') r'
  cases e
  refine ⟨fun i d hd => ?_, vs, SqL.of h, by rw [rl.length]; exact Nat.le_refl _⟩
  obtain ⟨v, h1, h2⟩ := rl.get hd
  refine ⟨⟨vs, v, SqL.of h, h1⟩, fun x H'' ⟨e2, y⟩ => ?_⟩
  subst e2
  have := sql_uniq y h
  rw [h1] at this
  cases this
  exact ⟨Same.refl _, h2⟩
theorem walk_itt {K : Frg} {A : List Addr} {H : Hp} {a : Addr} {ds : List D} (r : Rep K H A (.ref a) (.tuple ds)) : WalkJ K A (Itt K a) H ds := fun A' H' u _ => by
  have r' := r.tr u
  obtain ⟨b, vs, e, h, rl, _⟩ := rep_tupAt (H' := H') (A' := A') r'
  cases e
  refine ⟨fun i d hd => ?_, vs, h, by rw [rl.length]; exact Nat.le_refl _⟩
  obtain ⟨v, h1, h2⟩ := rl.get hd
  refine ⟨⟨vs, v, h, h1⟩, fun x H'' ⟨e2, y⟩ => ?_⟩
  subst e2
  have := y vs (h)
  rw [h1] at this
  cases this
  exact ⟨Same.refl _, h2⟩
theorem fi_items (he : FE X W e f) : FI X W tg e (cItems f) := impI (PI.or (pi_list he) (pi_tup he)) fun σ H Q ⟨H0, A0, A, ρ, ok, P⟩ => by
  have P1 := P.bind
  cases hf : f ρ with
  | no => rw [hf] at P1; exact P1.elim
  | ex cc n =>
    rw [hf] at P1
    exact .inl ⟨H0, A0, A, ρ, ok, by rw [hf]; exact P1⟩
  | ok d =>
    rw [hf] at P1
    have P2 : ∀ H1, Same H H1 → ∃ ds, itemsOf d = some ds ∧ ∀ J, WalkJ X.K A J H1 ds → Q J H1 := fun H1 s => by
      obtain ⟨ds, e1, e2⟩ := Post.ofO (P1 H1 s)
      exact ⟨ds, e1, e2 H1 (Same.refl _)⟩
    cases d with
    | list ds =>
      refine .inl ⟨H0, A0, A, ρ, ok, ?_⟩
      rw [hf]
      refine fun H1 s v r => ?_
      obtain ⟨a, vs, e, h, rl, _⟩ := rep_listAt (H' := H1) (A' := A) r
      subst e
      obtain ⟨ds', e1, q⟩ := P2 H1 s
      cases e1
      exact ⟨a, rfl, ⟨vs, SqL.of h⟩, q _ (walk_itl r)⟩
    | tuple ds =>
      refine .inr ⟨H0, A0, A, ρ, ok, ?_⟩
      rw [hf]
      refine fun H1 s v r => ?_
      obtain ⟨a, vs, e, h, rl, _⟩ := rep_tupAt (H' := H1) (A' := A) r
      subst e
      obtain ⟨ds', e1, q⟩ := P2 H1 s
      cases e1
      exact ⟨a, rfl, ⟨vs, h⟩, q _ (walk_itt r)⟩
    | _ =>
      obtain ⟨ds', e1, q⟩ := P2 H (Same.refl _)
      cases e1
/-- a, a + 1, .. : n of them -/
def rangeD (lo : Int) (n : Nat) : List D := (List.range n).map fun k => .int (lo + (k : Nat))
def dRange1 : List D → Option (List D)
  | [.int j] => if -(2 ^ 62) ≤ j ∧ j < 2 ^ 62 then some (rangeD 0 j.toNat) else none
  | _ => none
def dRange2 : List D → Option (List D)
  | [.int i, .int j] => if -(2 ^ 62) ≤ i ∧ i < 2 ^ 62 ∧ -(2 ^ 62) ≤ j ∧ j < 2 ^ 62 then some (rangeD i (j - i).toNat) else none
  | _ => none
def cIter (df : List D → Option (List D)) (l : En → R (List D)) : En → R (List D) := fun ρ => (l ρ).bind fun ds => ofO (df ds)
theorem walk_itr {K : Frg} {A : List Addr} {H : Hp} (lo : Int) (n : Nat) : WalkJ K A (Itr lo n) H (rangeD lo n) := fun A' H' u _ => by
  refine ⟨fun i d hd => ?_, by unfold rangeD; rw [List.length_map, List.length_range]; exact Nat.le_refl n⟩
  unfold rangeD at hd
  rw [List.getElem?_map] at hd
  obtain ⟨k, h1, h2⟩ := Option.map_eq_some_iff.mp hd
  have hk : i < n := by
    have := (List.getElem?_eq_some_iff.mp h1).1
    rwa [List.length_range] at this
  have e : k = i := by
    rw [List.getElem?_range hk] at h1
    exact (Option.some.inj h1).symm
  subst e
  subst h2
  refine ⟨hk, fun x H'' ⟨e2, y⟩ => ?_⟩
  subst e2
  subst y
  exact ⟨Same.refl _, .int _⟩
theorem fi_range1 (hg : Gl X "range") (hm : X.mg "range" = none) (ha : FAB X W [a] l) (hs : starEach [a] X.env = [(false, eval a X.env)] := by rfl) : FI X W tg (.Call (.Name "range" q1) [a] [] pos) (cIter dRange1 l) := impI (pi_range1 hg hm ha hs) fun σ H Q ⟨H0, A0, A, ρ, ok, P⟩ => by
  refine ⟨H0, A0, A, ρ, ok, P.bind.mono fun ds H1 s1 P1 vs hv => ?_⟩
  obtain ⟨es, e1, q⟩ := P1.ofO
  unfold dRange1 at e1
  split at e1
  · split at e1
    · rename_i hj
      cases e1
      obtain ⟨v, e2, h⟩ := pair1 hv
      obtain rfl := h.int
      exact ⟨_, e2, hj.1, hj.2, q H1 (Same.refl _) _ (walk_itr 0 _)⟩
    · cases e1
  · cases e1
theorem fi_range2 (hg : Gl X "range") (hm : X.mg "range" = none) (ha : FAB X W [a, b] l) (hs : starEach [a, b] X.env = [(false, eval a X.env), (false, eval b X.env)] := by rfl) (hs2 : starEach [b] X.env = [(false, eval b X.env)] := by rfl) :
    FI X W tg (.Call (.Name "range" q1) [a, b] [] pos) (cIter dRange2 l) := impI (pi_range2 hg hm ha hs hs2) fun σ H Q ⟨H0, A0, A, ρ, ok, P⟩ => by
  refine ⟨H0, A0, A, ρ, ok, P.bind.mono fun ds H1 s1 P1 vs hv => ?_⟩
  obtain ⟨es, e1, q⟩ := P1.ofO
  unfold dRange2 at e1
  split at e1
  · split at e1
    · rename_i hj
      cases e1
      obtain ⟨v, v2, e2, h, h2⟩ := pair2 hv
      obtain rfl := h.int
      obtain rfl := h2.int
      exact ⟨_, _, e2, hj, q H1 (Same.refl _) _ (walk_itr _ _)⟩
    · cases e1
  · cases e1
/-- with its place ahead -/
def enumL (k : Nat) : List D → List D
  | [] => []
  | d :: ds => .tuple [.int (k : Nat), d] :: enumL (k + 1) ds
theorem enumL_get : ∀ {ds : List D} {k i : Nat}, (enumL k ds)[i]? = ds[i]?.map fun d => .tuple [.int ((k + i : Nat) : Int), d]
  | [], _, _ => by simp [enumL]
  | d :: ds, k, 0 => by simp [enumL]
  | d :: ds, k, i + 1 => by
    unfold enumL
    rw [List.getElem?_cons_succ, List.getElem?_cons_succ, enumL_get, show k + 1 + i = k + (i + 1) by omega]
theorem enumL_length : ∀ (ds : List D) (k : Nat), (enumL k ds).length = ds.length
  | [], _ => rfl
  | d :: ds, k => by unfold enumL; rw [List.length_cons, List.length_cons, enumL_length ds]
def dEnum : List D → Option (List D)
  | [.list xs] => some (enumL 0 xs)
  | _ => none
theorem walk_ite {K : Frg} {A : List Addr} {H : Hp} {a : Addr} {ds : List D} (r : Rep K H A (.ref a) (.list ds)) : WalkJ K A (Ite K a) H (enumL 0 ds) := fun A' H' u hA => by
  have r' := r.tr u
  obtain ⟨b, vs, e, h, rl, _⟩ := rep_listAt (H' := H') (A' := A') r'
  cases e
  refine ⟨fun i d hd => ?_, vs, SqL.of h, by rw [rl.length, enumL_length]; exact Nat.le_refl _⟩
  rw [enumL_get] at hd
  obtain ⟨d1, h1, h2⟩ := Option.map_eq_some_iff.mp hd
  subst h2
  obtain ⟨v, h3, h4⟩ := rl.get h1
  refine ⟨⟨vs, v, SqL.of h, h3⟩, fun x H'' ⟨T, x1, e1, n, e2, y⟩ => ?_⟩
  subst e1
  subst e2
  have := sql_uniq y h
  rw [h3] at this
  cases this
  refine ⟨same_upd n, rep_tup (fun z => (hA T z).1 n) n (.cons ?_ (.one h4))⟩
  rw [Nat.zero_add]
  exact .int _
theorem fi_enum {elts : List Expr} {kk : Nat} {tpos : Pos} (hg : Gl X "enumerate") (hm : X.mg "enumerate" = none) (ha : FA X W [e] l) (hs : starEach [e] X.env = [(false, eval e X.env)] := by rfl) :
    FI X W (.Tuple elts kk tpos) (.Call (.Name "enumerate" q1) [e] [] pos) (cIter dEnum l) := impI (pi_enum hg hm ha hs) fun σ H Q ⟨H0, A0, A, ρ, ok, P⟩ => by
  refine ⟨H0, A0, A, ρ, ok, P.bind.mono fun ds H1 s1 P1 vs hv => ?_⟩
  obtain ⟨es, e1, q⟩ := P1.ofO
  unfold dEnum at e1
  split at e1
  · cases e1
    cases hv with
    | cons r t =>
      cases t
      obtain ⟨p, us, rfl, h1, rl, _⟩ := rep_listAt (H' := H1) (A' := A) r
      exact ⟨p, us, rfl, SqL.of h1, q H1 (Same.refl _) _ (walk_ite r)⟩
  · cases e1
def zipL : List D → List D → List D
  | a :: as, b :: bs => .tuple [a, b] :: zipL as bs
  | _, _ => []
theorem zipL_get : ∀ {as bs : List D} {i : Nat} {d : D}, (zipL as bs)[i]? = some d → ∃ x y, as[i]? = some x ∧ bs[i]? = some y ∧ d = .tuple [x, y]
  | [], _, _, _, h => by simp [zipL] at h
  | _ :: _, [], _, _, h => by simp [zipL] at h
  | a :: as, b :: bs, 0, d, h => ⟨a, b, rfl, rfl, by simpa [zipL] using h.symm⟩
  | a :: as, b :: bs, i + 1, d, h => by
    unfold zipL at h
    rw [List.getElem?_cons_succ] at h
    obtain ⟨x, y, h1, h2, h3⟩ := zipL_get h
    exact ⟨x, y, by rw [List.getElem?_cons_succ]; exact h1, by rw [List.getElem?_cons_succ]; exact h2, h3⟩
theorem zipL_length : ∀ (as bs : List D), (zipL as bs).length = min as.length bs.length
  | [], bs => by simp [zipL]
  | _ :: _, [] => by simp [zipL]
  | a :: as, b :: bs => by unfold zipL; rw [List.length_cons, List.length_cons, List.length_cons, zipL_length as bs]; omega
def dZip : List D → Option (List D)
  | [.list xs, .list ys] => some (zipL xs ys)
  | [.tuple xs, .tuple ys] => some (zipL xs ys)
  | _ => none
theorem walk_itz {K : Frg} {A : List Addr} {H : Hp} {a a2 : Addr} {ds es : List D} (r : Rep K H A (.ref a) (.list ds)) (r2 : Rep K H A (.ref a2) (.list es)) : WalkJ K A (Itz K a a2) H (zipL ds es) := fun A' H' u hA => by
  obtain ⟨b, vs, e, h, rl, _⟩ := rep_listAt (H' := H') (A' := A') (r.tr u)
  cases e
  obtain ⟨b, us, e, h', rl', _⟩ := rep_listAt (H' := H') (A' := A') (r2.tr u)
  cases e
  refine ⟨fun i d hd => ?_, vs, us, SqL.of h, SqL.of h', by rw [rl.length, rl'.length, zipL_length]; omega⟩
  obtain ⟨x, y, h1, h2, rfl⟩ := zipL_get hd
  obtain ⟨v, h3, h4⟩ := rl.get h1
  obtain ⟨v', h3', h4'⟩ := rl'.get h2
  refine ⟨⟨vs, us, v, v', SqL.of h, SqL.of h', h3, h3'⟩, fun x H'' ⟨T, x1, x2, e1, n, e2, y1, y2⟩ => ?_⟩
  subst e1
  subst e2
  have := sql_uniq y1 h
  rw [h3] at this
  cases this
  have := sql_uniq y2 h'
  rw [h3'] at this
  cases this
  exact ⟨same_upd n, rep_tup (fun z => (hA T z).1 n) n (.cons h4 (.one h4'))⟩
theorem walk_itzT {K : Frg} {A : List Addr} {H : Hp} {a a2 : Addr} {ds es : List D} (r : Rep K H A (.ref a) (.tuple ds)) (r2 : Rep K H A (.ref a2) (.tuple es)) : WalkJ K A (ItzT K a a2) H (zipL ds es) := fun A' H' u hA => by
  obtain ⟨b, vs, e, h, rl, _⟩ := rep_tupAt (H' := H') (A' := A') (r.tr u)
  cases e
  obtain ⟨b, us, e, h', rl', _⟩ := rep_tupAt (H' := H') (A' := A') (r2.tr u)
  cases e
  refine ⟨fun i d hd => ?_, vs, us, h, h', by rw [rl.length, rl'.length, zipL_length]; omega⟩
  obtain ⟨x, y, h1, h2, rfl⟩ := zipL_get hd
  obtain ⟨v, h3, h4⟩ := rl.get h1
  obtain ⟨v', h3', h4'⟩ := rl'.get h2
  refine ⟨⟨vs, us, v, v', h, h', h3, h3'⟩, fun x H'' ⟨T, x1, x2, e1, n, e2, y1, y2⟩ => ?_⟩
  subst e1
  subst e2
  have := y1 vs (h)
  rw [h3] at this
  cases this
  have := y2 us (h')
  rw [h3'] at this
  cases this
  exact ⟨same_upd n, rep_tup (fun z => (hA T z).1 n) n (.cons h4 (.one h4'))⟩
theorem repL1 {K : Frg} {H : Hp} {A : List Addr} {vs : List V} {d : D} (h : RepL K H A vs [d]) : ∃ v, vs = [v] ∧ Rep K H A v d := by
  cases h with
  | cons a t => cases t; exact ⟨_, rfl, a⟩
theorem repL2 {K : Frg} {H : Hp} {A : List Addr} {vs : List V} {d d2 : D} (h : RepL K H A vs [d, d2]) : ∃ v v2, vs = [v, v2] ∧ Rep K H A v d ∧ Rep K H A v2 d2 := by
  cases h with
  | cons a t =>
    obtain ⟨v2, rfl, b⟩ := repL1 t
    exact ⟨_, _, rfl, a, b⟩
theorem fi_zip {elts : List Expr} {kk : Nat} {tpos : Pos} (hg : Gl X "zip") (hm : X.mg "zip" = none) (ha : FA X W [a, b] l) (hs : starEach [a, b] X.env = (false, eval a X.env) :: starEach [b] X.env := by rfl) (hpl : (backTo pos (starEach [b] X.env)).any (·.1) = false := by rfl) :
    FI X W (.Tuple elts kk tpos) (.Call (.Name "zip" q1) [a, b] [] pos) (cIter dZip l) := impI (pi_zipA hg hm ha hs hpl) fun σ H Q ⟨H0, A0, A, ρ, ok, P⟩ => by
  refine ⟨H0, A0, A, ρ, ok, P.bind.mono fun ds H1 s1 P1 vs hv => ?_⟩
  obtain ⟨es, e1, q⟩ := P1.ofO
  unfold dZip at e1
  split at e1
  · cases e1
    obtain ⟨v, v2, rfl, r, r2⟩ := repL2 hv
    obtain ⟨p, us, rfl, h1, _⟩ := rep_listAt (H' := H1) (A' := A) r
    obtain ⟨p2, us2, rfl, h2, _⟩ := rep_listAt (H' := H1) (A' := A) r2
    exact ⟨p, p2, us, us2, rfl, .inl ⟨SqL.of h1, SqL.of h2, q H1 (Same.refl _) _ (walk_itz r r2)⟩⟩
  · cases e1
    obtain ⟨v, v2, rfl, r, r2⟩ := repL2 hv
    obtain ⟨p, us, rfl, h1, _⟩ := rep_tupAt (H' := H1) (A' := A) r
    obtain ⟨p2, us2, rfl, h2, _⟩ := rep_tupAt (H' := H1) (A' := A) r2
    exact ⟨p, p2, us, us2, rfl, .inr ⟨h1, h2, q H1 (Same.refl _) _ (walk_itzT r r2)⟩⟩
  · cases e1

/-! ### comprehensions -/
def wNo : WX := fun _ _ _ _ => False
def noX {α : Type} : R α → Option α
  | .ok a => some a
  | _ => none
@[simp] theorem noX_ok {α : Type} (a : α) : noX (R.ok a) = some a := rfl
theorem Post.noX {mg : MgT} {α : Type} {σ : St} {H : Hp} {P : α → Hp → Prop} {r : R α} {a : α} (h : G.noX r = some a) (q : ∀ H', Same H H' → P a H') : Post mg wNo σ H P r := by
  cases r with
  | ok b => cases h; exact q
  | ex c n => cases h
  | no => cases h
def cTrue : En → R Bool := fun _ => .ok true
abbrev FTs (X : Cx) (W : WX) (ifs : List Expr) (p : En → R Bool) : Prop := PTs X ifs (tFT X.K X.mg W p)
theorem impTs {ifs : List Expr} {t t' : TT} (h : PTs X ifs t) (i : ∀ σ H Q, t' σ H Q → t σ H Q) : PTs X ifs t' := ⟨fun pins s σ H Q I q => h.run pins s σ H Q I (i _ _ _ q)⟩
theorem fts_nil : FTs X W [] cTrue := impTs pts_nil fun σ H Q ⟨H0, A0, A, ρ, ok, P⟩ => Post.at (a := true) (P := fun b H' => Q b H') P
theorem fts_one {c : Expr} (h : FT X W c p) : FTs X W [c] p := pts_one h
def lcL (tgt : TgF) (p : En → R Bool) (f : En → R D) (ρ : En) : List D → Option (List D)
  | [] => some []
  | d :: ds => (tgt d ρ).bind fun ρ1 => (noX (p ρ1)).bind fun b => if b = true then (noX (f ρ1)).bind fun y => (lcL tgt p f ρ ds).map fun ys => y :: ys else lcL tgt p f ρ ds
def cLc (vs : List Nat) (l : En → R (List D)) (tgt : TgF) (p : En → R Bool) (f : En → R D) : En → R D := fun ρ => (l ρ).bind fun ds =>
  ofO ((lcL tgt p f (wipeE ρ vs) ds).bind fun ys => if ys.length ≤ sizeLine then some (.list ys) else none)
theorem lc_read {t : Bool} {own : List (Str × Nat)} {ix : List Nat} (hix : ∀ i ∈ ix, i ∈ own.map (·.2)) (σ : St) (H : Hp) (Q : VK) (hq : tFN X.K X.mg W t (cLc (own.map (·.2)) l tgt p f) σ H Q) :
    tLc (tFI X.K X.mg W l) (tFG X.K ix tgt) (tFT X.K X.mg wNo p) (tF X.K X.mg wNo f) (own.map (·.2)) σ H Q := by
  obtain ⟨H0, A0, A, ρ, ok, P⟩ := hq
  refine ⟨H0, A0, A, ρ, ok, P.bind.mono fun ds H1 s1 P1 J hJ L hL => ?_⟩
  obtain ⟨d, e1, q⟩ := P1.ofO
  obtain ⟨ys, e2, e3⟩ := Option.bind_eq_some_iff.mp e1
  split at e3
  rotate_left
  · cases e3
  rename_i hsz
  cases e3
  have hLa : H L = none := s1.free hL
  have ok1 := ok.same s1
  refine ⟨fun i m H2 => m = ds.length - i ∧ i ≤ ds.length ∧ Same H1 H2 ∧ ∃ vs ys1 ys2, H2 L = some (.lst vs) ∧ RepL X.K H2 (L :: A) vs ys1 ∧ lcL tgt p f (wipeE ρ (own.map (·.2))) (ds.drop i) = some ys2 ∧ ys = ys1 ++ ys2,
    ⟨ds.length, rfl, Nat.zero_le _, same_upd hL, [], [], ys, upd_same, .nil, e2, rfl⟩, ?_⟩
  rintro i m H2 ⟨rfl, hile, sm, vs, ys1, ys2, hLv, rl, el, ey⟩
  have okg : Ok X.K H0 (L :: A0) (L :: A) ρ σ H2 := ok1.grow sm hL (.of hLv fun _ z => nomatch z)
  have okw := okg.wipe (own.map (·.2))
  obtain ⟨hgo, hst⟩ := hJ (L :: A) H2 ⟨fun b x h _ => sm b x h, fun b hb => by
    rcases List.mem_cons.mp hb with rfl | hb
    · exact .inr hL
    · exact .inl hb⟩ okg.kp
  by_cases hlt : i < ds.length
  · refine .inr ⟨(hgo i ds[i] (by simp [hlt])).1, fun H' => Same H1 H' ∧ ∃ vs ys1 ys2, H' L = some (.lst vs) ∧ RepL X.K H' (L :: A) vs ys1 ∧ lcL tgt p f (wipeE ρ (own.map (·.2))) (ds.drop (i + 1)) = some ys2 ∧ ys = ys1 ++ ys2,
      fun H' h => ⟨ds.length - (i + 1), by omega, rfl, hlt, h⟩, fun x H3 hy => ?_⟩
    obtain ⟨sx, rx⟩ := (hgo i ds[i] (by simp [hlt])).2 x H3 hy
    rw [List.drop_eq_getElem_cons hlt] at el
    unfold lcL at el
    obtain ⟨ρ1, g1, el⟩ := Option.bind_eq_some_iff.mp el
    obtain ⟨bb, g2, el⟩ := Option.bind_eq_some_iff.mp el
    refine ⟨H0, L :: A0, L :: A, wipeE ρ (own.map (·.2)), ds[i], ρ1, okw.same sx, rx, g1, fun σ2 o2 ag => ⟨(wipe_agree hix ag).trans wipe_wipe, H0, L :: A0, L :: A, ρ1, o2, Post.noX g2 fun H4 s4 => ?_⟩⟩
    cases bb with
    | false =>
      rw [if_neg (by decide)] at el
      rw [if_neg (by decide)]
      exact ⟨(sm.trans sx).trans s4, vs, ys1, ys2, s4 _ _ (sx _ _ hLv), (rl.same sx).same s4, el, ey⟩
    | true =>
      rw [if_pos rfl] at el
      rw [if_pos rfl]
      obtain ⟨y, g3, el⟩ := Option.bind_eq_some_iff.mp el
      obtain ⟨zs, g4, g5⟩ := Option.map_eq_some_iff.mp el
      subst g5
      refine ⟨H0, L :: A0, L :: A, ρ1, o2.same s4, Post.noX g3 fun H5 s5 v hv => ⟨vs, s5 _ _ (s4 _ _ (sx _ _ hLv)), ?_, fun b z hb => ?_, vs ++ [v], ys1 ++ [y], zs, upd_same, ((((rl.same sx).same s4).same s5).append (.one hv)).tr (Tr.write List.mem_cons_self), g4, by rw [ey]; simp⟩⟩
      · rw [rl.length]
        have : ys.length = ys1.length + (y :: zs).length := by rw [ey, List.length_append]
        rw [List.length_cons] at this
        omega
      · rw [upd_ne (ne_of_none hb hL)]
        exact s5 _ _ (s4 _ _ (sx _ _ (sm _ _ hb)))
  · have e : i = ds.length := by omega
    subst e
    rw [List.drop_length] at el
    cases el
    rw [List.append_nil] at ey
    subst ey
    exact .inl ⟨hst, q H2 sm _ ⟨L, rfl, hLa, vs, hLv, rl⟩⟩
theorem fn_lc {t : Bool} {scope : Scope} {own : List (Str × Nat)} {ix : List Nat} (hc : X.calm = true) (hN : X.N.Nodup) (hi : FI X W tg iter l) (okb : BlkOk X.N X.env.scope scope own)
    (hg : ∀ (s : Shared) (H : Hp) (C : Addr) (cl : List (Str × Addr)) (fp : List Addr), FG (X.blk s H scope (compEnvC scope cl C X.env) fp) tg ix tgt) (hix : ∀ i ∈ ix, i ∈ own.map (·.2))
    (ht : ∀ (s : Shared) (H : Hp) (C : Addr) (cl : List (Str × Addr)) (fp : List Addr), FTs (X.blk s H scope (compEnvC scope cl C X.env) fp) wNo ifs p)
    (he : ∀ (s : Shared) (H : Hp) (C : Addr) (cl : List (Str × Addr)) (fp : List Addr), FE (X.blk s H scope (compEnvC scope cl C X.env) fp) wNo elt f) (hs : ∀ x, foldedSetIterable iter X.env x = pure x := by intro _; rfl) :
    FN X W t (.ListComp elt [⟨tg, iter, ifs, 0⟩] scope pos) (cLc (own.map (·.2)) l tgt p f) :=
  impE (pe_lc (g := tFG X.K ix tgt) (tt := tFT X.K X.mg wNo p) (te := tF X.K X.mg wNo f) hc hN hi okb hg ht he hs) (lc_read hix)
theorem fs_setLcN {t : Bool} {i : Nat} {y : Str} {py spos : Pos} {scope : Scope} {own : List (Str × Nat)} {ix : List Nat} (hc : X.calm = true) (hN : X.N.Nodup) (hy : X.N[i]? = some y) (hyl : X.env.scope.names.lookup y = some .local) (hsw : swapsWith (.ListComp elt [⟨tg, iter, ifs, 0⟩] scope pos) (some (.Name y py)) spos.line X.env = pure true) (hi : FI X W tg iter l) (okb : BlkOk X.N X.env.scope scope own)
    (hg : ∀ (s : Shared) (H : Hp) (C : Addr) (cl : List (Str × Addr)) (fp : List Addr), FG (X.blk s H scope (compEnvC scope cl C X.env) fp) tg ix tgt) (hix : ∀ i ∈ ix, i ∈ own.map (·.2))
    (ht : ∀ (s : Shared) (H : Hp) (C : Addr) (cl : List (Str × Addr)) (fp : List Addr), FTs (X.blk s H scope (compEnvC scope cl C X.env) fp) wNo ifs p)
    (he : ∀ (s : Shared) (H : Hp) (C : Addr) (cl : List (Str × Addr)) (fp : List Addr), FE (X.blk s H scope (compEnvC scope cl C X.env) fp) wNo elt f) (hs : ∀ x, foldedSetIterable iter X.env x = pure x := by intro _; rfl) :
    FS X W (.Assign [.Name y py] (.ListComp elt [⟨tg, iter, ifs, 0⟩] scope pos) spos) (sSetN i t (cLc (own.map (·.2)) l tgt p f)) := impS (ps_setLc (g := tFG X.K ix tgt) (tt := tFT X.K X.mg wNo p) (te := tF X.K X.mg wNo f) hc hN hy hyl hsw hi okb hg ht he hs) fun D σ H ⟨H0, A0, A, ρ, o, P⟩ => lc_read (t := t) hix σ H _ ⟨H0, A0, A, ρ, o, (P.of o).mono fun d H1 s1 P1 v ⟨a, e, n, r⟩ => by
    subst e
    exact P1 _ H1 (a :: A) (o.setOwn s1 i n r) ⟨fun b x h _ => s1 b x h, fun b hb => by
      rcases List.mem_cons.mp hb with rfl | hb
      · exact .inr n
      · exact .inl hb⟩⟩
theorem fs_setLcV {i : Nat} {y : Str} {py spos : Pos} {scope : Scope} {own : List (Str × Nat)} {ix : List Nat} (hc : X.calm = true) (hN : X.N.Nodup) (hy : X.N[i]? = some y) (hyl : X.env.scope.names.lookup y = some .local) (hsw : swapsWith (.ListComp elt [⟨tg, iter, ifs, 0⟩] scope pos) (some (.Name y py)) spos.line X.env = pure true) (hi : FI X W tg iter l) (okb : BlkOk X.N X.env.scope scope own)
    (hg : ∀ (s : Shared) (H : Hp) (C : Addr) (cl : List (Str × Addr)) (fp : List Addr), FG (X.blk s H scope (compEnvC scope cl C X.env) fp) tg ix tgt) (hix : ∀ i ∈ ix, i ∈ own.map (·.2))
    (ht : ∀ (s : Shared) (H : Hp) (C : Addr) (cl : List (Str × Addr)) (fp : List Addr), FTs (X.blk s H scope (compEnvC scope cl C X.env) fp) wNo ifs p)
    (he : ∀ (s : Shared) (H : Hp) (C : Addr) (cl : List (Str × Addr)) (fp : List Addr), FE (X.blk s H scope (compEnvC scope cl C X.env) fp) wNo elt f) (hs : ∀ x, foldedSetIterable iter X.env x = pure x := by intro _; rfl) :
    FS X W (.Assign [.Name y py] (.ListComp elt [⟨tg, iter, ifs, 0⟩] scope pos) spos) (sSet i (cLc (own.map (·.2)) l tgt p f)) := impS (ps_setLc (g := tFG X.K ix tgt) (tt := tFT X.K X.mg wNo p) (te := tF X.K X.mg wNo f) hc hN hy hyl hsw hi okb hg ht he hs) fun D σ H ⟨H0, A0, A, ρ, o, P⟩ => lc_read (t := false) hix σ H _ ⟨H0, A0, A, ρ, o, (P.of o).mono fun d H1 s1 P1 v ⟨a, e, n, r⟩ => by
    subst e
    exact P1 _ H1 A ((o.same s1).set i (r.free (fun z => o.has a z n) fun b hb => List.mem_cons_of_mem _ hb)) (Tr.same s1)⟩
def lcL2 (tgt : TgF) (p : En → R Bool) (l1 : En → R (List D)) (vs1 : List Nat) (tgt1 : TgF) (p1 : En → R Bool) (f : En → R D) (ρ : En) : List D → Option (List D)
  | [] => some []
  | d :: ds => (tgt d ρ).bind fun ρ1 => (noX (p ρ1)).bind fun b => if b = true then (noX (l1 ρ1)).bind fun es => (lcL tgt1 p1 f (wipeE ρ1 vs1) es).bind fun ys => (lcL2 tgt p l1 vs1 tgt1 p1 f ρ ds).map fun zs => ys ++ zs
    else lcL2 tgt p l1 vs1 tgt1 p1 f ρ ds
def cLc2 (vs vs1 : List Nat) (l : En → R (List D)) (tgt : TgF) (p : En → R Bool) (l1 : En → R (List D)) (tgt1 : TgF) (p1 : En → R Bool) (f : En → R D) : En → R D := fun ρ => (l ρ).bind fun ds =>
  ofO ((lcL2 tgt p l1 vs1 tgt1 p1 f (wipeE ρ vs) ds).bind fun ys => if ys.length ≤ sizeLine then some (.list ys) else none)
theorem lc2_read {t : Bool} {own : List (Str × Nat)} {vs1 ix ix1 : List Nat} (hix : ∀ i ∈ ix, i ∈ own.map (·.2)) (hix1 : ∀ i ∈ ix1, i ∈ vs1) (σ : St) (H : Hp) (Q : VK) (hq : tFN X.K X.mg W t (cLc2 (own.map (·.2)) vs1 l tgt p l1 tgt1 p1 f) σ H Q) :
    tLc2 (tFI X.K X.mg W l) (tFG X.K ix tgt) (tFT X.K X.mg wNo p) (tFI X.K X.mg wNo l1) (tFG X.K ix1 tgt1) (tFT X.K X.mg wNo p1) (tF X.K X.mg wNo f) (own.map (·.2)) vs1 σ H Q := by
  obtain ⟨H0, A0, A, ρ, ok, P⟩ := hq
  refine ⟨H0, A0, A, ρ, ok, P.bind.mono fun ds H1 s1 P1 J hJ L hL => ?_⟩
  obtain ⟨d, e1, q⟩ := P1.ofO
  obtain ⟨ys, e2, e3⟩ := Option.bind_eq_some_iff.mp e1
  split at e3
  rotate_left
  · cases e3
  rename_i hsz
  cases e3
  have hLa : H L = none := s1.free hL
  have ok1 := ok.same s1
  refine ⟨fun i m H2 => m = ds.length - i ∧ i ≤ ds.length ∧ Same H1 H2 ∧ ∃ vs ys1 ys2, H2 L = some (.lst vs) ∧ RepL X.K H2 (L :: A) vs ys1 ∧ lcL2 tgt p l1 vs1 tgt1 p1 f (wipeE ρ (own.map (·.2))) (ds.drop i) = some ys2 ∧ ys = ys1 ++ ys2,
    ⟨ds.length, rfl, Nat.zero_le _, same_upd hL, [], [], ys, upd_same, .nil, e2, rfl⟩, ?_⟩
  rintro i m H2 ⟨rfl, hile, sm, vs, ys1, ys2, hLv, rl, el, ey⟩
  have okg : Ok X.K H0 (L :: A0) (L :: A) ρ σ H2 := ok1.grow sm hL (.of hLv fun _ z => nomatch z)
  have okw := okg.wipe (own.map (·.2))
  have trL : ∀ {H3 : Hp}, Same H1 H3 → Tr A H1 (L :: A) H3 := fun {H3} s3 => ⟨fun b x h _ => s3 b x h, fun b hb => by
    rcases List.mem_cons.mp hb with rfl | hb
    · exact .inr hL
    · exact .inl hb⟩
  obtain ⟨hgo, hst⟩ := hJ (L :: A) H2 (trL sm) okg.kp
  by_cases hlt : i < ds.length
  · refine .inr ⟨(hgo i ds[i] (by simp [hlt])).1, fun H' => Same H1 H' ∧ ∃ vs ys1 ys2, H' L = some (.lst vs) ∧ RepL X.K H' (L :: A) vs ys1 ∧ lcL2 tgt p l1 vs1 tgt1 p1 f (wipeE ρ (own.map (·.2))) (ds.drop (i + 1)) = some ys2 ∧ ys = ys1 ++ ys2,
      fun H' h => ⟨ds.length - (i + 1), by omega, rfl, hlt, h⟩, fun x H3 hy => ?_⟩
    obtain ⟨sx, rx⟩ := (hgo i ds[i] (by simp [hlt])).2 x H3 hy
    rw [List.drop_eq_getElem_cons hlt] at el
    unfold lcL2 at el
    obtain ⟨ρ1, g1, el⟩ := Option.bind_eq_some_iff.mp el
    obtain ⟨bb, g2, el⟩ := Option.bind_eq_some_iff.mp el
    refine ⟨H0, L :: A0, L :: A, wipeE ρ (own.map (·.2)), ds[i], ρ1, okw.same sx, rx, g1, fun σ2 o2 ag => ⟨(wipe_agree hix ag).trans wipe_wipe, H0, L :: A0, L :: A, ρ1, o2, Post.noX g2 fun H4 s4 => ?_⟩⟩
    cases bb with
    | false =>
      rw [if_neg (by decide)] at el
      rw [if_neg (by decide)]
      exact ⟨(sm.trans sx).trans s4, vs, ys1, ys2, s4 _ _ (sx _ _ hLv), (rl.same sx).same s4, el, ey⟩
    | true =>
      rw [if_pos rfl] at el
      rw [if_pos rfl]
      obtain ⟨es, g3, el⟩ := Option.bind_eq_some_iff.mp el
      obtain ⟨us, g4, el⟩ := Option.bind_eq_some_iff.mp el
      obtain ⟨zs, g5, g6⟩ := Option.map_eq_some_iff.mp el
      subst g6
      refine ⟨H0, L :: A0, L :: A, ρ1, o2.same s4, Post.noX g3 fun H5 s5 J1 hJ1 => ?_⟩
      have sm5 : Same H1 H5 := ((sm.trans sx).trans s4).trans s5
      -- the inner loop: us are told already by ws1, still to be told ws2
      refine ⟨fun j k H6 => k = es.length - j ∧ j ≤ es.length ∧ Same H1 H6 ∧ Tr (L :: A) H5 (L :: A) H6 ∧ Ok X.K H0 (L :: A0) (L :: A) ρ1 σ2 H6 ∧ ∃ vs ws1 ws2, H6 L = some (.lst vs) ∧ RepL X.K H6 (L :: A) vs (ys1 ++ ws1) ∧ lcL tgt1 p1 f (wipeE ρ1 vs1) (es.drop j) = some ws2 ∧ us = ws1 ++ ws2,
        ⟨es.length, rfl, Nat.zero_le _, sm5, Tr.refl _ _, (o2.same s4).same s5, vs, [], us, s5 _ _ (s4 _ _ (sx _ _ hLv)), by rw [List.append_nil]; exact ((rl.same sx).same s4).same s5, g4, rfl⟩, ?_⟩
      rintro j k H6 ⟨rfl, hjle, sm6, u6, o6, vs6, ws1, ws2, hLv6, rl6, el6, ey6⟩
      obtain ⟨hgo1, hst1⟩ := hJ1 (L :: A) H6 u6 o6.kp
      by_cases hlt1 : j < es.length
      · refine .inr ⟨(hgo1 j es[j] (by simp [hlt1])).1, fun H' => Same H1 H' ∧ Tr (L :: A) H5 (L :: A) H' ∧ Ok X.K H0 (L :: A0) (L :: A) ρ1 σ2 H' ∧ ∃ vs ws1 ws2, H' L = some (.lst vs) ∧ RepL X.K H' (L :: A) vs (ys1 ++ ws1) ∧ lcL tgt1 p1 f (wipeE ρ1 vs1) (es.drop (j + 1)) = some ws2 ∧ us = ws1 ++ ws2,
          fun H' h => ⟨es.length - (j + 1), by omega, rfl, hlt1, h⟩, fun x1 H7 hy1 => ?_⟩
        obtain ⟨sx1, rx1⟩ := (hgo1 j es[j] (by simp [hlt1])).2 x1 H7 hy1
        rw [List.drop_eq_getElem_cons hlt1] at el6
        unfold lcL at el6
        obtain ⟨ρ2, k1, el6⟩ := Option.bind_eq_some_iff.mp el6
        obtain ⟨b2, k2, el6⟩ := Option.bind_eq_some_iff.mp el6
        refine ⟨H0, L :: A0, L :: A, wipeE ρ1 vs1, es[j], ρ2, (o6.same sx1).wipe vs1, rx1, k1, fun σ3 o3 ag1 => ⟨(wipe_agree hix1 ag1).trans wipe_wipe, H0, L :: A0, L :: A, ρ2, o3, Post.noX k2 fun H8 s8 => ?_⟩⟩
        cases b2 with
        | false =>
          rw [if_neg (by decide)] at el6
          rw [if_neg (by decide)]
          exact ⟨(sm6.trans sx1).trans s8, (u6.trans (Tr.same sx1)).trans (Tr.same s8), (o6.same sx1).same s8, vs6, ws1, ws2, s8 _ _ (sx1 _ _ hLv6), (rl6.same sx1).same s8, el6, ey6⟩
        | true =>
          rw [if_pos rfl] at el6
          rw [if_pos rfl]
          obtain ⟨y, k3, el6⟩ := Option.bind_eq_some_iff.mp el6
          obtain ⟨xs, k4, k5⟩ := Option.map_eq_some_iff.mp el6
          subst k5
          refine ⟨H0, L :: A0, L :: A, ρ2, o3.same s8, Post.noX k3 fun H9 s9 v hv => ⟨vs6, s9 _ _ (s8 _ _ (sx1 _ _ hLv6)), ?_, fun b z hb => ?_, ?_, ?_, vs6 ++ [v], ws1 ++ [y], xs, upd_same, ?_, k4, by rw [ey6]; simp⟩⟩
          · rw [rl6.length]
            have h1 : ys.length = ys1.length + (us ++ zs).length := by rw [ey, List.length_append]
            rw [ey6] at h1
            simp only [List.length_append, List.length_cons] at h1 ⊢
            omega
          · rw [upd_ne (ne_of_none hb hL)]
            exact s9 _ _ (s8 _ _ (sx1 _ _ (sm6 _ _ hb)))
          · exact ((((u6.trans (Tr.same sx1)).trans (Tr.same s8)).trans (Tr.same s9))).trans (Tr.write List.mem_cons_self)
          · exact ((((o6.same sx1).same s8).same s9)).touch List.mem_cons_self (ok.ext.free hLa)
          · rw [← List.append_assoc]
            exact (((((rl6.same sx1).same s8).same s9)).append (.one hv)).tr (Tr.write List.mem_cons_self)
      · have e : j = es.length := by omega
        subst e
        rw [List.drop_length] at el6
        cases el6
        rw [List.append_nil] at ey6
        subst ey6
        exact .inl ⟨hst1, sm6, vs6, ys1 ++ us, zs, hLv6, rl6, g5, by rw [ey]; simp⟩
  · have e : i = ds.length := by omega
    subst e
    rw [List.drop_length] at el
    cases el
    rw [List.append_nil] at ey
    subst ey
    exact .inl ⟨hst, q H2 sm _ ⟨L, rfl, hLa, vs, hLv, rl⟩⟩
theorem fn_lc2 {t : Bool} {scope : Scope} {own : List (Str × Nat)} {vs1 ix ix1 : List Nat} (hc : X.calm = true) (hN : X.N.Nodup) (hi : FI X W tg iter l) (okb : BlkOk X.N X.env.scope scope own) (hv1 : ∀ i ∈ vs1, i ∈ own.map (·.2))
    (hg : ∀ (s : Shared) (H : Hp) (C : Addr) (cl : List (Str × Addr)) (fp : List Addr), FG (X.blk s H scope (compEnvC scope cl C X.env) fp) tg ix tgt) (hix : ∀ i ∈ ix, i ∈ own.map (·.2))
    (ht : ∀ (s : Shared) (H : Hp) (C : Addr) (cl : List (Str × Addr)) (fp : List Addr), FTs (X.blk s H scope (compEnvC scope cl C X.env) fp) wNo ifs p)
    (hi1 : ∀ (s : Shared) (H : Hp) (C : Addr) (cl : List (Str × Addr)) (fp : List Addr), FI (X.blk s H scope (compEnvC scope cl C X.env) fp) wNo tg1 iter1 l1)
    (hg1 : ∀ (s : Shared) (H : Hp) (C : Addr) (cl : List (Str × Addr)) (fp : List Addr), FG (X.blk s H scope (compEnvC scope cl C X.env) fp) tg1 ix1 tgt1) (hix1 : ∀ i ∈ ix1, i ∈ vs1)
    (ht1 : ∀ (s : Shared) (H : Hp) (C : Addr) (cl : List (Str × Addr)) (fp : List Addr), FTs (X.blk s H scope (compEnvC scope cl C X.env) fp) wNo ifs1 p1)
    (he : ∀ (s : Shared) (H : Hp) (C : Addr) (cl : List (Str × Addr)) (fp : List Addr), FE (X.blk s H scope (compEnvC scope cl C X.env) fp) wNo elt f) (hs : ∀ x, foldedSetIterable iter X.env x = pure x := by intro _; rfl) (hs1 : ∀ env x, foldedSetIterable iter1 env x = pure x := by intro _ _; rfl) :
    FN X W t (.ListComp elt [⟨tg, iter, ifs, 0⟩, ⟨tg1, iter1, ifs1, 0⟩] scope pos) (cLc2 (own.map (·.2)) vs1 l tgt p l1 tgt1 p1 f) :=
  impE (pe_lc2 (g := tFG X.K ix tgt) (tt := tFT X.K X.mg wNo p) (wi1 := tFI X.K X.mg wNo l1) (g1 := tFG X.K ix1 tgt1) (tt1 := tFT X.K X.mg wNo p1) (te := tF X.K X.mg wNo f) hc hN hi okb hv1 hg ht hi1 hg1 ht1 he hs hs1) (lc2_read hix hix1)
theorem fs_setLc2N {t : Bool} {i : Nat} {y : Str} {py spos : Pos} {scope : Scope} {own : List (Str × Nat)} {vs1 ix ix1 : List Nat} (hc : X.calm = true) (hN : X.N.Nodup) (hy : X.N[i]? = some y) (hyl : X.env.scope.names.lookup y = some .local) (hsw : swapsWith (.ListComp elt [⟨tg, iter, ifs, 0⟩, ⟨tg1, iter1, ifs1, 0⟩] scope pos) (some (.Name y py)) spos.line X.env = pure true) (hi : FI X W tg iter l) (okb : BlkOk X.N X.env.scope scope own) (hv1 : ∀ i ∈ vs1, i ∈ own.map (·.2))
    (hg : ∀ (s : Shared) (H : Hp) (C : Addr) (cl : List (Str × Addr)) (fp : List Addr), FG (X.blk s H scope (compEnvC scope cl C X.env) fp) tg ix tgt) (hix : ∀ i ∈ ix, i ∈ own.map (·.2))
    (ht : ∀ (s : Shared) (H : Hp) (C : Addr) (cl : List (Str × Addr)) (fp : List Addr), FTs (X.blk s H scope (compEnvC scope cl C X.env) fp) wNo ifs p)
    (hi1 : ∀ (s : Shared) (H : Hp) (C : Addr) (cl : List (Str × Addr)) (fp : List Addr), FI (X.blk s H scope (compEnvC scope cl C X.env) fp) wNo tg1 iter1 l1)
    (hg1 : ∀ (s : Shared) (H : Hp) (C : Addr) (cl : List (Str × Addr)) (fp : List Addr), FG (X.blk s H scope (compEnvC scope cl C X.env) fp) tg1 ix1 tgt1) (hix1 : ∀ i ∈ ix1, i ∈ vs1)
    (ht1 : ∀ (s : Shared) (H : Hp) (C : Addr) (cl : List (Str × Addr)) (fp : List Addr), FTs (X.blk s H scope (compEnvC scope cl C X.env) fp) wNo ifs1 p1)
    (he : ∀ (s : Shared) (H : Hp) (C : Addr) (cl : List (Str × Addr)) (fp : List Addr), FE (X.blk s H scope (compEnvC scope cl C X.env) fp) wNo elt f) (hs : ∀ x, foldedSetIterable iter X.env x = pure x := by intro _; rfl) (hs1 : ∀ env x, foldedSetIterable iter1 env x = pure x := by intro _ _; rfl) :
    FS X W (.Assign [.Name y py] (.ListComp elt [⟨tg, iter, ifs, 0⟩, ⟨tg1, iter1, ifs1, 0⟩] scope pos) spos) (sSetN i t (cLc2 (own.map (·.2)) vs1 l tgt p l1 tgt1 p1 f)) := impS (ps_setLc2 (g := tFG X.K ix tgt) (tt := tFT X.K X.mg wNo p) (wi1 := tFI X.K X.mg wNo l1) (g1 := tFG X.K ix1 tgt1) (tt1 := tFT X.K X.mg wNo p1) (te := tF X.K X.mg wNo f) hc hN hy hyl hsw hi okb hv1 hg ht hi1 hg1 ht1 he hs hs1) fun D σ H ⟨H0, A0, A, ρ, o, P⟩ => lc2_read (t := t) hix hix1 σ H _ ⟨H0, A0, A, ρ, o, (P.of o).mono fun d H1 s1 P1 v ⟨a, e, n, r⟩ => by
    subst e
    exact P1 _ H1 (a :: A) (o.setOwn s1 i n r) ⟨fun b x h _ => s1 b x h, fun b hb => by
      rcases List.mem_cons.mp hb with rfl | hb
      · exact .inr n
      · exact .inl hb⟩⟩
theorem fs_setLc2V {i : Nat} {y : Str} {py spos : Pos} {scope : Scope} {own : List (Str × Nat)} {vs1 ix ix1 : List Nat} (hc : X.calm = true) (hN : X.N.Nodup) (hy : X.N[i]? = some y) (hyl : X.env.scope.names.lookup y = some .local) (hsw : swapsWith (.ListComp elt [⟨tg, iter, ifs, 0⟩, ⟨tg1, iter1, ifs1, 0⟩] scope pos) (some (.Name y py)) spos.line X.env = pure true) (hi : FI X W tg iter l) (okb : BlkOk X.N X.env.scope scope own) (hv1 : ∀ i ∈ vs1, i ∈ own.map (·.2))
    (hg : ∀ (s : Shared) (H : Hp) (C : Addr) (cl : List (Str × Addr)) (fp : List Addr), FG (X.blk s H scope (compEnvC scope cl C X.env) fp) tg ix tgt) (hix : ∀ i ∈ ix, i ∈ own.map (·.2))
    (ht : ∀ (s : Shared) (H : Hp) (C : Addr) (cl : List (Str × Addr)) (fp : List Addr), FTs (X.blk s H scope (compEnvC scope cl C X.env) fp) wNo ifs p)
    (hi1 : ∀ (s : Shared) (H : Hp) (C : Addr) (cl : List (Str × Addr)) (fp : List Addr), FI (X.blk s H scope (compEnvC scope cl C X.env) fp) wNo tg1 iter1 l1)
    (hg1 : ∀ (s : Shared) (H : Hp) (C : Addr) (cl : List (Str × Addr)) (fp : List Addr), FG (X.blk s H scope (compEnvC scope cl C X.env) fp) tg1 ix1 tgt1) (hix1 : ∀ i ∈ ix1, i ∈ vs1)
    (ht1 : ∀ (s : Shared) (H : Hp) (C : Addr) (cl : List (Str × Addr)) (fp : List Addr), FTs (X.blk s H scope (compEnvC scope cl C X.env) fp) wNo ifs1 p1)
    (he : ∀ (s : Shared) (H : Hp) (C : Addr) (cl : List (Str × Addr)) (fp : List Addr), FE (X.blk s H scope (compEnvC scope cl C X.env) fp) wNo elt f) (hs : ∀ x, foldedSetIterable iter X.env x = pure x := by intro _; rfl) (hs1 : ∀ env x, foldedSetIterable iter1 env x = pure x := by intro _ _; rfl) :
    FS X W (.Assign [.Name y py] (.ListComp elt [⟨tg, iter, ifs, 0⟩, ⟨tg1, iter1, ifs1, 0⟩] scope pos) spos) (sSet i (cLc2 (own.map (·.2)) vs1 l tgt p l1 tgt1 p1 f)) := impS (ps_setLc2 (g := tFG X.K ix tgt) (tt := tFT X.K X.mg wNo p) (wi1 := tFI X.K X.mg wNo l1) (g1 := tFG X.K ix1 tgt1) (tt1 := tFT X.K X.mg wNo p1) (te := tF X.K X.mg wNo f) hc hN hy hyl hsw hi okb hv1 hg ht hi1 hg1 ht1 he hs hs1) fun D σ H ⟨H0, A0, A, ρ, o, P⟩ => lc2_read (t := false) hix hix1 σ H _ ⟨H0, A0, A, ρ, o, (P.of o).mono fun d H1 s1 P1 v ⟨a, e, n, r⟩ => by
    subst e
    exact P1 _ H1 A ((o.same s1).set i (r.free (fun z => o.has a z n) fun b hb => List.mem_cons_of_mem _ hb)) (Tr.same s1)⟩
end
end G

namespace G
open PySem PySem.Spec PyProof.Rows L2

/-! ### in -/
def flatB1 : D → Bool
  | .none => true
  | .bool _ => true
  | .int _ => true
  | .str _ => true
  | _ => false
/-- whether x is in y -/
def inB (x : D) : D → Option Bool
  | .list ds => if SeqAt.shaped x = true ∧ SeqAt.shaped (.list ds) = true then some (ds.any fun z => PyData.eqv z x) else none
  | .tuple ds => if flatB1 x = true ∧ ds.all flatB1 = true then some (ds.any fun z => PyData.eqv z x) else none
  | .dict kvs => match x with
    | .tuple ds => (keysD ds).bind fun ks => if (kvs.all fun kv => (keyD kv.1).isNone) = true ∧ noZ ks = true then some (getT kvs ks).isSome else none
    | x => (keyD x).bind fun k => if (kvs.all fun kv => (keyD kv.1).isSome) = true then some (getK kvs k).isSome else none
  | _ => none
def dIn (x y : D) : Option D := (inB x y).map .bool
def dNotIn (x y : D) : Option D := (inB x y).map fun b => .bool (!b)
section
variable {X : Cx}
theorem flat_V {K : Frg} {H : Hp} {A : List Addr} {v : V} {d : D} (h : Rep K H A v d) (f : flatB1 d = true) : flatV v = true ∧ ∀ w e, Rep K H A w e → flatB1 e = true → eqV v w = PyData.eqv d e := by
  cases h with
  | non => exact ⟨rfl, fun w e hw he => by cases hw <;> first | (simp [eqV, PyData.eqv]; done) | cases he⟩
  | bl b => exact ⟨rfl, fun w e hw he => by cases hw <;> first | (simp [eqV, PyData.eqv]; done) | cases he⟩
  | int b => exact ⟨rfl, fun w e hw he => by cases hw <;> first | (simp [eqV, PyData.eqv]; done) | cases he⟩
  | str b => exact ⟨rfl, fun w e hw he => by cases hw <;> first | (simp [eqV, PyData.eqv]; done) | cases he⟩
  | _ => cases f
theorem flat_all {K : Frg} {H : Hp} {A : List Addr} {w : V} {e : D} (hw : Rep K H A w e) (he : flatB1 e = true) : ∀ {vs : List V} {ds : List D}, RepL K H A vs ds → ds.all flatB1 = true → vs.all flatV = true ∧ inV w vs = ds.any fun z => PyData.eqv z e
  | _, _, .nil, _ => ⟨rfl, rfl⟩
  | _, _, .cons a t, h => by
    rw [List.all_cons, Bool.and_eq_true] at h
    obtain ⟨h1, h2⟩ := flat_V a h.1
    obtain ⟨h3, h4⟩ := flat_all hw he t h.2
    refine ⟨by rw [List.all_cons, h1, h3]; rfl, ?_⟩
    unfold inV at h4 ⊢
    rw [List.any_cons, List.any_cons, h4, h2 w e hw he]
def rInDc (neg : Bool) : R2 := fun x y H Q => ∃ a o, y = .ref a ∧ DGet H a x o ∧ Q (.bl (if neg then !o.isSome else o.isSome)) H
theorem op_inDc (hu : X.A.units + 1 < cLine) : OpR X (compareOp .In) (rInDc false) := by
  intro pins s σ H x y v u Q I rx ry h
  obtain ⟨a, o, rfl, g, q⟩ := h
  cases ry
  exact d_in hu I g rx fun s' I' => ⟨.bl _, H, I', rfl, q⟩
theorem op_notInDc (hu : X.A.units + 1 < cLine) : OpR X (compareOp .NotIn) (rInDc true) := by
  intro pins s σ H x y v u Q I rx ry h
  obtain ⟨a, o, rfl, g, q⟩ := h
  cases ry
  exact d_notIn hu I g rx fun s' I' => ⟨.bl _, H, I', rfl, q⟩
/-- an empty dict, of whichever keys -/
theorem bare {P : Program} {w : World} {H : Hp} {h : Heap} {a : Addr} (ok : HOk P w H h) (e : Rd H a (.dK []) ∨ Rd H a (.dT [])) :
    (a == sysModules) = false ∧ h.DictOf (mixKind P w) a [] ∧ h.DictOfH (tupleKind (mixKind P w)) a [] := by
  have q : (a == sysModules) = false ∧ ∃ o es ep, h.get? a = some o ∧ o.ExactDict ∧ o.data = .dict es ep ∧ es.toList = [] := by
    rcases e with e | e
    · obtain ⟨_, hd, vs, rel, dd⟩ := dk_rd ok e
      cases rel
      obtain ⟨o, es, ep, h1, h2, h3, _, h5, _⟩ := dd
      exact ⟨hd, o, es, ep, h1, h2, h3, by cases h6 : es.toList with | nil => rfl | cons x y => rw [h6] at h5; cases h5⟩
    · obtain ⟨_, hd, xs, rel, dd⟩ := dt_rd ok e
      cases rel
      obtain ⟨o, es, ep, h1, h2, h3, h4, _⟩ := dd
      exact ⟨hd, o, es, ep, h1, h2, h3, h4⟩
  obtain ⟨hd, o, es, ep, h1, h2, h3, h4⟩ := q
  have h5 : es = #[] := Array.toList_eq_nil_iff.mp h4
  subst h5
  exact ⟨hd, ⟨o, #[], ep, h1, h2, h3, fun x hx => by simp at hx, .nil, List.nodup_nil⟩, ⟨o, #[], ep, h1, h2, h3, rfl, fun x hx => absurd hx List.not_mem_nil, List.nodup_nil⟩⟩
def rInE (neg : Bool) : R2 := fun x y H Q => ∃ a, y = .ref a ∧ (Rd H a (.dK []) ∨ Rd H a (.dT [])) ∧ ((∃ k, x = kV k) ∨ ∃ (b : Addr) (ks : List Key), x = .ref b ∧ H b = some (.tup (ks.map kV))) ∧ Q (.bl neg) H
theorem op_inE (hu : X.A.units + 1 < cLine) : OpR X (compareOp .In) (rInE false) := by
  intro pins s σ H x y v u Q I rx ry h
  obtain ⟨a, rfl, e, k, q⟩ := h
  cases ry
  obtain ⟨hd, d1, d2⟩ := bare I.hok e
  rcases k with ⟨k, rfl⟩ | ⟨b, ks, rfl, eb⟩
  · exact wpAny_in_of (kV_is rx) hd d1.mapOf ⟨.bl _, H, I.tok _, rfl, q⟩
  · cases rx
    exact wpAny_in_heap (tupleKind_room_in1 hu) (key_of I.hok eb) hd d2 ⟨.bl _, H, I.tok _, rfl, q⟩
theorem op_notInE (hu : X.A.units + 1 < cLine) : OpR X (compareOp .NotIn) (rInE true) := by
  intro pins s σ H x y v u Q I rx ry h
  obtain ⟨a, rfl, e, k, q⟩ := h
  cases ry
  obtain ⟨hd, d1, d2⟩ := bare I.hok e
  rcases k with ⟨k, rfl⟩ | ⟨b, ks, rfl, eb⟩
  · exact wpAny_notIn_of (kV_is rx) hd d1.mapOf ⟨.bl _, H, I.tok _, rfl, q⟩
  · cases rx
    exact wpAny_notIn_heap (tupleKind_room_in1 hu) (key_of I.hok eb) hd d2 ⟨.bl _, H, I.tok _, rfl, q⟩
theorem in_read {K : Frg} {H : Hp} {A : List Addr} {x y : V} {d1 d2 : D} {b : Bool} (hx : Rep K H A x d1) (hy : RepB K H A y d2) (e : inB d1 d2 = some b) :
    (∃ ds, d2 = .list ds ∧ Dp K H x d1 ∧ Dp K H y (.list ds) ∧ SeqAt.shaped d1 = true ∧ SeqAt.shaped (.list ds) = true ∧ b = ds.any fun z => PyData.eqv z d1) ∨
    (∃ p xs, y = .ref p ∧ SqT K H p xs ∧ flatV x = true ∧ xs.all flatV = true ∧ inV x xs = b) ∨ (∃ a o, y = .ref a ∧ DGet H a x o ∧ o.isSome = b) ∨
    ∃ a, y = .ref a ∧ (Rd H a (.dK []) ∨ Rd H a (.dT [])) ∧ ((∃ k, x = kV k) ∨ ∃ (b : Addr) (ks : List Key), x = .ref b ∧ H b = some (.tup (ks.map kV))) ∧ b = false := by
  unfold inB at e
  split at e
  · rename_i ds
    split at e
    · rename_i h
      cases e
      exact .inl ⟨ds, rfl, (RepB.of hx).dp h.1, hy.dp h.2, h.1, h.2, rfl⟩
    · cases e
  · split at e
    · rename_i h
      cases e
      obtain ⟨p, xs, rfl, h1, r⟩ := hy.tup
      obtain ⟨h3, h4⟩ := flat_all hx h.1 r h.2
      exact .inr (.inl ⟨p, xs, rfl, h1, (flat_V hx h.1).1, h3, h4⟩)
    · cases e
  · rename_i kvs
    obtain ⟨a, rfl, hd⟩ := hy.dict
    split at e
    · rename_i ds
      obtain ⟨ks, e1, e2⟩ := Option.bind_eq_some_iff.mp e
      clear e
      obtain rfl := keysD_some e1
      split at e2
      · rename_i hk
        cases e2
        cases hx with
        | tup n hb rk =>
          rw [rep_key rk] at hb
          rcases hd with ⟨rows, h1, r⟩ | ⟨rows, h1, r⟩ | ⟨C0, n0, rfl⟩
          rotate_left 2
          · exact Bool.noConfusion (show false = true from hk.1)
          · obtain rfl := repT_of_K r hk.1
            cases r
            exact .inr (.inr (.inr ⟨a, rfl, .inl h1, .inr ⟨_, ks, rfl, hb⟩, rfl⟩))
          · refine .inr (.inr (.inl ⟨a, valV rows ks, rfl, .inr ⟨rows, ks, _, h1, rfl, hb, rfl⟩, ?_⟩))
            cases hg : getT kvs ks with
            | none => rw [(getT_rep r).2 hg]; rfl
            | some z => obtain ⟨v, h2, _⟩ := (getT_rep r).1 z hg; rw [h2]; rfl
        | kt z rk =>
          have := zt_key z rk
          rw [this] at hk
          exact absurd hk.2 (by decide)
      · cases e2
    · rename_i nt
      obtain ⟨k, e1, e2⟩ := Option.bind_eq_some_iff.mp e
      clear e
      obtain rfl := keyD_some e1
      split at e2
      · rename_i hk
        cases e2
        have ex : x = kV k := by
          cases k with
          | inl n => exact (RepB.of hx).int
          | inr n => exact (RepB.of hx).str
        rcases hd with ⟨rows, h1, r⟩ | ⟨rows, h1, r⟩ | ⟨C0, n0, rfl⟩
        rotate_left 2
        · exact Bool.noConfusion (show false = true from hk)
        · refine .inr (.inr (.inl ⟨a, valV rows k, rfl, .inl ⟨rows, k, h1, ex, rfl⟩, ?_⟩))
          cases hg : getK kvs k with
          | none => rw [(getK_rep r).2 hg]; rfl
          | some z => obtain ⟨v, h2, _⟩ := (getK_rep r).1 z hg; rw [h2]; rfl
        · obtain rfl := repK_of_T r hk
          cases r
          exact .inr (.inr (.inr ⟨a, rfl, .inr h1, .inl ⟨k, ex⟩, rfl⟩))
      · cases e2
  · cases e
/-- .. the left operand data nobody changes, the right one borrowed -/
def DOpI (X : Cx) (F : Value → Value → Sem Value) (dop : D → D → Option D) : Prop :=
  ∃ r : R2, OpR X F r ∧ ∀ (H : Hp) (A : List Addr) (x y : V) (d1 d2 d : D) (Q : VK), (∀ a ∈ A, H a ≠ none) → Rep X.K H A x d1 → RepB X.K H A y d2 → dop d1 d2 = some d → (∀ v H', Same H H' → Rep X.K H' A v d → Q v H') → r x y H Q
theorem OpR.or {F : Value → Value → Sem Value} {r q : R2} (h : OpR X F r) (k : OpR X F q) : OpR X F (fun x y H Q => r x y H Q ∨ q x y H Q) := by
  intro pins s σ H x y v u Q I rx ry z
  rcases z with z | z
  · exact h pins s σ H x y v u Q I rx ry z
  · exact k pins s σ H x y v u Q I rx ry z
/-- what `in` comes to -/
theorem do_in (hu : X.A.units + 65 < cLine) : DOpI X (compareOp .In) dIn := by
  refine ⟨_, (op_inD hu).or (op_in_seq.or ((op_inDc (by omega)).or (op_inE (by omega)))), fun H A x y d1 d2 d Q hA hx hy e q => ?_⟩
  obtain ⟨b, e1, rfl⟩ := Option.map_eq_some_iff.mp e
  have q' : Q (.bl b) H := q _ H (Same.refl H) (.bl b)
  rcases in_read hx hy e1 with ⟨ds, rfl, h1, h2, h3, h4, rfl⟩ | ⟨p, xs, rfl, h1, h2, h3, rfl⟩ | ⟨a, o, rfl, h1, rfl⟩ | ⟨a, rfl, h1, h2, rfl⟩
  · exact .inl ⟨d1, ds, h1, h2, h3, h4, q'⟩
  · exact .inr (.inl ⟨p, xs, rfl, .inr h1, h2, h3, q'⟩)
  · exact .inr (.inr (.inl ⟨a, o, rfl, h1, q'⟩))
  · exact .inr (.inr (.inr ⟨a, rfl, h1, h2, q'⟩))
theorem do_notin (hu : X.A.units + 65 < cLine) : DOpI X (compareOp .NotIn) dNotIn := by
  refine ⟨_, (op_notInD hu).or (op_notIn_seq.or ((op_notInDc (by omega)).or (op_notInE (by omega)))), fun H A x y d1 d2 d Q hA hx hy e q => ?_⟩
  obtain ⟨b, e1, rfl⟩ := Option.map_eq_some_iff.mp e
  have q' : Q (.bl (!b)) H := q _ H (Same.refl H) (.bl (!b))
  rcases in_read hx hy e1 with ⟨ds, rfl, h1, h2, h3, h4, rfl⟩ | ⟨p, xs, rfl, h1, h2, h3, rfl⟩ | ⟨a, o, rfl, h1, rfl⟩ | ⟨a, rfl, h1, h2, rfl⟩
  · exact .inl ⟨d1, ds, h1, h2, h3, h4, q'⟩
  · exact .inr (.inl ⟨p, xs, rfl, .inr h1, h2, h3, q'⟩)
  · exact .inr (.inr (.inl ⟨a, o, rfl, h1, q'⟩))
  · exact .inr (.inr (.inr ⟨a, rfl, h1, h2, q'⟩))
variable {W : WX} {a b : Expr} {f g : En → R D} {op : CmpOp} {dop : D → D → Option D} {pos : Pos}
theorem fe_inD (ho : DOpI X (compareOp op) dop) (ha : FE X W a f) (hb : FB X W b g) (hm : behindInMarks op b = false) : FE X W (.Compare a [op] [b] pos) (cBin dop f g) := by
  obtain ⟨r, hr, hs⟩ := ho
  refine impE (pe_cmpR hr ha hb hm) fun σ H Q ⟨H0, A0, A, ρ, o, P⟩ => ?_
  refine ⟨H0, A0, A, ρ, o, P.bind.mono fun d1 H1 s1 P1 x hx => ?_⟩
  refine ⟨H0, A0, A, ρ, o.same s1, P1.bind.mono fun d2 H2 s2 P2 y hy => ?_⟩
  obtain ⟨d, e, P3⟩ := P2.ofO
  exact hs H2 A x y d1 d2 d Q ((o.same s1).same s2).has (hx.same s2) hy e fun v H' s3 hv => P3 H' s3 v hv
theorem ft_inD (ho : DOpI X (compareOp op) dop) (ha : FE X W a f) (hb : FB X W b g) (hm : behindInMarks op b = false) : FT X W (.Compare a [op] [b] pos) (cBinT dop f g) := by
  obtain ⟨r, hr, hs⟩ := ho
  refine impT (pt_cmpR hr ha hb hm) fun σ H Q ⟨H0, A0, A, ρ, o, P⟩ => ?_
  refine ⟨H0, A0, A, ρ, o, P.bind.mono fun d1 H1 s1 P1 x hx => ?_⟩
  refine ⟨H0, A0, A, ρ, o.same s1, P1.bind.mono fun d2 H2 s2 P2 y hy => ?_⟩
  obtain ⟨k, e, P3⟩ := P2.ofO
  obtain ⟨d, e1, e2⟩ := Option.bind_eq_some_iff.mp e
  obtain rfl := toB_some e2
  exact hs H2 A x y d1 d2 _ _ ((o.same s1).same s2).has (hx.same s2) hy e1 fun v H' s3 hv => ⟨k, (RepB.of hv).bool, P3 H' s3⟩
end
end G

namespace G
open PySem PySem.Spec PyProof.Rows L2

/-! ### what a def comes to -/
/-- the wish of a call's result -/
def Want (K : Frg) (mg : MgT) (H : Hp) (Av : List Addr) (Q : VK) (E : XK) : R D → Prop
  | .ok d => ∀ v H', Same H H' → Rep K H' Av v d → Q v H'
  | .ex c n => ∀ u p H', Same H H' → H p = none → ErrAt mg c n u p H' → E u (some p) H'
  | .no => False
structure FnG (P : Program) (w : World) (K : Frg) (mg : MgT) (base : Heap) (k : Nat) (f : Addr) (fd : FuncData) (ps : List Str) (F : List D → R D) : Prop where
  run : ∀ (A : Around) (outer : List Env) (s : Shared) (H : Hp) (args : Args) (us : List Value) (vs : List V) (ds : List D) (Av : List Addr) (Q : VK) (E : XK), Room k A → A.guards = some [] → Env0 P w K mg base A outer s H →
    (us.length = ps.length → BindsTo s fd args (ps.zip us)) → Vals vs us → RepL K H Av vs ds → (∀ a ∈ Av, Kp H a) → Want K mg H Av Q E (F ds) → codeAny (model P w) A (.call (.ref f) args) (CR (L2N.CX P w) outer P w H s Q E) s
theorem FnG.mono {P : Program} {w : World} {K : Frg} {mg : MgT} {base : Heap} {j k : Nat} {f : Addr} {fd : FuncData} {ps : List Str} {F : List D → R D} (h : FnG P w K mg base j f fd ps F) (l : j ≤ k) : FnG P w K mg base k f fd ps F :=
  ⟨fun A outer s H args us vs ds Av Q E hr => h.run A outer s H args us vs ds Av Q E (hr.mono l)⟩
/-- a promise told in other words -/
theorem FnG.imp {P : Program} {w : World} {K : Frg} {mg : MgT} {base : Heap} {k : Nat} {f : Addr} {fd : FuncData} {ps : List Str} {F F' : List D → R D} (h : FnG P w K mg base k f fd ps F) (i : ∀ ds, F' ds = .no ∨ F' ds = F ds) : FnG P w K mg base k f fd ps F' :=
  ⟨fun A outer s H args us vs ds Av Q E hr hg e0 hb r rd ha q => by
    rcases i ds with e | e
    · rw [e] at q; exact q.elim
    · rw [e] at q; exact h.run A outer s H args us vs ds Av Q E hr hg e0 hb r rd ha q⟩
/-- the slots at the entry -/
def enter (n p : Nat) (ds : List D) : En := ds.map (fun d => some (.v d)) ++ List.replicate (n - p) none
def SR.out : SR → R D
  | .nx _ => .ok .none
  | .rt d => .ok d
  | .ex c m _ => .ex c m
  | _ => .no
def runF (n p : Nat) (g : En → SR) (ds : List D) : R D := if ds.length = p then (g (enter n p ds)).out else .no
abbrev wE (E : XK) : WX := fun c d _ H => E c d H
/-- the context of a def's body -/
abbrev bx (P : Program) (w : World) (K : Frg) (mg : MgT) (base : Heap) (N : List Str) (qual : Str) (scope : Scope) (f : Addr) (cd : Value) (A : Around) (outer : List Env) (s : Shared) (H : Hp) (E : XK) : Cx :=
  cxOf (L2N.CX P w) P w K mg base N qual scope f cd A outer s H E
theorem bx_takes {P : Program} {w : World} {K : Frg} {mg : MgT} {base : Heap} {N : List Str} {qual : Str} {scope : Scope} {f : Addr} {cd : Value} {A : Around} {outer : List Env} {s : Shared} {H : Hp} {E : XK} : L2N.Takes (bx P w K mg base N qual scope f cd A outer s H E) (wE E) :=
  L2N.takes_of rfl rfl rfl rfl
theorem bx_owns {P : Program} {w : World} {K : Frg} {mg : MgT} {base : Heap} {N : List Str} {qual : Str} {scope : Scope} {f : Addr} {cd : Value} {A : Around} {outer : List Env} {s : Shared} {H : Hp} {E : XK} :
    PassesOwn (model P w) (bx P w K mg base N qual scope f cd A outer s H E).A (bx P w K mg base N qual scope f cd A outer s H E).env (bx P w K mg base N qual scope f cd A outer s H E).xe := passes_of rfl
theorem Ok.start {K : Frg} {H : Hp} {Av : List Addr} {vs : List V} {ds : List D} {n : Nat} {N : List Str} (hn : N.length = n) (r : RepL K H Av vs ds) (ha : ∀ a ∈ Av, Kp H a) (hl : ds.length ≤ n) : Ok K H Av Av (enter n ds.length ds) (L2.start N vs) H where
  len := by
    unfold enter L2.start
    rw [List.length_append, List.length_append, List.length_map, List.length_map, List.length_replicate, List.length_replicate, r.length, hn]
  ext := Same.refl H
  sub := fun _ h => h
  new := fun _ h => .inl h
  kp := ha
  slot := fun i s h => by
    unfold enter at h
    by_cases hi : i < ds.length
    · rw [List.getElem?_append_left (by simpa using hi), List.getElem?_map] at h
      obtain ⟨d, h1, h2⟩ := Option.map_eq_some_iff.mp h
      cases h2
      obtain ⟨v, h3, h4⟩ := r.get h1
      refine ⟨v, ?_, h4⟩
      unfold L2.start
      rw [List.getElem?_append_left (by simpa [r.length] using hi), List.getElem?_map, h3]
      rfl
    · rw [List.getElem?_append_right (by simpa using hi), List.getElem?_replicate] at h
      split at h <;> cases h
  dis := fun i j a t t' d d' ne h1 h2 h3 => by
    unfold enter at h1
    by_cases hi : i < ds.length
    · rw [List.getElem?_append_left (by simpa using hi), List.getElem?_map] at h1
      obtain ⟨d, h1, h2⟩ := Option.map_eq_some_iff.mp h1
      cases h2
    · rw [List.getElem?_append_right (by simpa using hi), List.getElem?_replicate] at h1
      split at h1 <;> cases h1
/-- the end of a body -/
theorem want_out {K : Frg} {mg : MgT} {H : Hp} {Av : List Addr} {Q : VK} {E : XK} {r : SR} (h : Want K mg H Av Q E r.out) : PostS K mg (wE E) H Av Av H { nx := fun _ H' => Q .non H', rt := Q } r := by
  cases r with
  | nx ρ => exact fun σ' H' A' o _ => h .non H' o.ext .non
  | rt d => exact h
  | bk ρ => exact h.elim
  | ct ρ => exact h.elim
  | ex c n ρ => exact fun u p σ' H' A' o _ f e => h u p H' o.ext f.1 e
  | no => exact h.elim

/-- THE RULE for a def -/
theorem fng_of {P : Program} {w : World} {K : Frg} {mg : MgT} {base : Heap} {k n p : Nat} {f : Addr} {name qual : Str} {params : Arguments} {body : List Stmt} {scope : Scope} {dV kV doc pm cdv ct oc : Value} {an od : Option Addr}
    {osl : Array (Option Value)} {N ps : List Str} {g : En → SR} (lk : K.lookup f = some ⟨oc, od, .func (PySem.W.fnOf name qual params body scope dV kV doc pm an cdv ct), osl⟩) (hcd : PySem.W.codeIn K cdv qual = true) (S : FnScope N ps scope)
    (hn : N.length = n) (hp : ps.length = p)
    (hbody : ∀ (A : Around) (outer : List Env) (s : Shared) (H : Hp) (E : XK), Room k (A.deeper (envOfC qual scope s.heap.objs.size f cdv)) → A.guards = some [] → FSs (bx P w K mg base N qual scope f cdv A outer s H E) (wE E) body g) :
    FnG P w K mg base (k + 1) f (PySem.W.fnOf name qual params body scope dV kV doc pm an cdv ct) ps (runF n p g) := by
  refine ⟨fun A outer s H args us vs ds Av Q E hr hg e0 hb r rd ha hsp => ?_⟩
  unfold runF at hsp
  split at hsp
  rotate_left
  · exact hsp.elim
  rename_i hds
  have hl : vs.length = ps.length := by rw [rd.length, hds, hp]
  have KX : K.In s.heap := e0.mod.kin.keeps fun b o e => (e0.bs b o e).1
  have lim : s.heap.NoLimit := e0.mod.nolimit.keeps fun b o e => (e0.bs b o e).1
  have hkind : ∀ y ∈ ps.zip us, scope.names.lookup y.1 = some .local ∨ (scope.names.lookup y.1 = some .cell ∧ ((cellsFrom (s.heap.objs.size + 1) scope.names []).lookup y.1).isSome = true) := fun ⟨n, v⟩ hy => by
    rcases S.par n (List.of_mem_zip hy).1 with q | q
    · exact .inl q
    · exact .inr ⟨q, PySem.W.cellsFrom_some _ _ _ (.inl q)⟩
  refine codeAny_call_function hr.depth (KX _ _ lk) rfl S.co S.gen rfl (PySem.W.codeRec_of KX hcd) (hb (by rw [← r.length]; exact hl) _ _ _ _ ?_)
  refine wpAny_newFunctionEnv_cells S.kind hkind fun env he s1 x => ?_
  subst he
  refine ⟨lim.keeps x.toInCall.keep, codeAny_func ?_⟩
  have I : Inv (bx P w K mg base N qual scope f cdv A outer s H E) [] (L2.start N vs) H s1 := inv_start S hr.hd e0 hl r x
  have hpn : p ≤ n := by
    have := congrArg List.length S.pre
    rw [List.length_take] at this
    omega
  have o : Ok K H Av Av (enter n p ds) (L2.start N vs) H := hds ▸ Ok.start hn rd ha (by omega)
  refine wpAny_mono ((hbody A outer s H E (hr.deeper _) hg).run [] s1 (L2.start N vs) H _ I ⟨H, Av, Av, _, o, want_out hsp⟩) (fun fl s' hs => ?_) fun e s' hs => hs
  have fin : ∀ {σ' : St} {H' : Hp} {v : V} {u : Value}, Inv (bx P w K mg base N qual scope f cdv A outer s H E) [] σ' H' s' → RelV v u → Q v H' → CE outer P w H s Q u s' :=
    fun {σ' H' v u} J rv q => ⟨v, H', J.os, J.bare, J.base, J.hok, rv, q⟩
  cases fl with
  | ret u =>
    obtain ⟨v, σ', H', J, rv, q⟩ := hs
    exact fin J rv q
  | next =>
    obtain ⟨σ', H', J, q⟩ := hs
    exact fin (v := V.non) (u := Value.none) J rfl q
  | brk =>
    obtain ⟨_, _, _, q⟩ := hs
    exact False.elim q
  | cont =>
    obtain ⟨_, _, _, q⟩ := hs
    exact False.elim q

/-! ### calls -/
def cCallF (F : List D → R D) (l : En → R (List D)) : En → R D := fun ρ => (l ρ).bind F
section
variable {X : Cx} {W : WX} {k : Nat} {f : Addr} {fd : FuncData} {ps : List Str} {F : List D → R D} {x : Str} {p pos : Pos} {e : Expr} {es : List Expr} {l : En → R (List D)}
theorem run_fng {pins : List (Addr × Obj)} {σ : St} {H : Hp} {s : Shared} {Q : VK} {us : List Value} {vs : List V} {ds : List D} {Av : List Addr} (Fg : FnG X.prog X.w X.K X.mg X.base k f fd ps F) (hr : Room k X.A) (hgd : X.A.guards = some []) (hb : Binds X.K fd ps []) (tk : L2N.Takes X W)
    (I : Inv X pins σ H s) (r : Vals vs us) (rd : RepL X.K H Av vs ds) (ha : ∀ a ∈ Av, Kp H a) (h : Want X.K X.mg H Av Q (WE W σ) (F ds)) : wpAny (model X.prog X.w) X.A (call (.ref f) us) (EP X pins σ Q) X.xe s := by
  refine wpAny_call (codeAny_mono (Fg.run X.A X.stack s H ⟨us, []⟩ us vs ds Av Q (WE W σ) hr hgd I.env0 (fun hl => ?_) r rd ha h) fun r s' hq => ?_)
  · have b := hb s us I.kIn (by rw [List.append_nil]; exact hl)
    rw [List.append_nil] at b
    exact b
  · cases r with
    | error e => exact L2N.passAt tk σ pins H s e s' I hq
    | ok fl =>
      cases fl with
      | ret u => exact I.after hq
      | next => exact False.elim hq
      | brk => exact False.elim hq
      | cont => exact False.elim hq
theorem Post.want {mg : MgT} {K : Frg} {σ : St} {H : Hp} {A : List Addr} {Q : VK} {r : R D} (h : Post mg W σ H (fun d H' => ∀ v, Rep K H' A v d → Q v H') r) : Want K mg H A Q (WE W σ) r := by
  cases r with
  | ok d => exact fun v H' s r => h H' s v r
  | ex c n => exact h
  | no => exact h
theorem fe_call (Fg : FnG X.prog X.w X.K X.mg X.base k f fd ps F) (hr : Room k X.A) (hgd : X.A.guards = some []) (hg : Gl X x) (hm : X.mg x = some (.ref f)) (hk : PySem.W.keepIn X.K (.ref f) = true) (hb : Binds X.K fd ps []) (tk : L2N.Takes X W)
    (ha : FA X W (e :: es) l) (hdb : (x == ("__debug__" : Str)) = false := by decide) (he : starEach (e :: es) X.env = (false, eval e X.env) :: starEach es X.env := by rfl) (hpl : (backTo pos (starEach es X.env)).any (·.1) = false := by rfl) :
    FE X W (.Call (.Name x p) (e :: es) [] pos) (cCallF F l) := by
  refine ⟨fun pins s σ H Q I ⟨H0, A0, A, ρ, o, P⟩ => ?_⟩
  refine wpAny_Call_Name_kw (ld_glob I hg hm ?_ hdb)
  refine PySem.W.callWith_K (h₀ := X.base) I.ok.mod.kin hk (thn (ha.run pos pins s σ H (fun vs H1 => Same H H1 ∧ ∃ ds, RepL X.K H1 A vs ds ∧ Want X.K X.mg H1 A Q (WE W σ) (F ds)) I ⟨H0, A0, A, ρ, o, P.bind.mono fun ds H1 s1 P1 vs hv => ⟨s1, ds, hv, P1.want⟩⟩) fun us s1 ⟨vs, H1, I1, r, sm, ds, rd, q⟩ => ⟨I1.kIn, ?_⟩) he hpl
  exact run_fng Fg hr hgd hb tk I1 r rd (o.same sm).kp q
theorem fe_call0 (Fg : FnG X.prog X.w X.K X.mg X.base k f fd ps F) (hr : Room k X.A) (hgd : X.A.guards = some []) (hg : Gl X x) (hm : X.mg x = some (.ref f)) (hk : PySem.W.keepIn X.K (.ref f) = true) (hb : Binds X.K fd ps []) (tk : L2N.Takes X W)
    (hdb : (x == ("__debug__" : Str)) = false := by decide) : FE X W (.Call (.Name x p) [] [] pos) (cCallF F fun _ => .ok []) := by
  refine ⟨fun pins s σ H Q I ⟨H0, A0, A, ρ, o, P⟩ => ?_⟩
  refine wpAny_Call_Name_kw (ld_glob I hg hm ?_ hdb)
  exact PySem.W.callWith_K0 I.kIn hk (run_fng (us := []) (vs := []) (ds := []) Fg hr hgd hb tk I .nil .nil o.kp (Post.want P))
end
end G

namespace G
open PySem PySem.Spec PyProof.Rows L2

/-! ### the law's script -/
def cLenS (i : Nat) : En → R D := fun ρ => match ρ[i]? with
  | some (some (.sc ns)) => .ok (.int ns.length)
  | _ => .no
def cIxS (i : Nat) (g : En → R D) : En → R D := fun ρ => match ρ[i]? with
  | some (some (.sc ns)) => (g ρ).bind fun d => ofO ((toI d).bind fun k => (atI ns k).map .int)
  | _ => .no
def cCallS (i : Nat) (F : List Int → R D) : En → R D := fun ρ => match ρ[i]? with
  | some (some (.sc ns)) => F ns
  | _ => .no
theorem atI_map {α β : Type} {f : α → β} {xs : List α} {k : Int} {y : α} (h : atI xs k = some y) : atI (xs.map f) k = some (f y) := by
  unfold atI at h ⊢
  obtain ⟨j, h1, h2⟩ := Option.bind_eq_some_iff.mp h
  rw [List.length_map, h1, Option.bind_some, List.getElem?_map, h2]
  rfl
section
variable {X : Cx} {W : WX} {x y : Str} {i : Nat} {p q pos : Pos} {b : Expr} {g : En → R D}
theorem fe_lenS (hx : PE X (.Name x q) (tVar i)) (hg : Gl X "len") (hm : X.mg "len" = none) (he : starEach [.Name x q] X.env = (false, eval (.Name x q) X.env) :: starEach [] X.env := by rfl) (hpl : (backTo pos (starEach [] X.env)).any (·.1) = false := by rfl) :
    FE X W (.Call (.Name "len" p) [.Name x q] [] pos) (cLenS i) := impE (pe_callB call_len_seq hg hm PySem.boot_len (pa_cons hx pa_nil) (by decide) (by decide) he hpl) fun σ H Q ⟨H0, A0, A, ρ, o, P⟩ => by
  unfold cLenS at P
  split at P
  · rename_i ns e
    obtain ⟨v, h1, a, e2, h2⟩ := o.slot i _ e
    subst e2
    refine ⟨_, h1, a, ns.map V.int, rfl, .inl h2.sq, ?_⟩
    rw [List.length_map]
    exact Post.at (P := fun d H' => ∀ v, Rep X.K H' A v d → Q v H') P _ (.int _)
  · exact P.elim
theorem fe_ixS (hx : PE X (.Name x q) (tVar i)) (hb : FE X W b g) (hs : PlainIx b) : FE X W (.Subscript (.Name x q) b pos) (cIxS i g) := impE (pe_ix ix_list hx hb hs) fun σ H Q ⟨H0, A0, A, ρ, o, P⟩ => by
  unfold cIxS at P
  split at P
  · rename_i ns e
    obtain ⟨v, h1, a, e2, h2⟩ := o.slot i _ e
    subst e2
    refine ⟨_, h1, H0, A0, A, ρ, o, P.bind.mono fun d2 H2 s2 P2 y hy => ?_⟩
    obtain ⟨d, e3, P3⟩ := P2.ofO
    obtain ⟨k, e4, e5⟩ := Option.bind_eq_some_iff.mp e3
    obtain ⟨z, e6, e7⟩ := Option.map_eq_some_iff.mp e5
    subst e7
    have e8 : d2 = .int k := by
      cases d2 <;> simp [toI] at e4
      rw [e4]
    subst e8
    obtain rfl := (RepB.of hy).int
    exact ⟨a, ns.map V.int, k, .int z, rfl, rfl, (h2.tr (Tr.same s2)).sq, atI_map e6, P3 H2 (Same.refl _) _ (.int z)⟩
  · exact P.elim
end
/-- a def whose one argument is the script -/
structure FnS (P : Program) (w : World) (K : Frg) (mg : MgT) (base : Heap) (k : Nat) (f : Addr) (fd : FuncData) (x : Str) (F : List Int → R D) : Prop where
  run : ∀ (A : Around) (outer : List Env) (s : Shared) (H : Hp) (args : Args) (u : Value) (a : Addr) (ns : List Int) (Av : List Addr) (Q : VK) (E : XK), Room k A → A.guards = some [] → Env0 P w K mg base A outer s H →
    BindsTo s fd args [(x, u)] → RelV (.ref a) u → LRep K H Av a (ns.map V.int) → (∀ a ∈ Av, Kp H a) → Want K mg H Av Q E (F ns) → codeAny (model P w) A (.call (.ref f) args) (CR (L2N.CX P w) outer P w H s Q E) s
def runS (n : Nat) (g : En → SR) (ns : List Int) : R D := (g (some (.sc ns) :: List.replicate (n - 1) none)).out
theorem fns_of {P : Program} {w : World} {K : Frg} {mg : MgT} {base : Heap} {k n : Nat} {f : Addr} {name qual x : Str} {params : Arguments} {body : List Stmt} {scope : Scope} {dV kV doc pm cdv ct oc : Value} {an od : Option Addr}
    {osl : Array (Option Value)} {N : List Str} {g : En → SR} (lk : K.lookup f = some ⟨oc, od, .func (PySem.W.fnOf name qual params body scope dV kV doc pm an cdv ct), osl⟩) (hcd : PySem.W.codeIn K cdv qual = true) (S : FnScope N [x] scope)
    (hn : N.length = n)
    (hbody : ∀ (A : Around) (outer : List Env) (s : Shared) (H : Hp) (E : XK), Room k (A.deeper (envOfC qual scope s.heap.objs.size f cdv)) → A.guards = some [] → FSs (bx P w K mg base N qual scope f cdv A outer s H E) (wE E) body g) :
    FnS P w K mg base (k + 1) f (PySem.W.fnOf name qual params body scope dV kV doc pm an cdv ct) x (runS n g) := by
  refine ⟨fun A outer s H args u a ns Av Q E hr hg e0 hb r rd ha hsp => ?_⟩
  have KX : K.In s.heap := e0.mod.kin.keeps fun b o e => (e0.bs b o e).1
  have lim : s.heap.NoLimit := e0.mod.nolimit.keeps fun b o e => (e0.bs b o e).1
  have hkind : ∀ y ∈ [(x, u)], scope.names.lookup y.1 = some .local ∨ (scope.names.lookup y.1 = some .cell ∧ ((cellsFrom (s.heap.objs.size + 1) scope.names []).lookup y.1).isSome = true) := fun y hy => by
    obtain rfl := List.mem_singleton.mp hy
    rcases S.par x List.mem_cons_self with q | q
    · exact .inl q
    · exact .inr ⟨q, PySem.W.cellsFrom_some _ _ _ (.inl q)⟩
  refine codeAny_call_function hr.depth (KX _ _ lk) rfl S.co S.gen rfl (PySem.W.codeRec_of KX hcd) (hb _ _ _ _ ?_)
  refine wpAny_newFunctionEnv_cells S.kind hkind fun env he s1 y => ?_
  subst he
  refine ⟨lim.keeps y.toInCall.keep, codeAny_func ?_⟩
  have I : Inv (bx P w K mg base N qual scope f cdv A outer s H E) [] (L2.start N [.ref a]) H s1 := inv_start (ps := [x]) (us := [u]) S hr.hd e0 rfl (.cons r .nil) y
  have hpn : 1 ≤ n := by
    have := congrArg List.length S.pre
    rw [List.length_take] at this
    have h1 : [x].length = 1 := rfl
    omega
  have o : Ok K H Av Av (some (.sc ns) :: List.replicate (n - 1) none) (L2.start N [.ref a]) H := {
    len := by
      unfold L2.start
      simp only [List.length_append, List.length_map, List.length_replicate, List.length_cons, List.length_nil, hn]
      omega
    ext := Same.refl H
    sub := fun _ h => h
    new := fun _ h => .inl h
    kp := ha
    slot := fun i s h => by
      cases i with
      | zero =>
        cases h
        exact ⟨.ref a, rfl, a, rfl, rd⟩
      | succ i =>
        rw [List.getElem?_cons_succ, List.getElem?_replicate] at h
        split at h <;> cases h
    dis := fun i j b t t' d d' ne h1 h2 h3 => by
      cases i with
      | zero => cases h1
      | succ i =>
        rw [List.getElem?_cons_succ, List.getElem?_replicate] at h1
        split at h1 <;> cases h1 }
  refine wpAny_mono ((hbody A outer s H E (hr.deeper _) hg).run [] s1 (L2.start N [.ref a]) H _ I ⟨H, Av, Av, _, o, want_out hsp⟩) (fun fl s' hs => ?_) fun e s' hs => hs
  have fin : ∀ {σ' : St} {H' : Hp} {v : V} {u : Value}, Inv (bx P w K mg base N qual scope f cdv A outer s H E) [] σ' H' s' → RelV v u → Q v H' → CE outer P w H s Q u s' :=
    fun {σ' H' v u} J rv q => ⟨v, H', J.os, J.bare, J.base, J.hok, rv, q⟩
  cases fl with
  | ret u =>
    obtain ⟨v, σ', H', J, rv, q⟩ := hs
    exact fin J rv q
  | next =>
    obtain ⟨σ', H', J, q⟩ := hs
    exact fin (v := V.non) (u := Value.none) J rfl q
  | brk =>
    obtain ⟨_, _, _, q⟩ := hs
    exact False.elim q
  | cont =>
    obtain ⟨_, _, _, q⟩ := hs
    exact False.elim q
section
variable {X : Cx} {W : WX} {k i : Nat} {f : Addr} {fd : FuncData} {F : List Int → R D} {x y : Str} {p q pos : Pos}
theorem fe_callS (Fg : FnS X.prog X.w X.K X.mg X.base k f fd y F) (hr : Room k X.A) (hgd : X.A.guards = some []) (hg : Gl X x) (hm : X.mg x = some (.ref f)) (hk : PySem.W.keepIn X.K (.ref f) = true) (hb : Binds X.K fd [y] []) (tk : L2N.Takes X W) {z : Str}
    (hx : PE X (.Name z q) (tVar i)) (hdb : (x == ("__debug__" : Str)) = false := by decide) (he : starEach [.Name z q] X.env = (false, eval (.Name z q) X.env) :: starEach [] X.env := by rfl) (hpl : (backTo pos (starEach [] X.env)).any (·.1) = false := by rfl) :
    FE X W (.Call (.Name x p) [.Name z q] [] pos) (cCallS i F) := by
  refine ⟨fun pins s σ H Q I ⟨H0, A0, A, ρ, o, P⟩ => ?_⟩
  unfold cCallS at P
  split at P
  · rename_i ns e
    obtain ⟨v, h1, a, e2, h2⟩ := o.slot i _ e
    subst e2
    refine wpAny_Call_Name_kw (ld_glob I hg hm ?_ hdb)
    refine PySem.W.callWith_K (h₀ := X.base) I.ok.mod.kin hk (thn ((pa_cons hx pa_nil he).run pos pins s σ H (fun vs H1 => vs = [V.ref a] ∧ H = H1) I ⟨.ref a, h1, rfl, rfl⟩) fun us s1 ⟨vs, H1, I1, r, ev, eH⟩ => ⟨I1.kIn, ?_⟩) he hpl
    subst ev
    subst eH
    cases r with
    | cons ru rn =>
      cases rn
      rename_i u _
      have b := hb s1 [u] I1.kIn rfl
      refine wpAny_call (codeAny_mono (Fg.run X.A X.stack s1 H ⟨[u], []⟩ u a ns A Q (WE W σ) hr hgd I1.env0 b ru h2 o.kp (Post.want P)) fun r s' hq => ?_)
      cases r with
      | error e => exact L2N.passAt tk σ pins H s1 e s' I1 hq
      | ok fl =>
        cases fl with
        | ret u => exact I1.after hq
        | next => exact False.elim hq
        | brk => exact False.elim hq
        | cont => exact False.elim hq
  · exact P.elim
end

/-! ### names of the module -/
def GInt (mg : MgT) (x : Str) (i : Int) : Prop := ∃ t, mg x = some (.int i t)
def GTup (K : Frg) (mg : MgT) (x : Str) (ds : List D) : Prop := ∃ a vs, mg x = some (.ref a) ∧ TupK K a vs ∧ ∀ H A, RepL K H A vs ds
section
variable {X : Cx} {W : WX} {x : Str} {pos : Pos}
theorem fe_gint {i : Int} (h : GInt X.mg x i) (hg : Gl X x) (hd : (x == ("__debug__" : Str)) = false := by decide) : FE X W (.Name x pos) (cK (.int i)) := by
  obtain ⟨t, h⟩ := h
  exact fe_k (pe_glob (v := .int i) hg h ⟨t, rfl⟩ hd) fun _ _ => .int i
theorem fb_gtup {ds : List D} (h : GTup X.K X.mg x ds) (hg : Gl X x) (hd : (x == ("__debug__" : Str)) = false := by decide) : FB X W (.Name x pos) (cK (.tuple ds)) := by
  obtain ⟨a, vs, h, ht, r⟩ := h
  exact impE (pe_glob (v := .ref a) hg h rfl hd) fun σ H Q ⟨H0, A0, A, ρ, o, P⟩ => Post.at (P := fun d H' => ∀ v, RepB X.K H' A v d → Q v H') P _ (.inr (.inr ⟨a, vs, ds, rfl, rfl, ht, r H A⟩))
end
/-- a def that may be called by its name -/
def CallG (P : Program) (w : World) (K : Frg) (mg : MgT) (base : Heap) (k : Nat) (x : Str) (F : List D → R D) : Prop :=
  ∃ f fd ps, FnG P w K mg base k f fd ps F ∧ mg x = some (.ref f) ∧ PySem.W.keepIn K (.ref f) = true ∧ Binds K fd ps []
def CallS (P : Program) (w : World) (K : Frg) (mg : MgT) (base : Heap) (k : Nat) (x : Str) (F : List Int → R D) : Prop :=
  ∃ f fd p, FnS P w K mg base k f fd p F ∧ mg x = some (.ref f) ∧ PySem.W.keepIn K (.ref f) = true ∧ Binds K fd [p] []
/-- a def of the text -/
def DefG (K : Frg) (mg : MgT) (x : Str) (st : Stmt) (ps : List Str) : Prop := ∃ f fd, Fun K x x st f fd ∧ mg x = some (.ref f) ∧ Binds K fd ps []
section
variable {P : Program} {w : World} {K : Frg} {mg : MgT} {base : Heap} {k j n p : Nat} {x y : Str} {F : List D → R D} {st : Stmt} {N ps : List Str} {g : En → SR}
theorem CallG.mono (h : CallG P w K mg base j x F) (l : j ≤ k) : CallG P w K mg base k x F := by
  obtain ⟨f, fd, ps, h1, h2⟩ := h
  exact ⟨f, fd, ps, h1.mono l, h2⟩
theorem DefG.call (h : DefG K mg x st ps) (S : FnScope N ps (defScope st)) (hn : N.length = n) (hp : ps.length = p)
    (hbody : ∀ (f : Addr) (cdv : Value) (A : Around) (outer : List Env) (s : Shared) (H : Hp) (E : XK), Room k (A.deeper (envOfC x (defScope st) s.heap.objs.size f cdv)) → A.guards = some [] → FSs (bx P w K mg base N x (defScope st) f cdv A outer s H E) (wE E) (defBody st) g) :
    CallG P w K mg base (k + 1) x (runF n p g) := by
  obtain ⟨f, fd, F, hm, hb⟩ := h
  obtain ⟨oc, od, kV, doc, pm, an, cdv, ct, osl, rfl, lk, hcd⟩ := F.ex
  exact ⟨f, _, ps, fng_of lk hcd S hn hp fun A outer s H E hr hg => hbody f cdv A outer s H E hr hg, hm, F.kp, hb⟩
theorem DefG.callS (h : DefG K mg x st [y]) (S : FnScope N [y] (defScope st)) (hn : N.length = n)
    (hbody : ∀ (f : Addr) (cdv : Value) (A : Around) (outer : List Env) (s : Shared) (H : Hp) (E : XK), Room k (A.deeper (envOfC x (defScope st) s.heap.objs.size f cdv)) → A.guards = some [] → FSs (bx P w K mg base N x (defScope st) f cdv A outer s H E) (wE E) (defBody st) g) :
    CallS P w K mg base (k + 1) x (runS n g) := by
  obtain ⟨f, fd, F, hm, hb⟩ := h
  obtain ⟨oc, od, kV, doc, pm, an, cdv, ct, osl, rfl, lk, hcd⟩ := F.ex
  exact ⟨f, _, y, fns_of lk hcd S hn fun A outer s H E hr hg => hbody f cdv A outer s H E hr hg, hm, F.kp, hb⟩
end
section
variable {X : Cx} {W : WX} {k i : Nat} {F : List D → R D} {F1 : List Int → R D} {x z : Str} {p q pos : Pos} {e : Expr} {es : List Expr} {l : En → R (List D)}
theorem fe_cl (c : CallG X.prog X.w X.K X.mg X.base k x F) (hr : Room k X.A) (hgd : X.A.guards = some []) (tk : L2N.Takes X W) (hg : Gl X x) (ha : FA X W (e :: es) l) (hdb : (x == ("__debug__" : Str)) = false := by decide)
    (he : starEach (e :: es) X.env = (false, eval e X.env) :: starEach es X.env := by rfl) (hpl : (backTo pos (starEach es X.env)).any (·.1) = false := by rfl) :
    FE X W (.Call (.Name x p) (e :: es) [] pos) (cCallF F l) := by
  obtain ⟨f, fd, ps, h1, h2, h3, h4⟩ := c
  exact fe_call h1 hr hgd hg h2 h3 h4 tk ha hdb he hpl
theorem fe_cl0 (c : CallG X.prog X.w X.K X.mg X.base k x F) (hr : Room k X.A) (hgd : X.A.guards = some []) (tk : L2N.Takes X W) (hg : Gl X x) (hdb : (x == ("__debug__" : Str)) = false := by decide) :
    FE X W (.Call (.Name x p) [] [] pos) (cCallF F fun _ => .ok []) := by
  obtain ⟨f, fd, ps, h1, h2, h3, h4⟩ := c
  exact fe_call0 h1 hr hgd hg h2 h3 h4 tk hdb
theorem fe_clS (c : CallS X.prog X.w X.K X.mg X.base k x F1) (hr : Room k X.A) (hgd : X.A.guards = some []) (tk : L2N.Takes X W) (hg : Gl X x) (hx : PE X (.Name z q) (tVar i)) (hdb : (x == ("__debug__" : Str)) = false := by decide)
    (he : starEach [.Name z q] X.env = (false, eval (.Name z q) X.env) :: starEach [] X.env := by rfl) (hpl : (backTo pos (starEach [] X.env)).any (·.1) = false := by rfl) :
    FE X W (.Call (.Name x p) [.Name z q] [] pos) (cCallS i F1) := by
  obtain ⟨f, fd, y, h1, h2, h3, h4⟩ := c
  exact fe_callS h1 hr hgd hg h2 h3 h4 tk hx hdb he hpl
end
end G

namespace G
open PySem PySem.Spec PyProof.Rows L2
theorem units65 {k : Nat} {A : Around} (r : Room k A) : A.units + 65 < cLine := by
  have := r.un
  omega

/-! ### powers -/
def dPow : D → D → Option D
  | .int a, .int b => if 0 ≤ b ∧ b ≤ 1000000 ∧ a.natAbs < 2 ^ 64 then some (.int (a ^ b.toNat)) else none
  | _, _ => none
section
variable {X : Cx} {W : WX} {a b c e : Expr} {es : List Expr} {f g : En → R D} {l : En → R (List D)} {p q p1 p2 pos : Pos} {x : Str}
theorem do_pow : DOp X (binaryOp .Pow) dPow := by
  refine ⟨_, op_pow, fun H A x y d1 d2 d Q ha hx hy e q => ?_⟩
  unfold dPow at e
  split at e
  · split at e
    · rename_i h
      cases e
      obtain rfl := hx.int
      obtain rfl := hy.int
      exact ⟨_, _, rfl, rfl, h, q _ H (Same.refl H) (.int _)⟩
    · cases e
  · cases e

/-! ### min, max of two -/
def dMax2 : List D → Option D
  | [.int a, .int b] => some (.int (max a b))
  | _ => none
def dMin2 : List D → Option D
  | [.int a, .int b] => some (.int (min a b))
  | _ => none
theorem dc_max2 (hc : X.calm = true) : DCall X (.builtin "max") dMax2 := by
  refine ⟨_, call_max2 hc, fun H A vs ds d Q ha hv e q => ?_⟩
  unfold dMax2 at e
  split at e
  · cases e
    obtain ⟨v, v2, rfl, h1, h2⟩ := pair2 hv
    obtain rfl := h1.int
    obtain rfl := h2.int
    refine ⟨_, _, rfl, ?_⟩
    rename_i a b
    have e : (if b > a then b else a) = max a b := by split <;> omega
    rw [e]
    exact q _ H (Same.refl H) (.int _)
  · cases e
theorem dc_min2 (hc : X.calm = true) : DCall X (.builtin "min") dMin2 := by
  refine ⟨_, call_min2 hc, fun H A vs ds d Q ha hv e q => ?_⟩
  unfold dMin2 at e
  split at e
  · cases e
    obtain ⟨v, v2, rfl, h1, h2⟩ := pair2 hv
    obtain rfl := h1.int
    obtain rfl := h2.int
    refine ⟨_, _, rfl, ?_⟩
    rename_i a b
    have e : (if b < a then b else a) = min a b := by split <;> omega
    rw [e]
    exact q _ H (Same.refl H) (.int _)
  · cases e

/-! ### ints in order -/
def insI (a : Int) : List Int → List Int
  | [] => [a]
  | b :: r => if a ≤ b then a :: b :: r else b :: insI a r
def srtI : List Int → List Int
  | [] => []
  | a :: r => insI a (srtI r)
theorem insI_perm (a : Int) : ∀ r : List Int, (insI a r).Perm (a :: r)
  | [] => .refl _
  | b :: r => by
    unfold insI
    split
    · exact .refl _
    · exact ((insI_perm a r).cons b).trans (.swap a b r)
theorem srtI_perm : ∀ l : List Int, (srtI l).Perm l
  | [] => .refl _
  | a :: r => (insI_perm a (srtI r)).trans ((srtI_perm r).cons a)
theorem insI_sorted {a : Int} : ∀ {r : List Int}, r.Pairwise (· ≤ ·) → (insI a r).Pairwise (· ≤ ·)
  | [], _ => List.pairwise_singleton _ _
  | b :: r, h => by
    rw [List.pairwise_cons] at h
    unfold insI
    split
    · rename_i hab
      refine List.pairwise_cons.mpr ⟨fun y hy => ?_, List.pairwise_cons.mpr h⟩
      rcases List.mem_cons.mp hy with rfl | hy
      · exact hab
      · exact Int.le_trans hab (h.1 y hy)
    · refine List.pairwise_cons.mpr ⟨fun y hy => ?_, insI_sorted h.2⟩
      rcases List.mem_cons.mp ((insI_perm a r).mem_iff.mp hy) with rfl | hy
      · omega
      · exact h.1 y hy
theorem srtI_sorted : ∀ l : List Int, (srtI l).Pairwise (· ≤ ·)
  | [] => .nil
  | a :: r => insI_sorted (srtI_sorted r)
theorem sorted_uniq : ∀ {l m : List Int}, l.Perm m → l.Pairwise (· ≤ ·) → m.Pairwise (· ≤ ·) → l = m
  | [], m, p, _, _ => by rw [List.nil_perm.mp p]
  | a :: l, [], p, _, _ => absurd p.length_eq (by simp)
  | a :: l, b :: m, p, h1, h2 => by
    rw [List.pairwise_cons] at h1 h2
    have hab : a = b := by
      have ha : a ∈ b :: m := p.mem_iff.mp List.mem_cons_self
      have hb : b ∈ a :: l := p.mem_iff.mpr List.mem_cons_self
      rcases List.mem_cons.mp ha with e | ha
      · exact e
      · rcases List.mem_cons.mp hb with e | hb
        · exact e.symm
        · exact Int.le_antisymm (h1.1 b hb) (h2.1 a ha)
    subst hab
    rw [sorted_uniq p.cons_inv h1.2 h2.2]
theorem srtI_eq {l m : List Int} (p : m.Perm l) (h : m.Pairwise (· ≤ ·)) : m = srtI l := sorted_uniq (p.trans (srtI_perm l).symm) h (srtI_sorted l)
theorem ints_data {K : Frg} {H : Hp} {A : List Addr} : ∀ ns : List Int, RepL K H A (ns.map V.int) (ns.map PyData.int)
  | [] => .nil
  | n :: r => .cons (.int n) (ints_data r)
/-- the distinct ones -/
def nubI (l : List Int) : List Int := l.foldl (fun ks a => if ks.contains a then ks else ks ++ [a]) []
theorem nubI_oss (l : List Int) : nubI l = PySem.W.ossOf l := by
  unfold nubI PySem.W.ossOf
  congr 1
  funext ks a
  rw [PySem.W.oss_step]
  by_cases h : a ∈ ks <;> simp [h]
/-- sorted(xs) of ints -/
def dSorted : List D → Option D
  | [.list xs] => (intsOf xs).map fun ns => .list ((srtI ns).map .int)
  | _ => none
theorem dc_sorted : DCallN X (.builtin "sorted") dSorted := by
  refine ⟨_, cr_sortedI, fun H A vs ds d Q ha hv e q => ?_⟩
  unfold dSorted at e
  split at e
  · obtain ⟨ns, h1, h2⟩ := Option.map_eq_some_iff.mp e
    cases h2
    obtain ⟨v, rfl, h⟩ := pair1 hv
    obtain ⟨p, us, rfl, h3, r⟩ := h.lst
    obtain rfl := intsOf_rep r h1
    refine ⟨p, ns, rfl, SqL.of h3, fun ns' n h4 h5 hn => ?_⟩
    obtain rfl := srtI_eq h4 h5
    exact q _ _ (same_upd hn) ⟨n, rfl, hn, orep_lst hn (ints_data _)⟩
  · cases e
theorem fn_callB {id : String} {df : List D → Option D} (hc : DCallN X (.builtin id) df) (hg : Gl X x) (hm : X.mg x = none) (hv : bootBuiltins x = some (.builtin id)) (ha : FAB X W (e :: es) l) (hn : x ≠ "__name__" := by decide) (hdb : (x == ("__debug__" : Str)) = false := by decide)
    (he : starEach (e :: es) X.env = (false, eval e X.env) :: starEach es X.env := by rfl) (hpl : (backTo pos (starEach es X.env)).any (·.1) = false := by rfl) : FN X W false (.Call (.Name x p1) (e :: es) [] pos) (cCall df l) := by
  obtain ⟨r, hr, hs⟩ := hc
  refine impE (pe_callB hr hg hm hv ha hn hdb he hpl) fun σ H Q ⟨H0, A0, A, ρ, o, P⟩ => ?_
  refine ⟨H0, A0, A, ρ, o, P.bind.mono fun ds H1 s1 P1 vs hvs => ?_⟩
  obtain ⟨d, e, P2⟩ := P1.ofO
  refine hs H1 A vs ds d Q (o.same s1).has hvs e fun v H' s hv => P2 H' s v ?_
  obtain ⟨p, e, n, r⟩ := hv
  exact ⟨p, e, s1.free n, r⟩
/-- set(t), t a tuple of ints -/
def rSetT (K : Frg) (w : World) : List V → Hp → VK → Prop := fun xs H Q => ∃ (l : Addr) (ns : List Int), xs = [.ref l] ∧ SqT K H l (ns.map V.int) ∧ ns.length ≤ 1000 ∧
  ∀ p n, H p = none → n ≤ ns.length → Q (.ref p) (upd H p (SetO w p (fun k => decide (k ∈ ns)) n))
theorem cr_setT (hc : X.calm = true) : CallR X (.type "set") (rSetT X.K X.w) := by
  intro pins s σ H xs us Q I r h
  obtain ⟨l, ns, rfl, hq, hl, q⟩ := h
  rw [Vals.ref1 r]
  obtain ⟨its, rv, pt, hz⟩ := I.tuple hq
  have hi : IntsAre its.toArray.toList ns := by simpa using RZ.intsAre_vals rv
  refine call_set_tupI ns (I.ok.hd hc) (show s.heap.IsTuple l its.toArray from pt) hi (by unfold scanBound; omega) fun h' tk c R1 hcn k => ?_
  exact ⟨.ref s.heap.objs.size, _, I.laid k (Nat.le_refl _) (setO_new R1), rfl, q _ c I.fresh hcn⟩
/-- sorted(set(t)) -/
def dSortSet : D → Option D
  | .tuple xs => (intsOf xs).bind fun ns => if ns.length < 64 then some (.list ((srtI (nubI ns)).map .int)) else none
  | _ => none
theorem strict_le {l : List Int} (h : l.Pairwise (· < ·)) : l.Pairwise (· ≤ ·) := h.imp fun h => Int.le_of_lt h
theorem nodup_strict {l : List Int} (h : l.Pairwise (· < ·)) : l.Nodup := h.imp fun h => Int.ne_of_lt h
theorem nubI_mem {l : List Int} {x : Int} : x ∈ nubI l ↔ x ∈ l := by
  rw [nubI_oss]
  exact PySem.W.oss_has
theorem nubI_nodup (l : List Int) : (nubI l).Nodup := by
  unfold nubI
  have : ∀ (l ks : List Int), ks.Nodup → (l.foldl (fun ks a => if ks.contains a then ks else ks ++ [a]) ks).Nodup := by
    intro l
    induction l with
    | nil => exact fun ks h => h
    | cons a l ih =>
      intro ks h
      rw [List.foldl_cons]
      refine ih _ ?_
      split
      · exact h
      · rename_i hn
        refine List.nodup_append.mpr ⟨h, by simp, fun x hx y hy z => ?_⟩
        simp at hy
        subst hy
        subst z
        exact hn (by simpa using hx)
  exact this l [] .nil
theorem perm_nodup {l m : List Int} (h1 : l.Nodup) (h2 : m.Nodup) (h : ∀ x, x ∈ l ↔ x ∈ m) : l.Perm m := (List.perm_ext_iff_of_nodup h1 h2).mpr h
theorem fn_sortset {t : Bool} (hc : X.calm = true) (hg : Gl X "sorted") (hm : X.mg "sorted" = none) (hg2 : Gl X "set") (hm2 : X.mg "set" = none) (ha : FB X W a f) (he : starEach [a] X.env = (false, eval a X.env) :: starEach [] X.env := by rfl)
    (he2 : starEach [.Call (.Name "set" p2) [a] [] q] X.env = (false, eval (.Call (.Name "set" p2) [a] [] q) X.env) :: starEach [] X.env := by rfl) :
    FN X W t (.Call (.Name "sorted" p1) [.Call (.Name "set" p2) [a] [] q] [] pos) (cUn dSortSet f) := by
  refine impE (pe_callB (cr_sortedSet hc) hg hm PyProof.Rows.boot_sorted (pa_cons (pe_callTy (cr_setT hc) hg2 hm2 PyProof.Rows.boot_set (pa_cons ha pa_nil he) (by decide) (by decide) he) pa_nil he2) (by decide) (by decide) he2) fun σ H Q ⟨H0, A0, A, ρ, o, P⟩ => ?_
  refine ⟨H0, A0, A, ρ, o, P.bind.mono fun d H1 s1 P1 v hv => ?_⟩
  obtain ⟨d2, e, P2⟩ := P1.ofO
  unfold dSortSet at e
  split at e
  · obtain ⟨ns, h1, h2⟩ := Option.bind_eq_some_iff.mp e
    split at h2
    · rename_i hl
      cases h2
      obtain ⟨p, us, rfl, h3, r⟩ := hv.tup
      obtain rfl := intsOf_rep r h1
      refine ⟨p, ns, rfl, h3, by omega, fun p' n hn hle => ⟨p', _, n, rfl, upd_same, by omega, fun ns' p'' k1 k2 k3 k4 => ?_⟩⟩
      have e1 : ns' = srtI (nubI ns) := srtI_eq (perm_nodup (nodup_strict k1) (nubI_nodup ns) fun x => by rw [k2 x, decide_eq_true_iff, nubI_mem]) (strict_le k1)
      subst e1
      have sm : Same H1 (upd H1 p' (SetO X.w p' (fun k => decide (k ∈ ns)) n)) := same_upd hn
      exact P2 _ (sm.trans (same_upd k4)) _ ⟨p'', rfl, s1.free (sm.free k4), orep_lst k4 (ints_data _)⟩
    · cases h2
  · cases e
/-- len(set(xs)) -/
def dLenSet : D → Option D
  | .list xs => (intsOf xs).bind fun ns => if ns.length ≤ 1000 then some (.int (nubI ns).length) else none
  | _ => none
theorem fe_lenset (hc : X.calm = true) (hg : Gl X "len") (hm : X.mg "len" = none) (hg2 : Gl X "set") (hm2 : X.mg "set" = none) (ha : FB X W a f) (na : starEach [a] X.env = (false, eval a X.env) :: starEach [] X.env := by rfl) :
    FE X W (.Call (.Name "len" p1) [.Call (.Name "set" p2) [a] [] q] [] pos) (cUn dLenSet f) := by
  refine ⟨fun pins s σ H Q I ⟨H0, A0, A, ρ, o, P⟩ => ?_⟩
  refine Call_ (ld_blt I hg hm PySem.boot_len (PyProof.Rows.callWith_builtin1 (PyProof.Rows.args_cons (Call_ (ld_blt I hg2 hm2 PyProof.Rows.boot_set ?_)) rfl) rfl rfl))
  refine PyProof.Rows.callWith_type1 (PyProof.Rows.args_cons (thn (ha.run pins s σ H (fun x H1 => ∃ l ns, x = V.ref l ∧ SqL X.K H1 l (ns.map V.int) ∧ ns.length ≤ 1000 ∧ Q (.int (nubI ns).length) H1) I ⟨H0, A0, A, ρ, o, P.bind.mono fun d H1 s1 P1 v hv => ?_⟩) fun v s1 ⟨x, H1, I1, r1, q1⟩ => PyProof.Rows.args_nil ?_) na) na rfl
  · obtain ⟨d2, e, P2⟩ := P1.ofO
    unfold dLenSet at e
    split at e
    · obtain ⟨ns, h1, h2⟩ := Option.bind_eq_some_iff.mp e
      split at h2
      · rename_i hl
        cases h2
        obtain ⟨p, us, rfl, h3, r⟩ := hv.lst
        obtain rfl := intsOf_rep r h1
        exact ⟨p, ns, rfl, SqL.of h3, hl, P2 H1 (Same.refl _) _ (.int _)⟩
      · cases h2
    · cases e
  · obtain ⟨p, ns, rfl, hs, hl, q1⟩ := q1
    cases r1
    obtain ⟨its, r, pl, hz⟩ := I1.list hs
    have e1 : its.toArray.size = ns.length := by rw [List.size_toArray, ← r.length, List.length_map]
    refine call_set_list (I1.ok.hd hc) pl.isList (ns := ns) (by simpa using r.ints) (by unfold scanBound; omega) fun h' tk hS hk => ?_
    rw [e1, PySem.W.oss_met, ← nubI_oss] at hS
    refine PyProof.Rows.args_nil ?_
    obtain ⟨o, es, ep, t, ho, hex, hd, _, _, _, hf, hn⟩ := hS
    have I2 : Inv X pins σ H1 { s1 with heap := h', toks := tk } := I1.kept fun b o e => hk b o (Heap.lt_size e) e
    have hb : (nubI ns).length ≤ ns.length := by rw [nubI_oss]; exact PySem.W.oss_len ns
    exact call_len_set ho hex hd hf (by rw [hn]; omega) ⟨.int (nubI ns).length, H1, I2.tok _, ⟨_, by rw [hn]⟩, q1⟩
/-- list(range(n)) -/
def dListRange (o : Option (List D)) : Option D := o.map .list
/-- x.index(y), x a list -/
def idxD (d : D) : List D → Option Nat
  | [] => none
  | z :: r => if PyData.eqv z d = true then some 0 else (idxD d r).map (· + 1)
theorem idxD_some {d : D} : ∀ {ds : List D} {j : Nat}, idxD d ds = some j → ∃ z, ds[j]? = some z ∧ PyData.eqv z d = true ∧ ∀ (m : Nat) (z' : D), m < j → ds[m]? = some z' → PyData.eqv z' d = false
  | [], j, h => by cases h
  | z :: r, j, h => by
    unfold idxD at h
    split at h
    · rename_i hz
      cases h
      exact ⟨z, rfl, hz, fun m z' hm => absurd hm (Nat.not_lt_zero _)⟩
    · rename_i hz
      obtain ⟨i, h1, h2⟩ := Option.map_eq_some_iff.mp h
      subst h2
      obtain ⟨z', h3, h4, h5⟩ := idxD_some h1
      refine ⟨z', by simpa using h3, h4, fun m z2 hm h6 => ?_⟩
      cases m with
      | zero => simp at h6; subst h6; exact Bool.eq_false_iff.mpr hz
      | succ m => exact h5 m z2 (by omega) (by simpa using h6)
def dIndex (ds : List D) (d : D) : Option D := if SeqAt.shaped (.list ds) = true ∧ SeqAt.shaped d = true then (idxD d ds).map fun (j : Nat) => .int j else none
def cIndex (f g : En → R D) : En → R D := fun ρ => (f ρ).bind fun x => match x with
  | .list ds => (g ρ).bind fun d => ofO (dIndex ds d)
  | _ => .no
theorem fe_index {apos cpos : Pos} (hu : X.A.units + 65 < cLine) (ha : FB X W a f) (hb : FE X W b g) (hbase : attributeBase a "index" X.env (eval a X.env) = eval a X.env := by rfl)
    (hfew : ((backTo cpos (starEach (b :: []) X.env)).all (fun x => !x.1) && (backToKw cpos (keywordEach [] X.env)).all (fun x => x.1.isSome)
      && decide ((b :: []).length + ([] : List Keyword).length + (if ([] : List Keyword).isEmpty then 0 else 1) < 30)) = true := by rfl)
    (hline : (apos.endLine == cpos.line) = true := by rfl) (hs : starEach (b :: []) X.env = (false, eval b X.env) :: starEach [] X.env := by rfl) (hplain : (backTo cpos (starEach [] X.env)).any (·.1) = false := by rfl) :
    FE X W (.Call (.Attribute a "index" apos) [b] [] cpos) (cIndex f g) := by
  refine impE (pe_bm PySem.F.plainAttrs_list PySem.F.slot_list_index PySem.F.type_list_index (mt_indexD hu) ha (pa_cons hb pa_nil hs) hbase hfew hline hs hplain) fun σ H Q ⟨H0, A0, A, ρ, o, P⟩ => ?_
  refine ⟨H0, A0, A, ρ, o, P.bind.mono fun d1 H1 s1 P1 x hx => ?_⟩
  split at P1
  · rename_i ds
    obtain ⟨p, vs, rfl, h4, r⟩ := hx.lst
    refine ⟨Or.inl ⟨rfl, vs, SqL.of h4⟩, H0, A0, A, ρ, o.same s1, P1.bind.mono fun d2 H2 s2 P2 y hy => ?_⟩
    obtain ⟨d, e, P3⟩ := P2.ofO
    unfold dIndex at e
    split at e
    · rename_i hsh
      obtain ⟨j, e1, e2⟩ := Option.map_eq_some_iff.mp e
      cases e2
      obtain ⟨z, h1, h2, h3⟩ := idxD_some e1
      exact ⟨p, y, d2, _, j, z, rfl, rfl, (hx.same s2).dp hsh.1, (RepB.of hy).dp hsh.2, hsh.1, hsh.2, h1, h2, h3, P3 H2 (Same.refl _) _ (.int _)⟩
    · cases e
  · exact P1.elim
end
end G

set_option maxHeartbeats 2000000
/-! an own error: super().__init__(at); self.at = at -/
namespace PySem
namespace AeX
open PySem.W PySem.Calls PyProof.Rows PySem.HandSPX
def aA (p1 p2 : Pos) : Arguments := { posonlyargs := [], args := [{ arg := "self", annotation := none, pos := p1 }, { arg := "at", annotation := none, pos := p2 }], vararg := none, kwonlyargs := [], kw_defaults := [], kwarg := none, defaults := [] }
def aB (q0 q1 q2 q3 q4 q5 r1 r2 r3 r4 : Pos) : List Stmt := [.Expr (.Call (.Attribute (.Call (.Name "super" q0) [] [] q1) "__init__" q2) [.Name "at" q3] [] q4) q5, .Assign [.Attribute (.Name "self" r1) "at" r2] (.Name "at" r3) r4]
def aS : Scope := { kind := .function, names := [(PySem.Str.ofString "self", .local), (PySem.Str.ofString "at", .local), (PySem.Str.ofString "__class__", .free), (PySem.Str.ofString "super", .globalImplicit)], isGenerator := false, isCoroutine := false, more := [] }
/-- what the written part says of the error at C, of the base class at D and its __init__ at fI -/
structure Txt (P : Program) (K : Frag) (mg : Str → Option Value) (C D fI : Addr) : Prop where
  cls : ∃ nm q N bs bm sn sub ab col dd k0 k1 k2 k3 k5, K.lookup C = some (excClassObj nm q C N bs bm true sn sub ab col dd k0 k1 k2 k3 k5 "ValueError.__new__") ∧ refsVE bm = true
  sa : findIn K (.ref C) "__setattr__" = some (some (.builtin "object.__setattr__"))
  ga : findIn K (.ref C) "__getattribute__" = some (some (.builtin "BaseException.__getattribute__"))
  gg : findIn K (.ref C) "__getattr__" = some none
  noN : findIn K (.ref C) "at" = some none
  iC : findIn K (.ref C) "__init__" = some (some (.ref fI))
  tC : typeIn K (.ref fI) = some (.type "function")
  kC : keepIn K (.ref C) = true
  exC : subIn K (.ref C) (.type "BaseException") = some true
  tyC : typeIn K (.ref C) = some (.type "type")
  hdC : hasDictIn K C = true
  sup : ks_superIn K C D "__init__" = some (some (.builtin "ValueError.__init__"))
  isD : mroIn K C (.ref D) = some true
  veC : subIn K (.ref C) (.type "ValueError") = some true
  opq : nsIn K cStatics "thirdparty.any" = some none
  clD : ∃ cdD, clsIn K D = some cdD
  nsu : mg "super" = none
  top : (P.main.scope.names.lookup ("super" : Str)).isSome = false
  fn : ∃ (oc : Value) (od : Option Addr) (doc pm : Value) (an : Option Addr) (cda : Addr) (ct : Value) (osl : Array (Option Value)) (cc : Addr) (p1 p2 q0 q1 q2 q3 q4 q5 r1 r2 r3 r4 : Pos),
    K.lookup fI = some ⟨oc, od, .func (ksFn "__init__" "AuctionError.__init__" (aA p1 p2) (aB q0 q1 q2 q3 q4 q5 r1 r2 r3 r4) aS .none .none doc pm an (.ref cda) ct cc), osl⟩ ∧ codeIn K (.ref cda) "AuctionError.__init__" = true ∧
    (∀ env : Env, ∃ pl : Sem Bool, eval (.Call (.Attribute (.Call (.Name "super" q0) [] [] q1) "__init__" q2) [.Name "at" q3] [] q4) env = (do
      let ov ← attributeBase (.Call (.Name "super" q0) [] [] q1) "__init__" env (eval (.Call (.Name "super" q0) [] [] q1) env)
      standAt q2.atName
      let (f, first) ← holding [ov] (getMethod ov "__init__" pl)
      callWith q4 f first (backTo q4 (starEach [.Name "at" q3] env)) [])) ∧
    (∃ (ccl : Value) (cdd : Option Addr) (vs : Array Value) (ccs : Array (Option Value)) (file : Str) (tf : Tok), K.lookup cda = some ⟨ccl, cdd, .fields vs, ccs⟩ ∧ vs[2]? = some (.str file tf) ∧ ((P.main.file : Str) == file) = true) ∧
    ∃ (cl : Value) (cld : Option Addr) (csl : Array (Option Value)), K.lookup cc = some ⟨cl, cld, .cell (some (.ref D)), csl⟩
theorem ldF {M : Model} {A : Around} {E : Value → Shared → Prop} {s : Shared} {name : Str} {scope : Scope} {L a cc : Addr} {cd : Value} {m : Str → Option Value} {x : Str} {pos : Pos} {v : Value} {Q : Value → Shared → Prop} (hn : s.heap.Ns L m) (hv : m x = some v) (h : Q v s)
    (hk : scope.kind = .function := by rfl) (hl : (ksEnv name scope L a cd cc).kindOf x = some .local := by rfl) (hd : (x == ("__debug__" : Str)) = false := by decide) :
    wpAny M A (eval (.Name x pos) (ksEnv name scope L a cd cc)) Q E s := wpAny_Name (wpAny_loadName_local hk hl hn hv h) hd
/-- what __init__ leaves of a fresh error at x -/
structure InitEnd (h h' : Heap) (x C dx : Addr) (v : Value) : Prop where
  keep : ∀ b o, b ≠ x → h.get? b = some o → h'.get? b = some o
  obj : ∃ t1 : Addr, h'.get? x = some { cls := .ref C, dict := some dx, data := .fields #[.ref t1, .none, .none, .none, .bool false, .none] }
  dbig : h.objs.size ≤ dx
  dne : dx ≠ x
  ns : h'.Ns1 dx (fun y => if y = "at" then some v else none)
section
variable {prog : Program} {w : World} {A : Around} {E : Value → Shared → Prop} {R : Result → Shared → Prop} {K : Frag} {mg mb : Str → Option Value} {C D fI : Addr}
variable {nm q : Str} {N : Addr} {bs bm : List Value} {hdct : Bool} {sn : List Str} {sub : List Value} {ab : Bool} {col : Option Bool} {dd : Option Addr} {k0 k1 k2 k3 k5 : Option Value}
/-- the bound ValueError.__init__ is called -/
theorem call_mw {h : Heap} {g : Array GenState} {d : Drawn} {t : Nat} {os : OsState} {u e t0 : Addr} {rest : List Value} {Q : Value → Shared → Prop}
    (hC : h.get? C = some (excClassObj nm q C N bs bm hdct sn sub ab col dd k0 k1 k2 k3 k5 "ValueError.__new__")) (he : h.get? e = some (excO C t0)) (hu : h.get? u = some (kxs_mw "ValueError.__init__" e)) (hrest : rest.length ≤ sizeLine)
    (hq : ∀ h' t1, (∀ b o, b ≠ e → h.get? b = some o → h'.get? b = some o) → h'.get? e = some (excO C t1) → Q .none ⟨h', g, d, t, os⟩) :
    wpAny (model prog w) A (call (.ref u) rest) Q E ⟨h, g, d, t, os⟩ := by
  refine wpAny_call (codeAny_of_tree ?_)
  show wpAny _ A.in1 (callAny (.ref u) ⟨rest, []⟩) _ _ _
  simp only [callAny]
  refine wpAny_bind (wpAny_load hu ?_)
  simp only [kxs_mw, show (Value.type "method-wrapper" == Value.type "method" || Value.type "method-wrapper" == Value.type "builtin_function_or_method" || Value.type "method-wrapper" == Value.type "method-wrapper") = true by decide, if_true]
  refine W.KFB.if_so (by decide) ?_
  refine wpAny_bind (ESX.check_bound F.excBase_ValueError hC he rfl ?_)
  refine wpAny_bind (wpAny_pure (wpAny_pure ?_))
  refine ⟨Code.quiet_builtin _ (by decide +kernel), codeAny_builtin F.excBase_ValueError.initEntry ?_⟩
  rw [Around.under_plainId F.excBase_ValueError.init.plain _]
  wp_walk
  refine hq _ h.objs.size (fun b o hb ho => ?_) ?_
  · rw [Heap.get?_update_other _ _ (Ne.symm hb)]
    exact Heap.get?_push_of_some _ ho
  · rw [Heap.get?_update_self _ (Heap.get?_push_of_some _ he) rfl]
    rfl
theorem ae_init {s : Shared} (T : Txt prog K mg C D fI) {x t0 : Addr} {v : Value} (X : K.In s.heap) (hG : s.heap.Ns mainGlobals mg) (hB : s.heap.Ns builtinsNs mb) (hbb : ∀ x : Str, x ≠ "__name__" → mb x = bootBuiltins x) (hlim : s.heap.NoLimit) (hx : s.heap.get? x = some (excO C t0)) (hnx : K.lookup x = none) (hroom : A.depth < recursionLimit)
    (hq : ∀ h' tk dx, InitEnd s.heap h' x C dx v → R (.ok (.ret .none)) { s with heap := h', toks := tk }) :
    codeAny (model prog w) A (.call (.ref fI) ⟨[.ref x, v], []⟩) R s := by
  obtain ⟨oc, od, doc, pm, an, cda, ct, osl, cc, p1, p2, q0, q1, q2, q3, q4, q5, r1, r2, r3, r4, ho, hcd, hev, ⟨ccl, cdd, vs, ccs, file, tf, hcode, hvs, hfile⟩, ⟨cl, cld, csl, hcell⟩⟩ := T.fn
  obtain ⟨nm, q, N, bs, bm, sn, sub, ab, col, dd, k0, k1, k2, k3, k5, hC, hbm⟩ := T.cls
  obtain ⟨cdD, hD⟩ := T.clD
  have hcl : clsIn K C = some { name := nm, bases := bs, mro := .ref C :: bm, ns := N, qualname := q, hasDict := true, slotNames := sn, subclasses := sub, abstract := ab, collection := col, hasDel := false } := by unfold clsIn; rw [hC] <;> rfl
  refine ks_codeAny_call_defAt (binds := [("self", .ref x), ("at", v)]) hroom (X _ _ ho) rfl hlim (codeRec_of X hcd) rfl (BindsTo.of_eq (by first | rfl | with_unfolding_all rfl)) (show ∀ y ∈ aS.names, y.2 ≠ .cell by decide) (show ∀ y ∈ [(("self" : Str), Value.ref x), ("at", v)], aS.names.lookup y.1 = some .local from fun y hy => ?_) (fun h₁ hn k => ?_) rfl rfl rfl
  · rcases List.mem_cons.mp hy with rfl | hy
    · rfl
    · obtain rfl := List.mem_singleton.mp hy
      rfl
  have hxL : s.heap.objs.size ≠ x := Nat.ne_of_gt (Heap.lt_size hx)
  have X₁ : K.In h₁ := X.keeps k
  have hx₁ := k _ _ hx
  obtain ⟨oD, hD1, hD2⟩ : ∃ oD, h₁.get? D = some oD ∧ oD.data = .cls cdD := by
    unfold clsIn at hD
    split at hD
    · rename_i c d cd' sl ho
      cases hD
      exact ⟨_, X₁ _ _ ho, rfl⟩
    · cases hD
  have I₁ : InstAt h₁ x (excO C t0) C none := ⟨hx₁, rfl, rfl, trivial⟩
  obtain ⟨pl, he⟩ := hev (ksEnv "AuctionError.__init__" aS s.heap.objs.size fI (.ref cda) cc)
  refine ks_wpAt_execs_cons (ks_wpAt_Expr_any (ks_wpAt_MethodCall (pl := pl) ?_ he))
  -- super()
  refine ks_wpAt_super_base (env := ksEnv "AuctionError.__init__" aS s.heap.objs.size fI (.ref cda) cc) rfl rfl (by decide) rfl (X₁ _ _ ho) rfl rfl rfl (X₁ _ _ hcode) rfl hvs hfile T.top ?_
  refine ks_loadName_global rfl rfl (loadGlobal_builtin (env := ksEnv "AuctionError.__init__" aS s.heap.objs.size fI (.ref cda) cc) (hG.keeps k) T.nsu (hB.keeps k) ((hbb _ (by decide +kernel)).trans (by first | rfl | kernel_rfl)) ⟨rfl, ?_⟩)
  refine wpAny_loadName_free rfl rfl rfl ⟨_, X₁ _ _ hcell, rfl⟩ ?_
  refine wpAny_loadName_local rfl rfl hn (show _ = some (Value.ref x) from by first | rfl | with_unfolding_all rfl) ?_
  refine ks_wpAny_isType_cls hD1 hD2 ⟨rfl, ?_⟩
  refine ks_wpAny_call_super hD1 hD2 I₁.at_ I₁.cls (fun c e => ?_) (looks_mroIn X₁ T.isD) (fun h2 e2 k2 => ?_)
  · cases e
  -- .__init__
  have X₂ : K.In h2 := X₁.keeps k2
  have I₂ : InstAt h2 x (excO C t0) C none := ⟨k2 _ _ hx₁, rfl, rfl, trivial⟩
  have hm := T.sup
  unfold ks_superIn at hm
  rw [hcl] at hm
  refine kxs_getMethod kxs_ValueError e2 (looks_opaque X₂ T.opq) (l₀ := .ref C :: bm) ?_ rfl X₂ hm (I₂.type.andThen (looks_subIn X₂ T.veC)) (ks_ne X₂ I₂ hcl) (by decide) ?_
  · exact fun A Q E s k q => wpAny_bind ((looks_clsIn X₂ hcl) A _ E s k (wpAny_pure q))
  -- (at)
  have k3 : ∀ b o, h2.get? b = some o → (h2.push (kxs_mw "ValueError.__init__" x)).get? b = some o := fun b o e => Heap.get?_push_of_some _ e
  have hmw : (h2.push (kxs_mw "ValueError.__init__" x)).get? h2.objs.size = some (kxs_mw "ValueError.__init__" x) := Heap.get?_push_at rfl rfl
  refine kxs_callWith (i := "ValueError.__init__") (x := x) rfl (evalArgs_plain (PyProof.Rows.args_cons (ldF (v := v) ((hn.keeps k2).keeps k3) (by first | rfl | with_unfolding_all rfl) (PyProof.Rows.args_nil ?_)) rfl))
  refine ⟨hmw, ?_⟩
  refine call_mw (k3 _ _ (X₂ _ _ hC)) (k3 _ _ I₂.at_) hmw (by show 1 ≤ sizeLine; rw [sizeLine_eq]; omega) fun h4 t1 k4 hx4 => ?_
  have kk : ∀ b o, b ≠ x → h₁.get? b = some o → h4.get? b = some o := fun b o hb e => k4 b o hb (k3 b o (k2 b o e))
  have X₄ : K.In h4 := fun a o e => kk a o (fun z => by rw [z, hnx] at e; cases e) (X₁ _ _ e)
  have hn4 : h4.Ns s.heap.objs.size (fun y => [(("self" : Str), Value.ref x), ("at", v)].reverse.lookup y) := by
    obtain ⟨o, es, ep, e, r⟩ := hn
    exact ⟨o, es, ep, kk _ _ hxL e, r⟩
  -- self.at = at
  refine wpAt_of_wpAny (wpAny_execs_cons (plainObj_wpAny_Assign_Attribute ?_))
  refine ldF (v := v) hn4 (by first | rfl | with_unfolding_all rfl) (ldF (v := .ref x) hn4 (by first | rfl | with_unfolding_all rfl) ?_)
  refine set_plain X₄ (ox := excO C t1) (od := none) ⟨hx4, rfl, rfl, trivial⟩ T.sa ?_
  refine exc_osa X₄ hx4 hcl (show refsVE (.ref C :: bm) = true from hbm) rfl T.noN (fun h₅ tk₅ dx k₅ dn dne hx₅ hn₅ => ?_)
  have z : s.heap.objs.size < h₁.objs.size := hn.lt
  have z4 : s.heap.objs.size < h4.objs.size := hn4.lt
  exact wpAny_execs_nil (hq h₅ tk₅ dx ⟨fun b o hb e => k₅ b o hb (kk b o hb (k b o e)), ⟨t1, hx₅⟩, Nat.le_of_lt (Nat.lt_of_lt_of_le z4 dn), dne, hn₅⟩)
/-- a made error -/
structure Made (h h' : Heap) (e C d : Addr) (v : Value) : Prop where
  keep : ∀ b o, h.get? b = some o → h'.get? b = some o
  new : h.objs.size ≤ e
  obj : ∃ oe vs, h'.get? e = some oe ∧ oe.cls = .ref C ∧ oe.dict = some d ∧ oe.data = .fields vs ∧ vs[1]? = some .none ∧ vs[2]? = some .none
  dbig : h.objs.size ≤ d
  dne : d ≠ e
  ns : h'.Ns1 d (fun y => if y = "at" then some v else none)
theorem ae_made {s : Shared} (T : Txt prog K mg C D fI) {v : Value} (X : K.In s.heap) (hG : s.heap.Ns mainGlobals mg) (hB : s.heap.Ns builtinsNs mb) (hbb : ∀ x : Str, x ≠ "__name__" → mb x = bootBuiltins x) (hlim : s.heap.NoLimit) (hroom : A.depth + 1 < recursionLimit)
    (hq : ∀ h' tk e d, Made s.heap h' e C d v → R (.ok (.ret (.ref e))) { s with heap := h', toks := tk }) : codeAny (model prog w) A (.call (.ref C) ⟨[v], []⟩) R s := by
  obtain ⟨nm, q, N, bs, bm, sn, sub, ab, col, dd, k0, k1, k2, k3, k5, hC, hbm⟩ := T.cls
  obtain ⟨hp, g, dr, tk, os⟩ := s
  have k : ∀ b o, hp.get? b = some o → ((hp.push (kdv_tup [v])).push (excO C hp.objs.size)).get? b = some o := fun b o e => Heap.get?_push_of_some _ (Heap.get?_push_of_some _ e)
  have hx : ((hp.push (kdv_tup [v])).push (excO C hp.objs.size)).get? (hp.objs.size + 1) = some (excO C hp.objs.size) := by heap_get
  have hnx : K.lookup (hp.objs.size + 1) = none := by
    cases e : K.lookup (hp.objs.size + 1) with
    | none => rfl
    | some o => exact absurd (Nat.lt_of_succ_lt (Heap.lt_size (show hp.get? (hp.objs.size + 1) = some o from X _ _ e))) (Nat.lt_irrefl _)
  refine call_own F.excBase_ValueError (fun X => refsVE_contains X bm hbm) (X _ _ hC) (looks_findIn X T.iC) (fun self => bind_fn X self T.tC) (by show 1 ≤ sizeLine; rw [sizeLine_eq]; omega) ?_
  refine ae_init (s := ⟨(hp.push (kdv_tup [v])).push (excO C hp.objs.size), g, dr, tk, os⟩) T (X.keeps k) (hG.keeps k) (hB.keeps k) hbb (hlim.keeps k) hx hnx (show A.depth + 1 < recursionLimit from hroom) fun h' tk' dx M => ?_
  have old : ∀ b o, hp.get? b = some o → h'.get? b = some o := fun b o e => M.keep b o (Nat.ne_of_lt (Nat.lt_succ_of_lt (Heap.lt_size e))) (k b o e)
  obtain ⟨t1, ho⟩ := M.obj
  have z : hp.objs.size ≤ dx := by
    have z2 := M.dbig
    simp only [Heap.size_push] at z2
    omega
  exact ⟨rfl, hq h' tk' (hp.objs.size + 1) dx ⟨old, Nat.le_succ _, ⟨_, _, ho, rfl, rfl, rfl, rfl, rfl⟩, z, M.dne, M.ns⟩⟩
end
end AeX
end PySem
namespace G
open PySem PySem.Spec PyProof.Rows L2
theorem relO_at {v : V} {v' : Value} (r : RelV v v') (f : Str) : RelO (List.lookup f [(("at" : Str), v)]) (if f = "at" then some v' else none) := by
  by_cases hw : f = "at"
  · subst hw
    rw [if_pos rfl, show List.lookup ("at" : Str) [(("at" : Str), v)] = some v by simp [List.lookup]]
    exact r
  · have qw : (f == ("at" : Str)) = false := by simpa using hw
    rw [if_neg hw, show List.lookup f [(("at" : Str), v)] = none by simp [List.lookup, qw]]
    trivial
/-- the errors that may be raised by their names -/
def ErrG (P : Program) (K : Frg) (mg : MgT) (x : Str) : Prop := ∃ C D fI, mg x = some (.ref C) ∧ PySem.AeX.Txt P K mg C D fI
section
variable {X : Cx} {W : WX} {C D1 fI : Addr} {a : Expr} {ta : TA} {x : Str} {p pos pos2 : Pos} {k : Nat} {f : En → R D}
def tMkE (C : Addr) (ta : TA) : St → Hp → XK → Prop := fun σ H Q => ta σ H fun vs H1 => ∃ v, vs = [v] ∧ ∀ d, H1 d = none → Q (.ref C) (some d) (upd H1 d (.xd [(("at" : Str), v)]))
theorem pmk_err (T : PySem.AeX.Txt X.prog X.K X.mg C D1 fI) (gC : X.mg x = some (.ref C)) (hr : Room k X.A) (ha : PA X [a] ta) (hg : Gl X x) (hdb : (x == ("__debug__" : Str)) = false := by decide)
    (he : starEach (a :: []) X.env = (false, eval a X.env) :: starEach [] X.env := by rfl) (hpl : (backTo pos (starEach [] X.env)).any (·.1) = false := by rfl) :
    L2N.PMk X (.Call (.Name x p) [a] [] pos) (tMkE C ta) := by
  intro pins s σ H Q I h
  refine wpAny_Call_Name_kw (ld_glob I hg gC ?_ hdb)
  refine PySem.W.callWith_K (h₀ := X.base) I.ok.mod.kin T.kC (thn (ha.run pos pins s σ H _ I h) fun us s1 ⟨vs, H1, I1, r1, v, ev, q1⟩ => ?_) he hpl
  subst ev
  refine ⟨I1.kIn, ?_⟩
  cases r1 with
  | cons rv rn =>
    rename_i v' us'
    cases rn
    obtain ⟨mb, hb, hbb⟩ := I1.ok.mod.blt
    have hG := I1.ok.mod.glob.keeps I1.bk
    have hB := hb.keeps I1.bk
    have hlim := I1.nolimit
    have hK := I1.kIn
    obtain ⟨hp, g, dr, tk, os⟩ := s1
    refine wpAny_call (PySem.AeX.ae_made T hK hG hB hbb hlim (by have := hr.dp; omega) fun h' tk' e d M => ?_)
    show L2N.MkP X pins σ Q (.ref e) ⟨h', g, dr, tk', os⟩
    obtain ⟨oe, fv, hoe, hc, hd, hdat, h1, h2c⟩ := M.obj
    obtain ⟨G', g1, g2⟩ := restrict h' fun b => decide (b ≠ e)
    have gk : ∀ b, b ≠ e → G'.get? b = h'.get? b := fun b hb => g1 b (decide_eq_true hb)
    have ge : G'.get? e = none := g2 e (by simp)
    have ob : ObjOk X.prog X.w (upd H1 d (.xd [(("at" : Str), v)])) G' d (.xd [(("at" : Str), v)]) := ⟨_, M.ns.at (fun o q => (gk d M.dne).trans q), fun f => relO_at rv f⟩
    have J : Inv X pins σ (upd H1 d (.xd [(("at" : Str), v)])) ⟨G', g, dr, tk', os⟩ :=
      I1.laid (t' := tk') (fun b o q => (gk b (Nat.ne_of_lt (Nat.lt_of_lt_of_le (Heap.lt_size q) M.new))).trans (M.keep b o q)) M.dbig ob
    refine ⟨e, oe, fv, ⟨G', g, dr, tk', os⟩, _, .ref C, some d, rfl, J, fun b o q => ?_, ge, hoe, ⟨hc, hd, fun vs' hv' => by rw [hdat] at hv'; cases hv'; exact h2c⟩, hdat, h1, ?_, rfl, I1.bare, raises_own T.exC T.tyC, q1 d (I1.hok.fresh M.dbig)⟩
    · have q' : G'.get? b = some o := q
      by_cases hb : b = e
      · rw [hb, ge] at q'; cases q'
      · exact (gk b hb).symm.trans q'
    · rw [upd_ne (Ne.symm M.dne)]
      exact I1.hok.fresh M.new
/-- raise c(e), e an int -/
def sRaise (c : String) (f : En → R D) : En → SR := fun ρ => .of (f ρ) ρ fun d => match d with
  | .int n => .ex c n ρ
  | _ => .no
theorem fs_raise {c : String} (hx : x = Str.ofString c) (T : ErrG X.prog X.K X.mg x) (hc : X.calm = true) (hr : Room k X.A) (tk : L2N.Takes X W) (hg : Gl X x) (ha : FE X W a f) (hdb : (x == ("__debug__" : Str)) = false := by decide)
    (he : starEach (a :: []) X.env = (false, eval a X.env) :: starEach [] X.env := by rfl) (hpl : (backTo pos (starEach [] X.env)).any (·.1) = false := by rfl) :
    FS X W (.Raise (some (.Call (.Name x p) [a] [] pos)) none pos2) (sRaise c f) := by
  obtain ⟨C, D1, fI, gC, T⟩ := T
  refine impS (L2N.ps_raise hc tk (pmk_err T gC hr (pa_cons ha pa_nil he) hg hdb he hpl)) fun E σ H ⟨H0, A0, A, ρ, o, P⟩ => ?_
  refine ⟨H0, A0, A, ρ, o, (P.of o).mono fun d H1 s1 P1 v hv => ⟨v, rfl, fun dd hdd => ?_⟩⟩
  split at P1
  · rename_i n
    obtain rfl := (RepB.of hv).int
    have sm : Same H1 (upd H1 dd (.xd [(("at" : Str), .int n)])) := same_upd hdd
    exact P1 (.ref C) dd σ _ A ((o.same s1).same sm) (Tr.same (s1.trans sm)) ⟨o.ext.free (s1.free hdd), fun y => o.has dd (o.sub dd y) (s1.free hdd)⟩ ⟨by rw [← hx]; exact gC, upd_same⟩
  · exact P1.elim
end
end G

namespace G
open PySem PySem.Spec PyProof.Rows L2

/-! ### several clauses, each with the same name for the error -/
def gone (i : Nat) (D : Ends) : Ends := { nx := fun τ K1 => D.nx (τ.set i none) K1, rt := D.rt, bk := fun τ K1 => D.bk (τ.set i none) K1, ct := fun τ K1 => D.ct (τ.set i none) K1 }
abbrev Cls := Value × (Addr → Value → Option Addr → TS)
def wAll (K : Frg) (i : Nat) (Wo : WX) (D : Ends) : List Cls → WX
  | [] => Wo
  | q :: r => fun cls dx τ K1 => ∃ b, PySem.W.exmOne K cls q.1 = some b ∧ (b = true → ∀ a, K1 a = none → q.2 a cls dx (gone i D) (τ.set i (some (.ref a))) K1) ∧ (b = false → wAll K i Wo D r cls dx τ K1)
inductive HdsAs (X : Cx) (n : Str) : List ExceptHandler → List Cls → Prop
  | nil : HdsAs X n [] []
  | cons {x : Str} {c : Value} {ts : Addr → Value → Option Addr → TS} {st : Stmt} {sts : List Stmt} {np hp : Pos} {hds : List ExceptHandler} {l : List Cls} (named : Names X x c)
      (does : ∀ (a : Addr) (oe : Obj) (cls : Value) (dx : Option Addr) (pn : List (Addr × Obj)), L2N.Zn cls dx oe → (∃ vs, oe.data = .fields vs) → PSs (X.suite a ((a, oe) :: pn)) (st :: sts) (ts a cls dx)) (rest : HdsAs X n hds l) :
      HdsAs X n (.ExceptHandler (some (.Name x np)) (some n) (st :: sts) hp :: hds) ((c, ts) :: l)
section
variable {X : Cx} {n : Str} {i : Nat} {body : List Stmt} {hd1 : ExceptHandler} {hds : List ExceptHandler} {l : List Cls} {pos : Pos} {tb : WX → TS} {Wo : WX}
theorem ps_try_all (hst : X.stack = X.env :: X.outer) (hfr0 : X.env.frame = some X.env.locals) (hN : X.N.Nodup) (hi : X.N[i]? = some n) (hln : X.env.kindOf n = some .local) (tk : L2N.Takes X Wo)
    (hb : ∀ (W : WX) (pn : List (Addr × Obj)) (xe : Value → Shared → Prop), L2N.Takes (X.tr pn xe) W → PassesOwn (model X.prog X.w) X.A X.env xe → PSs (X.tr pn xe) body (tb W))
    (hh : HdsAs X n (hd1 :: hds) l) : PS X (.Try body (hd1 :: hds) [] [] pos) (fun D τ K1 => tb (wAll X.K i Wo D l) D τ K1) := by
  refine ⟨fun pins s τ0 K0 D I h => ?_⟩
  have okX := I.ok
  have hfr : X.A.frames = some (X.env :: X.outer) := okX.frames.trans (by rw [hst])
  have there : Loc X.env.scope n := .inl hln
  refine wpAny_Try_except (wpAny_mono ((hb (wAll X.K i Wo D l) (X.pn ++ pins) _ (fun u s' air => ?_) PassesOwn.looking).run [] s τ0 K0 D (I.toTry _) h) (fun f s1 done => ?_) fun _ _ he => he)
  · obtain ⟨a, B, sI, pins', τ, K1, cls, dx, rfl, J', nb, up, sky, na, os, ag, w⟩ := air
    have J : Inv X pins τ K1 sI := J'.ofTry okX
    refine L2N.Sky.land L2N.Zn.steady hfr hfr0 (show Sky B (X.env :: X.outer) a (L2N.Zn cls dx) X.env.locals s'.heap from hst ▸ sky) fun h3 fl3 up3 => ?_
    have J3 : Inv X pins τ K1 { s' with heap := h3 } := J.landed nb fl3.1 (up.trans up3) os ag
    obtain ⟨oe3, vs3, he3, hz3, hd3⟩ := fl3.there
    have apart : a ∉ frs (X.env :: X.outer) := fun hm => by
      obtain ⟨_, o2, e2, ne2⟩ := fl3.2.2.1.mem hm
      cases he3.symm.trans e2
      exact ne2 _ hd3
    have nL : a ≠ X.env.locals := fun z => apart (List.mem_filterMap.mpr ⟨X.env, List.mem_cons_self, by rw [hfr0, z]⟩)
    have nF : a ∉ X.fs := fun hm => by
      obtain ⟨e, he, q⟩ := List.mem_filterMap.mp hm
      exact apart (List.mem_filterMap.mpr ⟨e, List.mem_cons_of_mem _ he, q⟩)
    have S3 := J3.suite he3 hd3 na nL nF
    have go : ∀ {hs' : List ExceptHandler} {l' : List Cls}, HdsAs X n hs' l' → wAll X.K i Wo D l' cls dx τ K1 → wpAny (model X.prog X.w) X.A (handleBy (.ref a) X.env hs') (SP X pins D) X.xe { s' with heap := h3 } := by
      intro hs' l' hk
      induction hk with
      | nil =>
        intro w
        obtain ⟨_, _, _, oe, vs, T, oT, ts', he, hz, hd, h1, _⟩ := id fl3
        refine wpAny_handleBy_nil ?_
        unfold PySem.passOn
        refine wpAny_bind (wpAny_field he hd h1 ?_)
        rw [if_neg (show ¬ ((Value.ref T == Value.none) = true) from by simp)]
        have fin : wpAny (model X.prog X.w) X.A (setFlight (.ref a) X.env.frame) (fun _ s4 => wpAny (model X.prog X.w) X.A (throw (.ref a) : Sem Flow) (SP X pins D) X.xe s4) X.xe { s' with heap := h3 } :=
          hfr0 ▸ HandSPX.setFlight_upZ fl3 fun h4 hh4 up4 => wpAny_throw (tk _ _ ⟨a, B, sI, pins, τ, K1, cls, dx, rfl, J, nb, (up.trans up3).trans up4, .inr (.inr (hst ▸ hh4)), na, os, ag, w⟩)
        first
          | exact wpAny_bind (wpAny_pure (wpAny_bind fin))
          | exact wpAny_bind fin
      | @cons x c ts st sts np hp hs2 l2 named does rest ih =>
        intro w
        obtain ⟨b, hb1, hyes, hno⟩ := w
        refine wpAny_handleBy_cons (codeAny_handlers_test ?_) (by intro q; cases q)
        have LT : PySem.W.Looks (model X.prog X.w) h3 (typeOf (.ref a)) cls := fun A Q E s k q => wpAny_typeOf_ref (k _ _ he3) (by rw [hz3.1]; exact q)
        have LM := PySem.W.exm_one (M := model X.prog X.w) J3.kIn LT hb1
        have asked : ∀ {Q : Value → Shared → Prop} {E : Value → Shared → Prop}, Q c { s' with heap := h3 } → wpAny (model X.prog X.w) (X.A.mark (some (.ref a))) (eval (.Name x np) X.env) Q E { s' with heap := h3 } := fun {Q E} q => by
          obtain ⟨hg, hdb, hm | ⟨hm, hv, hnn⟩⟩ := named
          · exact ld_glob (X := X.suite a ((a, oe3) :: (X.pn ++ pins))) S3 hg hm q hdb
          · exact ld_blt (X := X.suite a ((a, oe3) :: (X.pn ++ pins))) S3 hg hm hv q hnn hdb
        refine asked (LM.here ?_)
        cases b with
        | false => exact ih (hno rfl)
        | true =>
          refine codeAny_handlers_suite_as (HandSPX.lands_againZ fl3 fun h4 fl4 up4 => ?_)
          have J4 : Inv X pins τ K1 { s' with heap := h4 } := J.landed nb fl4.1 ((up.trans up3).trans up4) os ag
          obtain ⟨oe4, vs4, he4, hz4, hd4⟩ := fl4.there
          refine store_ok (X := X.suite a ((a, oe4) :: (X.pn ++ pins))) (v := .ref a) (J4.suite he4 hd4 na nL nF) hN hi there rfl (fun s5 S5 => ?_) (.inr hln)
          refine wpAny_mono ((does a oe4 cls dx (X.pn ++ pins) hz4 ⟨_, hd4⟩).run [] s5 _ K1 _ S5 (hyes rfl a na)) (fun f s6 hsp => ?_) fun _ _ z => z.elim
          have over : ∀ {τ6 : St} {K6 : Hp} {Q : Shared → Prop}, Inv (X.suite a ((a, oe4) :: (X.pn ++ pins))) [] τ6 K6 s6 → (∀ s7, Inv X pins (τ6.set i none) K6 s7 → Q s7) →
              wpAny (model X.prog X.w) X.A (do bindName X.env n .none; unbindBehindTheSuite X.env n hp) (fun _ s7 => Q s7) X.xe s6 := fun {τ6 K6 Q} S6 hq => gone_ok (S6.unsuite okX) hN hi hln hq
          cases f with
          | next =>
            obtain ⟨τ6, K6, S6, q6⟩ := hsp
            exact over S6 fun s7 J7 => ⟨_, _, J7, q6⟩
          | brk =>
            obtain ⟨τ6, K6, S6, q6⟩ := hsp
            exact over S6 fun s7 J7 => ⟨_, _, J7, q6⟩
          | cont =>
            obtain ⟨τ6, K6, S6, q6⟩ := hsp
            exact over S6 fun s7 J7 => ⟨_, _, J7, q6⟩
          | ret u =>
            obtain ⟨v6, τ6, K6, S6, r6, q6⟩ := hsp
            exact over S6 fun s7 J7 => ⟨_, _, _, J7, r6, q6⟩
    exact go hh w
  · cases f with
    | next =>
      obtain ⟨τ, K1, J, q⟩ := done
      exact wpAny_execs_nil ⟨τ, K1, J.ofTry okX, q⟩
    | brk =>
      obtain ⟨τ, K1, J, q⟩ := done
      exact ⟨τ, K1, J.ofTry okX, q⟩
    | cont =>
      obtain ⟨τ, K1, J, q⟩ := done
      exact ⟨τ, K1, J.ofTry okX, q⟩
    | ret u =>
      obtain ⟨v, τ, K1, J, r, q⟩ := done
      exact ⟨v, τ, K1, J.ofTry okX, r, q⟩
end
/-! ### the error's number -/
def tAtOf (mg : MgT) (P : Program) (K : Frg) (a : Addr) (cls : Value) (dx : Option Addr) (te : TE) : TE := fun τ K0 Q => te τ K0 fun x K1 => x = .ref a ∧ ∃ (C D1 fI dd : Addr) (v : V), cls = .ref C ∧ PySem.AeX.Txt P K mg C D1 fI ∧ dx = some dd ∧ K1 dd = some (.xd [(("at" : Str), v)]) ∧ Q v K1
section
variable {X : Cx} {W : WX} {n : Str} {i : Nat}
theorem pe_at {a : Addr} {oe : Obj} {cls : Value} {dx : Option Addr} {pn : List (Addr × Obj)} {e : Expr} {te : TE} {pos : Pos} (hz : Zc cls dx oe) (hf : ∃ vs, oe.data = .fields vs) (he : PE (X.suite a ((a, oe) :: pn)) e te)
    (hb : attributeBase e "at" X.env (eval e X.env) = eval e X.env := by rfl) : PE (X.suite a ((a, oe) :: pn)) (.Attribute e "at" pos) (tAtOf X.mg X.prog X.K a cls dx te) := by
  refine ⟨fun pins s τ K0 Q I h => attr_of hb (thn (he.run pins s τ K0 _ I h) fun u s1 hh => ?_)⟩
  obtain ⟨x, K1, I1, rx, rfl, C, D1, fI, dd, v, rfl, T, rfl, ea, q⟩ := hh
  obtain rfl : u = Value.ref a := rx
  obtain ⟨vs, hd⟩ := hf
  obtain ⟨ha, _⟩ := I1.pin (a, oe) (List.mem_append_left _ List.mem_cons_self)
  obtain ⟨mA, hns, hr⟩ := (show ObjOk X.prog X.w K1 s1.heap dd (.xd [(("at" : Str), v)]) from I1.hok dd _ ea)
  obtain ⟨od, ho, hl⟩ := lookIn_ns hns
  obtain ⟨u, hu, ru⟩ := RelO.some_of (v := v) (o := mA "at") (by rw [← show List.lookup ("at" : Str) [(("at" : Str), v)] = some v by simp [List.lookup]]; exact hr "at")
  have J : PySem.W.InstAt s1.heap a oe C (some od) := ⟨ha, hz.1, by unfold PySem.W.notCls; rw [hd] <;> rfl, by rw [hz.2]; exact ho⟩
  exact HandSPX.exc_get I1.kIn J T.ga T.gg T.exC (PySem.W.findObj_own T.hdC T.noN rfl (by rw [hl, hu])) (handed_of ru) ⟨v, K1, I1.tok _, ru, q⟩
/-- one error is, or is not, below another -/
def ExM (P : Program) (K : Frg) (mg : MgT) (c x : String) (b : Bool) : Prop := ∃ u v, mg (Str.ofString c) = some u ∧ mg (Str.ofString x) = some v ∧ PySem.W.exmOne K u v = some b ∧ ErrG P K mg (Str.ofString c)
theorem fa0 {α : Type} {P : α → Prop} : ∀ q ∈ ([] : List α), P q := fun q h => absurd h List.not_mem_nil
theorem fa1 {α : Type} {P : α → Prop} {a : α} {l : List α} (h : P a) (t : ∀ q ∈ l, P q) : ∀ q ∈ a :: l, P q := fun q m => by
  rcases List.mem_cons.mp m with rfl | m
  · exact h
  · exact t q m
theorem ErrG.named {P : Program} {K : Frg} {mg : MgT} {x : Str} (h : ErrG P K mg x) : ∃ v, mg x = some v := by
  obtain ⟨C, _, _, e, _⟩ := h
  exact ⟨_, e⟩
inductive HdAt (X : Cx) (n : Str) : List ExceptHandler → List (List (String × Bool) × Str) → Prop
  | nil : HdAt X n [] []
  | cons {x : String} {z : Str} {j k : Nat} {np p2 p3 p4 p5 p6 hp : Pos} {hds : List ExceptHandler} {tab : List (String × Bool)} {l : List (List (String × Bool) × Str)} (hg : Gl X (Str.ofString x)) (hdb : ((Str.ofString x) == ("__debug__" : Str)) = false)
      (hm : ∃ v, X.mg (Str.ofString x) = some v) (ht : ∀ q ∈ tab, ExM X.prog X.K X.mg q.1 x q.2) (rest : HdAt X n hds l) :
      HdAt X n (.ExceptHandler (some (.Name (Str.ofString x) np)) (some n) [.Return (some (.Tuple [.Constant (.str z) j p2, .Attribute (.Name n p3) "at" p4] k p5)) p6] hp :: hds) ((tab, z) :: l)
def tryAt (c : String) (m : Int) (ρ : En) : List (List (String × Bool) × Str) → SR
  | [] => .ex c m ρ
  | (tab, z) :: r => match tab.lookup c with
    | some true => .rt (.tuple [.str z, .int m])
    | some false => tryAt c m ρ r
    | none => .no
def sTryAt (i : Nat) (g : En → SR) (cl : List (List (String × Bool) × Str)) : En → SR := fun ρ => match g ρ with
  | .ex c m ρ1 => if i < ρ1.length then tryAt c m ρ1 cl else .no
  | r => r
def tsAt (X : Cx) (i : Nat) (z : Str) : Addr → Value → Option Addr → TS := fun a cls dx => tRet (tTup (tCons (tC (.str z)) (tCons (tAtOf X.mg X.prog X.K a cls dx (tVar i)) tNil)))
theorem hds_at (hN : X.N[i]? = some n) (hv : Vis X.env.scope n) (hd : (n == ("__debug__" : Str)) = false) (hcd : (n == ("__classdict__" : Str)) = false) (hbase : ∀ p, attributeBase (.Name n p) "at" X.env (eval (.Name n p) X.env) = eval (.Name n p) X.env)
    (hs : ∀ (z : Str) (j : Nat) (p2 p3 p4 : Pos), starEach [.Constant (.str z) j p2, .Attribute (.Name n p3) "at" p4] X.env = (false, eval (.Constant (.str z) j p2) X.env) :: starEach [.Attribute (.Name n p3) "at" p4] X.env)
    (hs2 : ∀ (p3 p4 : Pos), starEach [.Attribute (.Name n p3) "at" p4] X.env = (false, eval (.Attribute (.Name n p3) "at" p4) X.env) :: starEach [] X.env) {hds : List ExceptHandler} {l : List (List (String × Bool) × Str)} (h : HdAt X n hds l) :
    ∃ l' : List Cls, HdsAs X n hds l' ∧ Paired (fun (p : Cls) (q : List (String × Bool) × Str) => p.2 = tsAt X i q.2 ∧ ∀ r ∈ q.1, ∃ u, X.mg (Str.ofString r.1) = some u ∧ PySem.W.exmOne X.K u p.1 = some r.2 ∧ ErrG X.prog X.K X.mg (Str.ofString r.1)) l' l := by
  induction h with
  | nil => exact ⟨[], .nil, .nil⟩
  | @cons x z j k np p2 p3 p4 p5 p6 hp hds tab l hg hdb hm ht rest ih =>
    obtain ⟨v, hm⟩ := hm
    obtain ⟨l', h1, h2⟩ := ih
    refine ⟨(v, tsAt X i z) :: l', .cons ⟨hg, hdb, .inl hm⟩ (fun a oe cls dx pn hz hf => pss_one (ps_ret (pe_tup (pa_cons pe_str (pa_cons (pe_at hz.zc hf (pe_var hN hv hd hcd) (hbase _)) pa_nil (hs2 _ _)) (hs _ _ _ _ _))))) h1, .cons ⟨rfl, fun r hr => ?_⟩ h2⟩
    obtain ⟨u, v', e1, e2, e3, e4⟩ := ht r hr
    cases hm.symm.trans e2
    exact ⟨u, e1, e3, e4⟩
theorem lookup_mem {c : String} {b : Bool} : ∀ {tab : List (String × Bool)}, tab.lookup c = some b → (c, b) ∈ tab
  | [], h => by cases h
  | (c', b') :: r, h => by
    rw [List.lookup_cons] at h
    split at h
    · rename_i e
      cases h
      rw [beq_iff_eq.mp e]
      exact List.mem_cons_self
    · exact List.mem_cons_of_mem _ (lookup_mem h)
theorem try_post {K : Frg} {mg : MgT} {H0 : Hp} {A0 : List Addr} {E : Ends} {Wo : WX} (hK : K = X.K) (hmg : mg = X.mg) {c : String} {m : Int} {ρ1 : En} {σ' : St} {H' : Hp} {A' A : List Addr} {H : Hp} {u : Value} {p : Addr} (o' : Ok K H0 A0 A' ρ1 σ' H') (tr : Tr A H A' H') (hp : Fr1 H0 A0 p) (he : ErrAt mg c m u p H') (hi : i < ρ1.length) :
    ∀ {l' : List Cls} {l : List (List (String × Bool) × Str)}, Paired (fun (p : Cls) (q : List (String × Bool) × Str) => p.2 = tsAt X i q.2 ∧ ∀ r ∈ q.1, ∃ u, X.mg (Str.ofString r.1) = some u ∧ PySem.W.exmOne X.K u p.1 = some r.2 ∧ ErrG X.prog X.K X.mg (Str.ofString r.1)) l' l →
      PostS K mg Wo H0 A0 A H E (tryAt c m ρ1 l) → wAll K i Wo E l' u (some p) σ' H'
  | _, _, .nil, P => P u p σ' H' A' o' tr hp he
  | _, _, .cons (a := q) (b := (tab, z)) ⟨e1, e2⟩ rest, P => by
    unfold tryAt at P
    split at P
    · rename_i hl
      obtain ⟨u', h1, h2, C, D1, fI, h3, T⟩ := e2 _ (lookup_mem hl)
      subst hK
      subst hmg
      cases he.1.symm.trans h1
      cases h1.symm.trans h3
      refine ⟨true, h2, fun _ a ha => ?_, fun z => Bool.noConfusion z⟩
      rw [e1]
      refine ⟨.ref a, by rw [List.getElem?_set_self (by rw [o'.len]; exact hi)], rfl, C, D1, fI, p, .int m, rfl, T, rfl, he.2, (by show 2 ≤ sizeLine; rw [sizeLine_eq]; omega), fun t ht => ?_⟩
      exact P _ _ (o'.ext.trans (same_upd ht)) (rep_tup (fun z => o'.has t (o'.sub t z) ht) ht (.cons (.str z) (.one (.int m))))
    · rename_i hl
      obtain ⟨u', h1, h2, _⟩ := e2 _ (lookup_mem hl)
      subst hK
      subst hmg
      cases he.1.symm.trans h1
      exact ⟨false, h2, fun z => Bool.noConfusion z, fun _ => try_post rfl rfl o' tr hp he hi rest P⟩
    · exact P.elim
theorem fs_tryAt {body : List Stmt} {hd1 : ExceptHandler} {hds : List ExceptHandler} {l : List (List (String × Bool) × Str)} {pos : Pos} {gb : En → SR} (hst : X.stack = X.env :: X.outer) (hfr0 : X.env.frame = some X.env.locals) (hN : X.N.Nodup) (hi : X.N[i]? = some n) (hln : X.env.kindOf n = some .local) (tk : L2N.Takes X W)
    (hv : Vis X.env.scope n) (hd : (n == ("__debug__" : Str)) = false) (hcd : (n == ("__classdict__" : Str)) = false) (hbase : ∀ p, attributeBase (.Name n p) "at" X.env (eval (.Name n p) X.env) = eval (.Name n p) X.env)
    (hs : ∀ (z : Str) (j : Nat) (p2 p3 p4 : Pos), starEach [.Constant (.str z) j p2, .Attribute (.Name n p3) "at" p4] X.env = (false, eval (.Constant (.str z) j p2) X.env) :: starEach [.Attribute (.Name n p3) "at" p4] X.env)
    (hs2 : ∀ (p3 p4 : Pos), starEach [.Attribute (.Name n p3) "at" p4] X.env = (false, eval (.Attribute (.Name n p3) "at" p4) X.env) :: starEach [] X.env)
    (hb : ∀ (W' : WX) (pn : List (Addr × Obj)) (xe : Value → Shared → Prop), L2N.Takes (X.tr pn xe) W' → PassesOwn (model X.prog X.w) X.A X.env xe → FSs (X.tr pn xe) W' body gb)
    (hh : HdAt X n (hd1 :: hds) l) : FS X W (.Try body (hd1 :: hds) [] [] pos) (sTryAt i gb l) := by
  obtain ⟨l', h1, h2⟩ := hds_at hi hv hd hcd hbase hs hs2 hh
  refine impS (ps_try_all (tb := fun W' => tFS X.K X.mg W' gb) hst hfr0 hN hi hln tk hb h1) fun E σ H ⟨H0, A0, A, ρ, o, P⟩ => ⟨H0, A0, A, ρ, o, ?_⟩
  unfold sTryAt at P
  cases hg : gb ρ with
  | ex c m ρ1 =>
    rw [hg] at P
    have P : PostS X.K X.mg W H0 A0 A H E (if i < ρ1.length then tryAt c m ρ1 l else .no) := P
    split at P
    · rename_i hlt
      exact fun u p σ' H' A' o' tr hp he => try_post rfl rfl o' tr hp he hlt h2 P
    · exact P.elim
  | nx _ => rw [hg] at P; exact P
  | rt _ => rw [hg] at P; exact P
  | bk _ => rw [hg] at P; exact P
  | ct _ => rw [hg] at P; exact P
  | no => rw [hg] at P; exact P
end
end G

namespace G
open PySem PySem.Spec PyProof.Rows L2

/-! ### one of several defs, picked by a number -/
def cPick (g : En → R D) (Fs : List (List D → R D)) (l : En → R (List D)) : En → R D := fun ρ => (g ρ).bind fun d => match (toI d).bind (atI Fs) with
  | some F => (l ρ).bind F
  | none => .no
section
variable {X : Cx} {W : WX} {k : Nat} {a b e : Expr} {es : List Expr} {f g : En → R D} {l : En → R (List D)} {p1 p2 q pos : Pos} {x : Str}
inductive FnList (X : Cx) (k : Nat) : List Expr → List (List D → R D) → Prop
  | nil : FnList X k [] []
  | cons {x : Str} {p : Pos} {es : List Expr} {F : List D → R D} {Fs : List (List D → R D)} (c : CallG X.prog X.w X.K X.mg X.base k x F) (hg : Gl X x) (hdb : (x == ("__debug__" : Str)) = false) (hs : starEach (.Name x p :: es) X.env = (false, eval (.Name x p) X.env) :: starEach es X.env)
      (rest : FnList X k es Fs) : FnList X k (.Name x p :: es) (F :: Fs)
abbrev IsFn (X : Cx) (k : Nat) (v : V) (F : List D → R D) : Prop := ∃ f fd ps, v = V.ref f ∧ FnG X.prog X.w X.K X.mg X.base k f fd ps F ∧ PySem.W.keepIn X.K (.ref f) = true ∧ Binds X.K fd ps []
theorem FnList.pa {Fs : List (List D → R D)} (h : FnList X k es Fs) : ∃ vs, Paired (IsFn X k) vs Fs ∧ PA X es (fun _ H Q => Q vs H) := by
  induction h with
  | nil => exact ⟨[], .nil, pa_nil⟩
  | @cons x p es F Fs c hg hdb hs rest ih =>
    obtain ⟨f, fd, ps, h1, h2, h3, h4⟩ := c
    obtain ⟨vs, h5, h6⟩ := ih
    exact ⟨.ref f :: vs, .cons ⟨f, fd, ps, rfl, h1, h3, h4⟩ h5, pa_cons (pe_glob (v := .ref f) hg h2 rfl hdb) h6 hs⟩
theorem paired_len {α β : Type} {R : α → β → Prop} : ∀ {xs : List α} {ys : List β}, Paired R xs ys → xs.length = ys.length
  | _, _, .nil => rfl
  | _, _, .cons _ t => by rw [List.length_cons, List.length_cons, paired_len t]
theorem paired_get {α β : Type} {R : α → β → Prop} : ∀ {xs : List α} {ys : List β} {i : Nat} {y : β}, Paired R xs ys → ys[i]? = some y → ∃ x, xs[i]? = some x ∧ R x y
  | _, _, _, _, .nil, h => by simp at h
  | _, _, 0, _, .cons a _, h => by simp at h; subst h; exact ⟨_, rfl, a⟩
  | _, _, i + 1, _, .cons _ t, h => by
    obtain ⟨v, h1, h2⟩ := paired_get (i := i) t (by simpa using h)
    exact ⟨v, by simpa using h1, h2⟩
theorem paired_at {α β : Type} {R : α → β → Prop} {xs : List α} {ys : List β} {i : Int} {y : β} (h : Paired R xs ys) (e : atI ys i = some y) : ∃ x, atI xs i = some x ∧ R x y := by
  unfold atI at e ⊢
  obtain ⟨j, h1, h2⟩ := Option.bind_eq_some_iff.mp e
  obtain ⟨x, h3, h4⟩ := paired_get h h2
  exact ⟨x, by rw [paired_len h, h1]; exact h3, h4⟩
theorem fe_pick {fs : List Expr} {Fs : List (List D → R D)} (hf : FnList X k fs Fs) (hr : Room k X.A) (hgd : X.A.guards = some []) (tk : L2N.Takes X W) (hi : FE X W b g) (ha : FA X W (e :: es) l) (hl : Fs.length ≤ sizeLine) (hs : PlainIx b)
    (hev : eval (.Call (.Subscript (.List fs p1) b p2) (e :: es) [] pos) X.env = (do callWith pos (← eval (.Subscript (.List fs p1) b p2) X.env) [] (backTo pos (starEach (e :: es) X.env)) (backToKw pos (keywordEach [] X.env))) := by rfl)
    (he : starEach (e :: es) X.env = (false, eval e X.env) :: starEach es X.env := by rfl) (hpl : (backTo pos (starEach es X.env)).any (·.1) = false := by rfl) :
    FE X W (.Call (.Subscript (.List fs p1) b p2) (e :: es) [] pos) (cPick g Fs l) := by
  obtain ⟨vs0, h1, h2⟩ := hf.pa
  refine ⟨fun pins s σ H Q I ⟨H0, A0, A, ρ, o, P⟩ => ?_⟩
  refine Call_ (thn ((pe_ix ix_list (pe_lst h2) hi hs).run pins s σ H (fun v H1 => Same H H1 ∧ ∃ F, IsFn X k v F ∧ Post X.mg W σ H1 (fun d H2 => ∀ v, Rep X.K H2 A v d → Q v H2) ((l ρ).bind F)) I ?_) ?_) hev
  · refine ⟨by rw [paired_len h1]; exact hl, fun p hp => ?_⟩
    have o1 := o.same (same_upd (o := .lst vs0) hp)
    refine ⟨H0, A0, A, ρ, o1, (Post.bind (Post.same (r := cPick g Fs l ρ) P (same_upd hp))).mono fun d H1 s1 P1 y hy => ?_⟩
    split at P1
    · rename_i F hF
      obtain ⟨i, h3, h4⟩ := Option.bind_eq_some_iff.mp hF
      obtain ⟨v, h5, h6⟩ := paired_at h1 h4
      have e : d = .int i := by
        cases d <;> simp [toI] at h3
        rw [h3]
      subst e
      obtain rfl := (RepB.of hy).int
      exact ⟨p, vs0, i, v, rfl, rfl, SqL.of (s1 _ _ upd_same), h5, (same_upd hp).trans s1, F, h6, P1⟩
    · exact P1.elim
  · intro v s1 ⟨x, H1, I1, rx, sm, F, ⟨f, fd, ps, ex, hF, hk, hb⟩, P1⟩
    subst ex
    obtain rfl : v = Value.ref f := rx
    have o1 := o.same sm
    refine PySem.W.callWith_K (h₀ := X.base) I1.ok.mod.kin hk (thn (ha.run pos pins s1 σ H1 (fun vs H2 => Same H1 H2 ∧ ∃ ds, RepL X.K H2 A vs ds ∧ Want X.K X.mg H2 A Q (WE W σ) (F ds)) I1 ⟨H0, A0, A, ρ, o1, P1.bind.mono fun ds H2 s2 P2 vs hv => ⟨s2, ds, hv, P2.want⟩⟩) fun us s2 ⟨vs, H2, I2, r, sm2, ds, rd, q⟩ => ⟨I2.kIn, ?_⟩) he hpl
    exact run_fng hF hr hgd hb tk I2 r rd (o1.same sm2).kp q
/-! ### the place of a number in a written tuple -/
def cIdxK (ns : List Int) (g : En → R D) : En → R D := fun ρ => (g ρ).bind fun d => ofO ((toI d).bind fun k => if k ∈ ns then some (.int (ns.idxOf k : Nat)) else none)
def GTupI (K : Frg) (mg : MgT) (x : Str) (ns : List Int) : Prop := ∃ a, mg x = some (.ref a) ∧ TupK K a (ns.map V.int) ∧ ∃ o, K.lookup a = some o ∧ o.cls = .type "tuple" ∧ o.dict = none
theorem mt_tupI : MtR X "tuple.index" (fun x xs H Q => ∃ (p0 : Addr) (ns : List Int) (k : Int), x = .ref p0 ∧ xs = [.int k] ∧ SqT X.K H p0 (ns.map V.int) ∧ k ∈ ns ∧ Q (.int (ns.idxOf k : Nat)) H) := by
  intro pins s σ H x xs v us Q I rx rs h
  obtain ⟨p0, ns, k, rfl, rfl, hq, hk, q⟩ := h
  cases rx
  obtain ⟨u, rfl, t, rfl⟩ := vals1 rs
  obtain ⟨its, r, pl, hz⟩ := I.tuple hq
  exact PySem.SeqAt.tuple_index_ints (show s.heap.IsTuple p0 its.toArray from pl) (RZ.intsAre_vals r) hk ⟨.int _, H, I.tok _, ⟨_, rfl⟩, q⟩
theorem fe_idxK {apos cpos : Pos} {ns : List Int} (h : GTupI X.K X.mg x ns) (hg : Gl X x) (hb : FE X W b g) (hd : (x == ("__debug__" : Str)) = false := by decide)
    (hbase : attributeBase (.Name x q) "index" X.env (eval (.Name x q) X.env) = eval (.Name x q) X.env := by rfl)
    (hfew : ((backTo cpos (starEach (b :: []) X.env)).all (fun x => !x.1) && (backToKw cpos (keywordEach [] X.env)).all (fun x => x.1.isSome)
      && decide ((b :: []).length + ([] : List Keyword).length + (if ([] : List Keyword).isEmpty then 0 else 1) < 30)) = true := by rfl)
    (hline : (apos.endLine == cpos.line) = true := by rfl) (hs : starEach (b :: []) X.env = (false, eval b X.env) :: starEach [] X.env := by rfl) (hplain : (backTo cpos (starEach [] X.env)).any (·.1) = false := by rfl) :
    FE X W (.Call (.Attribute (.Name x q) "index" apos) [b] [] cpos) (cIdxK ns g) := by
  obtain ⟨a, h1, h2, ob, h3, h4, h5⟩ := h
  refine impE (pe_bm PySem.F.plainAttrs_tuple PySem.F.slot_tuple_index PySem.F.type_tuple_index mt_tupI (pe_glob (v := .ref a) hg h1 rfl hd) (pa_cons hb pa_nil hs) hbase hfew hline hs hplain) fun σ H Q ⟨H0, A0, A, ρ, o, P⟩ => ?_
  refine ⟨.inr (.inl ⟨rfl, ob, h3, h4, h5⟩), H0, A0, A, ρ, o, P.bind.mono fun d H1 s1 P1 y hy => ?_⟩
  obtain ⟨d2, e, P2⟩ := P1.ofO
  obtain ⟨k, e1, e2⟩ := Option.bind_eq_some_iff.mp e
  have e3 : d = .int k := by
    cases d <;> simp [toI] at e1
    rw [e1]
  subst e3
  obtain rfl := (RepB.of hy).int
  split at e2
  · rename_i hk
    cases e2
    exact ⟨a, ns, k, rfl, rfl, .inr h2, hk, P2 H1 (Same.refl _) _ (.int _)⟩
  · cases e2

/-! ### repr -/
def dRepr (d : D) : Option D := if d.hasDict = false ∧ d.showable = true ∧ d.depth ≤ 60 ∧ d.shown.length ≤ sizeLine then some (.str d.shown) else none
theorem cr_repr (hgd : X.A.guards = some []) (hu : X.A.units + 65 < cLine) : CallR X (.builtin "repr") (fun xs H Q => ∃ (v : V) (d : D), xs = [v] ∧ Dp X.K H v d ∧ d.hasDict = false ∧ d.showable = true ∧ d.depth ≤ 60 ∧ d.shown.length ≤ sizeLine ∧ Q (.str d.shown) H) := by
  intro pins s σ H xs us Q I r h
  obtain ⟨v, d, rfl, hd, h1, h2, h3, h4, q⟩ := h
  obtain ⟨u, rfl, rx⟩ := vals1 r
  obtain ⟨as, rd⟩ := Dp.reads I d v u hd rx
  have fin : ∀ h' tk t, (∀ b o, s.heap.get? b = some o → h'.get? b = some o) → EP X pins σ Q (.str d.shown t) { s with heap := h', toks := tk } := fun h' tk t k => ⟨.str d.shown, H, I.kept k, ⟨_, rfl⟩, q⟩
  cases hd with
  | non => cases rx; exact PySem.P.repr_of_none (fin _ _ _ fun _ _ e => e)
  | bl b =>
    cases rx
    refine PySem.P.repr_of_bool ?_
    have := fin s.heap (s.toks + 1) s.toks fun _ _ e => e
    cases b <;> exact this
  | int i =>
    obtain ⟨t, rfl⟩ := rx
    exact PySem.P.repr_of_int (by simpa [PyData.showable] using h2) (fin _ _ _ fun _ _ e => e)
  | str z =>
    obtain ⟨t, rfl⟩ := rx
    exact PySem.P.repr_of_str (fin _ _ _ fun _ _ e => e) h4
  | lst a b =>
    cases rx
    exact PySem.repr_of_reads' rd h2 (fun z => by rw [h1] at z; cases z) hgd (by omega) (fun _ _ e => e) (fun h' t tk k => fin h' tk t k) h4
  | tup a b =>
    cases rx
    exact PySem.repr_of_reads' rd h2 (fun z => by rw [h1] at z; cases z) hgd (by omega) (fun _ _ e => e) (fun h' t tk k => fin h' tk t k) h4
theorem fe_repr (hu : X.A.units + 65 < cLine) (hgd : X.A.guards = some []) (hg : Gl X "repr") (hm : X.mg "repr" = none) (ha : FE X W a f) (hs : starEach (a :: []) X.env = (false, eval a X.env) :: starEach [] X.env := by rfl) (hpl : (backTo pos (starEach [] X.env)).any (·.1) = false := by rfl) :
    FE X W (.Call (.Name "repr" p1) [a] [] pos) (cUn dRepr f) := by
  refine impE (pe_callB (cr_repr hgd hu) hg hm PyProof.Rows.boot_repr (pa_cons ha pa_nil hs) (by decide) (by decide) hs hpl) fun σ H Q ⟨H0, A0, A, ρ, o, P⟩ => ?_
  refine ⟨H0, A0, A, ρ, o, P.bind.mono fun d H1 s1 P1 v hv => ?_⟩
  obtain ⟨d2, e, P2⟩ := P1.ofO
  unfold dRepr at e
  split at e
  · rename_i h
    cases e
    exact ⟨v, d, rfl, hv.dp h.1, h.1, h.2.1, h.2.2.1, h.2.2.2, P2 H1 (Same.refl _) _ (.str _)⟩
  · cases e

/-! ### written dicts -/
def mergeD (kds : List (Key × D)) : List (D × D) := kds.foldl (fun ds kd => putD (isK kd.1) (kD kd.1) kd.2 ds) []
def cDict (h : En → R (List (Key × D))) : En → R D := fun ρ => (h ρ).bind fun kds => if kds.length ≤ 15 then .ok (.dict (mergeD kds)) else .no
def cKd (k : Key) (f : En → R D) (h : En → R (List (Key × D))) : En → R (List (Key × D)) := fun ρ => (f ρ).bind fun d => (h ρ).bind fun kds => .ok ((k, d) :: kds)
abbrev PairK (K : Frg) (H : Hp) (A : List Addr) (p : Key × V) (q : Key × D) : Prop := p.1 = q.1 ∧ Rep K H A p.2 q.2
def FDs (X : Cx) (W : WX) (keys : List (Option Expr)) (values : List Expr) (h : En → R (List (Key × D))) : Prop := ∃ trs, (∀ pos, PPs X pos keys values trs) ∧ ∀ σ H Q,
  (∃ H0 A0 A ρ, Ok X.K H0 A0 A ρ σ H ∧ Post X.mg W σ H (fun kds H' => ∀ kvs, Paired (PairK X.K H' A) kvs kds → Q (kvs.map fun kv => (kV kv.1, kv.2)) H') (h ρ)) → tPairs trs σ H Q
theorem fds_nil : FDs X W [] [] (fun _ => .ok []) := ⟨[], fun _ => pps_nil, fun σ H Q ⟨H0, A0, A, ρ, o, P⟩ => Post.at (a := ([] : List (Key × D))) (P := fun kds H' => ∀ kvs, Paired (PairK X.K H' A) kvs kds → Q (kvs.map fun kv => (kV kv.1, kv.2)) H') P [] .nil⟩
theorem paired_same {K : Frg} {H H' : Hp} {A : List Addr} (s : Same H H') : ∀ {kvs : List (Key × V)} {kds : List (Key × D)}, Paired (PairK K H A) kvs kds → Paired (PairK K H' A) kvs kds
  | _, _, .nil => .nil
  | _, _, .cons h t => .cons ⟨h.1, h.2.same s⟩ (paired_same s t)
theorem fds_cons {key : Key} {ke ve : Expr} {keys : List (Option Expr)} {values : List Expr} {h : En → R (List (Key × D))} (hk : PE X ke (tC (kV key))) (hv : FE X W ve f) (hr : FDs X W keys values h) : FDs X W (some ke :: keys) (ve :: values) (cKd key f h) := by
  obtain ⟨trs, h1, h2⟩ := hr
  refine ⟨_, fun pos => pps_cons hk hv (h1 pos), fun σ H Q ⟨H0, A0, A, ρ, o, P⟩ => ?_⟩
  show tPairs ((tC (kV key), tF X.K X.mg W f) :: trs) σ H Q
  refine ⟨H0, A0, A, ρ, o, P.bind.mono fun d H1 s1 P1 v hv => ?_⟩
  refine h2 σ H1 _ ⟨H0, A0, A, ρ, o.same s1, P1.bind.mono fun kds H2 s2 P2 kvs hp => ?_⟩
  exact P2 H2 (Same.refl _) ((key, v) :: kvs) (.cons ⟨rfl, hv.same s2⟩ hp)
theorem fold_rep {K : Frg} {H : Hp} {A : List Addr} : ∀ {kvs : List (Key × V)} {kds : List (Key × D)} {acc : List (Key × V)} {ds : List (D × D)}, Paired (PairK K H A) kvs kds → RepK K H A acc ds →
    RepK K H A (kvs.foldl (fun acc kv => putK acc kv.1 kv.2) acc) (kds.foldl (fun ds kd => putD (isK kd.1) (kD kd.1) kd.2 ds) ds)
  | _, _, _, _, .nil, r => r
  | _, _, _, _, .cons (a := p) (b := q) h t, r => by
    obtain ⟨k, v⟩ := p
    obtain ⟨k', d⟩ := q
    obtain ⟨rfl, h⟩ := h
    rw [List.foldl_cons, List.foldl_cons]
    exact fold_rep t (put_repK h r)
theorem fn_disp {keys : List (Option Expr)} {values : List Expr} {h : En → R (List (Key × D))} (hd : FDs X W keys values h) (hall : keys.all (·.isSome) = true := by rfl) (hl : keys.length = values.length := by rfl) (h0 : keys ≠ [] := by simp) (h15 : keys.length ≤ 15 := by decide) :
    FN X W false (.Dict keys values pos) (cDict h) := by
  obtain ⟨trs, h1, h2⟩ := hd
  refine impE (pe_disp (h1 pos) hall hl h0 h15) fun σ H Q ⟨H0, A0, A, ρ, o, P⟩ => fun p hp => ?_
  have sm : Same H (upd H p (.dK [])) := same_upd hp
  have og : Ok X.K H0 (p :: A0) (p :: A) ρ σ (upd H p (.dK [])) := o.grow sm hp (.of upd_same fun _ z => nomatch z)
  have P1 : Post X.mg W σ H (fun kds H1 => Post X.mg W σ H1 (fun d H' => ∀ v, RepN X.K false H H' A v d → Q v H') (if kds.length ≤ 15 then .ok (.dict (mergeD kds)) else .no)) (h ρ) := P.bind
  refine h2 σ _ _ ⟨H0, p :: A0, p :: A, ρ, og, ?_⟩
  cases hh : h ρ with
  | no => rw [hh] at P1; exact P1.elim
  | ex c m => rw [hh] at P1; exact fun u q H' s' f e => P1 u q H' (sm.trans s') (sm.free f) e
  | ok kds =>
    rw [hh] at P1
    have P2 : Post X.mg W σ H (fun d H' => ∀ v, RepN X.K false H H' A v d → Q v H') (if kds.length ≤ 15 then .ok (.dict (mergeD kds)) else .no) := P1 H (Same.refl _)
    split at P2
    · rename_i hk
      refine fun H2 s2 kvs hpr => ⟨s2 _ _ upd_same, kvs, rfl, by rw [paired_len hpr]; exact hk, ?_⟩
      have u : Tr (p :: A) H2 (p :: A) (upd H2 p (.dK (mergeK [] kvs))) := Tr.write List.mem_cons_self
      refine P2 (upd H2 p (.dK (mergeK [] kvs))) (fun b x e => ?_) _ ⟨p, rfl, hp, .inl ⟨rfl, _, upd_same, (fold_rep hpr .nil).tr u⟩⟩
      rw [upd_ne (ne_of_none e hp)]
      exact s2 _ _ (sm _ _ e)
    · exact P2.elim
theorem fn_dnewK : FN X W false (.Dict [] [] pos) (cK (.dict [])) := impE pe_dnewK fun σ H Q ⟨H0, A0, A, ρ, o, P⟩ => fun p hp => P _ (same_upd hp) _ ⟨p, rfl, hp, .inl ⟨rfl, [], upd_same, .nil⟩⟩
theorem fn_dnewT : FN X W true (.Dict [] [] pos) (cK (.dict [])) := impE pe_dnewT fun σ H Q ⟨H0, A0, A, ρ, o, P⟩ => fun p hp => P _ (same_upd hp) _ ⟨p, rfl, hp, .inr ⟨rfl, [], upd_same, .nil⟩⟩
end
end G

namespace G
open PySem PySem.Spec PyProof.Rows L2

/-! ### zip of three lists -/
def Itz3 (K : Frg) (a b c : Addr) : It :=
  ⟨fun i H => ∃ (xs ys zs : List V) (x y z : V), SqL K H a xs ∧ SqL K H b ys ∧ SqL K H c zs ∧ xs[i]? = some x ∧ ys[i]? = some y ∧ zs[i]? = some z,
   fun i H v H' => ∃ T x y z, v = .ref T ∧ H T = none ∧ H' = upd H T (.tup [x, y, z]) ∧ (∀ l, SqL K H a l → l[i]? = some x) ∧ (∀ l, SqL K H b l → l[i]? = some y) ∧ ∀ l, SqL K H c l → l[i]? = some z,
   fun i H => ∃ xs ys zs : List V, SqL K H a xs ∧ SqL K H b ys ∧ SqL K H c zs ∧ i ≤ xs.length ∧ i ≤ ys.length ∧ i ≤ zs.length ∧ (i = xs.length ∨ i = ys.length ∨ i = zs.length)⟩
abbrev cells3 (N : Nat) : List Addr := [N + 5, N + 3, N + 4, N, N + 1, N + 2]
def At3 (N a b c : Nat) (i : Nat) (h : Heap) : Prop := IsZip h (N + 5) (N + 3) (N + 4) .none ∧ IsTupOf3 h (N + 3) (.ref N) (.ref (N + 1)) (.ref (N + 2)) ∧ (∃ x y z, IsTupOf3 h (N + 4) x y z) ∧ h.IsListIter N a i ∧ h.IsListIter (N + 1) b i ∧ h.IsListIter (N + 2) c i
theorem cells3_of {N x : Nat} (h : x ∈ cells3 N) : x = N + 5 ∨ x = N + 3 ∨ x = N + 4 ∨ x = N ∨ x = N + 1 ∨ x = N + 2 := by simpa [cells3] using h
theorem At3.lt {N a b c i : Nat} {h : Heap} (st : At3 N a b c i h) {x : Nat} (m : x ∈ cells3 N) : x < h.objs.size := by
  obtain ⟨hz, _⟩ := st
  have h5 : N + 5 < h.objs.size := Heap.lt_size hz
  show (x : Nat) < h.objs.size
  rcases cells3_of m with q | q | q | q | q | q <;> (have q : (x : Nat) = _ := q; omega)
theorem turn_zip3 {P : Program} {w : World} {K : Frg} {elts : List Expr} {kk : Nat} {tpos : Pos} {N a b c : Nat} (ha : a < N) (hb : b < N) (hc0 : c < N) : Turn P w K (.Tuple elts kk tpos) (Itz3 K a b c) (cells3 N) (N + 5) (At3 N a b c) where
  mem := by simp
  obj := fun i h st x hx => by
    obtain ⟨hz, hTI, ⟨x1, y1, z1, hTO⟩, ⟨o1, e1, _, d1⟩, ⟨o2, e2, _, d2⟩, ⟨o3, e3, _, d3⟩⟩ := st
    rcases cells3_of hx with q | q | q | q | q | q
    · rw [q]; exact ⟨_, hz, fun v z => nomatch z⟩
    · rw [q]; exact ⟨_, hTI, fun v z => nomatch z⟩
    · rw [q]; exact ⟨_, hTO, fun v z => nomatch z⟩
    · rw [q]; exact ⟨o1, e1, fun v z => by rw [d1] at z; cases z⟩
    · rw [q]; exact ⟨o2, e2, fun v z => by rw [d2] at z; cases z⟩
    · rw [q]; exact ⟨o3, e3, fun v z => by rw [d3] at z; cases z⟩
  keep := fun i h h' st k => by
    obtain ⟨hz, hTI, ⟨x1, y1, z1, hTO⟩, h1, h2, h3⟩ := st
    exact ⟨k _ (by simp) _ hz, k _ (by simp) _ hTI, ⟨x1, y1, z1, k _ (by simp) _ hTO⟩, h1.at fun o q => k N (by simp) o q, h2.at fun o q => k (N + 1) (by simp) o q, h3.at fun o q => k (N + 2) (by simp) o q⟩
  item := by
    intro X hP hw hK hc i pins s σ H E I hf st hg
    subst hP hw hK
    have st0 := st
    obtain ⟨hz, hTI, ⟨x0, y0, z0, hTO⟩, h1, h2, h3⟩ := st
    obtain ⟨xs, ys, zs, x, y, z, q1, q2, q3, g1, g2, g3⟩ := hg
    obtain ⟨its1, r1, p1, _⟩ := I.list q1
    obtain ⟨its2, r2, p2, _⟩ := I.list q2
    obtain ⟨its3, r3, p3, _⟩ := I.list q3
    obtain ⟨u1, k1, ru1⟩ := r1.get g1
    obtain ⟨u2, k2, ru2⟩ := r2.get g2
    obtain ⟨u3, k3, ru3⟩ := r3.get g3
    have hh := I.ok.hd hc
    have l1 : i < its1.length := (List.getElem?_eq_some_iff.mp k1).1
    have l2 : i < its2.length := (List.getElem?_eq_some_iff.mp k2).1
    have l3 : i < its3.length := (List.getElem?_eq_some_iff.mp k3).1
    have S := zip_sep3 (N := N) (fp1 := [a]) (fp2 := [b]) (fp3 := [c]) (by simpa using ha) (by simpa using hb) (by simpa using hc0)
    have a1 : a ≠ N := Nat.ne_of_lt ha
    have a2 : b ≠ N + 1 := Nat.ne_of_lt (Nat.lt_succ_of_lt hb)
    have a3 : c ≠ N + 2 := Nat.ne_of_lt (Nat.lt_succ_of_lt (Nat.lt_succ_of_lt hc0))
    refine wpAny_pyNext_zipD3_item S (Draws.list (A := X.A.in1) hh N a a1 its1.toArray) (Draws.list (A := X.A.in1) hh (N + 1) b a2 its2.toArray) (Draws.list (A := X.A.in1) hh (N + 2) c a3 its3.toArray) hz hTI hTO ⟨h1, p1.isList⟩ ⟨h2, p2.isList⟩ ⟨h3, p3.isList⟩ (by simpa using l1) (by simpa using l2) (by simpa using l3) fun v1 v2 v3 h' tk e1 e2 e3 z' TO' n1 n2 n3 hT hsz hk => ?_
    have f1 : v1 = u1 := Option.some.inj ((by simpa using e1 : its1[i]? = some v1).symm.trans k1)
    have f2 : v2 = u2 := Option.some.inj ((by simpa using e2 : its2[i]? = some v2).symm.trans k2)
    have f3 : v3 = u3 := Option.some.inj ((by simpa using e3 : its3[i]? = some v3).symm.trans k3)
    subst f1 f2 f3
    refine ⟨_, rfl, wpAny_letOwnedTupleGo_zip (s := { s with heap := h', toks := tk }) z' fun h'' z'' sb => ?_⟩
    have nz : s.heap.objs.size ≠ N + 5 := Nat.ne_of_gt (st0.lt (by simp))
    have hT2 : h''.get? s.heap.objs.size = some { cls := .type "tuple", data := .seq #[v1, v2, v3] } := (sb.2 _ nz).trans hT
    have new : ObjOk X.prog X.w (upd H s.heap.objs.size (.tup [x, y, z])) h'' s.heap.objs.size (.tup [x, y, z]) := ⟨by show 3 ≤ sizeLine; decide, [v1, v2, v3], .cons ru1 (.cons ru2 (.cons ru3 .nil)), ⟨_, hT2, rfl, _, rfl⟩⟩
    have I1 : Inv X pins σ (upd H s.heap.objs.size (.tup [x, y, z])) { s with heap := h'', toks := tk } :=
      I.turnedNew (t' := tk) (ch := cells3 N) (fun d o hb q => (sb.2 d (fun q' => hb (by simp [q']))).trans (hk d o (fun q' => hb (by simp [q'])) (fun q' => hb (by simp [q'])) (fun q' => hb (by simp [q'])) (fun q' => hb (by simp [q'])) (fun q' => hb (by simp [q'])) q)) hf (Nat.le_refl _) new
    refine ⟨.ref s.heap.objs.size, _, I1, rfl, ⟨_, x, y, z, rfl, I.hok.fresh (Nat.le_refl _), rfl, fun l hl => by rw [I.list_inj hl q1]; exact g1, fun l hl => by rw [I.list_inj hl q2]; exact g2, fun l hl => by rw [I.list_inj hl q3]; exact g3⟩, ⟨z'', ?_, ⟨v1, v2, v3, ?_⟩, ?_, ?_, ?_⟩, fun d hd => ?_⟩
    · exact (sb.2 _ S.TIz).trans (hk _ _ S.TIz S.TITO S.TIi1 S.TIi2 S.TIi3 hTI)
    · exact (sb.2 _ S.TOz).trans TO'
    · exact n1.1.at fun o q => (sb.2 _ (Ne.symm S.zi1)).trans q
    · exact n2.1.at fun o q => (sb.2 _ (Ne.symm S.zi2)).trans q
    · exact n3.1.at fun o q => (sb.2 _ (Ne.symm S.zi3)).trans q
    · rw [upd_ne (Nat.ne_of_lt (st0.lt hd))]
      exact (hf d hd).1
  done := by
    intro X hP hw hK hc i pins s σ H E I hf st hg
    subst hP hw hK
    obtain ⟨hz, hTI, ⟨x0, y0, z0, hTO⟩, h1, h2, h3⟩ := st
    obtain ⟨xs, ys, zs, q1, q2, q3, m1, m2, m3, hend⟩ := hg
    obtain ⟨its1, r1, p1, _⟩ := I.list q1
    obtain ⟨its2, r2, p2, _⟩ := I.list q2
    obtain ⟨its3, r3, p3, _⟩ := I.list q3
    have hh := I.ok.hd hc
    have S := zip_sep3 (N := N) (fp1 := [a]) (fp2 := [b]) (fp3 := [c]) (by simpa using ha) (by simpa using hb) (by simpa using hc0)
    have a1 : a ≠ N := Nat.ne_of_lt ha
    have a2 : b ≠ N + 1 := Nat.ne_of_lt (Nat.lt_succ_of_lt hb)
    have a3 : c ≠ N + 2 := Nat.ne_of_lt (Nat.lt_succ_of_lt (Nat.lt_succ_of_lt hc0))
    have l1 := r1.length
    have l2 := r2.length
    have l3 := r3.length
    refine wpAny_pyNext_zipD3_end S (Draws.list (A := X.A.in1) hh N a a1 its1.toArray) (Draws.list (A := X.A.in1) hh (N + 1) b a2 its2.toArray) (Draws.list (A := X.A.in1) hh (N + 2) c a3 its3.toArray) hz hTI hTO ⟨h1, p1.isList⟩ ⟨h2, p2.isList⟩ ⟨h3, p3.isList⟩ (by simp; omega) (by simp; omega) (by simp; omega) (by simp; omega) fun h' tk hk => ⟨rfl, ?_⟩
    exact I.turnedL (t' := tk) (ch := cells3 N) (fun d o hb q => hk d o (fun q' => hb (by simp [q'])) (fun q' => hb (by simp [q'])) (fun q' => hb (by simp [q'])) (fun q' => hb (by simp [q'])) (fun q' => hb (by simp [q'])) q) hf
  self := fun A i s Q E st h => wpAny_pyIter_zip st.1 h
def zipL3 : List D → List D → List D → List D
  | x :: xs, y :: ys, z :: zs => .tuple [x, y, z] :: zipL3 xs ys zs
  | _, _, _ => []
def dZip3 : List D → Option (List D)
  | [.list xs, .list ys, .list zs] => some (zipL3 xs ys zs)
  | _ => none
theorem zipL3_len : ∀ xs ys zs : List D, (zipL3 xs ys zs).length ≤ xs.length ∧ (zipL3 xs ys zs).length ≤ ys.length ∧ (zipL3 xs ys zs).length ≤ zs.length ∧ ((zipL3 xs ys zs).length = xs.length ∨ (zipL3 xs ys zs).length = ys.length ∨ (zipL3 xs ys zs).length = zs.length)
  | [], ys, zs => by simp [zipL3]
  | x :: xs, [], zs => by simp [zipL3]
  | x :: xs, y :: ys, [] => by simp [zipL3]
  | x :: xs, y :: ys, z :: zs => by
    have := zipL3_len xs ys zs
    simp only [zipL3, List.length_cons]
    omega
theorem zipL3_get : ∀ {xs ys zs : List D} {i : Nat} {d : D}, (zipL3 xs ys zs)[i]? = some d → ∃ x y z, xs[i]? = some x ∧ ys[i]? = some y ∧ zs[i]? = some z ∧ d = .tuple [x, y, z]
  | [], _, _, _, _, h => by simp [zipL3] at h
  | _ :: _, [], _, _, _, h => by simp [zipL3] at h
  | _ :: _, _ :: _, [], _, _, h => by simp [zipL3] at h
  | x :: xs, y :: ys, z :: zs, 0, d, h => by
    simp [zipL3] at h
    exact ⟨x, y, z, rfl, rfl, rfl, h.symm⟩
  | x :: xs, y :: ys, z :: zs, i + 1, d, h => by
    simp only [zipL3, List.getElem?_cons_succ] at h
    obtain ⟨a, b, c, h1, h2, h3, h4⟩ := zipL3_get h
    exact ⟨a, b, c, by simpa using h1, by simpa using h2, by simpa using h3, h4⟩
theorem walk_itz3 {K : Frg} {A : List Addr} {H : Hp} {a b c : Addr} {xs ys zs : List D} (r1 : Rep K H A (.ref a) (.list xs)) (r2 : Rep K H A (.ref b) (.list ys)) (r3 : Rep K H A (.ref c) (.list zs)) : WalkJ K A (Itz3 K a b c) H (zipL3 xs ys zs) := fun A' H' u hA => by
  obtain ⟨_, v1, e, h1, l1, _⟩ := rep_listAt (H' := H') (A' := A') (r1.tr u)
  cases e
  obtain ⟨_, v2, e, h2, l2, _⟩ := rep_listAt (H' := H') (A' := A') (r2.tr u)
  cases e
  obtain ⟨_, v3, e, h3, l3, _⟩ := rep_listAt (H' := H') (A' := A') (r3.tr u)
  cases e
  refine ⟨fun i d hd => ?_, v1, v2, v3, .of h1, .of h2, .of h3, ?_⟩
  · obtain ⟨x, y, z, g1, g2, g3, rfl⟩ := zipL3_get hd
    obtain ⟨w1, k1, m1⟩ := l1.get g1
    obtain ⟨w2, k2, m2⟩ := l2.get g2
    obtain ⟨w3, k3, m3⟩ := l3.get g3
    refine ⟨⟨v1, v2, v3, w1, w2, w3, .of h1, .of h2, .of h3, k1, k2, k3⟩, fun q H'' ⟨T, x1, x2, x3, e1, n, e2, y1, y2, y3⟩ => ?_⟩
    subst e1 e2
    have j1 := (y1 _ (.of h1)).symm.trans k1
    have j2 := (y2 _ (.of h2)).symm.trans k2
    have j3 := (y3 _ (.of h3)).symm.trans k3
    cases j1
    cases j2
    cases j3
    exact ⟨same_upd n, rep_tup (fun z => (hA T z).1 n) n (.cons m1 (.cons m2 (.one m3)))⟩
  · have := zipL3_len xs ys zs
    rw [l1.length, l2.length, l3.length]
    exact this
section
variable {X : Cx} {W : WX} {a b c : Expr} {l : En → R (List D)} {q1 pos : Pos}
theorem fi_zip3 {elts : List Expr} {kk : Nat} {tpos : Pos} (hg : Gl X "zip") (hm : X.mg "zip" = none) (ha : FA X W [a, b, c] l) (hs : starEach [a, b, c] X.env = (false, eval a X.env) :: starEach [b, c] X.env := by rfl) (hpl : (backTo pos (starEach [b, c] X.env)).any (·.1) = false := by rfl) :
    FI X W (.Tuple elts kk tpos) (.Call (.Name "zip" q1) [a, b, c] [] pos) (cIter dZip3 l) := by
  refine ⟨fun pins s σ H R I ⟨H0, A0, A, ρ, o, P⟩ => ?_⟩
  refine Call_ (ld_blt I hg hm PyProof.Rows.boot_zip (PyProof.Rows.callWith_type1 (thn (ha.run pos pins s σ H (fun vs H1 => ∃ x y z xs ys zs, vs = [.ref x, .ref y, .ref z] ∧ SqL X.K H1 x xs ∧ SqL X.K H1 y ys ∧ SqL X.K H1 z zs ∧ R (Itz3 X.K x y z) H1) I ⟨H0, A0, A, ρ, o, P.bind.mono fun ds H1 s1 P1 vs hv => ?_⟩) fun us s1 ⟨vs, H1, I1, r1, q⟩ => ?_) hs hpl))
  · obtain ⟨es, e1, q⟩ := P1.ofO
    unfold dZip3 at e1
    split at e1
    · cases e1
      cases hv with
      | cons h1 hv =>
        obtain ⟨v2, v3, rfl, h2, h3⟩ := repL2 hv
        obtain ⟨x, xs, rfl, m1, _⟩ := rep_listAt (H' := H1) (A' := A) h1
        obtain ⟨y, ys, rfl, m2, _⟩ := rep_listAt (H' := H1) (A' := A) h2
        obtain ⟨z, zs, rfl, m3, _⟩ := rep_listAt (H' := H1) (A' := A) h3
        exact ⟨x, y, z, xs, ys, zs, rfl, .of m1, .of m2, .of m3, q H1 (Same.refl _) _ (walk_itz3 h1 h2 h3)⟩
    · cases e1
  · obtain ⟨x, y, z, xs, ys, zs, rfl, m1, m2, m3, q⟩ := q
    cases r1 with
    | cons r rr =>
      cases rr with
      | cons r' rr =>
        cases rr with
        | cons r'' rr =>
          cases rr
          cases r
          cases r'
          cases r''
          obtain ⟨its1, _, p1, _⟩ := I1.list m1
          obtain ⟨its2, _, p2, _⟩ := I1.list m2
          obtain ⟨its3, _, p3, _⟩ := I1.list m3
          refine zip_begins3 (begins_list x its1.toArray) (begins_list y its2.toArray) (begins_list z its3.toArray) p1.isList p2.isList p3.isList fun h' g1 g2 g3 g4 g5 g6 hsz hk => wpAny_pyIter_zip g1 ?_
          have I2 : Inv X pins σ H1 { s1 with heap := h' } := I1.kept (t' := s1.toks) hk
          refine ⟨s1.heap.objs.size + 5, cells3 s1.heap.objs.size, _, _, H1, rfl, I2, turn_zip3 p1.lt p2.lt p3.lt, ⟨g1, g2, ⟨_, _, _, g3⟩, ⟨_, g4, rfl, rfl⟩, ⟨_, g5, rfl, rfl⟩, ⟨_, g6, rfl, rfl⟩⟩, fun d hd => ?_, q⟩
          have hle : s1.heap.objs.size ≤ d := by
            rcases cells3_of hd with e | e | e | e | e | e <;> (show s1.heap.objs.size ≤ (d : Nat); have e : (d : Nat) = _ := e; omega)
          exact I1.fpOk hle (I1.hok.fresh hle)
end
end G

namespace G
open PySem PySem.Spec PyProof.Rows L2

/-! ### x = [list(r) for r in e]; x[k][j] = v -/
def rowsOf : List D → Option (List (List D))
  | [] => some []
  | .list r :: ds => (rowsOf ds).map fun rs => r :: rs
  | _ => none
theorem rowsOf_some : ∀ {ds : List D} {rs : List (List D)}, rowsOf ds = some rs → ds = rs.map .list
  | [], rs, h => by cases h; rfl
  | .list r :: ds, rs, h => by
    obtain ⟨rs', h1, h2⟩ := Option.map_eq_some_iff.mp (show (rowsOf ds).map _ = some rs from h)
    subst h2
    rw [rowsOf_some h1]
    rfl
  | .none :: _, _, h => by cases h
  | .bool _ :: _, _, h => by cases h
  | .int _ :: _, _, h => by cases h
  | .str _ :: _, _, h => by cases h
  | .tuple _ :: _, _, h => by cases h
  | .dict _ :: _, _, h => by cases h
/-- the lists at bs are new, no other thing holds them but the list at L -/
structure Copied (K : Frg) (H H2 : Hp) (A : List Addr) (L : Addr) (bs : List Addr) (rows : List (List D)) : Prop where
  same : Same H H2
  free : H L = none
  top : H2 L = some (.lst (bs.map V.ref))
  nd : bs.Nodup
  out : L ∉ bs
  new : ∀ b ∈ bs, H b = none
  it : ∀ (i : Nat) (b : Addr), bs[i]? = some b → ∃ r vs, rows[i]? = some r ∧ H2 b = some (.lst vs) ∧ RepL K H2 (L :: (bs ++ A)) vs r
section
variable {K : Frg} {H H2 H3 : Hp} {A : List Addr} {L b : Addr} {bs : List Addr} {rows : List (List D)}
theorem Copied.tr (c : Copied K H H2 A L bs rows) : Tr A H (L :: (bs ++ A)) H2 := ⟨fun b o h _ => c.same b o h, fun a ha => by
  rcases List.mem_cons.mp ha with rfl | ha
  · exact .inr c.free
  · rcases List.mem_append.mp ha with h | h
    · exact .inr (c.new a h)
    · exact .inl h⟩
/-- more of the heap -/
theorem Copied.more (c : Copied K H H2 A L bs rows) (s : Same H2 H3) : Copied K H H3 A L bs rows := ⟨c.same.trans s, c.free, s _ _ c.top, c.nd, c.out, c.new, fun i b h => by
  obtain ⟨r, vs, h1, h2, h3⟩ := c.it i b h
  exact ⟨r, vs, h1, s _ _ h2, h3.same s⟩⟩
/-- one list more -/
theorem Copied.next (c : Copied K H H2 A L bs rows) (hb : H2 b = none) {vs : List V} {r : List D} (rl : RepL K H2 (L :: (bs ++ A)) vs r) :
    Copied K H (upd (upd H2 b (.lst vs)) L (.lst ((bs ++ [b]).map V.ref))) A L (bs ++ [b]) (rows.take bs.length ++ [r]) := by
  have hL : L ≠ b := fun z => by have := c.top; rw [z, hb] at this; cases this
  have hn : b ∉ bs := fun z => by
    obtain ⟨i, hi⟩ := List.getElem?_of_mem z
    obtain ⟨_, _, _, h2, _⟩ := c.it i b hi
    rw [hb] at h2; cases h2
  have hHb : H b = none := c.same.free hb
  have u : Tr (L :: (bs ++ A)) H2 (L :: (bs ++ [b] ++ A)) (upd (upd H2 b (.lst vs)) L (.lst ((bs ++ [b]).map V.ref))) := ⟨fun x o h n => by
    rw [upd_ne (show x ≠ L from fun z => n (by rw [z]; exact List.mem_cons_self)), upd_ne (show x ≠ b from fun z => by rw [z, hb] at h; cases h)]
    exact h, fun x hx => by
    rcases List.mem_cons.mp hx with rfl | hx
    · exact .inl List.mem_cons_self
    · rcases List.mem_append.mp hx with hx | hx
      · rcases List.mem_append.mp hx with hx | hx
        · exact .inl (List.mem_cons_of_mem _ (List.mem_append_left _ hx))
        · simp at hx; subst hx; exact .inr hb
      · exact .inl (List.mem_cons_of_mem _ (List.mem_append_right _ hx))⟩
  refine ⟨fun x o h => ?_, c.free, upd_same, List.nodup_append.mpr ⟨c.nd, by simp, fun x hx y hy z => ?_⟩, fun z => ?_, fun x hx => ?_, fun i x hi => ?_⟩
  · rw [upd_ne (ne_of_none h c.free), upd_ne (ne_of_none h hHb)]
    exact c.same x o h
  · simp at hy; subst hy; subst z; exact hn hx
  · rcases List.mem_append.mp z with z | z
    · exact c.out z
    · simp at z; exact hL z
  · rcases List.mem_append.mp hx with z | z
    · exact c.new x z
    · simp at z; subst z; exact hHb
  · by_cases hlt : i < bs.length
    · rw [List.getElem?_append_left hlt] at hi
      obtain ⟨r', vs', h1, h2, h3⟩ := c.it i x hi
      refine ⟨r', vs', ?_, ?_, h3.tr u⟩
      · rw [List.getElem?_append_left (by rw [List.length_take]; have := (List.getElem?_eq_some_iff.mp h1).1; omega), List.getElem?_take_of_lt hlt]
        exact h1
      · rw [upd_ne (show x ≠ L from fun z => c.out (by rw [← z]; exact List.mem_of_getElem? hi)), upd_ne (show x ≠ b from fun z => hn (by rw [← z]; exact List.mem_of_getElem? hi))]
        exact h2
    · have hi2 : i = bs.length := by
        have := (List.getElem?_eq_some_iff.mp hi).1
        rw [List.length_append, List.length_singleton] at this
        omega
      subst hi2
      rw [List.getElem?_append_right (Nat.le_refl _), Nat.sub_self] at hi
      simp at hi
      subst hi
      refine ⟨r, vs, ?_, ?_, rl.tr u⟩
      · by_cases hr : bs.length ≤ rows.length
        · rw [List.getElem?_append_right (by rw [List.length_take]; omega), List.length_take, Nat.min_eq_left hr, Nat.sub_self]
          rfl
        · exfalso
          cases hl : bs.getLast? with
          | none => rw [List.getLast?_eq_none_iff] at hl; subst hl; simp at hr
          | some z =>
            rw [List.getLast?_eq_getElem?] at hl
            obtain ⟨_, _, h1, _⟩ := c.it _ z hl
            have := (List.getElem?_eq_some_iff.mp h1).1
            omega
      · rw [upd_ne (Ne.symm hL), upd_same]
end
section
variable {X : Cx} {W : WX} {l : En → R (List D)} {r : Nat}
abbrev rListR (X : Cx) : List V → Hp → VK → Prop := fun xs H Q => ∃ p ys, xs = [.ref p] ∧ (SqL X.K H p ys ∨ SqT X.K H p ys) ∧ ∀ l, H l = none → Q (.ref l) (upd H l (.lst ys))
theorem lc_copy {own : List (Str × Nat)} (hix : r ∈ own.map (·.2)) {σ : St} {H : Hp} {Q : VK} {H0 : Hp} {A0 A : List Addr} {ρ : En} (ok : Ok X.K H0 A0 A ρ σ H) (hr : r < ρ.length)
    (P : Post X.mg W σ H (fun ds H1 => ∃ rows, rowsOf ds = some rows ∧ ds.length ≤ sizeLine ∧ ∀ L bs H2, Copied X.K H1 H2 A L bs rows → bs.length = rows.length → Q (.ref L) H2) (l ρ)) :
    tLc (tFI X.K X.mg W l) (tFG X.K [r] (gN r)) (tFT X.K X.mg wNo cTrue) (tCB (rListR X) (tCons (tVar r) tNil)) (own.map (·.2)) σ H Q := by
  refine ⟨H0, A0, A, ρ, ok, P.mono fun ds H1 s1 ⟨rows, e1, hsz, q⟩ J hJ L hL => ?_⟩
  obtain rfl := rowsOf_some e1
  have ok1 := ok.same s1
  have hHL : H L = none := s1.free hL
  rw [List.length_map] at hsz
  refine ⟨fun i m H2 => m = rows.length - i ∧ i ≤ rows.length ∧ ∃ bs, bs.length = i ∧ Copied X.K H1 H2 A L bs (rows.take i), ⟨rows.length, rfl, Nat.zero_le _, [], rfl, ⟨same_upd hL, hL, upd_same, .nil, List.not_mem_nil, fun _ h => absurd h List.not_mem_nil, fun i b h => by simp at h⟩⟩, ?_⟩
  rintro i m H2 ⟨rfl, hile, bs, hbl, c⟩
  have okc : Ok X.K H0 (L :: A0) (L :: A) ρ σ H2 := ok1.grow c.same hL (.of c.top fun _ z => nomatch z)
  have hall : ∀ a ∈ L :: (bs ++ A), Kp H2 a := fun a ha => by
    rcases List.mem_cons.mp ha with rfl | ha
    · exact .of c.top fun _ z => nomatch z
    · rcases List.mem_append.mp ha with h | h
      · obtain ⟨j, hj⟩ := List.getElem?_of_mem h
        obtain ⟨_, _, _, h2, _⟩ := c.it j a hj
        exact .of h2 fun _ z => nomatch z
      · exact (ok1.kp a h).same c.same
  obtain ⟨hgo, hst⟩ := hJ (L :: (bs ++ A)) H2 c.tr hall
  by_cases hlt : i < rows.length
  · have hget : (rows.map PyData.list)[i]? = some (.list rows[i]) := by simp [hlt]
    refine .inr ⟨(hgo i _ hget).1, fun H' => ∃ bs, bs.length = i + 1 ∧ Copied X.K H1 H' A L bs (rows.take (i + 1)), fun H' ⟨bs', h1, h2⟩ => ⟨rows.length - (i + 1), by omega, rfl, hlt, bs', h1, h2⟩, fun x H3 hy => ?_⟩
    obtain ⟨sx, rx⟩ := (hgo i _ hget).2 x H3 hy
    -- at the item: its state, all lists made so far kept away
    have oka : Ok X.K H0 (L :: (bs ++ A0)) (L :: (bs ++ A)) ρ σ H2 := by
      refine ⟨ok1.len, ok1.ext.trans c.same, fun a ha => ?_, fun a ha => ?_, hall, fun j s hs => ?_, ok1.dis⟩
      · rcases List.mem_cons.mp ha with rfl | ha
        · exact List.mem_cons_self
        · rcases List.mem_append.mp ha with h | h
          · exact List.mem_cons_of_mem _ (List.mem_append_left _ h)
          · exact List.mem_cons_of_mem _ (List.mem_append_right _ (ok1.sub a h))
      · rcases List.mem_cons.mp ha with rfl | ha
        · exact .inl List.mem_cons_self
        · rcases List.mem_append.mp ha with h | h
          · exact .inl (List.mem_cons_of_mem _ (List.mem_append_left _ h))
          · rcases ok1.new a h with z | z
            · exact .inl (List.mem_cons_of_mem _ (List.mem_append_right _ z))
            · exact .inr z
      · obtain ⟨v, h1, h2⟩ := ok1.slot j s hs
        refine ⟨v, h1, ?_⟩
        cases s with
        | v d => exact Rep.tr c.tr h2
        | er _ _ => exact trivial
        | sc ns =>
          obtain ⟨a, e, h3⟩ := h2
          exact ⟨a, e, h3.tr c.tr⟩
        | own t d =>
          obtain ⟨a, e, ha, n0, h3⟩ := h2
          refine ⟨a, e, List.mem_cons_of_mem _ (List.mem_append_right _ ha), ⟨n0.1, fun z => ?_⟩, h3.tr c.same c.tr⟩
          rcases List.mem_cons.mp z with z | z
          · exact ok1.has a ha (by rw [z]; exact hL)
          · rcases List.mem_append.mp z with z | z
            · exact ok1.has a ha (c.new a z)
            · exact n0.2 z
    have okw := (oka.same sx).wipe (own.map (·.2))
    refine ⟨H0, _, _, wipeE ρ (own.map (·.2)), .list rows[i], _, okw, rx, rfl, fun σ2 o2 ag => ⟨(wipe_agree (fun j hj => by simp at hj; subst hj; exact hix) ag).trans wipe_wipe, H0, _, _, _, o2, ?_⟩⟩
    show ∀ H4, Same H3 H4 → _
    intro H4 s4
    dsimp only
    rw [if_pos rfl]
    obtain ⟨v, hv, rv⟩ := (o2.same s4).slot r (.v (.list rows[i])) (by rw [List.getElem?_set_self (by rw [wipeE_length]; exact hr)])
    obtain ⟨p, us, e, h5, r5⟩ := RepB.lst (.inl rv)
    subst e
    refine ⟨_, hv, p, us, rfl, .inl (SqL.of h5), fun b hb => ?_⟩
    have c4 : Copied X.K H1 H4 A L bs (rows.take i) := (c.more sx).more s4
    have hLb : L ≠ b := fun z => by have := c4.top; rw [z, hb] at this; cases this
    refine ⟨bs.map V.ref, (upd_ne hLb).trans c4.top, by rw [List.length_map, hbl]; omega, bs ++ [b], by rw [List.length_append, hbl]; rfl, ?_⟩
    have c5 := c4.next hb r5
    rw [hbl, List.take_take, Nat.min_self, ← List.take_succ_eq_append_getElem hlt] at c5
    rw [show bs.map V.ref ++ [V.ref b] = (bs ++ [b]).map V.ref by simp]
    exact c5
  · have e : i = rows.length := by omega
    subst e
    rw [List.take_length] at c
    exact .inl ⟨by have := hst; rw [List.length_map] at this; exact this, q L bs H2 c hbl⟩
theorem Post.noXW {mg : MgT} {α : Type} {σ : St} {H : Hp} {P : α → Hp → Prop} {r : R α} {a : α} (h : G.noX r = some a) (q : ∀ H', Same H H' → P a H') : Post mg W σ H P r := by
  cases r with
  | ok b => cases h; exact q
  | ex c n => cases h
  | no => cases h
def setLL (rows : List (List D)) (k j : Int) (v : D) : Option (List (List D)) := (ixN rows.length k).bind fun a => (rows[a]?).bind fun r => (ixN r.length j).map fun b => rows.set a (r.set b v)
def bentBy (fk fj f : En → R D) (rows : List (List D)) (ρ1 : En) : Option (List (List D)) := (noX (f ρ1)).bind fun v => if flatD v = true then (noX (fk ρ1)).bind fun k => (toI k).bind fun k => (noX (fj ρ1)).bind fun j => (toI j).bind fun j => setLL rows k j v else none
def sBent (ix r : Nat) (l : En → R (List D)) (fk fj f : En → R D) : En → SR := fun ρ => if r < ρ.length ∧ ix < ρ.length then (.of (l ρ) ρ fun ds => match rowsOf ds with
  | some rows => if ds.length ≤ sizeLine then (match bentBy fk fj f rows (ρ.set ix (some (.own false (.list ds)))) with
      | some rows' => .nx (ρ.set ix (some (.own false (.list (rows'.map .list)))))
      | none => .no) else .no
  | none => .no) else .no
theorem orep_copied {K : Frg} {H H2 : Hp} {A : List Addr} {L : Addr} {bs : List Addr} {rows : List (List D)} (c : Copied K H H2 A L bs rows) (hl : bs.length = rows.length) (hA : ∀ a ∈ A, H a ≠ none) : ORep K H2 (L :: A) L false (.list (rows.map .list)) := by
  refine ⟨bs.map V.ref, c.top, ?_⟩
  have all : ∀ (xs : List Addr) (rs : List (List D)), xs.length = rs.length → (∀ (i : Nat) (b : Addr), xs[i]? = some b → b ∈ bs ∧ ∃ r vs, rs[i]? = some r ∧ H2 b = some (.lst vs) ∧ RepL K H2 (L :: (bs ++ A)) vs r) → RepL K H2 (L :: A) (xs.map V.ref) (rs.map .list) := by
    intro xs
    induction xs with
    | nil => intro rs hl _; cases rs with
      | nil => exact .nil
      | cons _ _ => simp at hl
    | cons b xs ih =>
      intro rs hl h
      cases rs with
      | nil => simp at hl
      | cons r rs =>
        obtain ⟨hb, r', vs, h1, h2, h3⟩ := h 0 b rfl
        simp at h1
        subst h1
        refine .cons (.lst (fun z => ?_) h2 (h3.sub fun a ha => ?_)) (ih rs (by simpa using hl) fun i x hx => ?_)
        · rcases List.mem_cons.mp z with z | z
          · exact c.out (by rw [← z]; exact hb)
          · exact hA b z (c.new b hb)
        · rcases List.mem_cons.mp ha with rfl | ha
          · exact List.mem_cons_self
          · exact List.mem_cons_of_mem _ (List.mem_append_right _ ha)
        · obtain ⟨h4, r', vs', h5, h6⟩ := h (i + 1) x (by simpa using hx)
          exact ⟨h4, r', vs', by simpa using h5, h6⟩
  exact all bs rows hl fun i b hb => ⟨List.mem_of_getElem? hb, c.it i b hb⟩
/-- one of the lists is changed -/
theorem Copied.set {K : Frg} {H H2 : Hp} {A : List Addr} {L : Addr} {bs : List Addr} {rows : List (List D)} (c : Copied K H H2 A L bs rows) {a : Nat} {b : Addr} {r : List D} {vs : List V} {j : Nat} {w : V} {d : D} (hb : bs[a]? = some b) (hr : rows[a]? = some r) (hv : H2 b = some (.lst vs)) (rl : RepL K H2 (L :: (bs ++ A)) vs r) (hw : Rep K H2 (L :: (bs ++ A)) w d) :
    Copied K H (upd H2 b (.lst (vs.set j w))) A L bs (rows.set a (r.set j d)) := by
  have hm : b ∈ bs := List.mem_of_getElem? hb
  have u : Tr (L :: (bs ++ A)) H2 (L :: (bs ++ A)) (upd H2 b (.lst (vs.set j w))) := Tr.write (List.mem_cons_of_mem _ (List.mem_append_left _ hm))
  refine ⟨fun x o h => ?_, c.free, (upd_ne (show L ≠ b from fun z => c.out (by rw [z]; exact hm))).trans c.top, c.nd, c.out, c.new, fun i x hi => ?_⟩
  · rw [upd_ne (ne_of_none h (c.new b hm))]
    exact c.same x o h
  · by_cases e : i = a
    · subst e
      cases hb.symm.trans hi
      exact ⟨r.set j d, vs.set j w, by rw [List.getElem?_set_self (List.getElem?_eq_some_iff.mp hr).1], upd_same, (RepL.set j rl hw).tr u⟩
    · obtain ⟨r', vs', h1, h2, h3⟩ := c.it i x hi
      refine ⟨r', vs', by rw [List.getElem?_set_ne (Ne.symm e)]; exact h1, ?_, h3.tr u⟩
      rw [upd_ne (show x ≠ b from fun z => ?_)]
      · exact h2
      · subst z
        obtain ⟨l1, e1⟩ := List.getElem?_eq_some_iff.mp hb
        obtain ⟨l2, e2⟩ := List.getElem?_eq_some_iff.mp hi
        have := (List.pairwise_iff_getElem.mp c.nd)
        rcases Nat.lt_or_gt_of_ne e with q | q
        · exact this i a l2 l1 q (by rw [e1, e2])
        · exact this a i l1 l2 q (by rw [e1, e2])
theorem fss_bent {ix : Nat} {x rn : Str} {py spos pos pos2 p1 p2 p3 p4 p5 p6 p7 : Pos} {iter ke je ve : Expr} {scope : Scope} {own : List (Str × Nat)} {rest : List Stmt} {fk fj f : En → R D} {g : En → SR} (hc : X.calm = true) (hN : X.N.Nodup) (hy : X.N[ix]? = some x) (hyl : X.env.scope.names.lookup x = some .local)
    (hsw : swapsWith (.ListComp (.Call (.Name "list" p1) [.Name rn p2] [] p3) [⟨.Name rn p4, iter, [], 0⟩] scope pos) (some (.Name x py)) spos.line X.env = pure true) (hi : FI X W (.Name rn p4) iter l) (okb : BlkOk X.N X.env.scope scope own)
    (hg : ∀ (s : Shared) (H : Hp) (C : Addr) (cl : List (Str × Addr)) (fp : List Addr), FG (X.blk s H scope (compEnvC scope cl C X.env) fp) (.Name rn p4) [r] (gN r)) (hix : r ∈ own.map (·.2))
    (hr : ∀ (s : Shared) (H : Hp) (C : Addr) (cl : List (Str × Addr)) (fp : List Addr), PE (X.blk s H scope (compEnvC scope cl C X.env) fp) (.Name rn p2) (tVar r))
    (hgl : ∀ (s : Shared) (H : Hp) (C : Addr) (cl : List (Str × Addr)) (fp : List Addr), Gl (X.blk s H scope (compEnvC scope cl C X.env) fp) "list") (hm : X.mg "list" = none)
    (hxe : PE X (.Name x p5) (tVar ix)) (hk : FE X W ke fk) (hj : FE X W je fj) (hv : FE X W ve f) (hsl : PlainIx ke) (hrest : FSs X W rest g)
    (hst : ∀ (s : Shared) (H : Hp) (C : Addr) (cl : List (Str × Addr)) (fp : List Addr), starEach [.Name rn p2] (X.blk s H scope (compEnvC scope cl C X.env) fp).env = (false, eval (.Name rn p2) (X.blk s H scope (compEnvC scope cl C X.env) fp).env) :: starEach [] (X.blk s H scope (compEnvC scope cl C X.env) fp).env := by intros; rfl)
    (hpl : ∀ (s : Shared) (H : Hp) (C : Addr) (cl : List (Str × Addr)) (fp : List Addr), (backTo p3 (starEach [] (X.blk s H scope (compEnvC scope cl C X.env) fp).env)).any (·.1) = false := by intros; rfl)
    (hfi : ∀ x, foldedSetIterable iter X.env x = pure x := by intro _; rfl)
    (ha : ∀ v, assign (.Subscript (.Subscript (.Name x p5) ke p6) je p7) X.env v = (do
      let ov ← holding [v] (eval (.Subscript (.Name x p5) ke p6) X.env)
      let iv ← holding [v, ov] (eval je X.env)
      standAt p7
      holding [v, ov, iv] (setItem ov iv v)
      release [v, ov, iv] []) := by intro _; rfl)
    (hs2 : swapsWithSole [.Subscript (.Subscript (.Name x p5) ke p6) je p7] ve pos2.line X.env = pure false := by rfl) (hw2 : swappedStores [.Subscript (.Subscript (.Name x p5) ke p6) je p7] ve X.env = pure none := by rfl)
    (h12 : (assignEach [.Subscript (.Subscript (.Name x p5) ke p6) je p7] X.env).map (·.2) = [assign (.Subscript (.Subscript (.Name x p5) ke p6) je p7) X.env] := by rfl) :
    FSs X W (.Assign [.Name x py] (.ListComp (.Call (.Name "list" p1) [.Name rn p2] [] p3) [⟨.Name rn p4, iter, [], 0⟩] scope pos) spos :: .Assign [.Subscript (.Subscript (.Name x p5) ke p6) je p7] ve pos2 :: rest) (sSeq (sBent ix r l fk fj f) g) := by
  refine impSs (pss_cons (ps_setLc (g := tFG X.K [r] (gN r)) (tt := tFT X.K X.mg wNo cTrue) hc hN hy hyl hsw hi okb hg (fun s H C cl fp => fts_nil) (fun s H C cl fp => pe_callTy (r := rListR X) (call_list_of (X := X.blk s H scope (compEnvC scope cl C X.env) fp)) (hgl s H C cl fp) hm (by rfl) (pa_cons (hr s H C cl fp) pa_nil (hst s H C cl fp)) (by decide) (by decide) (hst s H C cl fp) (hpl s H C cl fp)) hfi)
    (pss_cons (ps_asg hv (pg_sub (pe_ix ix_list hxe hk hsl) hj set_list ha) hs2 hw2 h12) hrest)) fun Ee σ H ⟨H0, A0, A, ρ, ok, P⟩ => ?_
  have P' : PostS X.K X.mg W H0 A0 A H { Ee with nx := tFS X.K X.mg W g Ee } (sBent ix r l fk fj f ρ) := PostS.seq P
  unfold sBent at P'
  split at P'
  rotate_left
  · exact P'.elim
  rename_i hrl
  obtain ⟨hrl, hixl⟩ := hrl
  show tLc (tFI X.K X.mg W l) (tFG X.K [r] (gN r)) (tFT X.K X.mg wNo cTrue) (tCB (rListR X) (tCons (tVar r) tNil)) (own.map (·.2)) σ H (fun u K1 => tSeq (tAsg (tF X.K X.mg W f) (gSub (tOp (rIxL X.K) (tVar ix) (tF X.K X.mg W fk)) (tF X.K X.mg W fj) rSetL)) (tFS X.K X.mg W g) Ee (σ.set ix (some u)) K1)
  refine lc_copy hix ok hrl ((P'.of ok).mono fun ds H1 s1 P1 => ?_)
  split at P1
  rotate_left
  · exact P1.elim
  rename_i rows hrows
  split at P1
  rotate_left
  · exact P1.elim
  rename_i hsz
  split at P1
  rotate_left
  · exact P1.elim
  rename_i rows' hb
  have eds := rowsOf_some hrows
  subst eds
  refine ⟨rows, hrows, hsz, fun L bs H2 c hbl => ?_⟩
  have ok1 := ok.same s1
  unfold bentBy at hb
  obtain ⟨v, e1, hb⟩ := Option.bind_eq_some_iff.mp hb
  split at hb
  rotate_left
  · cases hb
  rename_i hflat
  obtain ⟨kd, e2, hb⟩ := Option.bind_eq_some_iff.mp hb
  obtain ⟨k, e3, hb⟩ := Option.bind_eq_some_iff.mp hb
  obtain ⟨jd, e4, hb⟩ := Option.bind_eq_some_iff.mp hb
  obtain ⟨j, e5, hb⟩ := Option.bind_eq_some_iff.mp hb
  unfold setLL at hb
  obtain ⟨a, e6, hb⟩ := Option.bind_eq_some_iff.mp hb
  obtain ⟨row, e7, hb⟩ := Option.bind_eq_some_iff.mp hb
  obtain ⟨b, e8, e9⟩ := Option.map_eq_some_iff.mp hb
  have hA := ok1.has
  have o2 : Ok X.K H0 A0 (L :: A) (ρ.set ix (some (.own false (.list (rows.map .list))))) (σ.set ix (some (.ref L))) H2 := ok1.setOwn c.same ix c.free (orep_copied c hbl hA)
  -- the value, then the places
  refine ⟨H0, A0, L :: A, _, o2, Post.noXW e1 fun H3 s3 w hw => ?_⟩
  have o3 := o2.same s3
  have hix2 : ix < σ.length := by rw [ok.len]; exact hixl
  refine ⟨.ref L, by rw [List.getElem?_set_self hix2], H0, A0, L :: A, _, o3, Post.noXW e2 fun H4 s4 y hyk => ?_⟩
  have o4 := o3.same s4
  have ek := toI_some e3
  subst ek
  obtain rfl := (RepB.of hyk).int
  have c4 := (c.more s3).more s4
  obtain ⟨hlt, e10⟩ := List.getElem?_eq_some_iff.mp e7
  obtain ⟨ba, hba⟩ : ∃ ba, bs[a]? = some ba := ⟨_, List.getElem?_eq_getElem (show a < bs.length by omega)⟩
  refine ⟨L, bs.map V.ref, k, .ref ba, rfl, rfl, SqL.of c4.top, ?_, H0, A0, L :: A, _, o4, Post.noXW e4 fun H5 s5 z hz => ?_⟩
  · unfold atI
    rw [List.length_map, hbl, e6, Option.bind_some, List.getElem?_map, hba]
    rfl
  have ej := toI_some e5
  subst ej
  obtain rfl := (RepB.of hz).int
  have c5 := c4.more s5
  obtain ⟨r', vs, h1, h2, h3⟩ := c5.it a _ hba
  cases e7.symm.trans h1
  refine ⟨_, vs, j, b, rfl, rfl, h2, by rw [h3.length]; exact e8, ?_⟩
  have hw5 : Rep X.K H5 (L :: (bs ++ A)) w v := flat_rep (hw.same (s4.trans s5)) (by cases v <;> first | rfl | cases hflat)
  have c6 := c5.set (j := b) hba e7 h2 h3 hw5
  subst e9
  have fin := ok1.setOwn c6.same ix c6.free (orep_copied c6 (by rw [List.length_set]; exact hbl) hA)
  refine P1 _ _ _ fin ⟨fun q o h n => c6.same q o (s1 q o h), fun q hq => ?_⟩
  rcases List.mem_cons.mp hq with rfl | hq
  · exact .inr (s1.free c6.free)
  · exact .inl hq
end
end G

namespace G
open PySem PySem.Spec PyProof.Rows L2

/-! ### the law's own head -/
/-- a law def of one script, whose answer is true, called by the claim -/
theorem law_done {P : Program} {w : World} {K : Frg} {mg mb : MgT} {k : Nat} {x : Str} {F : List Int → R D} {s₁ : Shared} {fa a : Addr} {us : List Value} {ns : List Int} (KX : K.In s₁.heap) (hns : s₁.heap.Ns mainGlobals mg) (hb : s₁.heap.Ns builtinsNs mb) (hbb : ∀ z : Str, z ≠ "__name__" → mb z = bootBuiltins z)
    (hlim : s₁.heap.NoLimit) (hgens : s₁.gens = #[]) (hobj : s₁.heap.get? a = some { cls := .type "list", data := .seq us.toArray }) (hints : IntsAre us ns) (hlen : ns.length ≤ sizeLine) (hr : Room k callerA) (hfa : mg x = some (.ref fa))
    (C : ∀ base : Heap, K.In base → base.Ns mainGlobals mg → CallS P w K mg base k x F) (good : F ns = .ok (.bool true)) :
    codeAny (model P w) callerA (.call (.ref fa) ⟨[.ref a], []⟩) (fun r s' => r = .ok (.ret (.bool true)) ∧ OldK s₁.heap s'.heap ∧ s'.os = s₁.os ∧ AllBare s'.gens) s₁ := by
  have vals := vals_ints hints
  have size := hints.length
  -- whatever is tracked of it at the start
  have from_ : ∀ H : Hp, Only H → LRep K H [] a (ns.map V.int) → HOk P w H s₁.heap → (∀ b, H b ≠ none → b = a ∧ K.lookup a = none) →
      codeAny (model P w) callerA (.call (.ref fa) ⟨[.ref a], []⟩) (fun r s' => r = .ok (.ret (.bool true)) ∧ OldK s₁.heap s'.heap ∧ s'.os = s₁.os ∧ AllBare s'.gens) s₁ := by
    intro H only rep ok one
    have untracked : ∀ {b : Addr}, b ≠ a → H b = none := fun {b} n => by
      cases q : H b with
      | none => rfl
      | some u => exact absurd (one b (by rw [q]; simp)).1 n
    have lay : ∀ {b : Addr} {m : Str → Option Value}, s₁.heap.Ns b m → (hidT s₁.heap H).Ns b m := fun {b m} ⟨o, es, ep, e, d, r⟩ => by
      refine ⟨o, es, ep, hidT_get e (untracked fun z => ?_), d, r⟩
      subst z
      rw [hobj] at e
      cases e
      cases (show Data.seq us.toArray _ = Data.dict es ep from d)
    have kin : K.In (hidT s₁.heap H) := fun b o e => hidT_get (KX b o e) (by
      cases q : H b with
      | none => rfl
      | some u =>
        obtain ⟨z1, z2⟩ := one b (by rw [q]; simp)
        rw [z1, z2] at e
        cases e)
    obtain ⟨mc, l1, l2⟩ := hlim
    have e0 : Env0 P w K mg (hidT s₁.heap H) callerA [] s₁ H :=
      ⟨rfl, ⟨kin, lay hns, ⟨mb, lay hb, hbb⟩, ⟨mc, lay l1, l2⟩⟩, fun b o e => of_hidT e, Nat.le_of_eq (hidT_size _ _), trivial, fun b hb => absurd (show b ∈ ([] : List Addr) from hb) (by simp), ok, .of_eq hgens⟩
    obtain ⟨f, fd, p, hF, hm, hkp, hB⟩ := C _ kin (lay hns)
    cases hfa.symm.trans hm
    refine codeAny_mono (hF.run callerA [] s₁ H ⟨[.ref a], []⟩ (.ref a) a ns [] (fun v _ => v = .bl true) (fun _ _ _ => False) hr rfl e0 (by have b := hB s₁ [.ref a] KX rfl; exact b) rfl rep (fun _ z => absurd z List.not_mem_nil) (by rw [good]; exact fun v H' _ r => by cases r; rfl)) fun r s' h => ?_
    cases r with
    | error e =>
      obtain ⟨_, _, _, _, _, _, _, _, _, _, _, _, z⟩ := h
      exact z.elim
    | ok fl =>
      cases fl with
      | next => exact h.elim
      | brk => exact h.elim
      | cont => exact h.elim
      | ret u =>
        obtain ⟨v, H', os, bare, un, ok', rv, q⟩ := h
        obtain rfl : v = .bl true := q
        obtain rfl : u = Value.bool true := rv
        refine ⟨rfl, OldK.of_keep fun b o e => ?_, os, bare⟩
        cases q : H b with
        | none => exact un.keep b o e q (fun z => absurd (show b ∈ ([] : List Addr) from z) (by simp)) (by simp)
        | some u =>
          rcases only b with z | ⟨ob, xs, z⟩
          · rw [q] at z; cases z
          · obtain ⟨g1, _⟩ := ok b _ z
            obtain ⟨g2, _⟩ := ok' b _ (un.frzs b ob _ z)
            cases e.symm.trans g1
            exact g2
  cases hk : K.lookup a with
  | some o =>
    have e := KX a o hk
    rw [hobj] at e
    cases e
    exact from_ (fun _ => none) (fun _ => .inl rfl) (.inr ⟨_, us.toArray, _, hk, rfl, rfl, rfl, by rw [List.size_toArray, size]; exact hlen, by simpa using vals⟩) (fun b u z => by cases (show (none : Option HO) = some u from z)) fun b z => absurd rfl z
  | none =>
    refine from_ (fun b => if b = a then some (.frz { cls := .type "list", data := .seq us.toArray } (.lst (ns.map V.int))) else none) (fun b => ?_) (.inl ⟨List.not_mem_nil, .inr ⟨{ cls := .type "list", data := .seq us.toArray }, if_pos rfl⟩⟩) (fun b u z => ?_) fun b z => ?_
    · by_cases hb : b = a
      · exact .inr ⟨_, _, if_pos hb⟩
      · exact .inl (if_neg hb)
    · by_cases hb : b = a
      · cases (if_pos hb).symm.trans z
        subst hb
        exact ⟨hobj, by rw [List.length_map]; exact hlen, us, _, vals, hobj⟩
      · cases (if_neg hb).symm.trans z
    · by_cases hb : b = a
      · exact ⟨hb, hk⟩
      · exact absurd (if_neg hb) z
theorem walk_g {l : PySem.W.OpenLaw} {n k : Nat} {q : Program} {loose : List Str} {XP : (Str → Option Value) → Heap → Prop} {YP : World → Heap → Prop} {d : DefRec} {K : Params → Frg} {F : List Int → R D}
    (hn : l.most = some n) (hn2 : n ≤ sizeLine) (hdf : d.params.defaults = []) (hr : Room k callerA) (hY : ∀ (w : World) (h : Heap), YP w h → (K w.params).In h)
    (C : ∀ (w : World) (mg : MgT) (h : Heap), (K w.params).In h → h.Ns mainGlobals mg → ∀ base : Heap, (K w.params).In base → base.Ns mainGlobals mg → CallS l.prog w (K w.params) mg base k d.name F)
    (good : ∀ ns : List Int, ns.length ≤ n → F ns = .ok (.bool true)) : PySem.W.WalkO q loose XP YP l.row.toRowW d [] (fun f vs => PySem.call f vs) :=
  Att.attach_call hn hdf fun w s₀ s₁ mg mb fa o pm cd doc a us ns G0 Y ho hd hcd hmg hobj hints hlen hg =>
    law_done (hY w _ Y) G0.T.g G0.T.b G0.T.builtins G0.T.nolimit hg hobj hints (Nat.le_trans hlen hn2) hr hmg (C w mg _ (hY w _ Y) G0.T.g) (good ns hlen)
/-! ### what the top has written -/
section
variable {P : Program} {K : Frg} {mg : MgT} {h : Heap} {x : Str}
theorem mk_def {st : Stmt} {ps : List Str} {f : Addr} {oc : Value} {od an : Option Addr} {osl : Array (Option Value)} {kV doc pm cdv ct : Value} (X : K.In h) (G0 : h.Ns mainGlobals mg) (a : PySem.W.nsIn K mainGlobals x = some (some (.ref f)))
    (l : K.lookup f = some ⟨oc, od, .func (PySem.W.fnOf x x (defArgs st) (defBody st) (defScope st) .none kV doc pm an cdv ct), osl⟩) (c : PySem.W.codeIn K cdv x = true) (k : PySem.W.keepIn K (.ref f) = true)
    (hb : ∀ (kV doc pm : Value) (an : Option Addr) (cdv ct : Value) (us : List Value), us.length = ps.length → bindArgs (PySem.W.fnOf x x (defArgs st) (defBody st) (defScope st) .none kV doc pm an cdv ct) ⟨us, []⟩ = pure (ps.zip us)) : DefG K mg x st ps :=
  ⟨f, _, fun_mk l c k, PySem.W.mg_of X G0 a, (fun_mk l c k).binds hb⟩
theorem mk_none (X : K.In h) (G0 : h.Ns mainGlobals mg) (a : PySem.W.nsIn K mainGlobals x = some none) : mg x = none := PySem.W.mg_none_of X G0 a
theorem mk_int {i : Int} {t : Tok} (X : K.In h) (G0 : h.Ns mainGlobals mg) (a : PySem.W.nsIn K mainGlobals x = some (some (.int i t))) : GInt mg x i := ⟨t, PySem.W.mg_of X G0 a⟩
/-- a written tuple's items -/
inductive ItemsD : List Value → List V → List D → Prop
  | nil : ItemsD [] [] []
  | int {i : Int} {t : Tok} {us : List Value} {vs : List V} {ds : List D} (r : ItemsD us vs ds) : ItemsD (.int i t :: us) (.int i :: vs) (.int i :: ds)
  | str {z : Str} {t : Tok} {us : List Value} {vs : List V} {ds : List D} (r : ItemsD us vs ds) : ItemsD (.str z t :: us) (.str z :: vs) (.str z :: ds)
theorem ItemsD.vals : ∀ {us : List Value} {vs : List V} {ds : List D}, ItemsD us vs ds → Vals vs us
  | _, _, _, .nil => .nil
  | _, _, _, .int r => .cons ⟨_, rfl⟩ r.vals
  | _, _, _, .str r => .cons ⟨_, rfl⟩ r.vals
theorem ItemsD.rep : ∀ {us : List Value} {vs : List V} {ds : List D}, ItemsD us vs ds → ∀ H A, RepL K H A vs ds
  | _, _, _, .nil, _, _ => .nil
  | _, _, _, .int r, H, A => .cons (.int _) (r.rep H A)
  | _, _, _, .str r, H, A => .cons (.str _) (r.rep H A)
theorem mk_tup {a : Addr} {us : List Value} {vs : List V} {ds : List D} {n : Nat} {od : Option Addr} {sl : Array (Option Value)} (X : K.In h) (G0 : h.Ns mainGlobals mg) (e : PySem.W.nsIn K mainGlobals x = some (some (.ref a))) (l : K.lookup a = some ⟨.type "tuple", od, .seq us.toArray n, sl⟩) (it : ItemsD us vs ds) (hz : us.length ≤ sizeLine) : GTup K mg x ds :=
  ⟨a, vs, PySem.W.mg_of X G0 e, ⟨_, us.toArray, n, l, rfl, rfl, by rw [List.size_toArray]; exact hz, by simpa using it.vals⟩, it.rep⟩
theorem ints_items : ∀ {us : List Value} {vs : List V} {ns : List Int}, ItemsD us vs (ns.map .int) → vs = ns.map V.int
  | _, _, [], h => by cases h; rfl
  | _, _, n :: ns, h => by
    rw [List.map_cons] at h
    cases h with
    | int r => rw [ints_items r]; rfl
theorem mk_tupI {a : Addr} {us : List Value} {vs : List V} {ns : List Int} {n : Nat} {sl : Array (Option Value)} (X : K.In h) (G0 : h.Ns mainGlobals mg) (e : PySem.W.nsIn K mainGlobals x = some (some (.ref a))) (l : K.lookup a = some ⟨.type "tuple", none, .seq us.toArray n, sl⟩) (it : ItemsD us vs (ns.map .int)) (hz : us.length ≤ sizeLine) : GTupI K mg x ns := by
  obtain rfl := ints_items it
  exact ⟨a, PySem.W.mg_of X G0 e, ⟨_, us.toArray, n, l, rfl, rfl, by rw [List.size_toArray]; exact hz, by simpa using it.vals⟩, _, l, rfl, rfl⟩
theorem mk_exm {c z : String} {C C2 : Addr} {b : Bool} (X : K.In h) (G0 : h.Ns mainGlobals mg) (a1 : PySem.W.nsIn K mainGlobals (Str.ofString c) = some (some (.ref C))) (a2 : PySem.W.nsIn K mainGlobals (Str.ofString z) = some (some (.ref C2))) (e : PySem.W.exmOne K (.ref C) (.ref C2) = some b) (er : ErrG P K mg (Str.ofString c)) : ExM P K mg c z b :=
  ⟨_, _, PySem.W.mg_of X G0 a1, PySem.W.mg_of X G0 a2, e, er⟩
end
end G
namespace PySem
namespace AeX
open PySem.W PySem.Calls PyProof.Rows PySem.HandSPX
variable {P : Program} {K : Frag} {mg : Str → Option Value} {h : Heap} {x : Str} {C D fI : Addr}
theorem mk_err {nm q : Str} {N : Addr} {bs bm : List Value} {sn : List Str} {sub : List Value} {ab : Bool} {col : Option Bool} {dd : Option Addr} {k0 k1 k2 k3 k5 : Option Value} {cdD : ClassData}
    {oc : Value} {od : Option Addr} {doc pm : Value} {an : Option Addr} {cda : Addr} {ct : Value} {osl : Array (Option Value)} {cc : Addr} {p1 p2 q0 q1 q2 q3 q4 q5 r1 r2 r3 r4 : Pos} {ccl : Value} {cdd : Option Addr} {vs : Array Value} {ccs : Array (Option Value)} {file : Str} {tf : Tok} {cl : Value} {cld : Option Addr} {csl : Array (Option Value)}
    (X : K.In h) (G0 : h.Ns mainGlobals mg) (gC : nsIn K mainGlobals x = some (some (.ref C))) (cls : K.lookup C = some (excClassObj nm q C N bs bm true sn sub ab col dd k0 k1 k2 k3 k5 "ValueError.__new__")) (hbm : refsVE bm = true)
    (sa : findIn K (.ref C) "__setattr__" = some (some (.builtin "object.__setattr__"))) (ga : findIn K (.ref C) "__getattribute__" = some (some (.builtin "BaseException.__getattribute__"))) (gg : findIn K (.ref C) "__getattr__" = some none) (noN : findIn K (.ref C) "at" = some none)
    (iC : findIn K (.ref C) "__init__" = some (some (.ref fI))) (tC : typeIn K (.ref fI) = some (.type "function")) (kC : keepIn K (.ref C) = true) (exC : subIn K (.ref C) (.type "BaseException") = some true) (tyC : typeIn K (.ref C) = some (.type "type")) (hdC : hasDictIn K C = true)
    (sup : ks_superIn K C D "__init__" = some (some (.builtin "ValueError.__init__"))) (isD : mroIn K C (.ref D) = some true) (veC : subIn K (.ref C) (.type "ValueError") = some true) (opq : nsIn K cStatics "thirdparty.any" = some none) (clD : clsIn K D = some cdD)
    (nsu : nsIn K mainGlobals "super" = some none) (top : (P.main.scope.names.lookup ("super" : Str)).isSome = false)
    (fn : K.lookup fI = some ⟨oc, od, .func (ksFn "__init__" "AuctionError.__init__" (aA p1 p2) (aB q0 q1 q2 q3 q4 q5 r1 r2 r3 r4) aS .none .none doc pm an (.ref cda) ct cc), osl⟩) (hcd : codeIn K (.ref cda) "AuctionError.__init__" = true)
    (hev : (∀ env : Env, ∃ pl : Sem Bool, eval (.Call (.Attribute (.Call (.Name "super" q0) [] [] q1) "__init__" q2) [.Name "at" q3] [] q4) env = (do
      let ov ← attributeBase (.Call (.Name "super" q0) [] [] q1) "__init__" env (eval (.Call (.Name "super" q0) [] [] q1) env)
      standAt q2.atName
      let (f, first) ← holding [ov] (getMethod ov "__init__" pl)
      callWith q4 f first (backTo q4 (starEach [.Name "at" q3] env)) [])))
    (code : K.lookup cda = some ⟨ccl, cdd, .fields vs, ccs⟩) (hvs : vs[2]? = some (.str file tf)) (hfile : ((P.main.file : Str) == file) = true) (cell : K.lookup cc = some ⟨cl, cld, .cell (some (.ref D)), csl⟩) : G.ErrG P K mg x :=
  ⟨C, D, fI, mg_of X G0 gC, ⟨⟨nm, q, N, bs, bm, sn, sub, ab, col, dd, k0, k1, k2, k3, k5, cls, hbm⟩, sa, ga, gg, noN, iC, tC, kC, exC, tyC, hdC, sup, isD, veC, opq, ⟨cdD, clD⟩, mg_none_of X G0 nsu, top,
    ⟨oc, od, doc, pm, an, cda, ct, osl, cc, p1, p2, q0, q1, q2, q3, q4, q5, r1, r2, r3, r4, fn, hcd, hev, ⟨ccl, cdd, vs, ccs, file, tf, code, hvs, hfile⟩, ⟨cl, cld, csl, cell⟩⟩⟩⟩
end AeX
end PySem

namespace G
open PySem PySem.Spec PyProof.Rows L2
section
variable {X : Cx} {pos : Pos}
/-- a, b, .. = a list -/
def gTL (t : List D → En → Option En) : TgF := fun d ρ => match d with
  | .list ds => t ds ρ
  | _ => none
theorem fg_unl {es : List Expr} {k n : Nat} {ix : List Nat} {tgs : List D → En → Option En} (hc : X.calm = true) (hg : FGs X es ix tgs) (hl : ∀ ds ρ ρ', tgs ds ρ = some ρ' → ds.length = n)
    (hn : (assignEach es X.env).length = n := by rfl) (hst : (assignEach es X.env).findIdx? (·.1) = none := by rfl) : FG X (.Tuple es k pos) ix (gTL tgs) := impG (pg_lst hc hg hn hst) fun v σ H Q ⟨H0, A0, A, ρ, d, ρ', o, r, e, q⟩ => by
  unfold gTL at e
  split at e
  · obtain ⟨a, vs, rfl, h1, r1⟩ := (RepB.of r).lst
    exact ⟨a, vs, rfl, .of h1, by rw [r1.length]; exact hl _ _ _ e, H0, A0, A, ρ, _, ρ', o, r1, e, q⟩
  · cases e
end
end G

namespace G
open PySem PySem.Spec PyProof.Rows L2
section
variable {X : Cx} {W : WX} {a b : Expr} {f g : En → R D} {dop : D → D → Option D}
/-! ### a list that a sum or a product makes anew -/
def DOpN (X : Cx) (F : Value → Value → Sem Value) (dop : D → D → Option D) : Prop :=
  ∃ r : R2, OpR X F r ∧ ∀ (H : Hp) (A : List Addr) (x y : V) (d1 d2 d : D) (Q : VK), (∀ a ∈ A, H a ≠ none) → RepB X.K H A x d1 → RepB X.K H A y d2 → dop d1 d2 = some d → (∀ v H', Same H H' → RepN X.K false H H' A v d → Q v H') → r x y H Q
theorem fn_op {op : Operator} (ho : DOpN X (binaryOp op) dop) (ha : FB X W a f) (hb : FB X W b g) : FN X W false (.BinOp a op b pos) (cBin dop f g) := by
  obtain ⟨r, hr, hs⟩ := ho
  refine impE (pe_op hr ha hb) fun σ H Q ⟨H0, A0, A, ρ, o, P⟩ => ?_
  refine ⟨H0, A0, A, ρ, o, P.bind.mono fun d1 H1 s1 P1 x hx => ?_⟩
  refine ⟨H0, A0, A, ρ, o.same s1, P1.bind.mono fun d2 H2 s2 P2 y hy => ?_⟩
  obtain ⟨d, e, P3⟩ := P2.ofO
  refine hs H2 A x y d1 d2 d Q ((o.same s1).same s2).has (hx.same s2) hy e fun v H' s3 hv => P3 H' s3 v ?_
  obtain ⟨p, e, n, r⟩ := hv
  exact ⟨p, e, s1.free (s2.free n), r⟩
/-- a list, so many times -/
def dTimes : D → D → Option D
  | .list xs, .int j => if j < 1000000 ∧ xs.length * j.toNat ≤ sizeLine ∧ -1000000 < j then some (.list (List.replicate j.toNat xs).flatten) else none
  | _, _ => none
theorem dn_times : DOpN X (binaryOp .Mult) dTimes := by
  refine ⟨_, OpR.or op_mulW op_rep, fun H A x y d1 d2 d Q ha hx hy e q => ?_⟩
  unfold dTimes at e
  split at e
  · split at e
    · rename_i hl
      cases e
      obtain ⟨a, vs, rfl, h1, r1⟩ := hx.lst
      obtain rfl := hy.int
      obtain ⟨h2, h3, h4⟩ := hl
      exact .inr ⟨a, _, vs, rfl, rfl, h1, by omega, by omega, by rw [r1.length]; exact h3, fun p hp => q _ _ (same_upd hp) ⟨p, rfl, hp, orep_lst hp (r1.flatRep _)⟩⟩
    · cases e
  · cases e
/-- two lists, one behind the other -/
def dJoin : D → D → Option D
  | .list xs, .list ys => if xs.length + ys.length ≤ sizeLine then some (.list (xs ++ ys)) else none
  | _, _ => none
theorem dn_join : DOpN X (binaryOp .Add) dJoin := by
  refine ⟨_, op_cat, fun H A x y d1 d2 d Q ha hx hy e q => ?_⟩
  unfold dJoin at e
  split at e
  · split at e
    · rename_i hl
      cases e
      obtain ⟨a, vs, rfl, h1, r1⟩ := hx.lst
      obtain ⟨b, us, rfl, h2, r2⟩ := hy.lst
      exact ⟨a, b, vs, us, rfl, rfl, h1, h2, by rw [r1.length, r2.length]; exact hl, fun p hp => q _ _ (same_upd hp) ⟨p, rfl, hp, orep_lst hp (r1.append r2)⟩⟩
    · cases e
  · cases e
end
end G

namespace G
open PySem PySem.Spec PyProof.Rows L2
/-! ### the least of rows, rows sorted -/
def notNone : D → Bool
  | .none => false
  | _ => true
def alikeB (xs : List D) : Bool := xs.all fun x => notNone x && xs.all fun y => PySem.W.alike x y
theorem alikeB_all {xs : List D} (h : alikeB xs = true) : PySem.W.AlikeAll xs := by
  unfold alikeB at h
  rw [List.all_eq_true] at h
  refine ⟨fun x hx y hy => ?_, fun x hx z => ?_⟩
  · have := h x hx
    rw [Bool.and_eq_true, List.all_eq_true] at this
    exact this.2 y hy
  · have := h x hx
    subst z
    simp [notNone] at this
theorem repL_get {K : Frg} {H : Hp} {A : List Addr} : ∀ {vs : List V} {ds : List D}, RepL K H A vs ds → ∀ (i : Nat) (v : V), vs[i]? = some v → ∃ d, ds[i]? = some d ∧ Rep K H A v d
  | _, _, .nil, i, v, e => by simp at e
  | _, _, .cons a b, 0, v, e => by simp at e; subst e; exact ⟨_, rfl, a⟩
  | _, _, .cons a b, i + 1, v, e => by
    obtain ⟨d, e2, r⟩ := repL_get b i v (by simpa using e)
    exact ⟨d, by simpa using e2, r⟩
theorem dpAll_get {K : Frg} {H : Hp} : ∀ {vs : List V} {ds : List D}, DpAll K H vs ds → ∀ (i : Nat) (v : V), vs[i]? = some v → ∃ d, ds[i]? = some d ∧ Dp K H v d
  | _, _, .nil, i, v, e => by simp at e
  | _, _, .cons a b, 0, v, e => by simp at e; subst e; exact ⟨_, rfl, a⟩
  | _, _, .cons a b, i + 1, v, e => by
    obtain ⟨d, e2, r⟩ := dpAll_get b i v (by simpa using e)
    exact ⟨d, by simpa using e2, r⟩
theorem vals_get' : ∀ {xs : List V} {us : List Value}, Vals xs us → ∀ (i : Nat) (u : Value), us[i]? = some u → ∃ x, xs[i]? = some x ∧ RelV x u
  | _, _, .nil, i, u, e => by simp at e
  | _, _, .cons a b, 0, u, e => by simp at e; subst e; exact ⟨_, rfl, a⟩
  | _, _, .cons a b, i + 1, u, e => by
    obtain ⟨d, e2, r⟩ := vals_get' b i u (by simpa using e)
    exact ⟨d, by simpa using e2, r⟩
def rMinD (K : Frg) : List V → Hp → VK → Prop := fun vs H Q => ∃ (a : Addr) (xs : List V) (d : D) (ds : List D), vs = [V.ref a] ∧ SqL K H a xs ∧ DpAll K H xs (d :: ds) ∧ alikeB (d :: ds) = true ∧ PyData.depthAll (d :: ds) ≤ 60 ∧
  ∀ (i : Nat) x, xs[i]? = some x → (d :: ds)[i]? = some (PySem.W.minD d ds) → Q x H
section
variable {X : Cx}
theorem cr_minD (hc : X.calm = true) (hu : X.A.units + 65 < cLine) : CallR X (.builtin "min") (rMinD X.K) := by
  intro pins s σ H vs us Q I r h
  obtain ⟨a, xs, d, ds, rfl, hs, hd, hal, hdep, q⟩ := h
  obtain ⟨its, rv, hl, hz⟩ := I.list hs
  rw [Vals.ref1 r]
  obtain ⟨as, rd⟩ := Dp.readsAll I (d :: ds) xs its hd rv
  refine PySem.W.min_list_data (vs := its.toArray) (I.ok.hd hc) hl.isList (by simpa using rd) (alikeB_all hal) (by omega) fun i v h' tk bs hv hr hk => ?_
  obtain ⟨x, hx, rx⟩ := vals_get' rv i v (by simpa using hv)
  obtain ⟨e, he, hde⟩ := dpAll_get hd i x hx
  obtain ⟨as2, rd2⟩ := Dp.reads I e x v hde rx
  obtain ⟨e1, _⟩ := PyProof.Rows.reads_det (fun _ _ e _ => e) hr (PyProof.Rows.Reads.keeps hk rd2)
  exact ⟨x, H, I.kept hk, rx, q i x hx (by rw [he, e1])⟩
def dMinRows : List D → Option D
  | [.list (d :: ds)] => if alikeB (d :: ds) = true ∧ PyData.depthAll (d :: ds) ≤ 60 ∧ PyData.hasDictAll (d :: ds) = false then some (PySem.W.minD d ds) else none
  | _ => none
theorem dc_minRows (hc : X.calm = true) (hu : X.A.units + 65 < cLine) : DCall X (.builtin "min") dMinRows := by
  refine ⟨_, cr_minD hc hu, fun H A vs ds d Q ha hv e q => ?_⟩
  unfold dMinRows at e
  split at e
  · split at e
    · rename_i hl
      cases e
      obtain ⟨v, rfl, h⟩ := pair1 hv
      obtain ⟨p, us, rfl, h1, r⟩ := h.lst
      refine ⟨p, us, _, _, rfl, SqL.of h1, r.dp hl.2.2, hl.1, hl.2.1, fun i x hx he => ?_⟩
      obtain ⟨d2, e2, r2⟩ := repL_get r i x hx
      rw [he] at e2
      cases e2
      exact q x H (Same.refl H) r2
    · cases e
  · cases e
def sortB (xs : List D) : Bool := (xs.all fun d => match d with | .tuple (_ :: _) => true | _ => false) || (xs.all fun d => match d with | .tuple _ => false | .none => false | _ => true)
theorem sortB_of {xs : List D} (h : sortB xs = true) : PySem.W.Sortable xs := by
  unfold sortB at h
  rcases Bool.or_eq_true_iff.mp h with h | h
  · rw [List.all_eq_true] at h
    refine .inl fun d hd => ?_
    have := h d hd
    split at this
    · exact ⟨_, _, rfl⟩
    · cases this
  · rw [List.all_eq_true] at h
    refine .inr fun d hd => ?_
    have := h d hd
    split at this
    · cases this
    · cases this
    · rename_i n1 n2
      exact ⟨fun z => n2 z, fun xs z => n1 xs z⟩
theorem alikeB_pairs {xs : List D} (h : alikeB xs = true) : PySem.W.AllAlike xs := fun x hx y hy => (alikeB_all h).1 x hx y hy
def rowSort (xs : List D) : List D := xs.mergeSort (PySem.W.dataLe false id)
def rSortD (K : Frg) : List V → Hp → VK → Prop := fun vs H Q => ∃ (a : Addr) (xs : List V) (ds : List D), vs = [V.ref a] ∧ SqL K H a xs ∧ DpAll K H xs ds ∧ alikeB ds = true ∧ sortB ds = true ∧ PyData.depthAll ds ≤ 60 ∧
  ∀ (bs : List (V × D)) (p : Addr), bs.Perm (xs.zip ds) → bs.map (·.2) = rowSort ds → H p = none → Q (.ref p) (upd H p (.lst (bs.map (·.1))))
theorem depth_mem : ∀ {xs : List D} {d : D}, d ∈ xs → d.depth ≤ PyData.depthAll xs
  | x :: xs, d, h => by
    rw [PyData.depthAll]
    rcases List.mem_cons.mp h with rfl | h
    · omega
    · have := depth_mem h
      omega
theorem dpAll_len {K : Frg} {H : Hp} : ∀ {vs : List V} {ds : List D}, DpAll K H vs ds → vs.length = ds.length
  | _, _, .nil => rfl
  | _, _, .cons _ b => by simp [dpAll_len b]
theorem each_zip {P : Value → D → Prop} : ∀ {xs : List V} {us : List Value} {ds : List D}, Vals xs us → xs.length = ds.length → (∀ (i : Nat) u d, us[i]? = some u → ds[i]? = some d → P u d) → PySem.W.EachIs (fun u (b : V × D) => RelV b.1 u ∧ P u b.2) us (xs.zip ds)
  | _, _, [], .nil, _, _ => .nil
  | x :: xs, u :: us, d :: ds, .cons a b, h, hp => .cons ⟨a, hp 0 u d rfl rfl⟩ (each_zip b (by simpa using h) fun i u d e1 e2 => hp (i + 1) u d (by simpa using e1) (by simpa using e2))
theorem vals_each : ∀ {us : List Value} {bs : List (V × D)}, PySem.W.EachIs (fun u (b : V × D) => RelV b.1 u) us bs → Vals (bs.map (·.1)) us
  | _, _, .nil => .nil
  | _, _, .cons a b => .cons a (vals_each b)
theorem map_snd_zip {α β : Type} : ∀ {xs : List α} {ds : List β}, xs.length = ds.length → (xs.zip ds).map (·.2) = ds
  | [], [], _ => rfl
  | x :: xs, d :: ds, h => by simp [map_snd_zip (xs := xs) (ds := ds) (by simpa using h)]
theorem cr_sortD (hu : X.A.units + 65 < cLine) : CallR X (.builtin "sorted") (rSortD X.K) := by
  intro pins s σ H vs us Q I r h
  obtain ⟨a, xs, ds, rfl, hs, hd, hal, hso, hdep, q⟩ := h
  obtain ⟨its, rv, hl, hz⟩ := I.list hs
  rw [Vals.ref1 r]
  have hlen := dpAll_len hd
  have hsnd := map_snd_zip hlen
  have he : PySem.W.EachIs (fun u (b : V × D) => RelV b.1 u ∧ ∃ as, Reads s.heap u b.2 as) its (xs.zip ds) := each_zip rv hlen fun i u d e1 e2 => by
    obtain ⟨x, hx, rx⟩ := vals_get' rv i u e1
    obtain ⟨d', e3, hde⟩ := dpAll_get hd i x hx
    rw [e2] at e3
    cases e3
    exact Dp.reads I d x u hde rx
  refine PySem.W.sorted_data (vs := its) (bs := xs.zip ds) (enc := fun b => b.2) (R := fun u b => RelV b.1 u) hl.isList (he.mono fun _ _ z => z.1) (he.mono fun _ _ z => z.2) (by rw [hsnd]; exact alikeB_pairs hal) (by rw [hsnd]; exact sortB_of hso) ?_ (fun b hb => ?_) fun out ho heo => ?_
  · rw [List.length_zip]; omega
  · have : b.2 ∈ ds := by rw [← hsnd]; exact List.mem_map.mpr ⟨b, hb, rfl⟩
    have := depth_mem this
    omega
  · obtain ⟨ep, he'⟩ := PyProof.Rows.sortedAll_at s.heap its (List.toArray out)
    have hvs := vals_each heo
    have hl2 : (((xs.zip ds).mergeSort (PySem.W.dataLe false fun b => b.2)).map (·.1)).length ≤ sizeLine := by
      rw [List.length_map, List.length_mergeSort, List.length_zip]; omega
    refine ⟨.ref _, upd H (s.heap.objs.size + 1) (.lst (((xs.zip ds).mergeSort (PySem.W.dataLe false fun b => b.2)).map (·.1))), I.laid (t' := s.toks) (fun _ _ => PyProof.Rows.sortedAll_old) (Nat.le_succ _) ⟨hl2, (List.toArray out).toList, ep, by simpa using hvs, he'⟩, rfl, q _ _ (List.mergeSort_perm _ _) ?_ (I.hok.fresh (Nat.le_succ _))⟩
    unfold rowSort
    have em := List.map_mergeSort (r := PySem.W.dataLe false fun b : V × D => b.2) (s := PySem.W.dataLe false id) (f := fun b : V × D => b.2) (l := xs.zip ds) (fun _ _ _ _ => rfl)
    rw [hsnd] at em
    exact em
def dSortRows : List D → Option D
  | [.list ds] => if alikeB ds = true ∧ sortB ds = true ∧ PyData.depthAll ds ≤ 60 ∧ PyData.hasDictAll ds = false then some (.list (rowSort ds)) else none
  | _ => none
theorem rep_zip {K : Frg} {H : Hp} {A : List Addr} : ∀ {vs : List V} {ds : List D}, RepL K H A vs ds → ∀ b ∈ vs.zip ds, Rep K H A b.1 b.2
  | _, _, .nil, b, h => by simp at h
  | _, _, .cons x y, b, h => by
    rcases List.mem_cons.mp h with rfl | h
    · exact x
    · exact rep_zip y b h
theorem rep_of_zip {K : Frg} {H : Hp} {A : List Addr} : ∀ {bs : List (V × D)}, (∀ b ∈ bs, Rep K H A b.1 b.2) → RepL K H A (bs.map (·.1)) (bs.map (·.2))
  | [], _ => .nil
  | b :: bs, h => .cons (h b List.mem_cons_self) (rep_of_zip fun a ha => h a (List.mem_cons_of_mem _ ha))
theorem dc_sortRows (hu : X.A.units + 65 < cLine) : DCallN X (.builtin "sorted") dSortRows := by
  refine ⟨_, cr_sortD hu, fun H A vs ds d Q ha hv e q => ?_⟩
  unfold dSortRows at e
  split at e
  · split at e
    · rename_i hl
      cases e
      obtain ⟨v, rfl, h⟩ := pair1 hv
      obtain ⟨p, us, rfl, h1, r⟩ := h.lst
      refine ⟨p, us, _, rfl, SqL.of h1, r.dp hl.2.2.2, hl.1, hl.2.1, hl.2.2.1, fun bs n hp hb hn => q _ _ (same_upd hn) ⟨n, rfl, hn, orep_lst hn ?_⟩⟩
      rw [← hb]
      exact rep_of_zip fun b hm => rep_zip r b (hp.mem_iff.mp hm)
    · cases e
  · cases e
end
end G

namespace G
open PySem PySem.Spec PyProof.Rows L2
open Sem (wp)
/-! ### tuples added up -/
theorem sub_tup_str : isSubtype (.type "tuple") (.type "str") = pure false := by rw [isSubtype_type]; kernel_rfl
theorem sub_tup_bytes : isSubtype (.type "tuple") (.type "bytes") = pure false := by rw [isSubtype_type]; kernel_rfl
theorem sub_tup_bytearray : isSubtype (.type "tuple") (.type "bytearray") = pure false := by rw [isSubtype_type]; kernel_rfl
theorem args_sum2 (a b : Value) : argsOk "sum" ⟨[a, b], []⟩ := by unfold argsOk; kernel_rfl
def catW (ws : List (List Value)) (i : Nat) : List Value := (ws.take i).flatten
theorem catW_succ {ws : List (List Value)} {i : Nat} {w : List Value} (h : ws[i]? = some w) : catW ws (i + 1) = catW ws i ++ w := by
  unfold catW
  rw [List.take_add_one, h]
  simp
section
variable {prog : Program} {w : World} {A : Around} {R : Result → Shared → Prop} {Ia l S t0 : Addr} {H0 : Heap} {bs : List Addr} {ws : List (List Value)}
/-- where a sum's tuple comes from -/
def Src (H0 : Heap) (t0 : Addr) (bs : List Addr) (ws : List (List Value)) (t : Addr) (i : Nat) : Prop := H0.objs.size ≤ t ∨ (t = t0 ∧ catW ws i = []) ∨ ∃ j : Nat, bs[j]? = some t ∧ ws[j]? = some (catW ws i)
theorem catW_le (ws : List (List Value)) (i : Nat) : (catW ws i).length ≤ (catW ws ws.length).length := by
  unfold catW
  rw [List.take_length]
  conv => rhs; rw [← List.take_append_drop i ws]
  rw [List.flatten_append, List.length_append]
  omega
theorem add_any {A : Around} {E : Value → Shared → Prop} {s : Shared} {t b : Addr} {vs us : List Value} {Q : Value → Shared → Prop} (ht : IsTup s.heap t vs.toArray) (hb : IsTup s.heap b us.toArray) (hsz : vs.length + us.length ≤ sizeLine)
    (h : ∀ (h2 : Heap) (r : Addr), (∀ b o, s.heap.get? b = some o → h2.get? b = some o) → IsTup h2 r (vs ++ us).toArray → ((r = t ∧ us = []) ∨ (r = b ∧ vs = []) ∨ (r = s.heap.objs.size ∧ True)) → Q (.ref r) { s with heap := h2 }) : wpAny (model prog w) A (binaryOp .Add (.ref t) (.ref b)) Q E s := by
  by_cases hv : vs = []
  · subst hv
    exact cat_tup0 ht hb (h s.heap b (fun _ _ e => e) hb (.inr (.inl ⟨rfl, rfl⟩)))
  · refine HT.cat_tup ht hb hv (fun hu => ?_) (fun hu => ?_) hsz
    · subst hu
      exact h s.heap t (fun _ _ e => e) (by rw [List.append_nil]; exact ht) (.inl ⟨rfl, rfl⟩)
    · exact h _ _ (fun b o e => Heap.get?_push_of_some _ e) (IsTup.new _ _) (.inr (.inr ⟨rfl, trivial⟩))
theorem sum_loopT (hh : A.in1.handled = none) (hne : l ≠ Ia) (hlen : bs.length = ws.length) (hb : ∀ (j : Nat) (b : Addr) (w : List Value), bs[j]? = some b → ws[j]? = some w → IsTup H0 b w.toArray) (hI : H0.objs.size ≤ Ia) (hS : H0.objs.size ≤ S) (hSI : S ≠ Ia) (hSl : S ≠ l) (hz : (catW ws ws.length).length ≤ sizeLine) :
    ∀ (k i : Nat) (s : Shared) (t : Addr) (c : Nat), bs.length - i = k → i ≤ bs.length → (∀ b o, H0.get? b = some o → s.heap.get? b = some o) → (s.heap.IsListIter Ia l i ∧ s.heap.IsList l (bs.map Value.ref).toArray) →
    s.heap.get? S = some { cls := .type "list", dict := none, data := .seq #[.ref t] c, slots := #[] } → IsTup s.heap t (catW ws i).toArray → Src H0 t0 bs ws t i → t ≠ Ia →
    (∀ h' tk t', (∀ b o, H0.get? b = some o → h'.get? b = some o) → IsTup h' t' (catW ws ws.length).toArray → Src H0 t0 bs ws t' ws.length → R (.ok (.ret (.ref t'))) { s with heap := h', toks := tk }) →
    codeAny (model prog w) A (.builtin "sum.loop" ⟨[.ref Ia, .ref S, rawInt 2, rawInt 0], []⟩) R s := by
  have W := Walks.list (prog := prog) (w := w) (A := A.in1) hh Ia l hne (bs.map Value.ref).toArray
  have hsz : (bs.map Value.ref).toArray.size = bs.length := by simp
  intro k
  induction k with
  | zero =>
    intro i s t c hk hi hkeep hst hSs ht hsrc htI hR
    have hin : i = bs.length := by omega
    refine codeAny_builtin F.entry_sum_loop ?_
    rw [Around.under_plainId F.plain_sum_loop _]
    show wpAny _ A.in1 (seqItems? (.ref S) >>= _) _ _ s
    refine wpAny_bind (wpAny_seqItems hSs rfl ?_)
    show wpAny _ A.in1 (tryCatch (pyNext (.ref Ia)) _ >>= _) _ _ s
    refine wpAny_bind (wpAny_tryCatch (W.done s _ _ (by rw [hsz, ← hin]; exact hst) fun h' tk hk' => ?_))
    have hw : ∀ b o, H0.get? b = some o → b ∉ [Ia] := fun b o e hm => absurd (Heap.lt_size e) (by rw [List.mem_singleton.mp hm]; exact Nat.not_lt.mpr hI)
    have htn : t ∉ [Ia] := by simpa using htI
    refine wpAny_pure (hR h' tk t (fun b o e => hk' b o (hw b o e) (hkeep b o e)) ?_ ?_)
    · rw [← hlen, ← hin]
      obtain ⟨o, ho, hc, n, hd⟩ := ht
      exact ⟨o, hk' t o htn ho, hc, n, hd⟩
    · rw [← hlen, ← hin]; exact hsrc
  | succ k ih =>
    intro i s t c hk hi hkeep hst hSs ht hsrc htI hR
    have hlt : i < bs.length := by omega
    refine codeAny_builtin F.entry_sum_loop ?_
    rw [Around.under_plainId F.plain_sum_loop _]
    show wpAny _ A.in1 (seqItems? (.ref S) >>= _) _ _ s
    refine wpAny_bind (wpAny_seqItems hSs rfl ?_)
    show wpAny _ A.in1 (tryCatch (pyNext (.ref Ia)) _ >>= _) _ _ s
    refine wpAny_bind (wpAny_tryCatch (W.item i s _ _ (by rw [hsz]; exact hlt) hst fun v h' tk hP hst' hk' => ?_))
    have hw : ∀ b o, H0.get? b = some o → b ∉ [Ia] := fun b o e hm => absurd (Heap.lt_size e) (by rw [List.mem_singleton.mp hm]; exact Nat.not_lt.mpr hI)
    have htn : t ∉ [Ia] := by simpa using htI
    have hSn : S ∉ [Ia] := by simpa using hSI
    have hbi : bs[i]? = some bs[i] := List.getElem?_eq_getElem hlt
    obtain rfl : v = Value.ref bs[i] := by
      have : (bs.map Value.ref)[i]? = some v := by simpa using hP
      rw [List.getElem?_map, hbi] at this
      exact (Option.some.inj this).symm
    have hwi : ws[i]? = some (ws[i]'(by omega)) := List.getElem?_eq_getElem (by omega)
    generalize hwe : ws[i]'(by omega) = wi at hwi
    generalize hbe : bs[i] = bi at hbi
    have hkeep' : ∀ b o, H0.get? b = some o → h'.get? b = some o := fun b o e => hk' b o (hw b o e) (hkeep b o e)
    have hSs' := hk' S _ hSn hSs
    have ht' : IsTup h' t (catW ws i).toArray := by
      obtain ⟨o, ho, hc, n, hd⟩ := ht
      exact ⟨o, hk' t o htn ho, hc, n, hd⟩
    have hbt : IsTup h' bi wi.toArray := (hb i bi wi hbi hwi).keeps hkeep'
    have hcat := catW_succ hwi
    have hIlt : Ia < h'.objs.size := by
      obtain ⟨o, ho, _⟩ := hst'.1
      exact Heap.lt_size ho
    have hIlt2 : H0.objs.size ≤ h'.objs.size := Nat.le_trans hI (Nat.le_of_lt hIlt)
    show wpAny _ A.in1 ((holding [Value.ref bi] (binaryOp .Add (.ref t) (.ref bi))).attempt >>= _) _ _ _
    refine wpAny_bind (wpAny_attempt (wpAny_holding (add_any ht' hbt ?_ fun h2 r hk2 hr hsr => ?_)))
    · rw [← List.length_append, ← hcat]
      exact Nat.le_trans (catW_le _ _) hz
    have hS3 := hk2 S _ hSs'
    show wpAny _ A.in1 (updateSeq S (fun _ => #[Value.ref r]) >>= _) _ _ _
    refine wpAny_bind ?_
    refine wpAny_updateSeq hS3 rfl ?_
    have hS2 := Heap.get?_update_self (Obj.mapSeq fun _ => #[Value.ref r]) hS3 rfl
    refine wpAny_bind (wpAny_letGo ?_)
    refine wpAny_bind ?_
    refine wpAny_updateSeq hS2 rfl ?_
    have hup : ∀ b o, b ≠ S → h'.get? b = some o → ((h2.update S (Obj.mapSeq fun _ => #[Value.ref r])).update S (Obj.mapSeq fun _ => #[Value.ref r])).get? b = some o := fun b o hbS e =>
      (Heap.get?_update_other _ _ (Ne.symm hbS)).trans ((Heap.get?_update_other _ _ (Ne.symm hbS)).trans (hk2 b o e))
    have hup2 : ∀ b o, b ≠ S → h2.get? b = some o → ((h2.update S (Obj.mapSeq fun _ => #[Value.ref r])).update S (Obj.mapSeq fun _ => #[Value.ref r])).get? b = some o := fun b o hbS e =>
      (Heap.get?_update_other _ _ (Ne.symm hbS)).trans ((Heap.get?_update_other _ _ (Ne.symm hbS)).trans e)
    have hS0 : ∀ b o, H0.get? b = some o → b ≠ S := fun b o e z => absurd (Heap.lt_size e) (by rw [z]; exact Nat.not_lt.mpr hS)
    have hrS : r ≠ S := by
      rintro rfl
      obtain ⟨o, ho, hc, _⟩ := hr
      rw [hS3] at ho
      cases ho
      injection hc with hc
      exact absurd hc (by decide)
    have hrI : r ≠ Ia := by
      rcases hsr with ⟨rfl, _⟩ | ⟨rfl, _⟩ | ⟨rfl, _⟩
      · exact htI
      · exact fun z => absurd (hb i _ wi hbi hwi).lt (by rw [z]; exact Nat.not_lt.mpr hI)
      · exact fun z => absurd hIlt (by rw [← z]; exact Nat.lt_irrefl _)
    refine wpAny_pure ⟨plainId_quiet F.plain_sum_loop _, ih (i + 1) _ r _ (by omega) (by omega) (fun b o e => hup b o (hS0 b o e) (hkeep' b o e)) ?_ (Heap.get?_update_self _ hS2 rfl) ?_ ?_ hrI fun h3 tk3 t3 k3 a3 s3 => hR h3 tk3 t3 k3 a3 s3⟩
    · refine W.frame _ _ _ hst' fun b hbm o e => hup b o ?_ e
      rcases List.mem_cons.mp hbm with rfl | hbm
      · exact fun z => hSI z.symm
      · have := List.mem_singleton.mp hbm
        rw [this]
        exact fun z => hSl z.symm
    · rw [hcat]
      obtain ⟨o, ho, hc, n, hd⟩ := hr
      exact ⟨o, hup2 r o hrS ho, hc, n, hd⟩
    · rcases hsr with ⟨rfl, hw0⟩ | ⟨rfl, hc0⟩ | ⟨rfl, _⟩
      · rcases hsrc with z | ⟨z1, z2⟩ | ⟨j, z1, z2⟩
        · exact .inl z
        · exact .inr (.inl ⟨z1, by rw [hcat, z2, hw0]; rfl⟩)
        · exact .inr (.inr ⟨j, z1, by rw [hcat, hw0, List.append_nil]; exact z2⟩)
      · exact .inr (.inr ⟨i, hbi, by rw [hcat, hc0, List.nil_append]; exact hwi⟩)
      · exact .inl hIlt2
end
end G

namespace G
open PySem PySem.Spec PyProof.Rows L2
open Sem (wp)
section
variable {prog : Program} {w : World} {A : Around} {E : Value → Shared → Prop} {s : Shared}
theorem call_sumT {l t0 : Addr} {bs : List Addr} {ws : List (List Value)} {Q : Value → Shared → Prop} (hh : A.in1.handled = none) (hl : s.heap.IsList l (bs.map Value.ref).toArray) (ht : IsTup s.heap t0 ([] : List Value).toArray) (hlen : bs.length = ws.length) (hb : ∀ (j : Nat) (b : Addr) (w : List Value), bs[j]? = some b → ws[j]? = some w → IsTup s.heap b w.toArray) (hz : (catW ws ws.length).length ≤ sizeLine)
    (h : ∀ h' tk t', (∀ b o, s.heap.get? b = some o → h'.get? b = some o) → IsTup h' t' (catW ws ws.length).toArray → Src s.heap t0 bs ws t' ws.length → Q (.ref t') { s with heap := h', toks := tk }) :
    wpAny (model prog w) A (call (.builtin "sum") [.ref l, .ref t0]) Q E s := by
  have hll : l < s.heap.objs.size := by obtain ⟨_, e, _⟩ := hl; exact Heap.lt_size e
  refine call_function_tree F.kind_sum F.plain_sum F.entry_sum (args_sum2 _ _) ?_
  unfold Builtin.«sum»
  simp only [List.length_cons, List.length_nil]
  rw [if_neg (by decide)]
  refine wpAny_bind (wpAny_of_eq (show Builtin.Builtins.bindParams "sum" ["start"] 0 ⟨[.ref t0], []⟩ = pure [some (.ref t0)] from rfl) ?_)
  refine wpAny_bind (wpAny_pyIter_list hl ?_)
  refine wpAny_bind (wpAny_pure ?_)
  have ht1 : IsTup (s.heap.push { cls := .type "list_iterator", data := .fields #[.ref l, .int 0 0] }) t0 ([] : List Value).toArray := ht.push _
  simp only [List.forIn_cons, List.forIn_nil]
  refine wpAny_bind (wpAny_bind (wpAny_bind (wpAny_isInstance (T := "tuple") (b := false) ht1.typeIs sub_tup_str ?_)))
  simp only [Bool.false_eq_true, if_false]
  refine wpAny_pure (wpAny_bind (wpAny_bind (wpAny_isInstance (T := "tuple") (b := false) ht1.typeIs sub_tup_bytes ?_)))
  simp only [Bool.false_eq_true, if_false]
  refine wpAny_pure (wpAny_bind (wpAny_bind (wpAny_isInstance (T := "tuple") (b := false) ht1.typeIs sub_tup_bytearray ?_)))
  simp only [Bool.false_eq_true, if_false]
  refine wpAny_pure (wpAny_pure ?_)
  refine wpAny_bind (wpAny_newObj_type ?_)
  have hs1 : (s.heap.push { cls := .type "list_iterator", data := .fields #[.ref l, .int 0 0] }).objs.size = s.heap.objs.size + 1 := by rw [Heap.size_push]
  refine wpAny_pure ⟨plainId_quiet F.plain_sum_loop _, ?_⟩
  refine sum_loopT (H0 := s.heap) (t0 := t0) (bs := bs) (ws := ws) (Ia := s.heap.objs.size) (l := l) (S := (s.heap.push { cls := .type "list_iterator", data := .fields #[.ref l, .int 0 0] }).objs.size) hh (Nat.ne_of_lt hll) hlen hb (Nat.le_refl _) ?_ ?_ ?_ hz bs.length 0 _ t0 0 rfl (Nat.zero_le _) ?_ ?_ (Heap.get?_push_size _ rfl) ?_ (.inr (.inl ⟨rfl, rfl⟩)) ?_ fun h' tk t' a1 a2 a3 => h h' tk t' a1 a2 a3
  · rw [hs1]; exact Nat.le_succ _
  · rw [hs1]; exact Nat.succ_ne_self _
  · rw [hs1]; exact Nat.ne_of_gt (Nat.lt_succ_of_lt hll)
  · exact fun b o e => Heap.get?_push_of_some _ (Heap.get?_push_of_some _ e)
  · refine ⟨?_, (hl.push _).push _⟩
    have h0 : (s.heap.push { cls := .type "list_iterator", data := .fields #[.ref l, .int 0 0] }).IsListIter s.heap.objs.size l 0 := ⟨_, Heap.get?_push_size _ rfl, rfl, rfl⟩
    exact h0.at fun o e => Heap.get?_push_of_some _ e
  · exact (ht1.push _)
  · exact Nat.ne_of_lt ht.lt
end
/-! ### the rule -/
def TupsAt (K : Frg) (H : Hp) : List V → List (List V) → Prop := Paired fun x us => ∃ b, x = V.ref b ∧ SqT K H b us
def rSumTup (K : Frg) : List V → Hp → VK → Prop := fun vs H Q => ∃ (a s0 : Addr) (xs : List V) (uss : List (List V)), vs = [V.ref a, V.ref s0] ∧ SqL K H a xs ∧ SqT K H s0 [] ∧ TupsAt K H xs uss ∧ uss.flatten.length ≤ sizeLine ∧
  (uss.flatten = [] → Q (.ref s0) H) ∧ (∀ (j : Nat) (x : V), xs[j]? = some x → uss[j]? = some uss.flatten → Q x H) ∧ (∀ p, H p = none → Q (.ref p) (upd H p (.tup uss.flatten)))
section
variable {X : Cx}
theorem tups_open {pins : List (Addr × Obj)} {σ : St} {H : Hp} {s : Shared} (I : Inv X pins σ H s) : ∀ {xs : List V} {uss : List (List V)}, TupsAt X.K H xs uss → ∃ (bs : List Addr) (ws : List (List Value)), xs = bs.map V.ref ∧ bs.length = ws.length ∧ (∀ (j : Nat) (b : Addr) (w : List Value), bs[j]? = some b → ws[j]? = some w → IsTup s.heap b w.toArray) ∧ Paired Vals uss ws
  | _, _, .nil => ⟨[], [], rfl, rfl, fun j b w h => by simp at h, .nil⟩
  | _, _, .cons ⟨b, e, h⟩ r => by
    obtain ⟨bs, ws, h1, h2, h3, h4⟩ := tups_open I r
    obtain ⟨its, rv, pt, hz⟩ := I.tuple h
    refine ⟨b :: bs, its :: ws, by rw [e, h1]; rfl, by simp [h2], fun j b' w hb hw => ?_, .cons rv h4⟩
    cases j with
    | zero => simp at hb hw; subst hb hw; exact pt
    | succ j => exact h3 j b' w (by simpa using hb) (by simpa using hw)
theorem paired_flat : ∀ {uss : List (List V)} {ws : List (List Value)}, Paired Vals uss ws → Vals uss.flatten ws.flatten
  | _, _, .nil => .nil
  | _, _, .cons a b => by
    rw [List.flatten_cons, List.flatten_cons]
    exact a.append (paired_flat b)
theorem pair_get {α β : Type} {F : α → β → Prop} : ∀ {xs : List α} {ys : List β}, Paired F xs ys → ∀ (j : Nat) (y : β), ys[j]? = some y → ∃ x, xs[j]? = some x ∧ F x y
  | _, _, .nil, j, y, h => by simp at h
  | _, _, .cons a b, 0, y, h => by simp at h; subst h; exact ⟨_, rfl, a⟩
  | _, _, .cons a b, j + 1, y, h => by
    obtain ⟨x, h1, h2⟩ := pair_get b j y (by simpa using h)
    exact ⟨x, by simpa using h1, h2⟩
theorem vals_refs : ∀ {bs : List Addr} {us : List Value}, Vals (bs.map V.ref) us → us = bs.map Value.ref
  | [], _, .nil => rfl
  | b :: bs, _, .cons r t => by
    have e : _ = Value.ref b := r
    rw [e, vals_refs t]
    rfl
theorem cr_sumTup (hc : X.calm = true) : CallR X (.builtin "sum") (rSumTup X.K) := by
  intro pins s σ H vs us Q I r h
  obtain ⟨a, s0, xs, uss, rfl, hs, ht, hx, hz, q0, q1, q2⟩ := h
  obtain ⟨its, rv, hl, _⟩ := I.list hs
  obtain ⟨its0, rv0, ht0, _⟩ := I.tuple ht
  obtain ⟨bs, ws, e1, e2, e3, e4⟩ := tups_open I hx
  obtain ⟨u1, u2, rfl, ru1, ru2⟩ := vals2 r
  obtain rfl : u1 = Value.ref a := ru1
  obtain rfl : u2 = Value.ref s0 := ru2
  cases rv0
  subst e1
  obtain rfl := vals_refs rv
  have hf := paired_flat e4
  have hcat : catW ws ws.length = ws.flatten := by unfold catW; rw [List.take_length]
  refine call_sumT (I.ok.hd hc) hl.isList ht0 e2 e3 (by rw [hcat, ← hf.length]; exact hz) fun h' tk t' k1 k2 k3 => ?_
  rw [hcat] at k2
  rcases k3 with z | ⟨rfl, z⟩ | ⟨j, z1, z2⟩
  · refine ⟨.ref t', upd H t' (.tup uss.flatten), I.laid k1 z ⟨hz, ws.flatten, hf, k2⟩, rfl, q2 t' (I.hok.fresh z)⟩
  · rw [hcat] at z
    rw [z] at hf
    have : uss.flatten = [] := by cases hh : uss.flatten with
      | nil => rfl
      | cons p q => rw [hh] at hf; cases hf
    exact ⟨.ref t', H, I.kept k1, rfl, q0 this⟩
  · rw [hcat] at z2
    obtain ⟨us, h1, h2⟩ := pair_get e4 j ws.flatten z2
    have : us = uss.flatten := h2.inj hf
    subst this
    exact ⟨.ref t', H, I.kept k1, rfl, q1 j (.ref t') (by rw [List.getElem?_map, z1]; rfl) h1⟩
def tupsOf : List D → Option (List (List D))
  | [] => some []
  | .tuple xs :: r => (tupsOf r).map (xs :: ·)
  | _ :: _ => none
/-- sum(list of tuples, ()) -/
def dSum2 : List D → Option D
  | [.list ds, .tuple []] => (tupsOf ds).bind fun xss => if xss.flatten.length ≤ sizeLine then some (.tuple xss.flatten) else none
  | _ => none
theorem tups_rep {K : Frg} {H : Hp} {A : List Addr} : ∀ {ds : List D} {xss : List (List D)} {vs : List V}, tupsOf ds = some xss → RepL K H A vs ds → ∃ uss : List (List V), TupsAt K H vs uss ∧ RepL K H A uss.flatten xss.flatten ∧ Paired (fun us xs => RepL K H A us xs) uss xss ∧ ds = xss.map PyData.tuple
  | [], _, _, e, .nil => by cases e; exact ⟨[], .nil, .nil, .nil, rfl⟩
  | d :: ds, _, _, e, .cons a b => by
    cases d with
    | tuple xs =>
      obtain ⟨yss, e1, e2⟩ := Option.map_eq_some_iff.mp (show (tupsOf ds).map (xs :: ·) = some _ from e)
      subst e2
      obtain ⟨uss, h1, h2, h3, h4⟩ := tups_rep e1 b
      cases a with
      | tup n hh r =>
        refine ⟨_ :: uss, .cons ⟨_, rfl, .inl (.inl hh)⟩ h1, ?_, .cons r h3, by rw [h4]; rfl⟩
        rw [List.flatten_cons, List.flatten_cons]
        exact r.append h2
      | kt z r =>
        refine ⟨_ :: uss, .cons ⟨_, rfl, .inr z.1⟩ h1, ?_, .cons r h3, by rw [h4]; rfl⟩
        rw [List.flatten_cons, List.flatten_cons]
        exact r.append h2
    | _ => cases e
theorem flat_one {α : Type} : ∀ {xss : List (List α)} {j : Nat} {y : List α}, xss[j]? = some y → y.length = xss.flatten.length → y = xss.flatten
  | [], j, y, h, _ => by simp at h
  | x :: r, 0, y, h, hl => by
    simp at h
    subst h
    rw [List.flatten_cons, List.length_append] at hl
    have : r.flatten = [] := List.length_eq_zero_iff.mp (by omega)
    rw [List.flatten_cons, this, List.append_nil]
  | x :: r, j + 1, y, h, hl => by
    have h2 : r[j]? = some y := by simpa using h
    rw [List.flatten_cons, List.length_append] at hl
    have h3 : y.length ≤ r.flatten.length := List.Sublist.length_le (List.sublist_flatten_of_mem (List.mem_of_getElem? h2))
    have hx : x = [] := List.length_eq_zero_iff.mp (by omega)
    rw [List.flatten_cons, hx, List.nil_append]
    exact flat_one h2 (by omega)
theorem pair_get' {α β : Type} {F : α → β → Prop} : ∀ {xs : List α} {ys : List β}, Paired F xs ys → ∀ (j : Nat) (x : α), xs[j]? = some x → ∃ y, ys[j]? = some y ∧ F x y
  | _, _, .nil, j, y, h => by simp at h
  | _, _, .cons a b, 0, y, h => by simp at h; subst h; exact ⟨_, rfl, a⟩
  | _, _, .cons a b, j + 1, y, h => by
    obtain ⟨x, h1, h2⟩ := pair_get' b j y (by simpa using h)
    exact ⟨x, by simpa using h1, h2⟩
theorem repL_inj_len {K : Frg} {H : Hp} {A : List Addr} {us : List V} {xs : List D} (h : RepL K H A us xs) : us.length = xs.length := h.length
theorem dc_sum2 (hc : X.calm = true) : DCallE X (.builtin "sum") dSum2 := by
  refine ⟨_, cr_sumTup hc, fun H A vs ds d Q ha hv e q => ?_⟩
  unfold dSum2 at e
  split at e
  · obtain ⟨xss, h1, h2⟩ := Option.bind_eq_some_iff.mp e
    split at h2
    · rename_i hz
      cases h2
      cases hv with
      | cons v1 r1 =>
        cases r1 with
        | cons v2 r2 =>
          cases r2
          cases v1 with
          | lst n1 hh1 rl1 =>
            cases v2 with
            | kt z2 rl2 =>
              rcases z2.2 with e9 | e9 <;> (subst e9; cases rl2)
            | tup n2 hh2 rl2 =>
              cases rl2
              obtain ⟨uss, t1, t2, t3, t4⟩ := tups_rep h1 rl1
              refine ⟨_, _, _, uss, rfl, SqL.of hh1, .inl (.inl hh2), t1, by rw [t2.length]; exact hz, fun z => ?_, fun j x hx hu => ?_, fun p hp => q _ _ (same_upd hp) (rep_tup (fun z => ha p z hp) hp t2)⟩
              · have : xss.flatten = [] := by
                  have := t2.length
                  rw [z] at this
                  exact List.length_eq_zero_iff.mp this.symm
                rw [this] at q
                exact q _ H (Same.refl H) (.tup n2 hh2 .nil)
              · obtain ⟨xs, a1, a2⟩ := pair_get' t3 j _ hu
                obtain ⟨d, b1, b2⟩ := repL_get rl1 j x hx
                rw [t4, List.getElem?_map, a1] at b1
                cases b1
                have : xs = xss.flatten := flat_one a1 (by rw [← a2.length, t2.length])
                rw [← this] at q
                exact q x H (Same.refl H) b2
    · cases h2
  · cases e
variable {W : WX} {e : Expr} {es : List Expr} {l : En → R (List D)} {x : Str} {id : String} {df : List D → Option D}
theorem fe_callBE (hc : DCallE X (.builtin id) df) (hg : Gl X x) (hm : X.mg x = none) (hv : bootBuiltins x = some (.builtin id)) (ha : FA X W (e :: es) l) (hn : x ≠ "__name__" := by decide) (hdb : (x == ("__debug__" : Str)) = false := by decide)
    (he : starEach (e :: es) X.env = (false, eval e X.env) :: starEach es X.env := by rfl) (hpl : (backTo pos (starEach es X.env)).any (·.1) = false := by rfl) : FE X W (.Call (.Name x p1) (e :: es) [] pos) (cCall df l) := by
  obtain ⟨r, hr, hs⟩ := hc
  refine impE (pe_callB hr hg hm hv ha hn hdb he hpl) fun σ H Q ⟨H0, A0, A, ρ, o, P⟩ => ?_
  refine ⟨H0, A0, A, ρ, o, P.bind.mono fun ds H1 s1 P1 vs hvs => ?_⟩
  obtain ⟨d, e, P2⟩ := P1.ofO
  exact hs H1 A vs ds d Q (o.same s1).has hvs e fun v H' s hv => P2 H' s v hv
end
end G

namespace G
open PySem PySem.Spec PyProof.Rows L2
/-- a def that promises nothing yet -/
theorem DefG.idle {P : Program} {w : World} {K : Frg} {mg : MgT} {base : Heap} {k : Nat} {x : Str} {st : Stmt} {ps : List Str} (h : DefG K mg x st ps) : CallG P w K mg base k x fun _ => .no := by
  obtain ⟨f, fd, F, hm, hb⟩ := h
  exact ⟨f, fd, ps, ⟨fun A outer s H args us vs ds Av Q E hr hg e0 hb r rd ha q => q.elim⟩, hm, F.kp, hb⟩
end G

namespace G
open PySem PySem.Spec PyProof.Rows L2
open Sem (wp)
/-! ### enumerate of a tuple -/
abbrev tupIt (h : Heap) (t : Addr) : Heap := h.push { cls := .type "tuple_iterator", data := .fields #[.ref t, .int 0 0] }
abbrev tupEn (h : Heap) (t : Addr) : Heap := (tupIt h t).push { cls := .type "enumerate", data := .fields #[.none, .bool false, .ref h.objs.size, rawInt 0, .none, .none] }
set_option maxHeartbeats 1000000 in
theorem new_enumT (t : Addr) (ys : Array Value) :
    Meets (Builtin.«enumerate.__new__» ⟨[.type "enumerate", .ref t], []⟩) (fun _ R s => s.heap.IsTuple t ys ∧ R (.ok (.ret (.ref (tupIt s.heap t).objs.size))) { s with heap := tupEn s.heap t }) :=
  .of_wp fun prog w A R s h => by
    obtain ⟨hp, g, d, tk, os⟩ := s
    obtain ⟨ht, h⟩ := h
    have sb := sub_enumerate
    have hT : Heap.IsTuple (Shared.heap ⟨hp, g, d, tk, os⟩) t ys := ht
    wp_walk
    refine wpAny_stack_any fun st => wpAny_pure ?_
    split
    · rename_i c _ _ _ _ _
      cases (c == Value.type "enumerate") <;> wp_walk using wpAny_pyIter_tuple hT <;> exact ⟨_, rfl, h⟩
    · wp_walk using wpAny_pyIter_tuple hT
      exact ⟨_, rfl, h⟩
section
variable {prog : Program} {w : World} {A : Around} {E : Value → Shared → Prop} {s : Shared}
theorem call_enumT {t : Addr} {ys : Array Value} {Q : Value → Shared → Prop} (hT : s.heap.IsTuple t ys)
    (k : ∀ h', IsEnum h' (s.heap.objs.size + 1) s.heap.objs.size 0 .none → h'.IsTupleIter s.heap.objs.size t 0 → (∀ b o, s.heap.get? b = some o → h'.get? b = some o) → Q (.ref (s.heap.objs.size + 1)) { s with heap := h' }) :
    wpAny (model prog w) A (call (.type "enumerate") [.ref t]) Q E s := by
  have z : (tupIt s.heap t).objs.size = s.heap.objs.size + 1 := Heap.size_push ..
  have g2 : (tupEn s.heap t).get? (tupIt s.heap t).objs.size = some { cls := .type "enumerate", data := .fields #[.none, .bool false, .ref s.heap.objs.size, rawInt 0, .none, .none] } := Heap.get?_push_size _ rfl
  have g1 : (tupEn s.heap t).get? s.heap.objs.size = some _ := Heap.get?_push_of_some _ (Heap.get?_push_size _ rfl)
  refine callType_new F.called_enumerate (by decide) (F.typeCall_enumerate_1 _) (F.newCall_enumerate_1 _) (fun obj => F.args_object_init_2 obj _) F.entry_enumerate_new (new_enumT t ys) ⟨hT, ?_⟩
  rw [z] at g2
  show _ ∧ _
  rw [z]
  exact ⟨⟨_, g2, rfl⟩, k _ g2 ⟨_, g1, rfl, rfl⟩ fun b o x => Heap.get?_push_of_some _ (Heap.get?_push_of_some _ x)⟩
theorem next_enumT_end {e it t : Addr} {i : Nat} {ys : Array Value} {old : Value} {Q : Option Value → Shared → Prop} (hh : A.handled = none) (he : IsEnum s.heap e it i old) (hi : s.heap.IsTupleIter it t i) (ht : s.heap.IsTuple t ys) (hx : ys[i]? = none)
    (hQ : ∀ h', Heap.ExtBut it s.heap h' → Q none { s with heap := h' }) : wpAny (model prog w) A (pyNext (.ref e)) Q E s := by
  have hT : s.TypeIs (.ref e) "enumerate" := ⟨_, he, rfl⟩
  unfold pyNext
  refine wpAny_bind (wpAny_attempt (wpAny_callSpecial?_slot (name := Str.ofString "__next__") hT F.slot_enumerate_next (wpAny_call_entry F.slot_enumerate_next hT F.entry_enumerate_next ?_ (F.args_enumerate_next_1 _))))
  show wpAny _ _ (field (.ref e) 2 >>= _) _ _ _
  refine wpAny_bind (wpAny_field he rfl (x := .ref it) rfl ?_)
  refine wpAny_bind (wpAny_nextOf_tuple_end hh hi ht hx fun h' x he' hx' => ?_)
  obtain ⟨o, ho, hc⟩ := hx'
  exact wpAny_bind (wpAny_isInstance (T := "StopIteration") (b := true) ⟨o, ho, hc⟩ isSubtype_stop (wpAny_pure (hQ _ he')))
end
/-- the tuple at a as it stands at each turn, each item in a new pair -/
def IteT (K : PySem.W.Frag) (a : Addr) : It :=
  ⟨fun i H => ∃ (xs : List V) (x : V), SqT K H a xs ∧ xs[i]? = some x, fun i H v H' => ∃ T x, v = .ref T ∧ H T = none ∧ H' = upd H T (.tup [.int (i : Nat), x]) ∧ ∀ xs, SqT K H a xs → xs[i]? = some x, fun i H => ∃ xs : List V, SqT K H a xs ∧ xs.length ≤ i⟩
theorem turn_enumT {P : Program} {w : World} {K : PySem.W.Frag} {elts : List Expr} {kk : Nat} {tpos : Pos} (a e it : Addr) :
    Turn P w K (.Tuple elts kk tpos) (IteT K a) [e, it] e (fun i h => (∃ old, IsEnum h e it ((i : Nat) : Int) old) ∧ h.IsTupleIter it a i ∧ e ≠ it ∧ a ≠ it ∧ a ≠ e) where
  mem := by simp
  obj := fun i h st b hb => by
    obtain ⟨⟨old, he⟩, ⟨o, ho, _, hd⟩, _⟩ := st
    rcases (show b = e ∨ b = it by simpa using hb) with z | z <;> rw [z]
    · exact ⟨_, he, fun v q => nomatch q⟩
    · exact ⟨o, ho, fun v q => by rw [hd] at q; cases q⟩
  keep := fun i h h' st k => let ⟨⟨old, he⟩, hi, hne⟩ := st; ⟨⟨old, k e (by simp) _ he⟩, hi.at fun o q => k it (by simp) o q, hne⟩
  item := by
    intro X hP hw hK hc i pins s σ H E I hf st hg
    subst hP hw hK
    obtain ⟨⟨old, he⟩, hit, hne, hai, hae⟩ := st
    obtain ⟨xs, x, hq, hx⟩ := hg
    obtain ⟨its, rv, p, hz⟩ := I.tuple hq
    obtain ⟨u, hu, ru⟩ := rv.get hx
    have hel : e < s.heap.objs.size := Heap.lt_size he
    have hil : it < s.heap.objs.size := by obtain ⟨_, q, _⟩ := hit; exact Heap.lt_size q
    have hu' : its.toArray[i]? = some u := by simpa using hu
    have hlt : i < its.toArray.size := by
      rcases Nat.lt_or_ge i its.toArray.size with h | h
      · exact h
      · rw [Array.getElem?_eq_none h] at hu'; cases hu'
    refine wpAny_pyNext_enum_itemD (Draws.tuple (A := X.A.in1) (show X.A.in1.handled = none from I.ok.hd hc) it a hai its.toArray) he ⟨hit, p⟩ hlt hne (by simp [hne, Ne.symm hae]) fun y h' tk hy ho st' hT hsz hk => ?_
    obtain rfl : y = u := by rw [hu'] at hy; exact (Option.some.inj hy).symm
    refine ⟨_, rfl, wpAny_letOwnedTupleGo_enum (s := { s with heap := h', toks := tk + 1 }) ho fun h'' he' sb => ?_⟩
    have hT2 : h''.get? s.heap.objs.size = some { cls := .type "tuple", data := .seq #[.int i tk, y] } := (sb.2 _ (Nat.ne_of_gt hel)).trans hT
    have new : ObjOk X.prog X.w (upd H s.heap.objs.size (.tup [.int (i : Nat), x])) h'' s.heap.objs.size (.tup [.int (i : Nat), x]) :=
      ⟨by show 2 ≤ sizeLine; decide, [.int i tk, y], .cons ⟨_, rfl⟩ (.cons ru .nil), ⟨_, hT2, rfl, _, rfl⟩⟩
    have I1 : Inv X pins σ (upd H s.heap.objs.size (.tup [.int (i : Nat), x])) { s with heap := h'', toks := tk + 1 } :=
      I.turnedNew (ch := [e, it]) (fun b ob hb q => (sb.2 b (fun z => hb (by simp [z]))).trans (hk b ob (fun z => hb (by simp [z])) (fun z => hb (by simp [z])) q)) hf (Nat.le_refl _) new
    refine ⟨.ref s.heap.objs.size, _, I1, rfl, ⟨_, x, rfl, I.hok.fresh (Nat.le_refl _), rfl, fun ys hy => by rw [I.tuple_inj hy hq]; exact hx⟩, ⟨⟨y, ?_⟩, st'.1.at fun o q => (sb.2 it (Ne.symm hne)).trans q, hne, hai, hae⟩, fun b hb => ?_⟩
    · rw [show ((i + 1 : Nat) : Int) = (i : Int) + 1 by omega]; exact he'
    · have hb' : b < s.heap.objs.size := by
        rcases (show b = e ∨ b = it by simpa using hb) with z | z <;> rw [z] <;> assumption
      rw [upd_ne (Nat.ne_of_lt hb')]
      exact (hf b hb).1
  done := by
    intro X hP hw hK hc i pins s σ H E I hf st hg
    subst hP hw hK
    obtain ⟨⟨old, he⟩, hit, hne, hai, hae⟩ := st
    obtain ⟨xs, hq, hx⟩ := hg
    obtain ⟨its, rv, p, hz⟩ := I.tuple hq
    obtain ⟨f0, f1, f2, f3, f4, f5⟩ := hf it (by simp)
    have hl := rv.length
    exact next_enumT_end (I.ok.hd hc) he hit p (by simp; omega) fun h' eb => ⟨rfl, I.turned (t' := s.toks) (fun b o hb q => eb b o hb q) f0 f1 f3 f4 f5⟩
  self := fun A i s Q E st h => let ⟨⟨_, he⟩, _⟩ := st; wpAny_pyIter_enum he h
def iEnumT (K : PySem.W.Frag) (ta : TA) : TI := fun σ H R => ta σ H fun vs H1 => ∃ a xs, vs = [.ref a] ∧ SqT K H1 a xs ∧ R (IteT K a) H1
theorem pi_enumT {X : Cx} {e : Expr} {ta : TA} {p pos tpos : Pos} {elts : List Expr} {kk : Nat} (hg : Gl X "enumerate") (hm : X.mg "enumerate" = none) (ha : PA X [e] ta) (hs : starEach [e] X.env = [(false, eval e X.env)] := by rfl) :
    PI X (.Tuple elts kk tpos) (.Call (.Name "enumerate" p) [e] [] pos) (iEnumT X.K ta) := by
  refine ⟨fun pins s σ H R I h => ?_⟩
  refine Call_ (ld_blt I hg hm boot_enumerate (PyProof.Rows.callWith_type1 (thn (ha.run pos pins s σ H _ I h) fun us s1 ⟨vs, H1, I1, r1, q1⟩ => ?_) hs rfl))
  obtain ⟨a, xs, ex, hq, q⟩ := q1
  subst ex
  cases r1 with
  | cons r rr =>
    cases rr
    cases r
    obtain ⟨its, rv, p', hz⟩ := I1.tuple hq
    have hlt : a < s1.heap.objs.size := by obtain ⟨_, q, _⟩ := id p'; exact Heap.lt_size q
    refine call_enumT p' fun h' he hit hk => wpAny_pyIter_enum he ?_
    have I2 : Inv X pins σ H1 { s1 with heap := h' } := I1.kept (t' := s1.toks) hk
    refine ⟨s1.heap.objs.size + 1, [s1.heap.objs.size + 1, s1.heap.objs.size], _, _, H1, rfl, I2, turn_enumT a (s1.heap.objs.size + 1) s1.heap.objs.size, ⟨⟨.none, he⟩, hit, Nat.succ_ne_self _, Nat.ne_of_lt hlt, Nat.ne_of_lt (Nat.lt_succ_of_lt hlt)⟩, fun b hb => ?_, q⟩
    have hle : s1.heap.objs.size ≤ b := by
      rcases (show b = s1.heap.objs.size + 1 ∨ b = s1.heap.objs.size by simpa using hb) with z | z <;> rw [z] <;> omega
    exact I1.fpOk hle (I1.hok.fresh hle)
def dEnumT : List D → Option (List D)
  | [.tuple xs] => some (enumL 0 xs)
  | _ => none
theorem walk_iteT {K : Frg} {A : List Addr} {H : Hp} {a : Addr} {ds : List D} (r : Rep K H A (.ref a) (.tuple ds)) : WalkJ K A (IteT K a) H (enumL 0 ds) := fun A' H' u hA => by
  obtain ⟨b, vs, e, h, rl, _⟩ := rep_tupAt (H' := H') (A' := A') (r.tr u)
  cases e
  refine ⟨fun i d hd => ?_, vs, h, by rw [rl.length, enumL_length]; exact Nat.le_refl _⟩
  rw [enumL_get] at hd
  obtain ⟨d1, h1, h2⟩ := Option.map_eq_some_iff.mp hd
  subst h2
  obtain ⟨v, h3, h4⟩ := rl.get h1
  refine ⟨⟨vs, v, h, h3⟩, fun x H'' ⟨T, x1, e1, n, e2, y⟩ => ?_⟩
  subst e1
  subst e2
  have := y vs (h)
  rw [h3] at this
  cases this
  refine ⟨same_upd n, rep_tup (fun z => (hA T z).1 n) n (.cons ?_ (.one h4))⟩
  rw [Nat.zero_add]
  exact .int _
section
variable {X : Cx} {W : WX} {e : Expr} {l : En → R (List D)} {pos q1 : Pos}
theorem fi_enumT {elts : List Expr} {kk : Nat} {tpos : Pos} (hg : Gl X "enumerate") (hm : X.mg "enumerate" = none) (ha : FA X W [e] l) (hs : starEach [e] X.env = [(false, eval e X.env)] := by rfl) :
    FI X W (.Tuple elts kk tpos) (.Call (.Name "enumerate" q1) [e] [] pos) (cIter dEnumT l) := impI (pi_enumT hg hm ha hs) fun σ H Q ⟨H0, A0, A, ρ, ok, P⟩ => by
  refine ⟨H0, A0, A, ρ, ok, P.bind.mono fun ds H1 s1 P1 vs hv => ?_⟩
  obtain ⟨es, e1, q⟩ := P1.ofO
  unfold dEnumT at e1
  split at e1
  · cases e1
    cases hv with
    | cons r t =>
      cases t
      obtain ⟨p, us, rfl, h1, rl, _⟩ := rep_tupAt (H' := H1) (A' := A) r
      exact ⟨p, us, rfl, h1, q H1 (Same.refl _) _ (walk_iteT r)⟩
  · cases e1
end
end G

namespace G
open PySem PySem.Spec PyProof.Rows L2
/-! ### an end that is reached while an error is in hand -/
section
variable {pr : Program} {wd : World} {B : Around} {Er : Value → Shared → Prop} {z : Shared} {tr src k1 : Addr} {j : Nat} {cells : Array Value}
theorem endL {R : Option Value → Shared → Prop} (hot : HotX.HotAt B k1 z.heap) (ne : k1 ≠ tr) (at_ : z.heap.IsListIter tr src j) (is_ : z.heap.IsList src cells) (out : cells[j]? = none)
    (q : ∀ g, Heap.ExtBut tr z.heap g → R none { z with heap := g }) : wpAny (model pr wd) B (pyNext (.ref tr)) R Er z := by
  obtain ⟨oi, gi, ci, di⟩ := id at_
  obtain ⟨os, gs, _, ns, ds⟩ := is_
  obtain ⟨hd, ok, fk, gk, dk, ck⟩ := hot
  unfold pyNext
  refine wpAny_bind (wpAny_attempt (wpAny_callSpecial?_slot (name := Str.ofString "__next__") at_.typeIs slot_listiter_next
    (wpAny_call_entry slot_listiter_next at_.typeIs entry_listiter_next ?_ (args_listiter_next _))))
  show wpAny _ _ (field (.ref tr) 0 >>= _) _ _ z
  refine wpAny_bind (wpAny_field gi di (x := .ref src) rfl ?_)
  show wpAny _ _ (if (Value.ref src == Value.none) = true then _ else _) _ _ z
  rw [if_neg (show ¬ ((Value.ref src == Value.none) = true) from Bool.false_ne_true)]
  show wpAny _ _ (field (.ref tr) 1 >>= _) _ _ z
  refine wpAny_bind (wpAny_field gi di (x := .int j 0) rfl ?_)
  show wpAny _ _ (seqItems? (.ref src) >>= _) _ _ z
  refine wpAny_bind (wpAny_seqItems gs ds ?_)
  simp only [Int.toNat_natCast, out]
  refine wpAny_bind (wpAny_rule (wpAny_bind (wpAny_setField gi di (by simp) ?_)))
  show wpAny _ _ (newExc (.type "StopIteration") [] >>= _) _ _ _
  refine wpAny_bind ?_
  simp only [newExc, newTuple]
  refine wpAny_bind (wpAny_newObj_type ?_ (by size_fits))
  refine wpAny_bind (m := firstArgMember _ _) (wpAny_of_eq (a := Value.none) (by first | rfl | (simp only [firstArgMember]; rfl)) ?_)
  refine wpAny_newObj_type ?_ (by size_fits)
  have gk' : ∀ (f : Obj → Obj), (z.heap.update tr f).get? k1 = some ok := fun f => by rw [Heap.get?_update_other _ _ (Ne.symm ne)]; exact gk
  refine HotX.raiseNew_hot ⟨hd, ok, fk, Heap.get?_push_of_some _ (Heap.get?_push_of_some _ (gk' _)), dk, ck⟩ (Nat.ne_of_lt (Heap.lt_size (Heap.get?_push_of_some _ (gk' _)))) (Heap.get?_push_size _ rfl) rfl (by first | (simp; done) | (simp; omega) | (simp only [Array.size_append]; simp; omega)) ?_
  refine wpAny_bind (wpAny_isInstance (T := "StopIteration") (b := true) ⟨_, Heap.get?_update_self _ (Heap.get?_push_size _ rfl) rfl, rfl⟩ isSubtype_stop ?_)
  refine wpAny_pure (q _ fun b o hb e => ?_)
  have e2 : ∀ (f : Obj → Obj), (z.heap.update tr f).get? b = some o := fun f => by rw [Heap.get?_update_other _ _ (Ne.symm hb)]; exact e
  rw [Heap.get?_update_other _ _ (Nat.ne_of_gt (Heap.lt_size (Heap.get?_push_of_some _ (e2 _))))]
  exact Heap.get?_push_of_some _ (Heap.get?_push_of_some _ (e2 _))
theorem endT {R : Option Value → Shared → Prop} (hot : HotX.HotAt B k1 z.heap) (ne : k1 ≠ tr) (at_ : IsTupIter z.heap tr src j) (is_ : IsTup z.heap src cells) (out : cells[j]? = none)
    (q : ∀ g, Heap.ExtBut tr z.heap g → R none { z with heap := g }) : wpAny (model pr wd) B (pyNext (.ref tr)) R Er z := by
  obtain ⟨oi, gi, ci, di⟩ := id at_
  obtain ⟨os, gs, _, ns, ds⟩ := is_
  obtain ⟨hd, ok, fk, gk, dk, ck⟩ := hot
  unfold pyNext
  refine wpAny_bind (wpAny_attempt (wpAny_callSpecial?_slot (name := Str.ofString "__next__") at_.typeIs slot_tupleiter_next
    (wpAny_call_entry slot_tupleiter_next at_.typeIs entry_tupleiter_next ?_ (args_tupleiter_next _))))
  show wpAny _ _ (field (.ref tr) 0 >>= _) _ _ z
  refine wpAny_bind (wpAny_field gi di (x := .ref src) rfl ?_)
  show wpAny _ _ (if (Value.ref src == Value.none) = true then _ else _) _ _ z
  rw [if_neg (show ¬ ((Value.ref src == Value.none) = true) from Bool.false_ne_true)]
  show wpAny _ _ (field (.ref tr) 1 >>= _) _ _ z
  refine wpAny_bind (wpAny_field gi di (x := .int j 0) rfl ?_)
  show wpAny _ _ (seqItems? (.ref src) >>= _) _ _ z
  refine wpAny_bind (wpAny_seqItems gs ds ?_)
  simp only [Int.toNat_natCast, out]
  refine wpAny_bind (wpAny_rule (wpAny_bind (wpAny_setField gi di (by simp) ?_)))
  show wpAny _ _ (newExc (.type "StopIteration") [] >>= _) _ _ _
  refine wpAny_bind ?_
  simp only [newExc, newTuple]
  refine wpAny_bind (wpAny_newObj_type ?_ (by size_fits))
  refine wpAny_bind (m := firstArgMember _ _) (wpAny_of_eq (a := Value.none) (by first | rfl | (simp only [firstArgMember]; rfl)) ?_)
  refine wpAny_newObj_type ?_ (by size_fits)
  have gk' : ∀ (f : Obj → Obj), (z.heap.update tr f).get? k1 = some ok := fun f => by rw [Heap.get?_update_other _ _ (Ne.symm ne)]; exact gk
  refine HotX.raiseNew_hot ⟨hd, ok, fk, Heap.get?_push_of_some _ (Heap.get?_push_of_some _ (gk' _)), dk, ck⟩ (Nat.ne_of_lt (Heap.lt_size (Heap.get?_push_of_some _ (gk' _)))) (Heap.get?_push_size _ rfl) rfl (by first | (simp; done) | (simp; omega) | (simp only [Array.size_append]; simp; omega)) ?_
  refine wpAny_bind (wpAny_isInstance (T := "StopIteration") (b := true) ⟨_, Heap.get?_update_self _ (Heap.get?_push_size _ rfl) rfl, rfl⟩ isSubtype_stop ?_)
  refine wpAny_pure (q _ fun b o hb e => ?_)
  have e2 : ∀ (f : Obj → Obj), (z.heap.update tr f).get? b = some o := fun f => by rw [Heap.get?_update_other _ _ (Ne.symm hb)]; exact e
  rw [Heap.get?_update_other _ _ (Nat.ne_of_gt (Heap.lt_size (Heap.get?_push_of_some _ (e2 _))))]
  exact Heap.get?_push_of_some _ (Heap.get?_push_of_some _ (e2 _))
theorem itemsT {R : List Value → Shared → Prop} (hot : HotX.HotAt B k1 z.heap) (is_ : IsTup z.heap src cells) (q : ∀ g, Heap.ExtBut z.heap.objs.size z.heap g → R cells.toList { z with heap := g }) :
    wpAny (model pr wd) B (unpackItems (.ref src) cells.size none) R Er z := by
  have lt : src ≠ z.heap.objs.size := by
    obtain ⟨o, e, _⟩ := is_
    exact Nat.ne_of_lt (Heap.lt_size e)
  obtain ⟨hd, ok, fk, gk, dk, ck⟩ := hot
  have lk : k1 ≠ z.heap.objs.size := Nat.ne_of_lt (Heap.lt_size gk)
  unfold unpackItems
  refine wpAny_bind ?_
  · unfold notIterableAtAll
    refine wpAny_bind (wpAny_specialOf is_.typeIs slot_tuple_iter.lookup (wpAny_pure ?_))
    simp only [Bool.false_eq_true, if_false]
    refine wpAny_bind (wpAny_holding (iter_tuple is_ (wpAny_bind (wpAny_holding (draw_tuple lt cells.size 0 _ _ ⟨_, Heap.get?_push_size _ rfl, rfl, rfl⟩ (is_.push _) (by omega) fun g at_ but => ?_)))))
    rw [show List.take cells.size (List.drop 0 cells.toList) = cells.toList by rw [List.drop_zero]; exact List.take_of_length_le (by simp), if_neg (by simp)]
    refine wpAny_bind (wpAny_holding (endT (k1 := k1) ⟨hd, ok, fk, but.extBut k1 ok lk (Heap.get?_push_of_some _ gk), dk, ck⟩ lk at_ ((is_.push _).extBut but.extBut lt) (by simp) fun g2 e2 => ?_))
    simp only [Option.isSome_none, Bool.false_eq_true, if_false]
    exact wpAny_pure (q g2 fun b o hb e => e2 b o hb (but.extBut b o hb (Heap.get?_push_of_some _ e)))
theorem putT {env : Env} {es : List Expr} {kk} {pos : Pos} {R : Unit → Shared → Prop} (hot : HotX.HotAt B k1 z.heap) (is_ : IsTup z.heap src cells) (num : (assignEach es env).length = cells.size) (st : (assignEach es env).findIdx? (·.1) = none)
    (q : ∀ g, Heap.ExtBut z.heap.objs.size z.heap g → wpAny (model pr wd) B (assignInOrder ((assignEach es env).map (·.2)) cells.toList) R Er { z with heap := g }) :
    wpAny (model pr wd) B (assign (.Tuple es kk pos) env (.ref src)) R Er z := by
  rw [assign_Tuple]
  refine wpAny_bind (wpAny_standAt ?_)
  unfold unpack
  rw [num, st]
  exact wpAny_bind (wpAny_holding (itemsT hot is_ q))
end
section
variable {X : Cx} {pos : Pos}
theorem pg_tupK {es : List Expr} {k n : Nat} {t : TGs} (hc : L2H.HotC X) (h : PGs X es t) (num : (assignEach es X.env).length = n := by rfl) (st : (assignEach es X.env).findIdx? (·.1) = none := by rfl) :
    PG X (.Tuple es k pos) (gTup X.K n t) := by
  refine ⟨fun pins z σ H v u Q J r w => ?_⟩
  obtain ⟨a, xs, rfl, sq, lx, w⟩ := w
  cases r
  obtain ⟨vs, rv, is_, _⟩ := J.tuple sq
  obtain ⟨k1, hot⟩ := hc.at J
  refine putT hot is_ (by simp [num, ← lx, rv.length]) st fun g ex => ?_
  exact h.run pins _ σ H xs _ Q (J.kept (t' := z.toks) fun b o e => ex b o (Nat.ne_of_lt (Heap.lt_size e)) e) (by simpa using rv) w
theorem fg_tupK {es : List Expr} {k n : Nat} {ix : List Nat} {tgs : List D → En → Option En} (hc : L2H.HotC X) (hg : FGs X es ix tgs) (hl : ∀ ds ρ ρ', tgs ds ρ = some ρ' → ds.length = n)
    (hn : (assignEach es X.env).length = n := by rfl) (hst : (assignEach es X.env).findIdx? (·.1) = none := by rfl) : FG X (.Tuple es k pos) ix (gT tgs) := impG (pg_tupK hc hg hn hst) fun v σ H Q ⟨H0, A0, A, ρ, d, ρ', o, r, e, q⟩ => by
  unfold gT at e
  split at e
  · obtain ⟨a, vs, rfl, h1, r1⟩ := (RepB.of r).tup
    exact ⟨a, vs, rfl, h1, by rw [r1.length]; exact hl _ _ _ e, H0, A0, A, ρ, _, ρ', o, r1, e, q⟩
  · cases e
/-- the items of a list, one by one -/
theorem turnK {P : Program} {w : World} {K : PySem.W.Frag} {tg : Expr} (src tr : Addr) : L2H.TurnH P w K tg (Itl K src) [tr] tr (fun j g => g.IsListIter tr src j) where
  mem := List.mem_cons_self
  obj := fun j g at_ b hb => by
    cases List.mem_singleton.mp hb
    obtain ⟨o, e, _, d⟩ := at_
    exact ⟨o, e, fun v y => by rw [d] at y; cases y⟩
  keep := fun j g g' at_ kp => at_.at fun o e => kp tr List.mem_cons_self o e
  item := by
    intro X hP hw hK hc j pins z σ H E J hf at_ go
    subst hP hw hK
    obtain ⟨xs, x, sq, hx⟩ := go
    obtain ⟨vs, rv, is_, _⟩ := J.list sq
    obtain ⟨u, hu, ru⟩ := rv.get hx
    have fp := hf tr List.mem_cons_self
    refine wpAny_pyNext_list_item at_ is_.isList (x := u) (by simpa using hu) fun g at2 sb => ?_
    have J1 : Inv X pins σ H { z with heap := g } := J.turned (t' := z.toks) (fun b o hb e => (sb.2 b hb).trans e) fp.1 fp.2.1 fp.2.2.2.1 fp.2.2.2.2.1 fp.2.2.2.2.2
    obtain ⟨o, e, c, d⟩ := id at2
    refine ⟨u, rfl, go_of (s := { z with heap := g }) e c d (by decide) ⟨x, H, J1, ru, ⟨rfl, fun ys hy => ?_⟩, at2, fun b hb => (hf b hb).1⟩⟩
    rw [J.list_inj hy sq]
    exact hx
  done := by
    intro X hP hw hK hc j pins z σ H E J hf at_ go
    subst hP hw hK
    obtain ⟨xs, sq, hx⟩ := go
    obtain ⟨vs, rv, is_, _⟩ := J.list sq
    have fp := hf tr List.mem_cons_self
    have hl := rv.length
    obtain ⟨p, ⟨hh, v1, e1, c1⟩, hp⟩ := hc
    have pp := J.pin p (List.mem_append_left _ hp)
    exact endL (k1 := p.1) ⟨hh, p.2, v1, pp.1, e1, c1⟩ (fp.2.2.2.2.2 p (List.mem_append_left _ hp)) at_ is_.isList (by simp; omega) fun g eb => ⟨rfl, J.turned (t' := z.toks) (fun b o hb e => eb b o hb e) fp.1 fp.2.1 fp.2.2.2.1 fp.2.2.2.2.1 fp.2.2.2.2.2⟩
  self := fun _ _ _ _ _ at_ h => wpAny_pyIter_listiter at_ h
theorem pi_listK {tg l : Expr} {tl : TE} (hl : PE X l tl) : L2H.PIH X tg l (iList X.K tl) := by
  refine ⟨fun pins z σ H R J h => thn (hl.run pins z σ H _ J h) fun v z1 ⟨x, H1, J1, r1, a, e, ⟨xs, sq⟩, q⟩ => ?_⟩
  subst e
  cases r1
  obtain ⟨vs, rv, is_, _⟩ := J1.list sq
  refine wpAny_pyIter_list is_.isList ⟨z1.heap.objs.size, [z1.heap.objs.size], _, _, H1, rfl, J1.kept (t' := z1.toks) fun b o e => Heap.get?_push_of_some _ e, turnK a _, ⟨_, Heap.get?_push_size _ rfl, rfl, rfl⟩, fun b hb => ?_, q⟩
  cases List.mem_singleton.mp hb
  exact J1.fpOk (Nat.le_refl _) (J1.hok.fresh (Nat.le_refl _))
/-- a block's context in which the error in hand stays pinned -/
abbrev blkK (X : Cx) (z : Shared) (H : Hp) (scope : Scope) (ce : Env) (fp : List Addr) : Cx := { X.blk z H scope ce fp with pn := X.pn }
theorem blkK_hot {z : Shared} {H : Hp} {scope : Scope} {ce : Env} {fp : List Addr} (hc : L2H.HotC X) : L2H.HotC (blkK X z H scope ce fp) := hc
theorem startK {pins : List (Addr × Obj)} {σ : St} {H : Hp} {z : Shared} {scope : Scope} {own : List (Str × Nat)} {fp : List Addr} (J : Inv X pins σ H z) (ok : BlkOk X.N X.env.scope scope own) (hN : X.N.Nodup) (hfp : ∀ b ∈ fp, FpOk X pins H b ∧ b < z.heap.objs.size) :
    Inv (blkK X z H scope (compEnvC scope (cellsFrom (z.heap.objs.size + 1) scope.names (cloFrom X.env.cells scope.names [])) z.heap.objs.size X.env) fp) [] (wipe σ (own.map (·.2))) H { z with heap := pushCells (z.heap.push { cls := .type "dict", data := .dict #[] }) scope.names } := by
  have S := block_start J ok hN hfp
  have O := S.ok
  refine ⟨⟨O.mod, O.kind, O.glob, O.blt, O.above, O.inj, O.has, O.cab, O.hd, O.frames, O.stk, O.exf, O.bs, O.bsz, O.noex, O.exfs, O.funs, O.frf⟩, S.os, S.bare, S.base, S.loc, S.cell, S.free, S.freeC, fun p hp => ?_, S.hok, S.len⟩
  have hp : p ∈ X.pn := by simpa using hp
  have q := J.pin p (List.mem_append_left _ hp)
  exact ⟨pushCells_keeps _ _ _ _ (Heap.get?_push_of_some _ q.1), q.2.1, Nat.ne_of_lt (Heap.lt_size q.1), fun hm => (List.mem_cons.mp (J.stkSub p.1 hm)).elim q.2.2.1 q.2.2.2.1, q.2.2.2.2⟩
theorem pe_lcK {elt tg iter : Expr} {ifs : List Expr} {scope : Scope} {own : List (Str × Nat)} {wi : TI} {g : TG} {tt : TT} {te : TE} (hc : L2H.HotC X) (hN : X.N.Nodup) (hi : L2H.PIH X tg iter wi) (ok : BlkOk X.N X.env.scope scope own)
    (hg : ∀ (z : Shared) (H : Hp) (C : Addr) (cl : List (Str × Addr)) (fp : List Addr), PG (blkK X z H scope (compEnvC scope cl C X.env) fp) tg g)
    (ht : ∀ (z : Shared) (H : Hp) (C : Addr) (cl : List (Str × Addr)) (fp : List Addr), PTs (blkK X z H scope (compEnvC scope cl C X.env) fp) ifs tt)
    (he : ∀ (z : Shared) (H : Hp) (C : Addr) (cl : List (Str × Addr)) (fp : List Addr), PE (blkK X z H scope (compEnvC scope cl C X.env) fp) elt te) (hs : ∀ x, foldedSetIterable iter X.env x = pure x := by intro _; rfl) :
    PE X (.ListComp elt [⟨tg, iter, ifs, 0⟩] scope pos) (tLc wi g tt te (own.map (·.2))) := by
  refine ⟨fun pins z σ H Q J h => ?_⟩
  rw [eval_ListComp]
  have cl0 : ∀ y ∈ scope.names, y.2 = .free → ∃ c, X.env.cells.lookup y.1 = some c := fun y hy e => (ok.free y hy e).elim (fun k => J.ok.has _ (.inl k)) fun k => J.ok.has _ (.inr k)
  refine wpAny_comprehension_free (use := none) rfl hs (closure_ok cl0) ok.kind (fun y hy e => by rw [ok.uniq y hy, e]) (thn (hi.run pins z σ H _ J h) fun xv z1 hx => thn hx fun itv z2 h2 => ?_)
  obtain ⟨tr, fp, tn, I, H2, rfl, J2, T, at2, f2, q⟩ := h2
  refine wpAny_newObj_type (newEnv_comp ?_) (by show 0 ≤ sizeLine; decide)
  generalize hD : z2.heap.objs.size = D
  obtain ⟨W, ⟨m0, w0⟩, turn⟩ := q D (J2.hok.fresh (Nat.le_of_eq hD))
  generalize hz3 : ({ z2 with heap := z2.heap.push { cls := .type "list", data := .seq ([] : List Value).toArray } } : Shared) = z3
  have hp3 : z3.heap = z2.heap.push { cls := .type "list", data := .seq ([] : List Value).toArray } := by rw [← hz3]
  have J3 : Inv X pins σ (upd H2 D (.lst [])) z3 := by
    subst hz3
    refine J2.laid (t' := z2.toks) (fun b o e => Heap.get?_push_of_some _ e) (Nat.le_of_eq hD) ⟨Nat.zero_le _, [], 0, .nil, ?_⟩
    subst hD
    exact Heap.get?_push_size _ rfl
  have f3 : ∀ b ∈ fp, FpOk X pins (upd H2 D (.lst [])) b ∧ b < z3.heap.objs.size := fun b hb => by
    obtain ⟨o, e, _⟩ := T.obj _ _ at2 b hb
    have lt := Heap.lt_size e
    rw [hp3, Heap.size_push]
    refine ⟨⟨?_, (f2 b hb).2⟩, Nat.lt_succ_of_lt lt⟩
    rw [upd_ne (by rw [← hD]; exact Nat.ne_of_lt lt)]
    exact (f2 b hb).1
  have at3 : tn 0 z3.heap := T.keep _ _ _ at2 fun b _ o e => by rw [hp3]; exact Heap.get?_push_of_some _ e
  have J4 := startK J3 ok hN f3
  have pg := hg z3 (upd H2 D (.lst [])) z3.heap.objs.size (cellsFrom (z3.heap.objs.size + 1) scope.names (cloFrom X.env.cells scope.names [])) fp
  have pt := ht z3 (upd H2 D (.lst [])) z3.heap.objs.size (cellsFrom (z3.heap.objs.size + 1) scope.names (cloFrom X.env.cells scope.names [])) fp
  have pe := he z3 (upd H2 D (.lst [])) z3.heap.objs.size (cellsFrom (z3.heap.objs.size + 1) scope.names (cloFrom X.env.cells scope.names [])) fp
  show codeAny _ _ (.compStart (.ListComp elt [⟨tg, iter, ifs, 0⟩] scope pos) 0 (.ref tr) (.ref D) (compEnvC scope (cellsFrom (z3.heap.objs.size + 1) scope.names (cloFrom X.env.cells scope.names [])) z3.heap.objs.size X.env))
    (compPost (model X.prog X.w) X.A X.xe none (EP X pins σ Q) (.ref D) z3.heap.objs.size) { z3 with heap := pushCells (z3.heap.push { cls := .type "dict", data := .dict #[] }) scope.names }
  generalize hce : compEnvC scope (cellsFrom (z3.heap.objs.size + 1) scope.names (cloFrom X.env.cells scope.names [])) z3.heap.objs.size X.env = ce at J4 pg pt pe ⊢
  have cL : ce.locals = z3.heap.objs.size := by subst hce; rfl
  generalize hH3 : upd H2 D (.lst []) = H3 at J3 J4 pg pt pe w0 f3
  generalize hz4 : ({ z3 with heap := pushCells (z3.heap.push { cls := .type "dict", data := .dict #[] }) scope.names } : Shared) = z4 at J4 ⊢
  have at4 : tn 0 z4.heap := T.keep _ _ _ at3 fun b _ o e => by rw [← hz4]; exact pushCells_keeps _ _ _ _ (Heap.get?_push_of_some _ e)
  have hcB : L2H.HotC (blkK X z3 H3 scope ce fp) := blkK_hot hc
  have fpB : ∀ {σ' : St} {H' : Hp} {z' : Shared}, Inv (blkK X z3 H3 scope ce fp) [] σ' H' z' → (∀ b ∈ fp, H' b = none) → ∀ b ∈ fp, FpOk (blkK X z3 H3 scope ce fp) [] H' b := fun {σ' H' z'} JJ hn b hb =>
    ⟨hn b hb, (JJ.ok.exf b hb).1, JJ.ok.exfs b hb, .inl hb, fun x c e => (JJ.ok.exf b hb).2 x c e, fun p hp => (f3 b hb).1.2.2.2.2.2 p (List.mem_append_left _ (by simpa using hp))⟩
  have hwl : ∀ {σ8 : St}, wipe σ8 (own.map (·.2)) = wipe σ (own.map (·.2)) → (wipe σ (own.map (·.2))).length = σ8.length := fun e => by rw [← e, wipe_length]
  have loop : codeAny (model X.prog X.w) X.A (.compLoop (.ListComp elt [⟨tg, iter, ifs, 0⟩] scope pos) 0 (.ref tr) (.ref D) ce) (compPost (model X.prog X.w) X.A X.xe none (EP X pins σ Q) (.ref D) z3.heap.objs.size) z4 := by
    refine compLoop_any (fun n z' => ∃ i H', Inv (blkK X z3 H3 scope ce fp) [] (wipe σ (own.map (·.2))) H' z' ∧ tn i z'.heap ∧ (∀ b ∈ fp, H' b = none) ∧ W i n H') ?_ m0 ⟨0, H3, J4, at4, fun b hb => (f3 b hb).1.1, w0⟩
    rintro n z5 ⟨i, H5, J5, at5, n5, w5⟩
    rcases turn i n H5 w5 with ⟨stop, qq⟩ | ⟨go, Nx, hNx, step⟩
    · refine thnF (T.done (blkK X z3 H3 scope ce fp) rfl rfl rfl hcB i [] z5 _ H5 (fun _ _ => False) J5 (fpB J5 n5) at5 stop) fun r z6 ⟨hr, J6⟩ => ?_
      subst hr
      have J7 : Inv X pins σ H5 z6 := J3.call' (ch := fp) J6.os J6.base J6.hok J6.bare fun b hb => ⟨(f3 b hb).1.2.2.2.1, (f3 b hb).1.2.1, (f3 b hb).1.2.2.2.2.1, (f3 b hb).1.2.2.2.2.2⟩
      have fr : H5 ce.locals = none := J6.free
      obtain ⟨m, hn, _⟩ := J6.loc
      have hn : z6.heap.Ns ce.locals m := hn
      rw [cL] at hn fr
      obtain ⟨g0, g1, g2, g3, g4, g5⟩ := J3.fpOk (Nat.le_refl _) fr
      exact ⟨m, hn, fun h6 sb => ⟨.ref D, H5, J7.turned (t' := z6.toks) (fun b o hb e => (sb.2 b hb).trans e) g0 g1 g3 g4 g5, rfl, qq⟩⟩
    · refine thnF (T.item (blkK X z3 H3 scope ce fp) rfl rfl rfl hcB i [] z5 _ H5 (fun _ _ => False) J5 (fpB J5 n5) at5 go) fun r z6 ⟨u, hr, h6⟩ => ?_
      subst hr
      refine thnF h6 fun _ z7 ⟨x, H7, J7, r7, y7, at7, n7⟩ => ?_
      refine thnF (pg.run _ z7 _ H7 x u _ (J7.pinned (fpB J7 n7) (T.obj _ _ at7)) r7 (step x H7 y7)) fun _ z8 ⟨σ8, H8, J8, hw8, q8⟩ => ?_
      refine thnF (pt.run _ z8 σ8 H8 _ J8 q8) fun b z9 ⟨H9, J9, q9⟩ => ?_
      have next : ∀ {z' : Shared} {H' : Hp}, Inv (blkK X z3 H3 scope ce fp) ([] ++ pinsAt fp z7.heap) σ8 H' z' → Nx H' → ∃ m, m < n ∧ ∃ i H', Inv (blkK X z3 H3 scope ce fp) [] (wipe σ (own.map (·.2))) H' z' ∧ tn i z'.heap ∧ (∀ b ∈ fp, H' b = none) ∧ W i m H' := fun {z' H'} JJ nx => by
        obtain ⟨m', hm, w'⟩ := hNx H' nx
        have pins' : ∀ b ∈ fp, ∀ o, z7.heap.get? b = some o → z'.heap.get? b = some o ∧ H' b = none := fun b hb o e =>
          have pp := JJ.pin (b, o) (List.mem_append_right _ (List.mem_append_right _ (mem_pinsAt hb e)))
          ⟨pp.1, pp.2.1⟩
        refine ⟨m', hm, i + 1, H', (JJ.unpinned (pins := [])).weak (hwl hw8) (fun j v e => ?_), T.keep _ _ _ at7 fun b hb o e => (pins' b hb o e).1, fun b hb => ?_, w'⟩
        · rw [← hw8] at e
          exact (wipe_some e).1
        · obtain ⟨o, e, _⟩ := T.obj _ _ at7 b hb
          exact (pins' b hb o e).2
      cases b with
      | false => exact next J9 q9
      | true =>
        refine thnF (pe.run _ z9 σ8 H9 _ J9 q9) fun w z10 ⟨yv, H10, J10, r10, acc, hD10, hz10, nx⟩ => ?_
        exact app_ok (X := blkK X z3 H3 scope ce fp) J10 hD10 hz10 r10 fun z11 J11 => next J11 nx
  exact codeAny_compStart_list loop (T.self X.A 0 _ _ _ at4 loop)
def cItemsL (f : En → R D) : En → R (List D) := fun ρ => (f ρ).bind fun d => match d with
  | .list ds => .ok ds
  | _ => .no
theorem fi_itemsK {W : WX} {tg e : Expr} {f : En → R D} (he : FE X W e f) : L2H.PIH X tg e (tFI X.K X.mg W (cItemsL f)) := by
  refine ⟨fun pins z σ H Rr J hw => (pi_listK (tg := tg) he).run pins z σ H Rr J ?_⟩
  obtain ⟨H0, A0, A, ρ, o, P⟩ := hw
  refine ⟨H0, A0, A, ρ, o, P.bind.mono fun d H1 s1 P1 v r => ?_⟩
  cases d with
  | list ds =>
    obtain ⟨a, vs, rfl, h1, rl, _⟩ := rep_listAt (H' := H1) (A' := A) r
    exact ⟨a, rfl, ⟨vs, SqL.of h1⟩, P1 H1 (Same.refl _) _ (walk_itl r)⟩
  | _ => exact P1.elim
theorem fn_lcK {W : WX} {tg iter elt : Expr} {t : Bool} {ifs : List Expr} {l : En → R (List D)} {tgt : TgF} {p : En → R Bool} {f : En → R D} {scope : Scope} {own : List (Str × Nat)} {ix : List Nat} (hc : L2H.HotC X) (hN : X.N.Nodup)
    (hi : L2H.PIH X tg iter (tFI X.K X.mg W l)) (okb : BlkOk X.N X.env.scope scope own)
    (hg : ∀ (s : Shared) (H : Hp) (C : Addr) (cl : List (Str × Addr)) (fp : List Addr), FG (blkK X s H scope (compEnvC scope cl C X.env) fp) tg ix tgt) (hix : ∀ i ∈ ix, i ∈ own.map (·.2))
    (ht : ∀ (s : Shared) (H : Hp) (C : Addr) (cl : List (Str × Addr)) (fp : List Addr), FTs (blkK X s H scope (compEnvC scope cl C X.env) fp) wNo ifs p)
    (he : ∀ (s : Shared) (H : Hp) (C : Addr) (cl : List (Str × Addr)) (fp : List Addr), FE (blkK X s H scope (compEnvC scope cl C X.env) fp) wNo elt f) (hs : ∀ x, foldedSetIterable iter X.env x = pure x := by intro _; rfl) :
    FN X W t (.ListComp elt [⟨tg, iter, ifs, 0⟩] scope pos) (cLc (own.map (·.2)) l tgt p f) :=
  impE (pe_lcK (g := tFG X.K ix tgt) (tt := tFT X.K X.mg wNo p) (te := tF X.K X.mg wNo f) hc hN hi okb hg ht he hs) (lc_read hix)
end
theorem takesN0 {X : Cx} : L2N.Takes X (fun _ _ _ _ => False) := fun _ _ ⟨_, _, _, _, _, _, _, _, _, _, _, _, _, _, _, _, no⟩ => no.elim
end G

namespace G
open PySem PySem.Spec PyProof.Rows L2
/-! ### texts joined -/
def strsOf : List D → Option (List Str)
  | [] => some []
  | .str z :: r => (strsOf r).map (z :: ·)
  | _ => none
def dJoinS (sep : Str) : D → Option D
  | .list ds => (strsOf ds).bind fun ys => if (ys.map (·.length)).sum + ys.length * sep.length ≤ 16777216 then some (.str (Txt.join sep ys)) else none
  | _ => none
def cJoinS (sep : Str) (f : En → R D) : En → R D := fun ρ => (f ρ).bind fun d => ofO (dJoinS sep d)
theorem strs_rep {K : Frg} {H : Hp} {A : List Addr} : ∀ {ds : List D} {vs : List V} {ys : List Str}, RepL K H A vs ds → strsOf ds = some ys → vs = ys.map V.str
  | _, _, ys, .nil, e => by simp only [strsOf] at e; cases e; rfl
  | d :: ds, _, ys, .cons a t, e => by
    cases a with
    | str z =>
      simp only [strsOf] at e
      obtain ⟨r, e1, e2⟩ := Option.map_eq_some_iff.mp e
      subst e2
      rw [strs_rep t e1]
      rfl
    | _ => simp only [strsOf] at e; cases e
theorem fe_joinS {X : Cx} {W : WX} {e : Expr} {f : En → R D} {sep : Str} {j : Nat} {p1 apos pos : Pos} (he : FE X W e f) (hs : starEach [e] X.env = [(false, eval e X.env)] := by rfl) (hbase : attributeBase (.Constant (.str sep) j p1) "join" X.env (eval (.Constant (.str sep) j p1) X.env) = eval (.Constant (.str sep) j p1) X.env := by rfl) (hline : (apos.endLine == pos.line) = true := by rfl) :
    FE X W (.Call (.Attribute (.Constant (.str sep) j p1) "join" apos) [e] [] pos) (cJoinS sep f) := impE (pe_join pe_str he hs hbase hline) fun σ H Q ⟨H0, A0, A, ρ, o, P⟩ => by
  refine ⟨⟨_, rfl⟩, H0, A0, A, ρ, o, P.bind.mono fun d H1 s1 P1 v r => ?_⟩
  obtain ⟨d2, e1, q⟩ := P1.ofO
  unfold dJoinS at e1
  split at e1
  · rename_i ds
    obtain ⟨ys, e2, e3⟩ := Option.bind_eq_some_iff.mp e1
    split at e3
    · rename_i hz
      cases e3
      obtain ⟨a, vs, rfl, h1, rl, _⟩ := rep_listAt (H' := H1) (A' := A) r
      rw [strs_rep rl e2] at h1
      exact ⟨sep, a, ys, rfl, rfl, .inl (SqL.of h1), hz, q H1 (Same.refl _) _ (.str _)⟩
    · cases e3
  · cases e1
/-! ### isinstance of the caught error -/
structure IsC (K : Frg) (C : Addr) : Prop where
  cl : (PySem.W.clsIn K C).isSome = true
  ca : PySem.W.findIn K (.ref C) "__class__" = some (some (.builtin "object.__class__"))
  cn : PySem.W.specialIn K (.builtin "object.__class__") "__get__" = some (some (.builtin "getset_descriptor.__get__"))
  ct : PySem.W.takesIn K (.builtin "object.__class__") = some true
  cm : PySem.W.mroIn K C (.type "object") = some true
theorem ExM.named {P : Program} {K : Frg} {mg : MgT} {c x : String} {b : Bool} (h : ExM P K mg c x b) : ∃ v, mg (Str.ofString x) = some v := by
  obtain ⟨_, v, _, e, _⟩ := h
  exact ⟨v, e⟩
def IsG (K : Frg) (mg : MgT) (c : String) : Prop := ∃ C, mg (Str.ofString c) = some (.ref C) ∧ IsC K C
def IsO (K : Frg) (mg : MgT) (c x : String) (b : Bool) : Prop := ∃ u C2, mg (Str.ofString c) = some u ∧ mg (Str.ofString x) = some (.ref C2) ∧ PySem.W.kitOne K u (.ref C2) = some b
def rIsX (K : Frg) (C a dd : Addr) : List V → Hp → VK → Prop := fun xs H Q => ∃ (c : Addr) (b : Bool) (v : V), xs = [.ref a, .ref c] ∧ PySem.W.kitOne K (.ref C) (.ref c) = some b ∧ H dd = some (.xd [(("at" : Str), v)]) ∧ Q (.bl b) H
section
variable {X : Cx} {a C D1 fI dd : Addr} {oe : Obj} {pn : List (Addr × Obj)} {n : Str} {i j : Nat}
theorem call_isX (T : PySem.AeX.Txt X.prog X.K X.mg C D1 fI) (S : IsC X.K C) (hz : Zc (.ref C) (some dd) oe) (hf : ∃ vs, oe.data = .fields vs) : CallR (X.suite a ((a, oe) :: pn)) (.builtin "isinstance") (rIsX X.K C a dd) := by
  intro pins s σ H xs us Q I r h
  obtain ⟨c, b, v, rfl, e, ea, q⟩ := h
  obtain ⟨u1, u2, rfl, r1, r2⟩ := vals2 r
  cases (show u1 = Value.ref a from r1)
  cases (show u2 = Value.ref c from r2)
  obtain ⟨vs, hd⟩ := hf
  obtain ⟨ha, _⟩ := I.pin (a, oe) (List.mem_append_left _ List.mem_cons_self)
  obtain ⟨mA, hns, hr⟩ := (show ObjOk X.prog X.w H s.heap dd (.xd [(("at" : Str), v)]) from I.hok dd _ ea)
  obtain ⟨od, ho, hl⟩ := lookIn_ns hns
  have IA : PySem.W.InstAt s.heap a oe C (some od) := ⟨ha, hz.1, by unfold PySem.W.notCls; rw [hd] <;> rfl, by rw [hz.2]; exact ho⟩
  exact PySem.W.kia_one (PySem.W.kitx_exc S.cl T.ga T.gg T.exC S.ca S.cn S.ct S.cm) I.kIn IA e (fun z => nomatch z) fun tk => ⟨.bl b, H, I.kept (t' := tk) fun _ _ z => z, rfl, q⟩
inductive NmE (X : Cx) (n : Str) : List Expr → List (Str × String) → Prop
  | nil : NmE X n [] []
  | cons {z : Str} {x : String} {k j : Nat} {p1 p2 p3 p4 p5 p6 : Pos} {es : List Expr} {ws : List (Str × String)} (hi : Gl X "isinstance") (hb : X.mg "isinstance" = none) (hg : Gl X (Str.ofString x)) (hdb : ((Str.ofString x) == ("__debug__" : Str)) = false)
      (s0 : starEach (.Tuple [.Constant (.str z) j p1, .Call (.Name "isinstance" p2) [.Name n p3, .Name (Str.ofString x) p4] [] p5] k p6 :: es) X.env = (false, eval (.Tuple [.Constant (.str z) j p1, .Call (.Name "isinstance" p2) [.Name n p3, .Name (Str.ofString x) p4] [] p5] k p6) X.env) :: starEach es X.env)
      (s1 : starEach [.Constant (.str z) j p1, .Call (.Name "isinstance" p2) [.Name n p3, .Name (Str.ofString x) p4] [] p5] X.env = (false, eval (.Constant (.str z) j p1) X.env) :: starEach [.Call (.Name "isinstance" p2) [.Name n p3, .Name (Str.ofString x) p4] [] p5] X.env)
      (s2 : starEach [.Call (.Name "isinstance" p2) [.Name n p3, .Name (Str.ofString x) p4] [] p5] X.env = (false, eval (.Call (.Name "isinstance" p2) [.Name n p3, .Name (Str.ofString x) p4] [] p5) X.env) :: starEach [] X.env)
      (s3 : starEach [.Name n p3, .Name (Str.ofString x) p4] X.env = (false, eval (.Name n p3) X.env) :: starEach [.Name (Str.ofString x) p4] X.env)
      (s4 : starEach [.Name (Str.ofString x) p4] X.env = (false, eval (.Name (Str.ofString x) p4) X.env) :: starEach [] X.env)
      (s5 : (backTo p5 (starEach [.Name (Str.ofString x) p4] X.env)).any (·.1) = false) (rest : NmE X n es ws) :
      NmE X n (.Tuple [.Constant (.str z) j p1, .Call (.Name "isinstance" p2) [.Name n p3, .Name (Str.ofString x) p4] [] p5] k p6 :: es) ((z, x) :: ws)
abbrev Fl := Str × Addr × Bool
def flD (l : List Fl) : List D := l.map fun q => .tuple [.str q.1, .bool q.2.2]
def NmOk (K : Frg) (mg : MgT) (C : Addr) : List (Str × String) → List Fl → Prop := Paired fun w q => w.1 = q.1 ∧ mg (Str.ofString w.2) = some (.ref q.2.1) ∧ PySem.W.kitOne K (.ref C) (.ref q.2.1) = some q.2.2
def tNm (K : Frg) (dd : Addr) (i : Nat) (a : Addr) (v : V) (l : List Fl) : TA := fun σ H Q => σ[i]? = some (some (.ref a)) ∧ H dd = some (.xd [(("at" : Str), v)]) ∧ ∀ vs H', Same H H' → (∀ A : List Addr, (∀ y ∈ A, H y ≠ none) → RepL K H' A vs (flD l)) → Q vs H'
theorem pa_names (hN : X.N[i]? = some n) (hv : Vis X.env.scope n) (hd : (n == ("__debug__" : Str)) = false) (hcd : (n == ("__classdict__" : Str)) = false) (T : PySem.AeX.Txt X.prog X.K X.mg C D1 fI) (S : IsC X.K C) (hz : Zc (.ref C) (some dd) oe) (hf : ∃ vs, oe.data = .fields vs) (v : V) {es : List Expr} {ws : List (Str × String)} (h : NmE X n es ws) :
    ∀ {l : List Fl}, NmOk X.K X.mg C ws l → PA (X.suite a ((a, oe) :: pn)) es (tNm X.K dd i a v l) := by
  induction h with
  | nil =>
    intro l hl
    cases hl
    exact impA pa_nil fun σ H Q ⟨_, _, q⟩ => q [] H (Same.refl H) fun A _ => .nil
  | @cons z x k j p1 p2 p3 p4 p5 p6 es ws hi hb hg hdb s0 s1 s2 s3 s4 s5 rest ih =>
    intro l hl
    cases hl with
    | @cons w q ws l hq hl =>
      obtain ⟨e1, e2, e3⟩ := hq
      have pe := pe_tup (x1 := k) (pos := p6) (pa_cons (X := X.suite a ((a, oe) :: pn)) (pe_str (x := z) (pos := p1)) (pa_cons (pe_callB (p := p2) (pos := p5) (call_isX (a := a) (oe := oe) (pn := pn) T S hz hf) hi hb PyProof.Rows.boot_isinstance (pa_cons (pe_var (pos := p3) hN hv hd hcd) (pa_cons (pe_glob (pos := p4) (v := .ref q.2.1) hg e2 rfl hdb) pa_nil s4) s3) (by decide) (by decide) s3 s5) pa_nil s2) s1)
      refine impA (pa_cons pe (ih hl) s0) fun σ H Q ⟨hs, hx, k1⟩ => ?_
      refine ⟨_, hs, q.2.1, q.2.2, v, rfl, e3, hx, (by show 2 ≤ sizeLine; rw [sizeLine_eq]; omega), fun p hp => ⟨hs, ?_, fun vs H' s hv => k1 (.ref p :: vs) H' ((same_upd hp).trans s) fun A hA => ?_⟩⟩
      · rw [upd_ne (fun z => by rw [z, hp] at hx; cases hx)]
        exact hx
      · have hpA : p ∉ A := fun z => hA p z hp
        refine .cons ?_ (hv A fun y hy => ?_)
        · show Rep X.K H' A (.ref p) (.tuple [.str q.1, .bool q.2.2])
          rw [← e1]
          exact (rep_tup hpA hp (.cons (.str z) (.one (.bl q.2.2)))).same s
        · by_cases hyp : y = p
          · subst hyp
            exact absurd hy hpA
          · rw [upd_ne hyp]
            exact hA y hy
/-- the suite: the names, then the words of those that are it, and the number -/
def tsNm (X : Cx) (i j : Nat) (ws : List (Str × String)) (fJ : En → R D) : Addr → Value → Option Addr → TS := fun a cls dx D σ H =>
  ∃ (C D1 fI dd : Addr) (m : Int) (l : List Fl) (H0 : Hp) (A0 A : List Addr) (ρ : En) (z : Str), cls = .ref C ∧ dx = some dd ∧ PySem.AeX.Txt X.prog X.K X.mg C D1 fI ∧ IsC X.K C ∧ H dd = some (.xd [(("at" : Str), .int m)]) ∧ NmOk X.K X.mg C ws l ∧ ws.length ≤ 1000 ∧
    σ[i]? = some (some (.ref a)) ∧ Ok X.K H0 A0 A ρ σ H ∧ fJ (ρ.set j (some (.v (.list (flD l))))) = .ok (.str z) ∧ ∀ v H', Same H0 H' → (Rep X.K H' A0 v (.tuple [.str z, .int m])) → D.rt v H'
theorem pss_names {nm : Str} {es : List Expr} {J : Expr} {ws : List (Str × String)} {fJ : En → R D} {k : Nat} {p1 p2 p3 q1 q2 q3 q4 : Pos} (hNn : X.N.Nodup) (hN : X.N[i]? = some n) (hNj : X.N[j]? = some nm) (hij : i ≠ j) (hv : Vis X.env.scope n) (hd : (n == ("__debug__" : Str)) = false) (hcd : (n == ("__classdict__" : Str)) = false)
    (hx : Loc X.env.scope nm) (hfn : X.fn nm = true ∨ X.env.scope.names.lookup nm = some .local) (hsw : swapsWith (.List es p2) (some (.Name nm p1)) p3.line X.env = pure false)
    (hbase : attributeBase (.Name n q1) "at" X.env (eval (.Name n q1) X.env) = eval (.Name n q1) X.env) (t1 : starEach [J, .Attribute (.Name n q1) "at" q2] X.env = (false, eval J X.env) :: starEach [.Attribute (.Name n q1) "at" q2] X.env) (t2 : starEach [.Attribute (.Name n q1) "at" q2] X.env = (false, eval (.Attribute (.Name n q1) "at" q2) X.env) :: starEach [] X.env)
    (h : NmE X n es ws) (hJ : ∀ (a : Addr) (oe : Obj) (pn : List (Addr × Obj)), L2H.HotC (X.suite a ((a, oe) :: pn)) → FE (X.suite a ((a, oe) :: pn)) (fun _ _ _ _ => False) J fJ)
    (a : Addr) (oe : Obj) (cls : Value) (dx : Option Addr) (pn : List (Addr × Obj)) (hn : L2N.Zn cls dx oe) (hf : ∃ vs, oe.data = .fields vs) :
    PSs (X.suite a ((a, oe) :: pn)) [.Assign [.Name nm p1] (.List es p2) p3, .Return (some (.Tuple [J, .Attribute (.Name n q1) "at" q2] k q3)) q4] (tsNm X i j ws fJ a cls dx) := by
  have hz : Zc cls dx oe := hn.zc
  have hot : L2H.HotC (X.suite a ((a, oe) :: pn)) := by
    obtain ⟨vs, hd⟩ := hf
    exact ⟨(a, oe), ⟨rfl, vs, hd, hn.2.2 vs hd⟩, List.mem_cons_self⟩
  refine ⟨fun pins s σ H D I q => ?_⟩
  obtain ⟨C, D1, fI, dd, m, l, H0, A0, A, ρ, z, rfl, rfl, T, S, hx0, hl, hlen, hs, o, ej, fin⟩ := q
  have s1 := ps_set (X := X.suite a ((a, oe) :: pn)) (pos' := p1) (pos := p3) hNn hNj hx (pe_lst (pos := p2) (pa_names (a := a) (oe := oe) (pn := pn) hN hv hd hcd T S hz hf (.int m) h hl)) hsw hfn
  have s2 := ps_ret (X := X.suite a ((a, oe) :: pn)) (pos := q4) (pe_tup (x1 := k) (pos := q3) (pa_cons (hJ a oe pn hot) (pa_cons (pe_at (pos := q2) hz hf (pe_var (pos := q1) hN hv hd hcd) hbase) pa_nil t2) t1))
  refine (pss_cons s1 (pss_one s2)).run pins s σ H D I ?_
  refine ⟨hs, hx0, fun vs H1 st1 hvs => ⟨?_, fun p hp => ?_⟩⟩
  · have h1 := (hvs [] (by simp)).length
    have h2 : ∀ {ws : List (Str × String)} {l : List Fl}, NmOk X.K X.mg C ws l → ws.length = l.length := fun h => Paired.length h
    have h3 := h2 hl
    unfold flD at h1
    rw [List.length_map] at h1
    rw [sizeLine_eq]
    omega
  · have hpA : p ∉ A := fun y => o.has p y (st1.free hp)
    have sm : Same H (upd H1 p (.lst vs)) := st1.trans (same_upd hp)
    have rp : Rep X.K (upd H1 p (.lst vs)) A (.ref p) (.list (flD l)) := .lst hpA upd_same ((hvs A o.has).same (same_upd hp))
    refine ⟨H0, A0, A, ρ.set j (some (.v (.list (flD l)))), (o.same sm).set j rp, ?_⟩
    rw [ej]
    intro H3 st3 v hv
    cases hv
    refine ⟨.ref a, by rw [List.getElem?_set_ne (Ne.symm hij)]; exact hs, rfl, C, D1, fI, dd, .int m, rfl, T, rfl, st3 _ _ (sm _ _ hx0), (by show 2 ≤ sizeLine; rw [sizeLine_eq]; omega), fun t ht => ?_⟩
    have ht0 : H t = none := sm.free (st3.free ht)
    exact fin _ _ (o.ext.trans (sm.trans (st3.trans (same_upd ht)))) (rep_tup (fun y => o.has t (o.sub t y) ht0) ht (.cons (.str z) (.one (.int m))))
/-! ### the try -/
def nmD (ws : List (Str × String)) (bs : List Bool) : List D := (ws.zip bs).map fun q => .tuple [.str q.1.1, .bool q.2]
def sTryNm (i j : Nat) (g : En → SR) (tab : List (String × List Bool)) (ws : List (Str × String)) (fJ : En → R D) : En → SR := fun ρ => match g ρ with
  | .ex c m ρ1 => if i < ρ1.length then (match tab.lookup c with
    | some bs => (match fJ ((ρ1.set i none).set j (some (.v (.list (nmD ws bs))))) with
      | .ok (.str z) => .rt (.tuple [.str z, .int m])
      | _ => .no)
    | none => .no) else .no
  | r => r
def TabNm (X : Cx) (x : String) (ws : List (Str × String)) (tab : List (String × List Bool)) : Prop := ∀ q ∈ tab, ExM X.prog X.K X.mg q.1 x true ∧ IsG X.K X.mg q.1 ∧ Paired (fun (w : Str × String) b => IsO X.K X.mg q.1 w.2 b) ws q.2
theorem lookup_in {α : Type} {c : String} {b : α} : ∀ {tab : List (String × α)}, tab.lookup c = some b → (c, b) ∈ tab
  | [], h => by cases h
  | (c', b') :: r, h => by
    rw [List.lookup_cons] at h
    split at h
    · rename_i e
      cases h
      rw [beq_iff_eq.mp e]
      exact List.mem_cons_self
    · exact List.mem_cons_of_mem _ (lookup_in h)
theorem flags_of {K : Frg} {mg : MgT} {c : String} {u : Addr} (hu : mg (Str.ofString c) = some (.ref u)) : ∀ {ws : List (Str × String)} {bs : List Bool}, Paired (fun (w : Str × String) b => IsO K mg c w.2 b) ws bs → ∃ l : List Fl, NmOk K mg u ws l ∧ flD l = nmD ws bs
  | _, _, .nil => ⟨[], .nil, rfl⟩
  | w :: ws, b :: bs, .cons ⟨u', C2, e1, e2, e3⟩ t => by
    obtain ⟨l, h1, h2⟩ := flags_of hu t
    rw [hu] at e1
    cases e1
    refine ⟨(w.1, C2, b) :: l, .cons ⟨rfl, e2, e3⟩ h1, ?_⟩
    unfold flD nmD at h2 ⊢
    rw [List.map_cons, h2]
    rfl
theorem fs_tryNm {W : WX} {body : List Stmt} {x : String} {nm : Str} {es : List Expr} {J : Expr} {ws : List (Str × String)} {tab : List (String × List Bool)} {fJ : En → R D} {gb : En → SR} {k : Nat} {pos np hp p1 p2 p3 q1 q2 q3 q4 : Pos}
    (hst : X.stack = X.env :: X.outer) (hfr0 : X.env.frame = some X.env.locals) (hNn : X.N.Nodup) (hi : X.N[i]? = some n) (hNj : X.N[j]? = some nm) (hij : i ≠ j) (hln : X.env.kindOf n = some .local) (tk : L2N.Takes X W)
    (hv : Vis X.env.scope n) (hd : (n == ("__debug__" : Str)) = false) (hcd : (n == ("__classdict__" : Str)) = false) (hx : Loc X.env.scope nm) (hfn : X.fn nm = true ∨ X.env.scope.names.lookup nm = some .local) (hsw : swapsWith (.List es p2) (some (.Name nm p1)) p3.line X.env = pure false)
    (hbase : attributeBase (.Name n q1) "at" X.env (eval (.Name n q1) X.env) = eval (.Name n q1) X.env) (t1 : starEach [J, .Attribute (.Name n q1) "at" q2] X.env = (false, eval J X.env) :: starEach [.Attribute (.Name n q1) "at" q2] X.env) (t2 : starEach [.Attribute (.Name n q1) "at" q2] X.env = (false, eval (.Attribute (.Name n q1) "at" q2) X.env) :: starEach [] X.env)
    (hg : Gl X (Str.ofString x)) (hdb : ((Str.ofString x) == ("__debug__" : Str)) = false) (hm : ∃ v, X.mg (Str.ofString x) = some v) (ht : TabNm X x ws tab) (hlen : ws.length ≤ 1000)
    (h : NmE X n es ws) (hJ : ∀ (a : Addr) (oe : Obj) (pn : List (Addr × Obj)), L2H.HotC (X.suite a ((a, oe) :: pn)) → FE (X.suite a ((a, oe) :: pn)) (fun _ _ _ _ => False) J fJ)
    (hb : ∀ (W' : WX) (pn : List (Addr × Obj)) (xe : Value → Shared → Prop), L2N.Takes (X.tr pn xe) W' → PassesOwn (model X.prog X.w) X.A X.env xe → FSs (X.tr pn xe) W' body gb) :
    FS X W (.Try body [.ExceptHandler (some (.Name (Str.ofString x) np)) (some n) [.Assign [.Name nm p1] (.List es p2) p3, .Return (some (.Tuple [J, .Attribute (.Name n q1) "at" q2] k q3)) q4] hp] [] [] pos) (sTryNm i j gb tab ws fJ) := by
  obtain ⟨v, hm⟩ := hm
  have hd1 : HdsAs X n [.ExceptHandler (some (.Name (Str.ofString x) np)) (some n) [.Assign [.Name nm p1] (.List es p2) p3, .Return (some (.Tuple [J, .Attribute (.Name n q1) "at" q2] k q3)) q4] hp] [(v, tsNm X i j ws fJ)] :=
    .cons ⟨hg, hdb, .inl hm⟩ (fun a oe cls dx pn hz hf => pss_names hNn hi hNj hij hv hd hcd hx hfn hsw hbase t1 t2 h hJ a oe cls dx pn hz hf) .nil
  refine impS (ps_try_all (tb := fun W' => tFS X.K X.mg W' gb) hst hfr0 hNn hi hln tk hb hd1) fun E σ H ⟨H0, A0, A, ρ, o, P⟩ => ⟨H0, A0, A, ρ, o, ?_⟩
  unfold sTryNm at P
  cases hgb : gb ρ with
  | ex c m ρ1 =>
    rw [hgb] at P
    dsimp only at P
    split at P
    · rename_i hlt
      split at P
      · rename_i bs hlk
        split at P
        · rename_i z hjz
          obtain ⟨⟨u', v', m1, m2, m3, C, D1, fI, m4, T⟩, ⟨C', g1, S⟩, hp⟩ := ht _ (lookup_in hlk)
          cases hm.symm.trans m2
          cases m1.symm.trans m4
          cases g1.symm.trans m1
          obtain ⟨l, hl, el⟩ := flags_of m1 hp
          intro u p σ' H' A' o' tr hp0 he
          cases he.1.symm.trans m1
          refine ⟨true, m3, fun _ a ha => ?_, fun y => Bool.noConfusion y⟩
          have o2 : Ok X.K H0 A0 A' (ρ1.set i none) (σ'.set i (some (.ref a))) H' := by
            have o3 := o'.forget i
            refine ⟨by rw [List.length_set]; exact o3.len, o3.ext, o3.sub, o3.new, o3.kp, fun y s e => ?_, fun y y2 b t t' d d' ne e1 e2 e3 => ?_⟩
            · by_cases hy : y = i
              · subst hy
                rw [List.getElem?_set_self hlt] at e
                cases e
              · obtain ⟨w, f1, f2⟩ := o3.slot y s e
                exact ⟨w, by rw [List.getElem?_set_ne (Ne.symm hy)]; exact f1, f2⟩
            · have hy : y ≠ i := fun q => by subst q; rw [List.getElem?_set_self hlt] at e1; cases e1
              have hy2 : y2 ≠ i := fun q => by subst q; rw [List.getElem?_set_self hlt] at e2; cases e2
              rw [List.getElem?_set_ne (Ne.symm hy)] at e3
              rw [List.getElem?_set_ne (Ne.symm hy2)]
              exact o3.dis y y2 b t t' d d' ne e1 e2 e3
          exact ⟨C, D1, fI, p, m, l, H0, A0, A', ρ1.set i none, z, rfl, rfl, T, S, he.2, hl, hlen, by rw [List.getElem?_set_self (by rw [o'.len]; exact hlt)], o2, by rw [el]; exact hjz, fun w H2 s2 r2 => P w H2 s2 r2⟩
        · exact P.elim
      · exact P.elim
    · exact P.elim
  | nx _ => rw [hgb] at P; exact P
  | rt _ => rw [hgb] at P; exact P
  | bk _ => rw [hgb] at P; exact P
  | ct _ => rw [hgb] at P; exact P
  | no => rw [hgb] at P; exact P
end
end G

namespace G
open PySem PySem.Spec PyProof.Rows L2
/-! ### the written pairs as values -/
theorem fe_gtupZ {X : Cx} {W : WX} {x : Str} {pos : Pos} {ds : List D} (h : GTup X.K X.mg x ds) (hz : ds = [.int 100, .int 1] ∨ ds = [.int 101, .int 1]) (hg : Gl X x) (hd : (x == ("__debug__" : Str)) = false := by decide) : FE X W (.Name x pos) (cK (.tuple ds)) := by
  obtain ⟨a, vs, hm, T, r⟩ := h
  refine fe_k (pe_glob hg hm (show RelV (.ref a) (.ref a) from rfl) hd) fun H A => .kt ⟨T, ?_⟩ (r H A)
  have r1 := r H A
  rcases hz with rfl | rfl
  all_goals
    cases r1 with
    | cons a1 t =>
      cases t with
      | cons a2 t =>
        cases t
        cases a1
        cases a2
        first | exact .inl rfl | exact .inr rfl
end G

namespace G
open PySem PySem.Spec PyProof.Rows L2
/-! ### an own error as data -/
theorem xo_ok {P : Program} {w : World} {H : Hp} {h : Heap} {C dd a : Addr} {oe : Obj} {vs : Array Value} (e : h.get? a = some oe) (z : Zc (.ref C) (some dd) oe) (d : oe.data = .fields vs) : ObjOk P w H h a (XO C dd a) :=
  ⟨⟨oe, vs, e, z, d⟩, ⟨oe, e⟩, fun _ _ ⟨o, v, q, r⟩ k => ⟨o, v, k o q, r⟩⟩
/-- what is known of such a class -/
def XC (P : Program) (K : Frg) (mg : MgT) (c : Int) : Prop := ∃ C D1 fI : Addr, c = (C : Int) ∧ PySem.AeX.Txt P K mg C D1 fI ∧ IsC K C
def xD (c n : Int) : D := .dict [(.none, .int c), (.int 0, .int n)]
def unX : D → Option (Int × Int)
  | .dict [(.none, .int c), (.int 0, .int n)] => some (c, n)
  | _ => none
theorem unX_some {d : D} {q : Int × Int} (h : unX d = some q) : d = .dict [(.none, .int q.1), (.int 0, .int q.2)] := by
  unfold unX at h
  split at h
  · cases h; rfl
  · cases h
theorem rep_xo {K : Frg} {H : Hp} {A : List Addr} {v : V} {c n : Int} (r : Rep K H A v (.dict [(.none, .int c), (.int 0, .int n)])) : ∃ a dd C : Addr, v = .ref a ∧ c = (C : Int) ∧ H a = some (XO C dd a) ∧ H dd = some (.xd [("at", .int n)]) := by
  cases r with
  | dk _ _ r => exact Bool.noConfusion (show false = true from repK_keys r)
  | dt _ _ r => exact Bool.noConfusion (show false = true from repT_keys r)
  | xo n1 n2 h1 h2 => exact ⟨_, _, _, rfl, rfl, h1, h2⟩
section
variable {X : Cx} {W : WX} {C D1 fI : Addr} {a e : Expr} {ta : TA} {x : Str} {p pos pos2 : Pos} {k : Nat} {f : En → R D}
def tMkV (C : Addr) (ta : TA) : TE := fun σ H Q => ta σ H fun vs H1 => ∃ v, vs = [v] ∧ ∀ d o, d ≠ o → H1 d = none → H1 o = none → Q (.ref o) (upd (upd H1 d (.xd [(("at" : Str), v)])) o (XO C d o))
theorem pe_mkV (T : PySem.AeX.Txt X.prog X.K X.mg C D1 fI) (gC : X.mg x = some (.ref C)) (hr : Room k X.A) (ha : PA X [a] ta) (hg : Gl X x) (hdb : (x == ("__debug__" : Str)) = false := by decide)
    (he : starEach (a :: []) X.env = (false, eval a X.env) :: starEach [] X.env := by rfl) (hpl : (backTo pos (starEach [] X.env)).any (·.1) = false := by rfl) :
    PE X (.Call (.Name x p) [a] [] pos) (tMkV C ta) := by
  refine ⟨fun pins s σ H Q I h => ?_⟩
  refine wpAny_Call_Name_kw (ld_glob I hg gC ?_ hdb)
  refine PySem.W.callWith_K (h₀ := X.base) I.ok.mod.kin T.kC (thn (ha.run pos pins s σ H _ I h) fun ws s1 ⟨vs, H1, I1, r1, v, ev, q1⟩ => ?_) he hpl
  subst ev
  refine ⟨I1.kIn, ?_⟩
  cases r1 with
  | cons rv rn =>
    cases rn
    obtain ⟨mb, hb, hbb⟩ := I1.ok.mod.blt
    have g1 := I1.ok.mod.glob.keeps I1.bk
    have b1 := hb.keeps I1.bk
    have l1 := I1.nolimit
    have k1 := I1.kIn
    obtain ⟨hp, g, dr, tk, os⟩ := s1
    refine wpAny_call (PySem.AeX.ae_made T k1 g1 b1 hbb l1 (by have := hr.dp; omega) fun h' tk' o d M => ?_)
    obtain ⟨oe, fv, hoe, hc, hd, hdat, _, _⟩ := M.obj
    obtain ⟨G', z1, z2⟩ := restrict h' fun b => decide (b ≠ o)
    have gk : ∀ b, b ≠ o → G'.get? b = h'.get? b := fun b hb => z1 b (decide_eq_true hb)
    have ge : G'.get? o = none := z2 o (by simp)
    have ob : ObjOk X.prog X.w (upd H1 d (.xd [(("at" : Str), v)])) G' d (.xd [(("at" : Str), v)]) := ⟨_, M.ns.at (fun u q => (gk d M.dne).trans q), fun f => relO_at rv f⟩
    have J : Inv X pins σ (upd H1 d (.xd [(("at" : Str), v)])) ⟨G', g, dr, tk', os⟩ :=
      I1.laid (t' := tk') (fun b u q => (gk b (Nat.ne_of_lt (Nat.lt_of_lt_of_le (Heap.lt_size q) M.new))).trans (M.keep b u q)) M.dbig ob
    have ho : H1 o = none := I1.hok.fresh M.new
    have hn : upd H1 d (.xd [(("at" : Str), v)]) o = none := by
      rw [upd_ne (Ne.symm M.dne)]
      exact ho
    have gs : ∀ b u, G'.get? b = some u → h'.get? b = some u := fun b u q => by
      by_cases hb : b = o
      · rw [hb, ge] at q; cases q
      · exact (gk b hb).symm.trans q
    have J2 := J.laidN (t' := tk') (o := XO C d o) gs ge hn (xo_ok hoe ⟨hc, hd⟩ hdat)
    exact ⟨.ref o, _, J2, rfl, q1 d o M.dne (I1.hok.fresh M.dbig) ho⟩
/-- c(e), e an int -/
def cErr (C : Addr) (f : En → R D) : En → R D := fun ρ => (f ρ).bind fun d => match d with
  | .int n => .ok (xD C n)
  | _ => .no
theorem fe_err (T : PySem.AeX.Txt X.prog X.K X.mg C D1 fI) (gC : X.mg x = some (.ref C)) (hr : Room k X.A) (ha : FE X W a f) (hg : Gl X x) (hdb : (x == ("__debug__" : Str)) = false := by decide)
    (he : starEach (a :: []) X.env = (false, eval a X.env) :: starEach [] X.env := by rfl) (hpl : (backTo pos (starEach [] X.env)).any (·.1) = false := by rfl) :
    FE X W (.Call (.Name x p) [a] [] pos) (cErr C f) := by
  refine impE (pe_mkV T gC hr (pa_cons ha pa_nil he) hg hdb he hpl) fun σ H Q ⟨H0, A0, A, ρ, o, P⟩ => ?_
  refine ⟨H0, A0, A, ρ, o, P.bind.mono fun d H1 s1 P1 v hv => ⟨v, rfl, fun dd a hne hd ha => ?_⟩⟩
  split at P1
  · rename_i n
    obtain rfl := (RepB.of hv).int
    have sm : Same H1 (upd H1 dd (.xd [(("at" : Str), .int n)])) := same_upd hd
    have ha2 : upd H1 dd (.xd [(("at" : Str), .int n)]) a = none := by
      rw [upd_ne (Ne.symm hne)]
      exact ha
    have sm2 := sm.trans (same_upd (o := XO C dd a) ha2)
    refine P1 _ sm2 _ (.xo ((o.same s1).fresh ha) ((o.same s1).fresh hd) upd_same ?_)
    rw [upd_ne hne]
    exact upd_same
  · exact P1.elim
/-! ### its number -/
def tAtV (P : Program) (K : Frg) (mg : MgT) (te : TE) : TE := fun τ K0 Q => te τ K0 fun x K1 => ∃ (a C D1 fI dd : Addr) (v : V), x = .ref a ∧ PySem.AeX.Txt P K mg C D1 fI ∧ K1 a = some (XO C dd a) ∧ K1 dd = some (.xd [(("at" : Str), v)]) ∧ Q v K1
theorem pe_atV {te : TE} (he : PE X e te) (hb : attributeBase e "at" X.env (eval e X.env) = eval e X.env := by rfl) : PE X (.Attribute e "at" pos) (tAtV X.prog X.K X.mg te) := by
  refine ⟨fun pins s τ K0 Q I h => attr_of hb (thn (he.run pins s τ K0 _ I h) fun u s1 hh => ?_)⟩
  obtain ⟨y, K1, I1, ry, a, C, D1, fI, dd, v, rfl, T, ea, ed, q⟩ := hh
  cases ry
  obtain ⟨⟨oe, vs, ha, hz, hd⟩, _, _⟩ := (show ObjOk X.prog X.w K1 s1.heap a (XO C dd a) from I1.hok a _ ea)
  obtain ⟨mA, hns, hr⟩ := (show ObjOk X.prog X.w K1 s1.heap dd (.xd [(("at" : Str), v)]) from I1.hok dd _ ed)
  obtain ⟨od, ho, hl⟩ := lookIn_ns hns
  have h1 := hr "at"
  rw [show List.lookup ("at" : Str) [(("at" : Str), v)] = some v by simp [List.lookup]] at h1
  obtain ⟨u, hu, ru⟩ := RelO.some_of (v := v) (o := mA "at") h1
  have J : PySem.W.InstAt s1.heap a oe C (some od) := ⟨ha, hz.1, by unfold PySem.W.notCls; rw [hd] <;> rfl, by rw [hz.2]; exact ho⟩
  exact HandSPX.exc_get I1.kIn J T.ga T.gg T.exC (PySem.W.findObj_own T.hdC T.noN rfl (by rw [hl, hu])) (handed_of ru) ⟨v, K1, I1.tok _, ru, q⟩
open Classical in
/-- e.at -/
noncomputable def cAt (P : Program) (K : Frg) (mg : MgT) (f : En → R D) : En → R D := fun ρ => (f ρ).bind fun d => match unX d with
  | some q => if XC P K mg q.1 then .ok (.int q.2) else .no
  | none => .no
theorem fe_at (he : FE X W e f) (hb : attributeBase e "at" X.env (eval e X.env) = eval e X.env := by rfl) : FE X W (.Attribute e "at" pos) (cAt X.prog X.K X.mg f) := by
  refine impE (pe_atV he hb) fun σ H Q ⟨H0, A0, A, ρ, o, P⟩ => ?_
  refine ⟨H0, A0, A, ρ, o, P.bind.mono fun d H1 s1 P1 v hv => ?_⟩
  cases hq : unX d with
  | none => rw [hq] at P1; exact P1.elim
  | some q =>
    rw [hq] at P1
    obtain rfl := unX_some hq
    dsimp only at P1
    split at P1
    · rename_i hx
      obtain ⟨C', D1, fI, e1, T, _⟩ := hx
      obtain ⟨a, dd, C, rfl, e2, h1, h2⟩ := rep_xo hv
      have : C' = C := Int.ofNat.inj (e1.symm.trans e2)
      subst this
      exact ⟨a, C', D1, fI, dd, .int q.2, rfl, T, h1, h2, P1 H1 (Same.refl _) _ (.int _)⟩
    · exact P1.elim
/-! ### isinstance -/
def rIsV (P : Program) (K : Frg) (mg : MgT) : List V → Hp → VK → Prop := fun xs H Q => ∃ (y c : V) (u : Value) (b : Bool), xs = [y, c] ∧ ClsV c u ∧
  ((∃ i, y = .int i ∧ PySem.W.kitOne K (.type "int") u = some b) ∨ ∃ (a C D1 fI dd : Addr) (v : V), y = .ref a ∧ PySem.AeX.Txt P K mg C D1 fI ∧ IsC K C ∧ H a = some (XO C dd a) ∧ H dd = some (.xd [(("at" : Str), v)]) ∧ PySem.W.kitOne K (.ref C) u = some b) ∧ Q (.bl b) H
theorem call_isV : CallR X (.builtin "isinstance") (rIsV X.prog X.K X.mg) := by
  intro pins s σ H xs us Q I r h
  obtain ⟨y, c, u, b, rfl, k, z, q⟩ := h
  obtain ⟨u1, u2, rfl, r1, r2⟩ := vals2 r
  have e2 := k.eq r2
  subst e2
  rcases z with ⟨i, rfl, e⟩ | ⟨a, C, D1, fI, dd, v, rfl, T, S, ea, ed, e⟩
  · obtain ⟨P, Z, pz, hx⟩ := kit_of I r1 (.base (.int i))
    exact PySem.W.kia_one Z I.kIn pz e hx fun tk => ⟨.bl b, H, I.tok tk, rfl, q⟩
  · cases r1
    obtain ⟨⟨oe, vs, ha, hz, hd⟩, _, _⟩ := (show ObjOk X.prog X.w H s.heap a (XO C dd a) from I.hok a _ ea)
    obtain ⟨mA, hns, hr⟩ := (show ObjOk X.prog X.w H s.heap dd (.xd [(("at" : Str), v)]) from I.hok dd _ ed)
    obtain ⟨od, ho, hl⟩ := lookIn_ns hns
    have J : PySem.W.InstAt s.heap a oe C (some od) := ⟨ha, hz.1, by unfold PySem.W.notCls; rw [hd] <;> rfl, by rw [hz.2]; exact ho⟩
    exact PySem.W.kia_one (PySem.W.kitx_exc S.cl T.ga T.gg T.exC S.ca S.cn S.ct S.cm) I.kIn J e (fun z => nomatch z) fun tk => ⟨.bl b, H, I.tok tk, rfl, q⟩
open Classical in
/-- isinstance(e, the class u) -/
noncomputable def cIs (P : Program) (K : Frg) (mg : MgT) (u : Value) (f : En → R D) : En → R D := fun ρ => (f ρ).bind fun d => match d with
  | .int _ => ofO ((PySem.W.kitOne K (.type "int") u).map .bool)
  | d => match unX d with
    | some q => if XC P K mg q.1 then ofO ((PySem.W.kitOne K (.ref q.1.toNat) u).map .bool) else .no
    | none => .no
theorem fe_is {c : Expr} {v : V} {u : Value} (he : FE X W e f) (hc : PE X c (tC v)) (hk : ClsV v u) (hg : Gl X "isinstance") (hm : X.mg "isinstance" = none)
    (s0 : starEach [e, c] X.env = (false, eval e X.env) :: starEach [c] X.env := by rfl) (s1 : starEach [c] X.env = (false, eval c X.env) :: starEach [] X.env := by rfl) (hpl : (backTo pos (starEach [c] X.env)).any (·.1) = false := by rfl) :
    FE X W (.Call (.Name "isinstance" p) [e, c] [] pos) (cIs X.prog X.K X.mg u f) := by
  refine impE (pe_callB call_isV hg hm PyProof.Rows.boot_isinstance (pa_cons he (pa_cons hc pa_nil s1) s0) (by decide) (by decide) s0 hpl) fun σ H Q ⟨H0, A0, A, ρ, o, P⟩ => ?_
  refine ⟨H0, A0, A, ρ, o, P.bind.mono fun d H1 s1 P1 y hy => ?_⟩
  split at P1
  · rename_i i
    obtain rfl := (RepB.of hy).int
    obtain ⟨d2, e1, P2⟩ := P1.ofO
    obtain ⟨b, e2, rfl⟩ := Option.map_eq_some_iff.mp e1
    exact ⟨_, _, u, b, rfl, hk, .inl ⟨i, rfl, e2⟩, P2 H1 (Same.refl _) _ (.bl b)⟩
  · cases hq : unX d with
    | none => rw [hq] at P1; exact P1.elim
    | some q =>
      rw [hq] at P1
      obtain rfl := unX_some hq
      dsimp only at P1
      split at P1
      · rename_i hx
        obtain ⟨C', D1, fI, e1, T, S⟩ := hx
        obtain ⟨a, dd, C, rfl, e2, h1, h2⟩ := rep_xo hy
        have : C' = C := Int.ofNat.inj (e1.symm.trans e2)
        subst this
        obtain ⟨d2, e3, P2⟩ := P1.ofO
        obtain ⟨b, e4, rfl⟩ := Option.map_eq_some_iff.mp e3
        rw [e1] at e4
        exact ⟨_, _, u, b, rfl, hk, .inr ⟨a, C', D1, fI, dd, .int q.2, rfl, T, S, h1, h2, e4⟩, P2 H1 (Same.refl _) _ (.bl b)⟩
      · exact P1.elim
end
end G

namespace G
open PySem PySem.Spec PyProof.Rows L2
/-! ### a caught error handed back -/
section
variable {X : Cx} {pins : List (Addr × Obj)} {σ : St} {H : Hp} {s : Shared}
/-- an object that stands there already is tracked from now on -/
theorem note {a : Addr} {o : HO} (I : Inv X pins σ H s) (n0 : X.s_0.heap.get? a = none) (hn : H a = none) (nl : a ≠ X.env.locals) (nc : ∀ x c, X.env.cells.lookup x = some c → c ≠ a) (np : ∀ p ∈ X.pn ++ pins, p.1 ≠ a) (new : ObjOk X.prog X.w (upd H a o) s.heap a o) : Inv X pins σ (upd H a o) s := by
  refine ⟨I.ok, I.os, I.bare, ⟨I.base.keep, I.base.slot, fun b ob q n hx => ?_, I.base.there, fun b xs q => ?_, fun b ob u q => ?_, fun b ps q => ?_⟩, I.loc, I.cell, ?_, fun x c e => ?_, fun p hp => ?_, I.hok.laidN (fun _ _ z => z) hn new, I.len⟩
  · rw [upd_ne (fun z => by rw [z, n0] at q; cases q)]
    exact I.base.free b ob q n hx
  · have z := I.base.tups b xs q
    rw [upd_ne (ne_of_none z hn)]
    exact z
  · have z := I.base.frzs b ob u q
    rw [upd_ne (ne_of_none z hn)]
    exact z
  · obtain ⟨more, z⟩ := I.base.tbls b ps q
    exact ⟨more, by rw [upd_ne (ne_of_none z hn)]; exact z⟩
  · rw [upd_ne (Ne.symm nl)]
    exact I.free
  · rw [upd_ne (nc x c e)]
    exact I.freeC x c e
  · obtain ⟨e, n, r⟩ := I.pin p hp
    exact ⟨e, by rw [upd_ne (np p hp)]; exact n, r⟩
end
def wRet (K : Frg) (D : Ends) (c : Value) : WX := fun cls dx τ K1 => PySem.W.exmOne K cls c = some true ∧ ∃ C dd : Addr, cls = .ref C ∧ dx = some dd ∧ ∀ a, K1 a = none → D.rt (.ref a) (upd K1 a (XO C dd a))
section
variable {X : Cx} {n x : Str} {i : Nat} {body : List Stmt} {pos np hp p1 p2 : Pos} {tb : WX → TS} {c : Value}
theorem ps_tryRet (hst : X.stack = X.env :: X.outer) (hfr0 : X.env.frame = some X.env.locals) (hN : X.N.Nodup) (hi : X.N[i]? = some n) (hln : X.env.kindOf n = some .local) (hex : X.ex = [])
    (hv : Vis X.env.scope n) (hd : (n == ("__debug__" : Str)) = false) (hcd : (n == ("__classdict__" : Str)) = false) (named : Names X x c)
    (hb : ∀ (W : WX) (pn : List (Addr × Obj)) (xe : Value → Shared → Prop), L2N.Takes (X.tr pn xe) W → PassesOwn (model X.prog X.w) X.A X.env xe → PSs (X.tr pn xe) body (tb W)) :
    PS X (.Try body [.ExceptHandler (some (.Name x np)) (some n) [.Return (some (.Name n p1)) p2] hp] [] [] pos) (fun D τ K1 => tb (wRet X.K D c) D τ K1) := by
  refine ⟨fun pins s τ0 K0 D I h => ?_⟩
  have okX := I.ok
  have hfr : X.A.frames = some (X.env :: X.outer) := okX.frames.trans (by rw [hst])
  have there : Loc X.env.scope n := .inl hln
  refine wpAny_Try_except (wpAny_mono ((hb (wRet X.K D c) (X.pn ++ pins) _ (fun u s' air => ?_) PassesOwn.looking).run [] s τ0 K0 D (I.toTry _) h) (fun f s1 done => ?_) fun _ _ he => he)
  · obtain ⟨a, B, sI, pins', τ, K1, cls, dx, rfl, J', nb, up, sky, na, os, ag, hb1, C, dd, rfl, rfl, hyes⟩ := air
    have J : Inv X pins τ K1 sI := J'.ofTry okX
    refine L2N.Sky.land L2N.Zn.steady hfr hfr0 (show Sky B (X.env :: X.outer) a (L2N.Zn (.ref C) (some dd)) X.env.locals s'.heap from hst ▸ sky) fun h3 fl3 up3 => ?_
    have J3 : Inv X pins τ K1 { s' with heap := h3 } := J.landed nb fl3.1 (up.trans up3) os ag
    obtain ⟨oe3, vs3, he3, hz3, hd3⟩ := fl3.there
    have apart : a ∉ frs (X.env :: X.outer) := fun hm => by
      obtain ⟨_, o2, e2, ne2⟩ := fl3.2.2.1.mem hm
      cases he3.symm.trans e2
      exact ne2 _ hd3
    have nL : a ≠ X.env.locals := fun z => apart (List.mem_filterMap.mpr ⟨X.env, List.mem_cons_self, by rw [hfr0, z]⟩)
    have nF : a ∉ X.fs := fun hm => by
      obtain ⟨e, he, q⟩ := List.mem_filterMap.mp hm
      exact apart (List.mem_filterMap.mpr ⟨e, List.mem_cons_of_mem _ he, q⟩)
    have noA : ∀ o, sI.heap.get? a ≠ some o := fun o e => by
      have z := nb a o e (by rw [hst]; exact apart)
      rw [fl3.2.1] at z
      cases z
    have n0 : X.s_0.heap.get? a = none := by
      cases e : X.s_0.heap.get? a with
      | none => rfl
      | some o =>
        obtain ⟨o', z⟩ := J.base.there a o e (by rw [hex]; exact fun z => nomatch z)
        exact absurd z (noA o')
    have nc : ∀ x c, X.env.cells.lookup x = some c → c ≠ a := fun x c e z => by
      obtain ⟨v, o, q, _⟩ := J.cell x c e
      rw [z] at q
      exact noA o q
    have npn : ∀ p ∈ X.pn ++ pins, p.1 ≠ a := fun p hp z => by
      obtain ⟨e, _⟩ := J.pin p hp
      rw [z] at e
      exact noA _ e
    have S3 := J3.suite he3 hd3 na nL nF
    refine wpAny_handleBy_cons (codeAny_handlers_test ?_) (by intro q; cases q)
    have LT : PySem.W.Looks (model X.prog X.w) h3 (typeOf (.ref a)) (.ref C) := fun A Q E s k q => wpAny_typeOf_ref (k _ _ he3) (by rw [hz3.1]; exact q)
    have LM := PySem.W.exm_one (M := model X.prog X.w) J3.kIn LT hb1
    have asked : ∀ {Q : Value → Shared → Prop} {E : Value → Shared → Prop}, Q c { s' with heap := h3 } → wpAny (model X.prog X.w) (X.A.mark (some (.ref a))) (eval (.Name x np) X.env) Q E { s' with heap := h3 } := fun {Q E} q => by
      obtain ⟨hg, hdb, hm | ⟨hm, hv, hnn⟩⟩ := named
      · exact ld_glob (X := X.suite a ((a, oe3) :: (X.pn ++ pins))) S3 hg hm q hdb
      · exact ld_blt (X := X.suite a ((a, oe3) :: (X.pn ++ pins))) S3 hg hm hv q hnn hdb
    refine asked (LM.here ?_)
    refine codeAny_handlers_suite_as (HandSPX.lands_againZ fl3 fun h4 fl4 up4 => ?_)
    have J4 : Inv X pins τ K1 { s' with heap := h4 } := J.landed nb fl4.1 ((up.trans up3).trans up4) os ag
    obtain ⟨oe4, vs4, he4, hz4, hd4⟩ := fl4.there
    refine store_ok (X := X.suite a ((a, oe4) :: (X.pn ++ pins))) (v := .ref a) (J4.suite he4 hd4 na nL nF) hN hi there rfl (fun s5 S5 => ?_) (.inr hln)
    have does : PSs (X.suite a ((a, oe4) :: (X.pn ++ pins))) [.Return (some (.Name n p1)) p2] (tRet (tVar i)) := pss_one (ps_ret (pe_var hi hv hd hcd))
    have hlt : i < τ.length := by
      rw [J.len]
      exact (List.getElem?_eq_some_iff.mp hi).1
    refine wpAny_mono (does.run [] s5 _ K1 { nx := fun _ _ => False, rt := fun v K => v = .ref a ∧ K = K1, bk := fun _ _ => False, ct := fun _ _ => False } S5 ⟨.ref a, List.getElem?_set_self hlt, rfl, rfl⟩) (fun f s6 hsp => ?_) fun _ _ z => z.elim
    cases f with
    | next =>
      obtain ⟨_, _, _, q6⟩ := hsp
      exact q6.elim
    | brk =>
      obtain ⟨_, _, _, q6⟩ := hsp
      exact q6.elim
    | cont =>
      obtain ⟨_, _, _, q6⟩ := hsp
      exact q6.elim
    | ret u =>
      obtain ⟨v6, τ6, K6, S6, r6, rfl, rfl⟩ := hsp
      obtain ⟨ha6, _⟩ := S6.pin (a, oe4) (List.mem_append_left _ List.mem_cons_self)
      have J6 : Inv X pins τ6 K6 s6 := S6.unsuite okX
      have J7 := note J6 n0 na nL nc npn (o := XO C dd a) (xo_ok ha6 ⟨hz4.1, hz4.2.1⟩ hd4)
      exact gone_ok J7 hN hi hln fun s7 J8 => ⟨_, _, _, J8, r6, hyes a na⟩
  · cases f with
    | next =>
      obtain ⟨τ, K1, J, q⟩ := done
      exact wpAny_execs_nil ⟨τ, K1, J.ofTry okX, q⟩
    | brk =>
      obtain ⟨τ, K1, J, q⟩ := done
      exact ⟨τ, K1, J.ofTry okX, q⟩
    | cont =>
      obtain ⟨τ, K1, J, q⟩ := done
      exact ⟨τ, K1, J.ofTry okX, q⟩
    | ret u =>
      obtain ⟨v, τ, K1, J, r, q⟩ := done
      exact ⟨v, τ, K1, J.ofTry okX, r, q⟩
def sTryRet (g : En → SR) (tab : List (String × Addr)) : En → SR := fun ρ => match g ρ with
  | .ex c m _ => match tab.lookup c with
    | some C => .rt (xD C m)
    | none => .no
  | r => r
theorem fs_tryRet {W : WX} {gb : En → SR} {tab : List (String × Addr)} (hst : X.stack = X.env :: X.outer) (hfr0 : X.env.frame = some X.env.locals) (hN : X.N.Nodup) (hi : X.N[i]? = some n) (hln : X.env.kindOf n = some .local) (hex : X.ex = [])
    (hv : Vis X.env.scope n) (hd : (n == ("__debug__" : Str)) = false) (hcd : (n == ("__classdict__" : Str)) = false) (named : Names X x c)
    (ht : ∀ q ∈ tab, X.mg (Str.ofString q.1) = some (.ref q.2) ∧ PySem.W.exmOne X.K (.ref q.2) c = some true)
    (hb : ∀ (W' : WX) (pn : List (Addr × Obj)) (xe : Value → Shared → Prop), L2N.Takes (X.tr pn xe) W' → PassesOwn (model X.prog X.w) X.A X.env xe → FSs (X.tr pn xe) W' body gb) :
    FS X W (.Try body [.ExceptHandler (some (.Name x np)) (some n) [.Return (some (.Name n p1)) p2] hp] [] [] pos) (sTryRet gb tab) := by
  refine impS (ps_tryRet (tb := fun W' => tFS X.K X.mg W' gb) hst hfr0 hN hi hln hex hv hd hcd named hb) fun E σ H ⟨H0, A0, A, ρ, o, P⟩ => ⟨H0, A0, A, ρ, o, ?_⟩
  unfold sTryRet at P
  cases hgb : gb ρ with
  | ex e m ρ1 =>
    rw [hgb] at P
    dsimp only at P
    split at P
    · rename_i C hlk
      obtain ⟨g1, g2⟩ := ht _ (lookup_in hlk)
      intro u p σ' H' A' o' tr hp0 he
      cases he.1.symm.trans g1
      refine ⟨g2, C, p, rfl, rfl, fun a ha => ?_⟩
      have hne : p ≠ a := fun z => by
        have := he.2
        rw [z, ha] at this
        cases this
      refine P (.ref a) _ (o'.ext.trans (same_upd ha)) (.xo (fun y => o'.has a (o'.sub a y) ha) hp0.2 upd_same ?_)
      rw [upd_ne hne]
      exact he.2
    · exact P.elim
  | nx _ => rw [hgb] at P; exact P
  | rt _ => rw [hgb] at P; exact P
  | bk _ => rw [hgb] at P; exact P
  | ct _ => rw [hgb] at P; exact P
  | no => rw [hgb] at P; exact P
end
/-! ### a first statement that never goes on -/
def sFirst (g : En → SR) : En → SR := fun ρ => match g ρ with
  | .nx _ => .no
  | r => r
section
variable {X : Cx} {W : WX} {st : Stmt} {rest : List Stmt} {t : TS} {g : En → SR}
def onlyE (D : Ends) : Ends := { nx := fun _ _ => False, rt := D.rt, bk := D.bk, ct := D.ct }
theorem pss_first (h1 : PS X st t) : PSs X (st :: rest) (fun D σ H => t (onlyE D) σ H) := by
  refine ⟨fun pins s σ H D I h => ?_⟩
  refine wpAny_execs_cons (thn (h1.run pins s σ H (onlyE D) I h) fun f s1 q => ?_)
  cases f with
  | next =>
    obtain ⟨_, _, _, z⟩ := q
    exact z.elim
  | brk => exact q
  | cont => exact q
  | ret u => exact q
theorem fss_first (h1 : FS X W st g) : FSs X W (st :: rest) (sFirst g) := impSs (pss_first h1) fun D σ H ⟨H0, A0, A, ρ, o, P⟩ => ⟨H0, A0, A, ρ, o, by
  unfold sFirst at P
  cases hg : g ρ with
  | nx _ => rw [hg] at P; exact P.elim
  | rt _ => rw [hg] at P; exact P
  | bk _ => rw [hg] at P; exact P
  | ct _ => rw [hg] at P; exact P
  | ex _ _ _ => rw [hg] at P; exact P
  | no => rw [hg] at P; exact P⟩
end
end G

namespace G
open PySem PySem.Spec PyProof.Rows L2
/-- what the meaning of a text with errors as data is told of -/
structure CP where
  P : Program
  K : Frg
  mg : MgT
  cs : Nat → Addr
def csOf (l : List Addr) (i : Nat) : Addr := l.getD i 0
structure XG (P : Program) (K : Frg) (mg : MgT) (x : String) (C : Addr) : Prop where
  gC : mg (Str.ofString x) = some (.ref C)
  tx : ∃ D1 fI, PySem.AeX.Txt P K mg C D1 fI
  is : IsC K C
theorem XG.xc {P : Program} {K : Frg} {mg : MgT} {x : String} {C : Addr} (h : XG P K mg x C) : XC P K mg (C : Int) := by
  obtain ⟨D1, fI, T⟩ := h.tx
  exact ⟨C, D1, fI, rfl, T, h.is⟩
theorem fe_errX {X : Cx} {W : WX} {C : Addr} {a : Expr} {x : Str} {p pos : Pos} {k : Nat} {f : En → R D} {c : String} (hx : x = Str.ofString c) (h : XG X.prog X.K X.mg c C) (hr : Room k X.A) (ha : FE X W a f) (hg : Gl X x) (hdb : (x == ("__debug__" : Str)) = false := by decide)
    (he : starEach (a :: []) X.env = (false, eval a X.env) :: starEach [] X.env := by rfl) (hpl : (backTo pos (starEach [] X.env)).any (·.1) = false := by rfl) :
    FE X W (.Call (.Name x p) [a] [] pos) (cErr C f) := by
  obtain ⟨D1, fI, T⟩ := h.tx
  exact fe_err T (by rw [hx]; exact h.gC) hr ha hg hdb he hpl
inductive Kinds (K : Frg) (t : Value) : List (Value × Bool) → Prop
  | nil : Kinds K t []
  | cons {u : Value} {b : Bool} {l : List (Value × Bool)} (h : PySem.W.kitOne K t u = some b) (r : Kinds K t l) : Kinds K t ((u, b) :: l)
theorem Kinds.at {K : Frg} {t : Value} : ∀ {l : List (Value × Bool)}, Kinds K t l → ∀ {i : Nat} {q : Value × Bool}, l[i]? = some q → PySem.W.kitOne K t q.1 = some q.2
  | _, .nil, _, _, e => by simp at e
  | _, .cons h r, 0, _, e => by simp at e; subst e; exact h
  | _, .cons h r, i + 1, _, e => r.at (by simpa using e)
theorem xg_of {P : Program} {K : Frg} {mg : MgT} {h : Heap} {x : String} {C : Addr} {cd : ClassData} (X : K.In h) (G0 : h.Ns mainGlobals mg) (a : PySem.W.nsIn K mainGlobals (Str.ofString x) = some (some (.ref C))) (b : PySem.W.clsIn K C = some cd)
    (c : PySem.W.findIn K (.ref C) "__class__" = some (some (.builtin "object.__class__"))) (d : PySem.W.specialIn K (.builtin "object.__class__") "__get__" = some (some (.builtin "getset_descriptor.__get__"))) (e : PySem.W.takesIn K (.builtin "object.__class__") = some true)
    (f : PySem.W.mroIn K C (.type "object") = some true) (z : ErrG P K mg (Str.ofString x)) : XG P K mg x C := by
  have g := PySem.W.mg_of X G0 a
  obtain ⟨C', D1, fI, g', T⟩ := z
  cases g.symm.trans g'
  exact ⟨g, ⟨D1, fI, T⟩, ⟨by rw [b]; rfl, c, d, e, f⟩⟩
theorem CallS.imp {P : Program} {w : World} {K : Frg} {mg : MgT} {base : Heap} {k : Nat} {x : Str} {F F' : List Int → R D} (h : CallS P w K mg base k x F) (i : ∀ ns, F' ns = .no ∨ F' ns = F ns) : CallS P w K mg base k x F' := by
  obtain ⟨f, fd, p, hf, r⟩ := h
  refine ⟨f, fd, p, ⟨fun A outer s H args u a ns Av Q E hr hg e0 hb r rd ha q => ?_⟩, r⟩
  rcases i ns with e | e
  · rw [e] at q
    exact q.elim
  · rw [e] at q
    exact hf.run A outer s H args u a ns Av Q E hr hg e0 hb r rd ha q
end G

namespace G
open PySem PySem.Spec PyProof.Rows L2
/-! ### a copy of a dict whose keys are tuples -/
section
variable {prog : Program} {w : World} {A : Around} {E : Value → Shared → Prop} {s : Shared}
abbrev tKd (prog : Program) (w : World) := tupleKind (mixKind prog w)
theorem newH (h : Heap) : (h.push { cls := .type "dict", data := .dict #[] }).DictOfH (tKd prog w) h.objs.size [] :=
  ⟨{ cls := .type "dict", data := .dict #[] }, #[], 0, Heap.get?_push_size _ rfl, ⟨rfl, rfl, rfl⟩, rfl, rfl, fun x hx => absurd hx List.not_mem_nil, List.nodup_nil⟩
theorem pushH {h : Heap} {o : Addr} {more : List (List Key × Addr × Value)} (ho : h.DictOfH (tKd prog w) o more) (u : Obj) : (h.push u).DictOfH (tKd prog w) o more := by
  obtain ⟨oo, es, ep, g, c, d, he, his, hn⟩ := ho
  refine ⟨oo, es, ep, Heap.get?_push_of_some _ g, c, d, he, fun x hx => ?_, hn⟩
  obtain ⟨o2, its, n2, g2, r⟩ := his x hx
  exact ⟨o2, its, n2, Heap.get?_push_of_some _ g2, r⟩
theorem call_copyT {o : Addr} {more : List (List Key × Addr × Value)} {Q : Value → Shared → Prop} (hu : A.in1.in1.units < cLine) (hoS : (o == sysModules) = false) (ho : s.heap.DictOfH (tKd prog w) o more) (hty : ∀ x ∈ more, s.TypeIs (.ref x.2.1) "tuple") (hap : (more.map fun x => (tKd prog w).hash x.1).Nodup) (hsz : more.length ≤ sizeLine)
    (h : ∀ h', h'.DictOfH (tKd prog w) s.heap.objs.size more → Heap.SameBut s.heap.objs.size (s.heap.push { cls := .type "dict", data := .dict #[] }) h' → Q (.ref s.heap.objs.size) { s with heap := h' }) :
    wpAny (model prog w) A (call (.type "dict") [.ref o]) Q E s := by
  refine callType_codes (Q₁ := fun ob s1 => ob = .ref s.heap.objs.size ∧ s1 = { s with heap := s.heap.push { cls := .type "dict", data := .dict #[] } }) F.kt_called_dict (F.kt_typeCall_dict_1 _) F.entry_dict_init (kt_code_dict_new _ ⟨rfl, rfl⟩) ?_
  rintro ob s1 ⟨rfl, rfl⟩
  have hnew := newH (prog := prog) (w := w) s.heap
  have ho2 := pushH ho { cls := .type "dict", data := .dict #[] }
  have hne : s.heap.objs.size ≠ o := by
    obtain ⟨_, _, _, hg, _⟩ := ho
    exact fun e => absurd (Heap.lt_size hg) (by rw [e]; exact Nat.lt_irrefl _)
  refine ⟨hnew.typeIs, F.args_dict_init_2 _ _, ?_⟩
  unfold Builtin.«dict.__init__»
  refine wpAny_bind ?_
  unfold Builtin.Dict.selfAndRest
  refine wpAny_bind (wpAny_notOrdered_dict hnew.typeIs ?_)
  show wpAny _ _ (pure (s.heap.objs.size, [Value.ref o])) _ _ _
  refine wpAny_pure ?_
  show wpAny _ _ (Builtin.Dict.updateFrom "dict.__init__" s.heap.objs.size (.ref o) [] .none) _ _ _
  have ty2 : ∀ x ∈ more, ({ s with heap := s.heap.push { cls := .type "dict", data := .dict #[] } } : Shared).TypeIs (.ref x.2.1) "tuple" := fun x hx => by
    obtain ⟨u, e1, e2⟩ := hty x hx
    exact ⟨u, Heap.get?_push_of_some _ e1, e2⟩
  refine updateFrom_dictH (knd := tKd prog w) .none hu hne hoS hnew ho2 (.inr ⟨ty2, hap⟩) (by simpa using hsz) fun h' hd' ho' hs' => ?_
  rw [storedAllH_nil_of_nodup more ho.nodup] at hd'
  exact ⟨rfl, h h' hd' hs'⟩
end
section
variable {X : Cx}
theorem KT_kept {H : Hp} {p : Addr} {o : HO} (hp : H p = none) {kvs : List (List Key × V)} {xs : List (List Key × Addr × Value)} (r : KT H kvs xs) : KT (upd H p o) kvs xs := by
  induction r with
  | nil => exact .nil
  | cons h t ih =>
    refine .cons ⟨h.1, ?_, h.2.2⟩ ih
    rw [upd_ne (ne_of_none h.2.1 hp)]
    exact h.2.1
theorem KT_keys {H : Hp} {kvs : List (List Key × V)} {xs : List (List Key × Addr × Value)} {α : Type} (f : List Key → α) (r : KT H kvs xs) : xs.map (fun x => f x.1) = kvs.map fun x => f x.1 := by
  induction r with
  | nil => rfl
  | cons h t ih => rw [List.map_cons, List.map_cons, ih, h.1]
theorem KT_len {H : Hp} {kvs : List (List Key × V)} {xs : List (List Key × Addr × Value)} (r : KT H kvs xs) : xs.length = kvs.length := by
  induction r with
  | nil => rfl
  | cons h t ih => rw [List.length_cons, List.length_cons, ih]
def rCopyT (P : Program) (w : World) : List V → Hp → VK → Prop := fun xs H Q => ∃ (a : Addr) (kvs : List (List Key × V)), xs = [.ref a] ∧ Rd H a (.dT kvs) ∧ (kvs.map fun p => (tKd P w).hash p.1).Nodup ∧ ∀ p, H p = none → Q (.ref p) (upd H p (.dT kvs))
theorem cr_copyT (hu : X.A.in1.in1.units < cLine) : CallR X (.type "dict") (rCopyT X.prog X.w) := by
  intro pins s σ H xs us Q I r q
  obtain ⟨a, kvs, rfl, hd, hh, q⟩ := q
  obtain ⟨u, rfl, rx⟩ := r.one
  cases rx
  obtain ⟨z, lo, ys, rel, dd⟩ := dt_rd I.hok hd
  have hty : ∀ x ∈ ys, s.TypeIs (.ref x.2.1) "tuple" := fun x hx => by
    obtain ⟨_, _, _, _, _, _, _, his, _⟩ := dd
    obtain ⟨o2, its, n2, g2, c2, _⟩ := his x hx
    exact ⟨o2, g2, c2⟩
  refine call_copyT hu lo dd hty (by rw [KT_keys (tKd X.prog X.w).hash rel]; exact hh) (by rw [KT_len rel]; exact z) fun h' d' hs => ?_
  have hm : (s.heap.objs.size == sysModules) = false := beq_eq_false_iff_ne.mpr (Nat.ne_of_gt I.big)
  have hn : H s.heap.objs.size = none := I.hok.fresh (Nat.le_refl _)
  obtain ⟨o, es, ep, g, c, dt, he, _, hnd⟩ := d'
  exact ⟨.ref s.heap.objs.size, upd H s.heap.objs.size (.dT kvs), I.laid (t' := s.toks) (fun b u e => (hs.2 b (Nat.ne_of_lt (Heap.lt_size e))).trans (Heap.get?_push_of_some _ e)) (Nat.le_refl _)
    (show ObjOk X.prog X.w _ _ _ (.dT kvs) from ⟨z, hm, ys, KT_kept hn rel, o, es, ep, g, c, dt, he, hnd⟩), rfl, q _ hn⟩
end
def hashI (is : List Int) : Int := reduceHash (Builtin.Tuple.tupleHashOf (is.map hashInt))
def keyI : D → Option (List Int)
  | .tuple ds => intsOf ds
  | _ => none
def keysI : List (D × D) → Option (List (List Int))
  | [] => some []
  | (d, _) :: r => (keyI d).bind fun k => (keysI r).map fun ks => k :: ks
/-- dict(d): all keys tuples of ints -/
def dCopyT : List D → Option D
  | [.dict kvs] => (keysI kvs).bind fun ks => if kvs.isEmpty = false ∧ (ks.map hashI).Nodup then some (.dict kvs) else none
  | _ => none
theorem ints_keys {w : World} : ∀ {k : List Key} {is : List Int}, intsOf (k.map kD) = some is → k.map (keyH w) = is.map hashInt
  | [], is, h => by cases h; rfl
  | .inl i :: k, is, h => by
    rw [List.map_cons] at h
    obtain ⟨r, h1, h2⟩ := Option.map_eq_some_iff.mp (show (intsOf (k.map kD)).map (fun ns => i :: ns) = some is from h)
    subst h2
    rw [List.map_cons, List.map_cons, ints_keys h1]
    rfl
  | .inr z :: k, is, h => by cases h
theorem hash_keys {P : Program} {w : World} {K : Frg} {H : Hp} {A : List Addr} : ∀ {rows : List (List Key × V)} {kvs : List (D × D)} {ks : List (List Int)}, RepT K H A rows kvs → keysI kvs = some ks → (rows.map fun p => (tKd P w).hash p.1) = ks.map hashI
  | _, _, _, .nil, h => by cases h; rfl
  | _, _, ks, .cons (k := k) r t, h => by
    obtain ⟨k1, h1, h2⟩ := Option.bind_eq_some_iff.mp (show (keyI (.tuple (k.map kD))).bind _ = some ks from h)
    obtain ⟨k2, h3, h4⟩ := Option.map_eq_some_iff.mp h2
    subst h4
    rw [List.map_cons, List.map_cons, hash_keys t h3]
    refine congrArg (· :: _) ?_
    show reduceHash (Builtin.Tuple.tupleHashOf (k.map (keyH w))) = reduceHash (Builtin.Tuple.tupleHashOf (k1.map hashInt))
    rw [ints_keys (w := w) h1]
def DCallT (X : Cx) (F : Value) (df : List D → Option D) : Prop :=
  ∃ r : List V → Hp → VK → Prop, CallR X F r ∧ ∀ (H : Hp) (A : List Addr) (vs : List V) (ds : List D) (d : D) (Q : VK), (∀ a ∈ A, H a ≠ none) → Paired (RepB X.K H A) vs ds → df ds = some d → (∀ v H', Same H H' → RepN X.K true H H' A v d → Q v H') → r vs H Q
theorem dc_copyT {X : Cx} (hu : X.A.in1.in1.units < cLine) : DCallT X (.type "dict") dCopyT := by
  refine ⟨_, cr_copyT hu, fun H A vs ds d Q ha hv e q => ?_⟩
  unfold dCopyT at e
  split at e
  · rename_i kvs
    obtain ⟨ks, e1, e2⟩ := Option.bind_eq_some_iff.mp e
    split at e2
    · rename_i hk
      cases e2
      obtain ⟨v, rfl, h⟩ := pair1 hv
      obtain ⟨p, rfl, ⟨rows, h1, r⟩ | ⟨rows, h1, r⟩ | ⟨C0, n0, rfl⟩⟩ := h.dict
      · cases r with
        | nil => cases hk.1
        | cons a t =>
          rename_i k0 _ _ _ _
          obtain ⟨k1, h1, _⟩ := Option.bind_eq_some_iff.mp (show (keyI (kD k0)).bind _ = some ks from e1)
          cases k0 <;> cases h1
      · refine ⟨p, rows, rfl, h1, by rw [hash_keys (P := X.prog) (w := X.w) r e1]; exact hk.2, fun n hn => q _ _ (same_upd hn) ⟨n, rfl, hn, .inr ⟨rfl, rows, upd_same, ?_⟩⟩⟩
        exact r.tr ⟨fun b o hb _ => same_upd hn b o hb, fun b hb => by
          rcases List.mem_cons.mp hb with rfl | hb
          · exact .inr hn
          · exact .inl hb⟩
      · cases e1
    · cases e2
  · cases e
theorem fn_callTyT {X : Cx} {W : WX} {T : String} {df : List D → Option D} {x : Str} {e : Expr} {es : List Expr} {l : En → R (List D)} {p1 pos : Pos} (hc : DCallT X (.type T) df) (hg : Gl X x) (hm : X.mg x = none) (hv : bootBuiltins x = some (.type T)) (ha : FAB X W (e :: es) l) (hn : x ≠ "__name__" := by decide) (hdb : (x == ("__debug__" : Str)) = false := by decide)
    (he : starEach (e :: es) X.env = (false, eval e X.env) :: starEach es X.env := by rfl) (hpl : (backTo pos (starEach es X.env)).any (·.1) = false := by rfl) : FN X W true (.Call (.Name x p1) (e :: es) [] pos) (cCall df l) := by
  obtain ⟨r, hr, hs⟩ := hc
  refine impE (pe_callTy hr hg hm hv ha hn hdb he hpl) fun σ H Q ⟨H0, A0, A, ρ, o, P⟩ => ?_
  refine ⟨H0, A0, A, ρ, o, P.bind.mono fun ds H1 s1 P1 vs hvs => ?_⟩
  obtain ⟨d, e, P2⟩ := P1.ofO
  refine hs H1 A vs ds d Q (o.same s1).has hvs e fun v H' s hv => P2 H' s v ?_
  obtain ⟨p, e, n, r⟩ := hv
  exact ⟨p, e, s1.free n, r⟩
end G

namespace G
open PySem PySem.Spec PyProof.Rows L2
/-! ### {k: v}, k a tuple -/
section
variable {X : Cx} {W : WX} {pos kp : Pos} {k v : Expr}
def tOneT (tk tv : TE) : TE := fun σ H Q => ∀ p, H p = none → tk σ (upd H p (.dT [])) fun x H1 => tv σ H1 fun y H2 => H2 p = some (.dT []) ∧ ∃ b ks, x = .ref b ∧ H2 b = some (.tup (ks.map kV)) ∧ Q (.ref p) (upd H2 p (.dT [(ks, y)]))
theorem pe_oneT {tk tv : TE} (hu : X.A.units < cLine) (hk : PE X k tk) (hv : PE X v tv)
    (hs : (evalEachOpt [some k] X.env).zip ((evalEach [v] X.env).map fun z => do let x ← z; standAt pos; pure x) = [(some (eval k X.env), do let x ← eval v X.env; standAt pos; pure x)] := by rfl) :
    PE X (.Dict [some k] [v] pos) (tOneT tk tv) := by
  refine ⟨fun pins s σ H Q I q => ?_⟩
  have hn := I.hok.fresh (Nat.le_refl s.heap.objs.size)
  have I1 := I.laid (a := s.heap.objs.size) (o := .dT []) (h' := s.heap.push { cls := .type "dict", data := .dict #[] }) (t' := s.toks) (fun _ _ q => Heap.get?_push_of_some _ q) (Nat.le_refl _) (dt_empty s.heap I.big)
  rw [arm_eval_Dict, hs, show [(some (eval k X.env), do let x ← eval v X.env; standAt pos; pure x)] = [(eval k X.env, (do let x ← eval v X.env; standAt pos; pure x : Sem Value))].map (fun p => (some p.1, p.2)) from rfl, dictDisplay_pairs [(eval k X.env, do let x ← eval v X.env; standAt pos; pure x)] (by simp) (by simp)]
  refine wpAny_bind (wpAny_standAt (wpAny_bind (wpAny_subDictH (knd := tKd X.prog X.w) (Q := fun d s' => wpAny (model X.prog X.w) X.A (pure (Value.ref d)) (EP X pins σ Q) X.xe s') hu (by simp) ?_)))
  refine evalPairs_cons (thn (hk.run pins _ σ _ _ I1 (q _ hn)) fun u s1 ⟨x, H1, I2, rx, q1⟩ => ?_)
  refine wpAny_bind (thn (hv.run pins s1 σ H1 _ I2 q1) fun u2 s2 ⟨y, H2, I3, ry, ep, b, ks, ex, eb, q2⟩ => ?_)
  refine wpAny_bind (wpAny_standAt (wpAny_pure (evalPairs_nil ?_)))
  subst ex
  cases rx
  obtain ⟨z, hd, xs0, r0, dd⟩ := dt_of I3.hok ep
  cases r0
  refine ⟨[(ks, b, u2)], ⟨rfl, rfl, key_of I3.hok eb, trivial⟩, dd, fun h' tk d' hs' => wpAny_pure ?_⟩
  have hne : b ≠ s.heap.objs.size := ne_of eb ep (fun z => nomatch z)
  have d2 : h'.DictOfH (tKd X.prog X.w) s.heap.objs.size [(ks, b, u2)] := d'
  obtain ⟨o, es, epp, g, c, dt, he, _, hnd⟩ := d2
  refine ⟨.ref s.heap.objs.size, _, d_write (ob := .dT [(ks, y)]) I3 (by rw [ep]; exact True.intro) hs' ⟨o, g⟩ ⟨by show 1 ≤ sizeLine; rw [sizeLine_eq]; omega, hd, [(ks, b, u2)], .cons ⟨rfl, ?_, ry⟩ .nil, o, es, epp, g, c, dt, he, hnd⟩, rfl, q2⟩
  rw [upd_ne hne]
  exact eb
/-- a written dict of one entry -/
def cOneT (fk fv : En → R D) : En → R D := fun ρ => match noX (fk ρ), noX (fv ρ) with
  | some (.tuple ds), some b => (match keysD ds with
    | some ks => if noZ ks = true then .ok (.dict [(.tuple ds, b)]) else .no
    | none => .no)
  | _, _ => .no
theorem fn_oneT {fk fv : En → R D} (hu : X.A.units < cLine) (hk : FE X W k fk) (hv : FE X W v fv)
    (hs : (evalEachOpt [some k] X.env).zip ((evalEach [v] X.env).map fun z => do let x ← z; standAt pos; pure x) = [(some (eval k X.env), do let x ← eval v X.env; standAt pos; pure x)] := by rfl) :
    FN X W true (.Dict [some k] [v] pos) (cOneT fk fv) := impE (pe_oneT hu hk hv hs) fun σ H Q ⟨H0, A0, A, ρ, o, P⟩ => by
  intro p hp
  have sm : Same H (upd H p (.dT [])) := same_upd hp
  have og : Ok X.K H0 (p :: A0) (p :: A) ρ σ (upd H p (.dT [])) := o.grow sm hp (.of upd_same fun _ z => nomatch z)
  unfold cOneT at P
  split at P
  · rename_i ds b e1 e2
    split at P
    · rename_i ks e3
      split at P
      · rename_i hz
        obtain rfl := keysD_some e3
        refine ⟨H0, p :: A0, p :: A, ρ, og, Post.noXW e1 fun H1 s1 x hx => ?_⟩
        refine ⟨H0, p :: A0, p :: A, ρ, og.same s1, Post.noXW e2 fun H2 s2 y hy => ?_⟩
        have sH : Same H (upd H2 p (.dT [(ks, y)])) := fun c z hc => by
          rw [upd_ne (ne_of_none hc hp)]
          exact s2 _ _ (s1 _ _ (sm _ _ hc))
        have ny : Rep X.K (upd H2 p (.dT [(ks, y)])) (p :: A) y b := hy.tr (Tr.write List.mem_cons_self)
        cases hx with
        | tup n h r =>
          have ek := rep_key r
          subst ek
          exact ⟨s2 _ _ (s1 _ _ upd_same), _, ks, rfl, s2 _ _ h, P _ sH _ ⟨p, rfl, hp, .inr ⟨rfl, [(ks, y)], upd_same, .cons ny .nil⟩⟩⟩
        | kt z r =>
          have := zt_key z r
          rw [this] at hz
          exact absurd hz (by decide)
      · exact P.elim
    · exact P.elim
  · exact P.elim
end
/-! ### d.get(k, x) -/
/-- the rows of a dict whose keys are tuples -/
def tupRows : D → Option (List (D × D))
  | .dict kvs => if kvs.isEmpty = false ∧ (kvs.all fun kv => (keyD kv.1).isNone) = true then some kvs else none
  | _ => none
theorem rowsT {K : Frg} {H : Hp} {A : List Addr} {v : V} {d : D} {kvs : List (D × D)} (hv : RepB K H A v d) (h : tupRows d = some kvs) : d = .dict kvs ∧ ∃ a rows, v = .ref a ∧ Rd H a (.dT rows) ∧ RepT K H A rows kvs := by
  unfold tupRows at h
  split at h
  · split at h
    · rename_i hc
      cases h
      obtain ⟨a, ev, ⟨rows, h1, r⟩ | ⟨rows, h1, r⟩ | ⟨C0, n0, e⟩⟩ := hv.dict
      · have := repT_of_K r hc.2
        subst this
        cases hc.1
      · exact ⟨rfl, a, rows, ev, h1, r⟩
      · subst e
        exact Bool.noConfusion (show false = true from hc.2)
    · cases h
  · cases h
section
variable {X : Cx} {W : WX} {d k x : Expr} {apos cpos : Pos} {fd fk fx : En → R D}
def dGetT (kvs : List (D × D)) (k x : D) : Option D := match k with
  | .tuple ds => (keysD ds).bind fun ks => if noZ ks = true then some ((getT kvs ks).getD x) else none
  | _ => none
def cGet2 (fd fk fx : En → R D) : En → R D := fun ρ => (fd ρ).bind fun d => match tupRows d with
  | some kvs => (fk ρ).bind fun k => (fx ρ).bind fun x => ofO (dGetT kvs k x)
  | none => .no
theorem fe_get2 (hu : X.A.units + 1 < cLine) (hd : FB X W d fd) (hk : FE X W k fk) (hx : FE X W x fx)
    (m1 : attributeBase d "get" X.env (eval d X.env) = eval d X.env := by rfl)
    (m2 : ((backTo cpos (starEach [k, x] X.env)).all (fun x => !x.1) && (backToKw cpos (keywordEach [] X.env)).all (fun x => x.1.isSome) && decide (([k, x] : List Expr).length + ([] : List Keyword).length + (if ([] : List Keyword).isEmpty then 0 else 1) < 30)) = true := by rfl)
    (m3 : (apos.endLine == cpos.line) = true := by rfl) (m4 : backTo cpos (starEach [k, x] X.env) = [(false, eval k X.env), (false, eval x X.env)] := by rfl) :
    FE X W (.Call (.Attribute d "get" apos) [k, x] [] cpos) (cGet2 fd fk fx) := impE (pe_dget2 hu hd hk hx ⟨m1, m2, m3, m4⟩) fun σ H Q ⟨H0, A0, A, ρ, o, P⟩ => by
  refine ⟨H0, A0, A, ρ, o, P.bind.mono fun d1 H1 s1 P1 v hv => ?_⟩
  cases e0 : tupRows d1 with
  | none => rw [e0] at P1; exact P1.elim
  | some kvs =>
    rw [e0] at P1
    obtain ⟨rfl, a, rows, ev, h1, r⟩ := rowsT hv e0
    refine ⟨a, ev, .inr ⟨rows, h1⟩, H0, A0, A, ρ, o.same s1, P1.bind.mono fun d2 H2 s2 P2 y hy => ?_⟩
    refine ⟨H0, A0, A, ρ, (o.same s1).same s2, P2.bind.mono fun d3 H3 s3 P3 z hz => ?_⟩
    obtain ⟨dd, e, q⟩ := P3.ofO
    cases d2 with
    | tuple ds =>
      obtain ⟨ks, e1, e2⟩ := Option.bind_eq_some_iff.mp (show (keysD ds).bind _ = some dd from e)
      obtain rfl := keysD_some e1
      split at e2
      · rename_i hc
        cases e2
        have h3 : Rd H3 a (.dT rows) := by
          rcases h1 with h1 | ⟨ob, h1⟩
          · exact .inl (s3 _ _ (s2 _ _ h1))
          · exact .inr ⟨ob, s3 _ _ (s2 _ _ h1)⟩
        have r3 := (r.tr (Tr.same s2)).tr (Tr.same s3)
        have hy3 := hy.same s3
        cases hy3 with
        | tup n hb rk =>
          rw [rep_key rk] at hb
          refine ⟨valV rows ks, .inr ⟨rows, ks, _, h3, rfl, hb, rfl⟩, q H3 (Same.refl _) _ ?_⟩
          cases hg : getT kvs ks with
          | none =>
            rw [(getT_rep r3).2 hg]
            exact hz
          | some w =>
            obtain ⟨v2, e3, rv⟩ := (getT_rep r3).1 w hg
            rw [e3]
            exact rv
        | kt z2 rk =>
          have := zt_key z2 rk
          rw [this] at hc
          exact absurd hc (by decide)
      · cases e2
    | _ => cases e
end
end G

namespace G
open PySem PySem.Spec PyProof.Rows L2
/-! ### a dict that is gone through: locked meanwhile -/
structure Lk (A : List Addr) (H H' : Hp) : Prop where
  to : ∀ b o, H b = some o → H' b = some o ∨ (∃ od rows, o = .dT rows ∧ H' b = some (.frz od (.dT rows))) ∨ (∃ od rows, o = .frz od (.dT rows) ∧ H' b = some (.dT rows))
  own : ∀ b ∈ A, H' b = H b
section
variable {K : Frg} {H H' : Hp} {A : List Addr}
theorem Lk.keep (u : Lk A H H') {b : Addr} {o : HO} (h : H b = some o) (n1 : ∀ rows, o ≠ .dT rows) (n2 : ∀ od rows, o ≠ .frz od (.dT rows)) : H' b = some o := by
  rcases u.to b o h with h | ⟨od, rows, e, _⟩ | ⟨od, rows, e, _⟩
  · exact h
  · exact absurd e (n1 _)
  · exact absurd e (n2 _ _)
theorem Lk.dt (u : Lk A H H') {b : Addr} {rows : List (List Key × V)} (h : Rd H b (.dT rows)) : Rd H' b (.dT rows) := by
  rcases h with h | ⟨o, h⟩
  · rcases u.to b _ h with h | ⟨od, r2, e, h⟩ | ⟨od, r2, e, h⟩
    · exact .inl h
    · cases e; exact .inr ⟨_, h⟩
    · cases e
  · rcases u.to b _ h with h | ⟨od, r2, e, h⟩ | ⟨od, r2, e, h⟩
    · exact .inr ⟨_, h⟩
    · cases e
    · cases e; exact .inl h
theorem Lk.dk (u : Lk A H H') {b : Addr} {rows : List (Key × V)} (h : Rd H b (.dK rows)) : Rd H' b (.dK rows) := by
  rcases h with h | ⟨o, h⟩
  · exact .inl (u.keep h (fun _ z => nomatch z) fun _ _ z => nomatch z)
  · exact .inr ⟨o, u.keep h (fun _ z => nomatch z) fun _ _ z => nomatch z⟩
theorem Lk.lst (u : Lk A H H') {b : Addr} {vs : List V} (h : Rd H b (.lst vs)) : Rd H' b (.lst vs) := by
  rcases h with h | ⟨o, h⟩
  · exact .inl (u.keep h (fun _ z => nomatch z) fun _ _ z => nomatch z)
  · exact .inr ⟨o, u.keep h (fun _ z => nomatch z) fun _ _ z => nomatch z⟩
mutual
theorem Rep.lk (u : Lk A H H') : ∀ {v : V} {d : D}, Rep K H A v d → Rep K H' A v d
  | _, _, .non => .non
  | _, _, .bl b => .bl b
  | _, _, .int i => .int i
  | _, _, .str z => .str z
  | _, _, .lst n h r => .lst n (u.keep h (fun _ z => nomatch z) fun _ _ z => nomatch z) (RepL.lk u r)
  | _, _, .tup n h r => .tup n (u.keep h (fun _ z => nomatch z) fun _ _ z => nomatch z) (RepL.lk u r)
  | _, _, .kt z r => .kt z (RepL.lk u r)
  | _, _, .dk n h r => .dk n (u.dk h) (RepK.lk u r)
  | _, _, .dt n h r => .dt n (u.dt h) (RepT.lk u r)
  | _, _, .xo n n2 h h2 => .xo n n2 (u.keep h (fun _ z => nomatch z) fun _ _ z => nomatch z) (u.keep h2 (fun _ z => nomatch z) fun _ _ z => nomatch z)
theorem RepL.lk (u : Lk A H H') : ∀ {v : List V} {d : List D}, RepL K H A v d → RepL K H' A v d
  | _, _, .nil => .nil
  | _, _, .cons a b => .cons (Rep.lk u a) (RepL.lk u b)
theorem RepK.lk (u : Lk A H H') : ∀ {v : List (Key × V)} {d : List (D × D)}, RepK K H A v d → RepK K H' A v d
  | _, _, .nil => .nil
  | _, _, .cons a b => .cons (Rep.lk u a) (RepK.lk u b)
theorem RepT.lk (u : Lk A H H') : ∀ {v : List (List Key × V)} {d : List (D × D)}, RepT K H A v d → RepT K H' A v d
  | _, _, .nil => .nil
  | _, _, .cons a b => .cons (Rep.lk u a) (RepT.lk u b)
end
theorem ORep.lk (u : Lk A H H') {a : Addr} (ha : a ∈ A) {t : Bool} : ∀ {d : D}, ORep K H A a t d → ORep K H' A a t d
  | .list _, ⟨vs, h, r⟩ => ⟨vs, (u.own a ha).trans h, r.lk u⟩
  | .dict _, .inl ⟨e, vs, h, r⟩ => .inl ⟨e, vs, (u.own a ha).trans h, r.lk u⟩
  | .dict _, .inr ⟨e, vs, h, r⟩ => .inr ⟨e, vs, (u.own a ha).trans h, r.lk u⟩
  | .none, h => h.elim
  | .bool _, h => h.elim
  | .int _, h => h.elim
  | .str _, h => h.elim
  | .tuple _, h => h.elim
theorem Kp.lk (u : Lk A H H') {a : Addr} (ha : a ∈ A) (h : Kp H a) : Kp H' a := by
  have e := u.own a ha
  refine ⟨fun z => h.1 (by rw [← e]; exact z), fun xs z => h.2 xs (by rw [← e]; exact z)⟩
theorem SRep.lk {H0 H0' : Hp} {A0 : List Addr} (n0 : ∀ a, H0 a = none → H0' a = none) (u : Lk A H H') {v : V} : ∀ {x : Sl}, SRep K H0 A0 A H v x → SRep K H0' A0 A H' v x
  | .v _, h => Rep.lk u h
  | .own _ _, ⟨a, e, m, n, h⟩ => ⟨a, e, m, ⟨n0 a n.1, n.2⟩, h.lk u m⟩
  | .er _ _, _ => trivial
  | .sc _, ⟨a, e, .inl ⟨n, h⟩⟩ => ⟨a, e, .inl ⟨n, u.lst h⟩⟩
  | .sc _, ⟨a, e, .inr h⟩ => ⟨a, e, .inr h⟩
theorem Ok.lk {H0 H0' : Hp} {A0 : List Addr} {ρ : En} {σ : St} (o : Ok K H0 A0 A ρ σ H) (s : Same H0' H') (n0 : ∀ a, H0 a = none → H0' a = none) (u : Lk A H H') : Ok K H0' A0 A ρ σ H' :=
  ⟨o.len, s, o.sub, fun a ha => (o.new a ha).imp id (n0 a), fun a ha => (o.kp a ha).lk u ha, fun i x h => let ⟨v, h1, h2⟩ := o.slot i x h; ⟨v, h1, h2.lk n0 u⟩, o.dis⟩
variable {a : Addr} {od : Obj} {rows : List (List Key × V)}
theorem lk_lock (h : H a = some (.dT rows)) (n : a ∉ A) : Lk A H (upd H a (.frz od (.dT rows))) where
  to := fun b o e => by
    by_cases hb : b = a
    · subst hb
      rw [h] at e
      cases e
      exact .inr (.inl ⟨od, rows, rfl, upd_same⟩)
    · exact .inl (by rw [upd_ne hb]; exact e)
  own := fun b hb => upd_ne fun z => n (by rw [← z]; exact hb)
theorem lk_unlock (h : H a = some (.frz od (.dT rows))) (n : a ∉ A) : Lk A H (upd H a (.dT rows)) where
  to := fun b o e => by
    by_cases hb : b = a
    · subst hb
      rw [h] at e
      cases e
      exact .inr (.inr ⟨od, rows, rfl, upd_same⟩)
    · exact .inl (by rw [upd_ne hb]; exact e)
  own := fun b hb => upd_ne fun z => n (by rw [← z]; exact hb)
/-- what stood before, seen with the dict locked -/
def lockH (H0 : Hp) (a : Addr) (o : HO) : Hp := fun b => if b = a then (H0 a).map fun _ => o else H0 b
theorem lockH_none {H0 : Hp} {o : HO} {b : Addr} : lockH H0 a o b = none ↔ H0 b = none := by
  unfold lockH
  by_cases h : b = a
  · rw [if_pos h, h, Option.map_eq_none_iff]
  · rw [if_neg h]
theorem lockH_same {H0 : Hp} {o : HO} (s : Same H0 H) : Same (lockH H0 a o) (upd H a o) := fun b x e => by
  unfold lockH at e
  by_cases h : b = a
  · rw [if_pos h] at e
    obtain ⟨_, _, e⟩ := Option.map_eq_some_iff.mp e
    rw [h, upd_same, e]
  · rw [if_neg h] at e
    rw [upd_ne h]
    exact s b x e
end
/-! ### the keys, in their order -/
def cKeysT (i : Nat) : En → R (List D) := fun ρ => match ρ[i]? with
  | some (some (.v d)) => (match tupRows d with
    | some kvs => .ok (kvs.map (·.1))
    | none => .no)
  | _ => .no
theorem rowsT' {K : Frg} {H : Hp} {A : List Addr} {v : V} {d : D} {kvs : List (D × D)} (hv : Rep K H A v d) (h : tupRows d = some kvs) : ∃ a rows, v = .ref a ∧ a ∉ A ∧ Rd H a (.dT rows) ∧ RepT K H A rows kvs := by
  unfold tupRows at h
  split at h
  · split at h
    · rename_i hc
      cases h
      cases hv with
      | dk n h r =>
        have := repT_of_K r hc.2
        subst this
        cases hc.1
      | dt n h r => exact ⟨_, _, rfl, n, h, r⟩
      | xo n n2 h h2 => exact Bool.noConfusion (show false = true from hc.2)
    · cases h
  · cases h
theorem repT_len {K : Frg} {H : Hp} {A : List Addr} : ∀ {rows : List (List Key × V)} {kvs : List (D × D)}, RepT K H A rows kvs → rows.length = kvs.length
  | _, _, .nil => rfl
  | _, _, .cons a b => by rw [List.length_cons, List.length_cons, repT_len b]
theorem repT_get {K : Frg} {H : Hp} {A : List Addr} : ∀ {rows : List (List Key × V)} {kvs : List (D × D)} {i : Nat} {k : List Key} {v : V} {d : D}, RepT K H A rows kvs → rows[i]? = some (k, v) → (kvs.map (·.1))[i]? = some d → d = .tuple (k.map kD)
  | _, _, 0, _, _, _, .cons a b, h, h2 => by
    rw [List.getElem?_cons_zero] at h
    rw [List.map_cons, List.getElem?_cons_zero] at h2
    cases h
    cases h2
    rfl
  | _, _, i + 1, _, _, _, .cons a b, h, h2 => by
    rw [List.getElem?_cons_succ] at h
    rw [List.map_cons, List.getElem?_cons_succ] at h2
    exact repT_get b h h2
theorem repL_key {K : Frg} {H : Hp} {A : List Addr} : ∀ k : List Key, RepL K H A (k.map kV) (k.map kD)
  | [] => .nil
  | .inl i :: k => .cons (.int i) (repL_key k)
  | .inr z :: k => .cons (.str z) (repL_key k)
/-- the dict at slot i is locked -/
def Lkd (i : Nat) (σ : St) (H : Hp) : Prop := ∃ a od rows, σ[i]? = some (some (.ref a)) ∧ H a = some (.frz od (.dT rows))
def tFIk (K : Frg) (mg : MgT) (W : WX) (i : Nat) : TI := fun σ H Rr => Lkd i σ H ∧ tFI K mg W (cKeysT i) σ H Rr
theorem walk_keys {K : Frg} {A : List Addr} {H : Hp} {a : Addr} {od : Obj} {rows : List (List Key × V)} {kvs : List (D × D)} (n : a ∉ A) (h : H a = some (.frz od (.dT rows))) (r : RepT K H A rows kvs) : WalkJ K A (Itkt a od rows) H (kvs.map (·.1)) := fun A' H' u hk => by
  have h' := u.keep _ _ h n
  have hl := repT_len r
  refine ⟨fun i d hd => ⟨⟨h', ?_⟩, fun x H'' ⟨e, k, v, q, e1, e2, e3⟩ => ?_⟩, h', by rw [List.length_map, hl]; exact Nat.le_refl _⟩
  · have := (List.getElem?_eq_some_iff.mp hd).1
    rw [List.length_map] at this
    omega
  · subst e e2
    have := repT_get r e1 hd
    subst this
    exact ⟨Same.refl _, .tup (fun z => (hk q z).2 _ e3) e3 (repL_key k)⟩
section
variable {X : Cx} {W : WX} {tg : Expr} {x : Str} {q1 : Pos} {i : Nat}
theorem fi_keysT (hx : PE X (.Name x q1) (tVar i)) : PI X tg (.Name x q1) (tFIk X.K X.mg W i) := impI (pi_keys hx) fun σ H Q ⟨⟨a, od, rows, hs, hd⟩, H0, A0, A, ρ, o, P⟩ => by
  refine ⟨_, hs, a, od, rfl, .inr ⟨rows, hd, ?_⟩⟩
  unfold cKeysT at P
  split at P
  · rename_i d e
    split at P
    · rename_i kvs e2
      obtain ⟨v, e3, r⟩ := o.slot i _ e
      rw [hs] at e3
      cases e3
      obtain ⟨b, rw2, e4, n, h1, r2⟩ := rowsT' r e2
      cases e4
      rcases h1 with h1 | ⟨o2, h1⟩
      · rw [hd] at h1; cases h1
      · rw [hd] at h1
        cases h1
        exact P H (Same.refl _) _ (walk_keys n hd r2)
    · exact P.elim
  · exact P.elim
/-- for k in d: while it runs nothing is returned and nothing raised -/
def sForK (i : Nat) (tgt : TgF) (body : En → SR) : En → SR := fun ρ => match ρ[i]? with
  | some (some (.v d)) => (match tupRows d with
    | some kvs => (match loopL tgt body (kvs.map (·.1)) ρ with
      | .nx ρ' => .nx ρ'
      | _ => .no)
    | none => .no)
  | _ => .no
theorem sForK_inv {K : Frg} {mg : MgT} {H0 H : Hp} {A0 A : List Addr} {Ee : Ends} {tgt : TgF} {body : En → SR} {ρ : En} (P : PostS K mg W H0 A0 A H Ee (sForK i tgt body ρ)) :
    ∃ d kvs ρ', ρ[i]? = some (some (.v d)) ∧ tupRows d = some kvs ∧ sFor tgt (cKeysT i) body ρ = .nx ρ' ∧ PostS K mg W H0 A0 A H Ee (.nx ρ') := by
  unfold sForK at P
  split at P
  · rename_i d e
    split at P
    · rename_i kvs e2
      split at P
      · rename_i ρ' e3
        refine ⟨d, kvs, ρ', e, e2, ?_, P⟩
        unfold sFor cKeysT
        rw [e]
        show SR.of (match tupRows d with
          | some kvs => R.ok (kvs.map (·.1))
          | none => .no) ρ _ = _
        rw [e2]
        exact e3
      · exact P.elim
    · exact P.elim
  · exact P.elim
theorem PS.or {st : Stmt} {t t' : TS} (h : PS X st t) (h' : PS X st t') : PS X st (fun E σ H => t E σ H ∨ t' E σ H) := ⟨fun pins s σ H D I q => by
  rcases q with q | q
  · exact h.run pins s σ H D I q
  · exact h'.run pins s σ H D I q⟩
theorem PE.or {e : Expr} {t t' : TE} (h : PE X e t) (h' : PE X e t') : PE X e (fun σ H Q => t σ H Q ∨ t' σ H Q) := ⟨fun pins s σ H D I q => by
  rcases q with q | q
  · exact h.run pins s σ H D I q
  · exact h'.run pins s σ H D I q⟩
theorem for_read {tgt : TgF} {gb : En → SR} {l : En → R (List D)} {jx : List Nat} {Ee : Ends} {σ : St} {H : Hp} (h : tFS X.K X.mg W (sFor tgt l gb) Ee σ H) : tFor (tFI X.K X.mg W l) (tFG X.K jx tgt) (tFS X.K X.mg W gb) Ee σ H := by
  obtain ⟨H0, A0, A, ρ, ok, P⟩ := h
  refine ⟨H0, A0, A, ρ, ok, (P.of ok).mono fun ds H1 s1 P1 J hJ => ?_⟩
  refine ⟨fun i m σ2 H2 => m = ds.length - i ∧ i ≤ ds.length ∧ ∃ A2 ρ2, Ok X.K H0 A0 A2 ρ2 σ2 H2 ∧ Tr A H1 A2 H2 ∧ PostS X.K X.mg W H0 A0 A2 H2 Ee (loopL tgt gb (ds.drop i) ρ2), ⟨ds.length, rfl, Nat.zero_le _, A, ρ, ok.same s1, Tr.refl _ _, PostS.same (r := loopL tgt gb ds ρ) P1 s1⟩, ?_⟩
  rintro i m σ2 H2 ⟨rfl, hi, A2, ρ2, ok2, u2, P2⟩
  obtain ⟨hgo, hst⟩ := hJ A2 H2 u2 ok2.kp
  by_cases hlt : i < ds.length
  · refine .inr ⟨(hgo i ds[i] (by simp [hlt])).1, fun σ' H' => ∃ A' ρ', Ok X.K H0 A0 A' ρ' σ' H' ∧ Tr A H1 A' H' ∧ PostS X.K X.mg W H0 A0 A' H' Ee (loopL tgt gb (ds.drop (i + 1)) ρ'), fun σ' H' ⟨A', ρ', h1, h2, h3⟩ => ⟨ds.length - (i + 1), by omega, rfl, hlt, A', ρ', h1, h2, h3⟩, fun x H' hy => ?_⟩
    obtain ⟨sx, rx⟩ := (hgo i ds[i] (by simp [hlt])).2 x H' hy
    rw [List.drop_eq_getElem_cons hlt] at P2
    unfold loopL at P2
    split at P2
    · exact P2.elim
    · rename_i ρ3 e3
      refine ⟨H0, A0, A2, ρ2, ds[i], ρ3, ok2.same sx, rx, e3, fun σ3 o3 _ => ⟨H0, A0, A2, ρ3, o3, ?_⟩⟩
      have u3 : Tr A H1 A2 H' := u2.trans (Tr.same sx)
      have back : ∀ (ρ4 : En), PostS X.K X.mg W H0 A0 A2 H2 Ee (loopL tgt gb (ds.drop (i + 1)) ρ4) → ∀ σ' H'' A', Ok X.K H0 A0 A' ρ4 σ' H'' → Tr A2 H' A' H'' → ∃ A' ρ', Ok X.K H0 A0 A' ρ' σ' H'' ∧ Tr A H1 A' H'' ∧ PostS X.K X.mg W H0 A0 A' H'' Ee (loopL tgt gb (ds.drop (i + 1)) ρ') :=
        fun ρ4 q σ' H'' A' o' t => ⟨A', ρ4, o', u3.trans t, PostS.tr q ((Tr.same sx).trans t)⟩
      cases hb : gb ρ3 with
      | nx ρ4 => rw [hb] at P2; exact fun σ' H'' A' o' t => back ρ4 P2 σ' H'' A' o' t
      | ct ρ4 => rw [hb] at P2; exact fun σ' H'' A' o' t => back ρ4 P2 σ' H'' A' o' t
      | bk ρ4 => rw [hb] at P2; exact fun σ' H'' A' o' t => P2 σ' H'' A' o' ((Tr.same sx).trans t)
      | rt d => rw [hb] at P2; exact P2
      | ex cc n ρ4 => rw [hb] at P2; exact fun u p σ' H'' A' o' t => P2 u p σ' H'' A' o' ((Tr.same sx).trans t)
      | no => rw [hb] at P2; exact P2
  · have e : i = ds.length := by omega
    subst e
    rw [List.drop_length] at P2
    exact .inl ⟨hst, P2 σ2 H2 A2 ok2 (Tr.refl _ _)⟩
theorem fs_forK {body : List Stmt} {tgt : TgF} {gb : En → SR} {jx : List Nat} (hp : PassesOwn (model X.prog X.w) X.A X.env X.xe) (hc : X.calm = true) (hx : PE X (.Name x q1) (tVar i)) (hg : FG X tg jx tgt) (hb : FSs X W body gb)
    (hs : ∀ y, foldedSetIterable (.Name x q1) X.env y = pure y := by intro _; rfl) : FS X W (.For tg (.Name x q1) body [] pos) (sForK i tgt gb) := by
  have h : PS X (.For tg (.Name x q1) body [] pos) (fun Ee σ H => Lkd i σ H ∧ tFS X.K X.mg W (sFor tgt (cKeysT i) gb) Ee σ H) :=
    impS (ps_for hp hc (fi_keysT (W := W) hx) hg hb hs) fun Ee σ H ⟨h1, h2⟩ => ⟨h1, for_read h2⟩
  refine impS (PS.or (ps_lock h) h) fun Ee σ H ⟨H0, A0, A, ρ, o, P⟩ => ?_
  obtain ⟨d, kvs, ρ', e1, e2, e3, P1⟩ := sForK_inv P
  obtain ⟨v, s1, r⟩ := o.slot i _ e1
  obtain ⟨a, rows, rfl, n, h1, r2⟩ := rowsT' r e2
  rcases h1 with h1 | ⟨od, h1⟩
  · refine .inl ⟨a, .dT rows, h1, trivial, fun od => ⟨⟨a, od, rows, s1, upd_same⟩, lockH H0 a (.frz od (.dT rows)), A0, A, ρ, o.lk (lockH_same o.ext) (fun b hb => lockH_none.mpr hb) (lk_lock h1 n), ?_⟩⟩
    rw [e3]
    intro σ' H' A' o' t
    have k1 : H' a = some (.frz od (.dT rows)) := t.keep a _ upd_same n
    have n' : a ∉ A' := t.out upd_same n
    refine ⟨k1, P1 σ' (upd H' a (.dT rows)) A' (o'.lk (fun b x hb => ?_) (fun b hb => lockH_none.mp hb) (lk_unlock k1 n')) ⟨fun b x hb hn => ?_, fun b hb => ?_⟩⟩
    · by_cases z : b = a
      · subst z
        have := o.ext b x hb
        rw [h1] at this
        rw [upd_same, this]
      · rw [upd_ne z]
        refine o'.ext b x ?_
        unfold lockH
        rw [if_neg z]
        exact hb
    · by_cases z : b = a
      · subst z
        rw [h1] at hb
        rw [upd_same, hb]
      · rw [upd_ne z]
        exact t.keep b x (by rw [upd_ne z]; exact hb) hn
    · rcases t.new b hb with q | q
      · exact .inl q
      · refine .inr ?_
        by_cases z : b = a
        · rw [z, upd_same] at q; cases q
        · rw [upd_ne z] at q; exact q
  · refine .inr ⟨⟨a, od, rows, s1, h1⟩, H0, A0, A, ρ, o, ?_⟩
    rw [e3]
    exact P1
/-- [f(k) for k in d] -/
theorem fn_lcKt {elt : Expr} {ifs : List Expr} {tgt : TgF} {p : En → R Bool} {f : En → R D} {t : Bool} {scope : Scope} {own : List (Str × Nat)} {ix : List Nat} (hc : X.calm = true) (hN : X.N.Nodup) (hx : PE X (.Name x q1) (tVar i)) (okb : BlkOk X.N X.env.scope scope own)
    (hg : ∀ (s : Shared) (H : Hp) (C : Addr) (cl : List (Str × Addr)) (fp : List Addr), FG (X.blk s H scope (compEnvC scope cl C X.env) fp) tg ix tgt) (hix : ∀ i ∈ ix, i ∈ own.map (·.2))
    (ht : ∀ (s : Shared) (H : Hp) (C : Addr) (cl : List (Str × Addr)) (fp : List Addr), FTs (X.blk s H scope (compEnvC scope cl C X.env) fp) wNo ifs p)
    (he : ∀ (s : Shared) (H : Hp) (C : Addr) (cl : List (Str × Addr)) (fp : List Addr), FE (X.blk s H scope (compEnvC scope cl C X.env) fp) wNo elt f) (hs : ∀ y, foldedSetIterable (.Name x q1) X.env y = pure y := by intro _; rfl) :
    FN X W t (.ListComp elt [⟨tg, .Name x q1, ifs, 0⟩] scope pos) (cLc (own.map (·.2)) (cKeysT i) tgt p f) := by
  have h : PE X (.ListComp elt [⟨tg, .Name x q1, ifs, 0⟩] scope pos) (fun σ H Q => Lkd i σ H ∧ tFN X.K X.mg W t (cLc (own.map (·.2)) (cKeysT i) tgt p f) σ H Q) :=
    impE (pe_lc (g := tFG X.K ix tgt) (tt := tFT X.K X.mg wNo p) (te := tF X.K X.mg wNo f) hc hN (fi_keysT (W := W) hx) okb hg ht he hs) fun σ H Q ⟨h1, h2⟩ => ⟨h1, lc_read hix σ H Q h2⟩
  refine impE (PE.or (pe_lock h) h) fun σ H Q ⟨H0, A0, A, ρ, o, P⟩ => ?_
  have e0 : ∃ d kvs, ρ[i]? = some (some (.v d)) ∧ tupRows d = some kvs := by
    unfold cLc cKeysT at P
    split at P
    · rename_i d e
      split at P
      · rename_i kvs e2
        exact ⟨d, kvs, e, e2⟩
      · exact P.elim
    · exact P.elim
  obtain ⟨d, kvs, e1, e2⟩ := e0
  obtain ⟨v, s1, r⟩ := o.slot i _ e1
  obtain ⟨a, rows, rfl, n, h1, r2⟩ := rowsT' r e2
  rcases h1 with h1 | ⟨od, h1⟩
  · refine .inl ⟨a, .dT rows, h1, trivial, fun od => ⟨⟨a, od, rows, s1, upd_same⟩, lockH H0 a (.frz od (.dT rows)), A0, A, ρ, o.lk (lockH_same o.ext) (fun b hb => lockH_none.mpr hb) (lk_lock h1 n), ?_⟩⟩
    have hne : ∀ cc m, cLc (own.map (·.2)) (cKeysT i) tgt p f ρ ≠ .ex cc m := fun cc m z => by
      have hk : cKeysT i ρ = .ok (kvs.map Prod.fst) := by
        unfold cKeysT
        rw [e1]
        show (match tupRows d with
          | some kvs => R.ok (kvs.map Prod.fst)
          | none => .no) = _
        rw [e2]
      unfold cLc at z
      rw [hk] at z
      unfold ofO at z
      rw [R.bind_ok] at z
      split at z <;> cases z
    cases hr : cLc (own.map (·.2)) (cKeysT i) tgt p f ρ with
    | no => rw [hr] at P; exact P.elim
    | ex cc m => exact absurd hr (hne cc m)
    | ok y =>
      rw [hr] at P
      intro H' s v ⟨b, ev, nb, ob⟩
      have k1 : H' a = some (.frz od (.dT rows)) := s a _ upd_same
      have z : b ≠ a := fun z => by rw [z, upd_same] at nb; cases nb
      refine ⟨k1, P (upd H' a (.dT rows)) (fun c x hx => ?_) v ⟨b, ev, by rw [upd_ne z] at nb; exact nb, ob.lk (lk_unlock k1 fun q => ?_) List.mem_cons_self⟩⟩
      · by_cases w : c = a
        · subst w
          rw [h1] at hx
          rw [upd_same, hx]
        · rw [upd_ne w]
          exact s c x (by rw [upd_ne w]; exact hx)
      · rcases List.mem_cons.mp q with q | q
        · exact z q.symm
        · exact n q
  · exact .inr ⟨⟨a, od, rows, s1, h1⟩, H0, A0, A, ρ, o, P⟩
end
theorem units0 {k : Nat} {A : Around} (r : Room k A) : A.units < cLine := by
  have := units65 r
  omega
theorem units2 {k : Nat} {A : Around} (r : Room k A) : A.in1.in1.units < cLine := by
  have := units65 r
  show A.units + 1 + 1 < cLine
  omega
end G

namespace G
open PySem PySem.Spec PyProof.Rows L2
/-! ### list(range(n)) -/
def dLR : D → Option D
  | .int n => if -(2 ^ 62) ≤ n ∧ n ≤ 16777216 then some (.list (rangeD 0 n.toNat)) else none
  | _ => none
theorem repL_ints {K : Frg} {H : Hp} {A : List Addr} (f : Nat → Int) : ∀ l : List Nat, RepL K H A (l.map fun i => V.int (f i)) (l.map fun i => (.int (f i) : D))
  | [] => .nil
  | a :: l => .cons (.int _) (repL_ints f l)
theorem fn_listrange {X : Cx} {W : WX} {e : Expr} {f : En → R D} {t : Bool} {p1 p2 pos q : Pos} (hc : X.calm = true) (hg : Gl X "list") (hm : X.mg "list" = none) (hg2 : Gl X "range") (hm2 : X.mg "range" = none) (he : FE X W e f)
    (na : starEach [e] X.env = (false, eval e X.env) :: starEach [] X.env := by rfl)
    (na2 : starEach [.Call (.Name "range" p2) [e] [] q] X.env = (false, eval (.Call (.Name "range" p2) [e] [] q) X.env) :: starEach [] X.env := by rfl) :
    FN X W t (.Call (.Name "list" p1) [.Call (.Name "range" p2) [e] [] q] [] pos) (cUn dLR f) := by
  refine impE (pe_listRg hc hg hm (prg_1 hg2 hm2 he na) na2) fun σ H Q ⟨H0, A0, A, ρ, o, P⟩ => ?_
  refine ⟨H0, A0, A, ρ, o, P.bind.mono fun d H1 s1 P1 v hv => ?_⟩
  obtain ⟨d2, e1, P2⟩ := P1.ofO
  unfold dLR at e1
  split at e1
  · rename_i n
    split at e1
    · rename_i hb
      cases e1
      cases hv
      refine ⟨n, rfl, ⟨by omega, by omega, by omega, by omega, by omega⟩, fun p hp => P2 _ (same_upd hp) _ ⟨p, rfl, s1.free hp, orep_lst hp ?_⟩⟩
      have := repL_ints (K := X.K) (H := H1) (A := A) (fun i => (0 : Int) + (i : Nat)) (List.range (n - 0).toNat)
      unfold rgV rangeD
      rw [Int.sub_zero] at *
      exact this
    · cases e1
  · cases e1
end G

namespace G
open PySem PySem.Spec PyProof.Rows L2
/-- a comprehension over data told by xs -/
theorem lcL_gen {α : Type} {tgt : TgF} {p : En → R Bool} {f : En → R D} {ρ : En} {enc : α → D} (ρ' : α → En) (keep : α → Bool) (val : α → D) : ∀ {xs : List α}, (∀ x ∈ xs, tgt (enc x) ρ = some (ρ' x) ∧ p (ρ' x) = .ok (keep x) ∧ (keep x = true → f (ρ' x) = .ok (val x))) →
    lcL tgt p f ρ (xs.map enc) = some ((xs.filter keep).map val)
  | [], _ => rfl
  | x :: xs, h => by
    obtain ⟨h1, h2, h3⟩ := h x List.mem_cons_self
    have ih := lcL_gen ρ' keep val (xs := xs) fun y hy => h y (List.mem_cons_of_mem _ hy)
    rw [List.map_cons]
    unfold lcL
    rw [h1, Option.bind_some, h2]
    simp only [noX, Option.bind_some]
    cases hk : keep x with
    | false => simp [hk, ih]
    | true => simp [hk, ih, h3 hk]
theorem lcL_map {α : Type} {tgt : TgF} {f : En → R D} {ρ : En} {enc : α → D} (ρ' : α → En) (val : α → D) {xs : List α} (h : ∀ x ∈ xs, tgt (enc x) ρ = some (ρ' x) ∧ f (ρ' x) = .ok (val x)) : lcL tgt cTrue f ρ (xs.map enc) = some (xs.map val) := by
  rw [lcL_gen ρ' (fun _ => true) val fun x hx => ⟨(h x hx).1, rfl, fun _ => (h x hx).2⟩]
  rw [List.filter_eq_self.mpr fun _ _ => rfl]
theorem intsOf_int {α : Type} (f : α → Int) (xs : List α) : intsOf (xs.map fun x => .int (f x)) = some (xs.map f) := by
  have := intsOf_map (xs.map f)
  rw [List.map_map] at this
  exact this
section
variable {c : En → R Bool} {body : En → SR} {n : Nat} {ρ ρ2 : En} {d : D}
theorem whileL_step (h1 : c ρ = .ok true) (h2 : body ρ = .nx ρ2) : whileL c body (n + 1) ρ = whileL c body n ρ2 := by
  conv => lhs; unfold whileL
  rw [h1]
  simp only [SR.of, if_true, h2]
theorem whileL_stop (h1 : c ρ = .ok false) : whileL c body (n + 1) ρ = .nx ρ := by
  unfold whileL
  rw [h1]
  rfl
theorem whileL_ret (h1 : c ρ = .ok true) (h2 : body ρ = .rt d) : whileL c body (n + 1) ρ = .rt d := by
  unfold whileL
  rw [h1]
  simp only [SR.of, if_true, h2]
end
theorem fdiv_nat (a b : Nat) : (a : Int).fdiv (b : Int) = ((a / b : Nat) : Int) := by
  rw [Int.fdiv_eq_ediv_of_nonneg _ (Int.natCast_nonneg b)]
  rfl
theorem fmod_nat (a b : Nat) : (a : Int).fmod (b : Int) = ((a % b : Nat) : Int) := by
  rw [Int.fmod_eq_emod_of_nonneg _ (Int.natCast_nonneg b)]
  rfl
theorem fdiv_pos (a : Int) {b : Int} (h : 0 < b) : a.fdiv b = a / b := Int.fdiv_eq_ediv_of_nonneg _ (Int.le_of_lt h)
theorem fmod_pos (a : Int) {b : Int} (h : 0 < b) : a.fmod b = a % b := Int.fmod_eq_emod_of_nonneg _ (Int.le_of_lt h)
@[simp] theorem dDiv_nat2 (a : Nat) : dDiv (.int (a : Int)) (.int 2) = some (.int ((a / 2 : Nat) : Int)) := by
  show (if (2 : Int) ≠ 0 ∧ (2 : Int).natAbs.log2 < 9000 then some (PyData.int ((a : Int).fdiv 2)) else none) = _
  rw [if_pos (by decide)]
  exact congrArg (fun z => some (PyData.int z)) (fdiv_nat a 2)
@[simp] theorem dMod_nat2 (a : Nat) : dMod (.int (a : Int)) (.int 2) = some (.int ((a % 2 : Nat) : Int)) := by
  show (if (2 : Int) ≠ 0 then some (PyData.int ((a : Int).fmod 2)) else none) = _
  rw [if_pos (by decide)]
  exact congrArg (fun z => some (PyData.int z)) (fmod_nat a 2)
@[simp] theorem dAdd_int (a b : Int) : dAdd (.int a) (.int b) = some (.int (a + b)) := rfl
@[simp] theorem dLt_int (a b : Int) : dLt (.int a) (.int b) = some (.bool (decide (a < b))) := rfl
theorem dMod_pos (a : Int) {b : Int} (h : 0 < b) : dMod (.int a) (.int b) = some (.int (a % b)) := by
  show (if b ≠ 0 then some (PyData.int (a.fmod b)) else none) = _
  rw [if_pos (by omega), fmod_pos a h]
theorem dDiv_pos (a : Int) {b : Int} (h : 0 < b) (h2 : b.natAbs.log2 < 9000) : dDiv (.int a) (.int b) = some (.int (a / b)) := by
  show (if b ≠ 0 ∧ b.natAbs.log2 < 9000 then some (PyData.int (a.fdiv b)) else none) = _
  rw [if_pos ⟨by omega, h2⟩, fdiv_pos a h]
theorem dEq_int (a b : Int) : dEq (.int a) (.int b) = some (.bool (decide (a = b))) := by
  unfold dEq
  rw [if_pos ⟨rfl, rfl⟩]
  simp [PyData.eqv]
  rfl
theorem dNe_int (a b : Int) : dNe (.int a) (.int b) = some (.bool (decide (a ≠ b))) := by
  unfold dNe
  rw [if_pos ⟨rfl, rfl⟩]
  simp [PyData.eqv]
  rfl
end G

namespace C
/-! ### the best share, in plain words -/
/-- a within b, digit by digit; n digits are looked at -/
def subF : Nat → Nat → Nat → Bool
  | 0, _, _ => true
  | n + 1, a, b => if a = 0 then true else if b % 2 < a % 2 then false else subF n (a / 2) (b / 2)
def sub (a b : Nat) : Bool := subF 99 a b
def parts (w : Nat) : List Nat := (List.range (w + 1)).filter fun p => sub p w
theorem subF_zero (n b : Nat) : subF n 0 b = true := by cases n <;> simp [subF]
theorem zero_part (w : Nat) : 0 ∈ parts w := by
  simp [parts, sub, subF_zero]
theorem part_le {p w : Nat} (h : p ∈ parts w) : p ≤ w := by
  have := (List.mem_filter.mp h).1
  rw [List.mem_range] at this
  omega
abbrev Tbl := List Int
def at_ (t : Tbl) (p : Nat) : Int := t.getD p 0
/-- the greatest of a list that is not empty -/
def top (l : List Int) : Int := l.foldl max (l.headD 0)
theorem le_foldl (l : List Int) : ∀ a : Int, a ≤ l.foldl max a ∧ ∀ x ∈ l, x ≤ l.foldl max a := by
  induction l with
  | nil => intro a; exact ⟨Int.le_refl a, fun x h => absurd h List.not_mem_nil⟩
  | cons y l ih =>
    intro a
    rw [List.foldl_cons]
    obtain ⟨h1, h2⟩ := ih (max a y)
    refine ⟨by omega, fun x hx => ?_⟩
    rcases List.mem_cons.mp hx with rfl | hx
    · omega
    · exact h2 x hx
theorem foldl_in (l : List Int) : ∀ a : Int, l.foldl max a = a ∨ l.foldl max a ∈ l := by
  induction l with
  | nil => intro a; exact .inl rfl
  | cons y l ih =>
    intro a
    rw [List.foldl_cons]
    rcases ih (max a y) with h | h
    · rcases Int.le_total a y with q | q
      · right; rw [h, Int.max_eq_right q]; exact List.mem_cons_self
      · left; rw [h, Int.max_eq_left q]
    · exact .inr (List.mem_cons_of_mem _ h)
theorem top_ge {l : List Int} {x : Int} (h : x ∈ l) : x ≤ top l := (le_foldl l _).2 x h
theorem top_mem {l : List Int} (h : l ≠ []) : top l ∈ l := by
  cases l with
  | nil => exact absurd rfl h
  | cons a l =>
    rcases foldl_in (a :: l) a with e | e
    · show (a :: l).foldl max a ∈ _; rw [e]; exact List.mem_cons_self
    · exact e
theorem top_eq {l : List Int} {m : Int} (h1 : m ∈ l) (h2 : ∀ x ∈ l, x ≤ m) : top l = m := by
  have h3 : top l ∈ l := top_mem (by intro z; rw [z] at h1; cases h1)
  have := h2 _ h3
  have := top_ge h1
  omega
/-- the most that tables make of parted goods within w -/
def best : List Tbl → Nat → Int
  | [], _ => 0
  | t :: ts, w => top ((parts w).map fun p => at_ t p + best ts (w - p))
/-- all ways to part goods within w, in the order of numbers -/
def seqs : Nat → Nat → List (List Nat)
  | 0, _ => [[]]
  | n + 1, w => (parts w).flatMap fun p => (seqs n (w - p)).map fun s => p :: s
def sumOf : List Tbl → List Nat → Int
  | t :: ts, p :: s => at_ t p + sumOf ts s
  | _, _ => 0
/-- the first way that makes the most -/
def pick : List Tbl → Nat → List Nat
  | [], _ => []
  | t :: ts, w => match (parts w).find? fun p => at_ t p + best ts (w - p) == best (t :: ts) w with
    | some p => p :: pick ts (w - p)
    | none => []
theorem best_ge {t : Tbl} {ts : List Tbl} {w p : Nat} (h : p ∈ parts w) : at_ t p + best ts (w - p) ≤ best (t :: ts) w := top_ge (List.mem_map.mpr ⟨p, h, rfl⟩)
theorem best_at (t : Tbl) (ts : List Tbl) (w : Nat) : ∃ p ∈ parts w, at_ t p + best ts (w - p) = best (t :: ts) w := by
  have : best (t :: ts) w ∈ (parts w).map fun p => at_ t p + best ts (w - p) := top_mem (by
    intro z
    rw [List.map_eq_nil_iff] at z
    have := zero_part w
    rw [z] at this
    cases this)
  exact List.mem_map.mp this
theorem sum_le : ∀ (ts : List Tbl) (w : Nat) (s : List Nat), s ∈ seqs ts.length w → sumOf ts s ≤ best ts w
  | [], _, s, h => by
    simp [seqs] at h
    subst h
    simp [sumOf, best]
  | t :: ts, w, s, h => by
    simp only [seqs, List.length_cons, List.mem_flatMap, List.mem_map] at h
    obtain ⟨p, hp, r, hr, rfl⟩ := h
    have h1 := sum_le ts (w - p) r hr
    have h2 := best_ge (t := t) (ts := ts) hp
    simp only [sumOf]
    omega
theorem pick_some (t : Tbl) (ts : List Tbl) (w : Nat) : ∃ p ∈ parts w, at_ t p + best ts (w - p) = best (t :: ts) w ∧ pick (t :: ts) w = p :: pick ts (w - p) ∧ (parts w).find? (fun p => at_ t p + best ts (w - p) == best (t :: ts) w) = some p := by
  obtain ⟨p0, h0, e0⟩ := best_at t ts w
  cases hf : (parts w).find? fun p => at_ t p + best ts (w - p) == best (t :: ts) w with
  | none => exact absurd (List.find?_eq_none.mp hf p0 h0) (by simp [e0])
  | some p => exact ⟨p, List.mem_of_find?_eq_some hf, by have := List.find?_some hf; simpa using this, by simp [pick, hf], rfl⟩
theorem pick_in : ∀ (ts : List Tbl) (w : Nat), pick ts w ∈ seqs ts.length w ∧ sumOf ts (pick ts w) = best ts w
  | [], _ => by simp [pick, seqs, sumOf, best]
  | t :: ts, w => by
    obtain ⟨p, hp, e, e2, _⟩ := pick_some t ts w
    obtain ⟨h1, h2⟩ := pick_in ts (w - p)
    rw [e2]
    refine ⟨?_, by simp only [sumOf]; omega⟩
    simp only [seqs, List.length_cons, List.mem_flatMap, List.mem_map]
    exact ⟨p, hp, _, h1, rfl⟩
/-- one list of numbers ahead of another of as many -/
def lexLt : List Nat → List Nat → Bool
  | a :: r, b :: s => decide (a < b) || (decide (a = b) && lexLt r s)
  | _, _ => false
theorem parts_sorted (w : Nat) : (parts w).Pairwise (· < ·) := (List.pairwise_lt_range).filter _
theorem find_first {w : Nat} {f : Nat → Bool} : ∀ {l : List Nat} {p q : Nat}, l.Pairwise (· < ·) → l.find? f = some p → q ∈ l → f q = true → p ≤ q
  | a :: l, p, q, h, hf, hq, hfq => by
    rw [List.pairwise_cons] at h
    rw [List.find?_cons] at hf
    split at hf
    · cases hf
      rcases List.mem_cons.mp hq with rfl | hq
      · exact Nat.le_refl _
      · exact Nat.le_of_lt (h.1 q hq)
    · rename_i hn
      rcases List.mem_cons.mp hq with rfl | hq
      · rw [hfq] at hn; cases hn
      · exact find_first (w := w) h.2 hf hq hfq
/-- any other way that makes the most comes later -/
theorem pick_first : ∀ (ts : List Tbl) (w : Nat) (s : List Nat), s ∈ seqs ts.length w → sumOf ts s = best ts w → s ≠ pick ts w → lexLt (pick ts w) s = true
  | [], _, s, h, _, hn => by
    simp [seqs] at h
    subst h
    exact absurd rfl hn
  | t :: ts, w, s, h, e, hn => by
    simp only [seqs, List.length_cons, List.mem_flatMap, List.mem_map] at h
    obtain ⟨q, hq, r, hr, rfl⟩ := h
    obtain ⟨p, hp, e1, e2, e3⟩ := pick_some t ts w
    have hs := sum_le ts (w - q) r hr
    have hb := best_ge (t := t) (ts := ts) hq
    simp only [sumOf] at e
    have hle : p ≤ q := find_first (w := w) (parts_sorted w) e3 hq (by simp; omega)
    rw [e2] at hn ⊢
    rcases Nat.lt_or_eq_of_le hle with h | h
    · simp [lexLt, h]
    · subst h
      have : r ≠ pick ts (w - p) := fun z => hn (by rw [z])
      have ih := pick_first ts (w - p) r hr (by omega) this
      simp [lexLt, ih]
end C

namespace G
open PySem PySem.Spec PyProof.Rows L2
abbrev nD (n : Nat) : D := .int n
abbrev tD (t : List Int) : D := .list (t.map PyData.int)
theorem rangeD_nat (n : Nat) : rangeD 0 n = (List.range n).map nD := by
  unfold rangeD
  simp
theorem dRange1_nat {n : Nat} (h : n < 2 ^ 62) : dRange1 [.int (n : Int)] = some ((List.range n).map nD) := by
  have e : dRange1 [.int (n : Int)] = (if -(2 ^ 62) ≤ (n : Int) ∧ (n : Int) < 2 ^ 62 then some (rangeD 0 (n : Int).toNat) else none) := by simp only [dRange1]
  rw [e, if_pos (by omega), ← rangeD_nat]
  simp
@[simp] theorem atI_nat {α : Type} (xs : List α) (i : Nat) : atI xs (i : Int) = xs[i]? := by
  unfold atI ixN
  by_cases h : i < xs.length
  · simp [h]
  · simp [h]
@[simp] theorem dIx_nat (xs : List D) (i : Nat) : dIx (.list xs) (.int (i : Int)) = xs[i]? := atI_nat xs i
@[simp] theorem dIxT_nat (xs : List D) (i : Nat) : dIx (.tuple xs) (.int (i : Int)) = xs[i]? := atI_nat xs i
@[simp] theorem dIx_zero (xs : List D) : dIx (.list xs) (.int 0) = xs[0]? := atI_nat xs 0
@[simp] theorem dIxT_zero (xs : List D) : dIx (.tuple xs) (.int 0) = xs[0]? := atI_nat xs 0
@[simp] theorem dIx_one (xs : List D) : dIx (.list xs) (.int 1) = xs[1]? := atI_nat xs 1
@[simp] theorem dIxT_one (xs : List D) : dIx (.tuple xs) (.int 1) = xs[1]? := atI_nat xs 1
@[simp] theorem dIx_last (xs : List D) : dIx (.list xs) (.int (-1)) = xs.getLast? := by
  show atI xs (-1) = _
  unfold atI ixN
  cases xs with
  | nil => simp
  | cons a r =>
    have h1 : ¬ (0 : Int) ≤ -1 := by omega
    have h2 : -(((a :: r).length : Nat) : Int) ≤ -1 := by rw [List.length_cons]; omega
    have h3 : ((-1 : Int) + (((a :: r).length : Nat) : Int)).toNat = r.length := by rw [List.length_cons]; omega
    rw [if_neg h1, if_pos h2, h3, List.getLast?_eq_getElem?]
    simp
theorem getD_tbl {t : List Int} {i : Nat} (h : i < t.length) : t[i]? = some (C.at_ t i) := by
  unfold C.at_
  simp [h]
theorem dMax_top {xs : List Int} (h : xs ≠ []) : dMax [tD xs] = some (.int (C.top xs)) := by
  cases xs with
  | nil => exact absurd rfl h
  | cons a r =>
    show ((intsOf ((a :: r).map PyData.int)).bind maxI).map PyData.int = _
    rw [intsOf_map]
    simp [maxI, C.top]
theorem dLen_list (xs : List D) : dLen [.list xs] = some (.int (xs.length : Nat)) := by rfl
theorem cLc_of {vs : List Nat} {l : En → R (List D)} {tgt : TgF} {p : En → R Bool} {f : En → R D} {ρ : En} {ds ys : List D} (h1 : l ρ = .ok ds) (h2 : lcL tgt p f (wipeE ρ vs) ds = some ys) (h3 : ys.length ≤ sizeLine) : cLc vs l tgt p f ρ = .ok (.list ys) := by
  unfold cLc
  rw [h1]
  show ofO ((lcL tgt p f (wipeE ρ vs) ds).bind fun ys => if ys.length ≤ sizeLine then some (PyData.list ys) else none) = _
  rw [h2, Option.bind_some, if_pos h3]
  rfl
theorem sRet_of {f : En → R D} {ρ : En} {d : D} (h : f (disown ρ) = .ok d) : (sRet f ρ).out = .ok d := by
  unfold sRet
  rw [h]
  rfl
theorem runF_of {n p : Nat} {g : En → SR} {ds : List D} {r : R D} (h0 : ds.length = p) (h : (g (enter n p ds)).out = r) : runF n p g ds = r := by
  unfold runF
  rw [if_pos h0, h]
theorem cCall1_of {df : List D → Option D} {f : En → R D} {ρ : En} {d e : D} (h : f ρ = .ok d) (h2 : df [d] = some e) : cCall df (cCons f cNil) ρ = .ok e := by
  simp only [cCall, cCons, cNil, h, R.bind, h2, ofO]
theorem cCallF_of {F : List D → R D} {l : En → R (List D)} {ρ : En} {ds : List D} {r : R D} (h : l ρ = .ok ds) (h2 : F ds = r) : cCallF F l ρ = r := by
  simp only [cCallF, h, R.bind, h2]
theorem sSeq_nx {g1 g2 : En → SR} {ρ ρ1 : En} {r : SR} (h1 : g1 ρ = .nx ρ1) (h2 : g2 ρ1 = r) : sSeq g1 g2 ρ = r := by
  unfold sSeq
  rw [h1]
  exact h2
theorem sSet_of {i : Nat} {f : En → R D} {ρ : En} {d : D} (h : f ρ = .ok d) : sSet i f ρ = .nx (ρ.set i (some (.v d))) := by
  unfold sSet
  rw [h]
  rfl
theorem sSetN_of {i : Nat} {t : Bool} {f : En → R D} {ρ : En} {d : D} (h : f ρ = .ok d) : sSetN i t f ρ = .nx (ρ.set i (some (.own t d))) := by
  unfold sSetN
  rw [h]
  rfl
theorem sAppend_of {i : Nat} {f : En → R D} {ρ : En} {t : Bool} {ds : List D} {d : D} (ho : ρ[i]? = some (some (.own t (.list ds)))) (h : f ρ = .ok d) (hz : ds.length < sizeLine) : sAppend i f ρ = .nx (ρ.set i (some (.own t (.list (ds ++ [d]))))) := by
  unfold sAppend ownL
  rw [ho]
  show SR.of (f ρ) ρ _ = _
  rw [h]
  show (if ds.length < sizeLine then _ else _) = _
  rw [if_pos hz]
theorem sFor_of {tgt : TgF} {l : En → R (List D)} {body : En → SR} {ρ : En} {ds : List D} {r : SR} (h : l ρ = .ok ds) (h2 : loopL tgt body ds ρ = r) : sFor tgt l body ρ = r := by
  unfold sFor
  rw [h]
  exact h2
theorem loopL_nx {tgt : TgF} {body : En → SR} {d : D} {ds : List D} {ρ ρ1 ρ2 : En} {r : SR} (h1 : tgt d ρ = some ρ1) (h2 : body ρ1 = .nx ρ2) (h3 : loopL tgt body ds ρ2 = r) : loopL tgt body (d :: ds) ρ = r := by
  conv => lhs; unfold loopL
  rw [h1]
  simp only [h2]
  exact h3
theorem loopL_rt {tgt : TgF} {body : En → SR} {d e : D} {ds : List D} {ρ ρ1 : En} (h1 : tgt d ρ = some ρ1) (h2 : body ρ1 = .rt e) : loopL tgt body (d :: ds) ρ = .rt e := by
  conv => lhs; unfold loopL
  rw [h1]
  simp only [h2]
theorem loopL_nil {tgt : TgF} {body : En → SR} {ρ : En} : loopL tgt body [] ρ = .nx ρ := rfl
theorem sIf_true {c : En → R Bool} {g1 g2 : En → SR} {ρ : En} {r : SR} (h : c ρ = .ok true) (h2 : g1 ρ = r) : sIf c g1 g2 ρ = r := by
  unfold sIf
  rw [h]
  simpa [SR.of] using h2
theorem sIf_false {c : En → R Bool} {g1 g2 : En → SR} {ρ : En} {r : SR} (h : c ρ = .ok false) (h2 : g2 ρ = r) : sIf c g1 g2 ρ = r := by
  unfold sIf
  rw [h]
  simpa [SR.of] using h2
theorem cCallF1_of {F : List D → R D} {f : En → R D} {ρ : En} {d : D} {r : R D} (h : f ρ = .ok d) (h2 : F [d] = r) : cCallF F (cCons f cNil) ρ = r := by
  simp only [cCallF, cCons, cNil, h, R.bind, h2]
theorem cItems_of {f : En → R D} {ρ : En} {ds : List D} (h : f ρ = .ok (.list ds)) : cItems f ρ = .ok ds := by
  simp only [cItems, h, R.bind, itemsOf, ofO]
theorem cItemsT_of {f : En → R D} {ρ : En} {ds : List D} (h : f ρ = .ok (.tuple ds)) : cItems f ρ = .ok ds := by
  simp only [cItems, h, R.bind, itemsOf, ofO]
theorem cIter1_of {df : List D → Option (List D)} {f : En → R D} {ρ : En} {d : D} {e : List D} (h : f ρ = .ok d) (h2 : df [d] = some e) : cIter df (cCons f cNil) ρ = .ok e := by
  simp only [cIter, cCons, cNil, h, R.bind, h2, ofO]
theorem cBin_of {dop : D → D → Option D} {f g : En → R D} {ρ : En} {a b e : D} (h1 : f ρ = .ok a) (h2 : g ρ = .ok b) (h : dop a b = some e) : cBin dop f g ρ = .ok e := by
  simp only [cBin, h1, h2, R.bind, h, ofO]
end G

namespace K06
open PySem PySem.Spec PyProof.Rows L2 G
def g_is_bundle : En → SR :=
  (sRet (cAndV (cBin dGt (cCall dLen (cCons (cVarB 0) cNil)) (cK (.int 0))) (cAndV (cBin dEq (cCall dListOf (cCons (cVarB 0) cNil)) (cUn dSortSet (cVarB 0))) (cAndV (cBin dGe (cBin dIx (cVarB 0) (cK (.int 0))) (cK (.int 0))) (cBin dLt (cBin dIx (cVarB 0) (cUn dNeg (cK (.int 1)))) (cVarB 1))))))
def f_is_bundle : List D → R D := runF 2 2 g_is_bundle
def g_inner : En → SR :=
  (sSeq (sIf (cBinT dEq (cBin dIx (cVarB 0) (cK (.int 0))) (cK (.str "one")))
    (sRet (cTup cNil))
    sNext)
    (sRet (cIf (cBinT dEq (cBin dIx (cVarB 0) (cK (.int 0))) (cK (.str "up"))) (cBin dIx (cVarB 0) (cK (.int 2))) (cBin dIx (cVarB 0) (cK (.int 1))))))
def f_inner : List D → R D := runF 1 1 g_inner
def g_check_goods : En → SR :=
  (sIf (cNot (cChainT dLe dLe (cK (.int 1)) (cVarB 0) (cK (.int 6))))
    (sRaise "OutOfRange" (cVar 0))
    sNext)
def f_check_goods : List D → R D := runF 1 1 g_check_goods
def g_number_of : En → SR :=
  (sRet (cCall dSum (cCons (cLc [1] (cItems (cVar 0)) (gN 1) cTrue (cBin dIx (cK (.tuple [(.int 1), (.int 2), (.int 4), (.int 8), (.int 16), (.int 32), (.int 64)])) (cVar 1))) cNil)))
def f_number_of : List D → R D := runF 2 1 g_number_of
def g_within : En → SR :=
  (sSeq (sPar 2 3 (cCons (cVar 0) (cCons (cVar 1) cNil)))
    (sSeq (sWhile 100 (cBinT dGt (cVarB 2) (cK (.int 0)))
    (sSeq (sIf (cBinT dGt (cBin dMod (cVarB 2) (cK (.int 2))) (cBin dMod (cVarB 3) (cK (.int 2))))
    (sRet (cK (.bool false)))
    sNext)
    (sPar 2 3 (cCons (cBin dDiv (cVarB 2) (cK (.int 2))) (cCons (cBin dDiv (cVarB 3) (cK (.int 2))) cNil)))))
    (sRet (cK (.bool true)))))
def f_within : List D → R D := runF 4 2 g_within
def g_most_of : En → SR :=
  (sRet (cLc [1] (cIter dRange1 (cCons (cCall dLen (cCons (cBin dIx (cVarB 0) (cK (.int 0))) cNil)) cNil)) (gN 1) cTrue (cCall dMax (cCons (cLc [2] (cItems (cVar 0)) (gN 2) cTrue (cBin dIx (cVarB 2) (cVar 1))) cNil))))
def f_most_of : List D → R D := runF 3 1 g_most_of
def g_weight_of : En → SR :=
  (sSeq (sAsg (gT (gC (gN 2) (gC (gN 3) gE))) (cVar 0))
    (sSeq (sIf (cBinT dEq (cVarB 1) (cK (.str "worth")))
    (sRet (cTup (cCons (cVar 3) (cCons (cK (.int 1)) cNil))))
    sNext)
    (sRet (cIf (cBinT dEq (cVarB 1) (cK (.str "each"))) (cTup (cCons (cVar 3) (cCons (cCall dLen (cCons (cVarB 2) cNil)) cNil))) (cTup (cCons (cBin dMul (cVarB 3) (cVarB 3)) (cCons (cCall dLen (cCons (cVarB 2) cNil)) cNil)))))))
def f_weight_of : List D → R D := runF 4 2 g_weight_of
def g_l_draws : En → SR :=
  (sSeq (sSetN 1 false (cList cNil))
    (sSeq (sFor (gN 2) (cIter dRange1 (cCons (cCall dMin2 (cCons (cK (.int 63)) (cCons (cLenS 0) cNil))) cNil))
    (sSeq (sSet 3 (cCall dAbs (cCons (cIxS 0 (cVar 2)) cNil)))
    (sIf (cBinT dGe (cVarB 3) (cBin dPow (cK (.int 10)) (cK (.int 18))))
    (sFor (gN 4) (cIter dRange1 (cCons (cK (.int 60)) cNil))
    (sIf (cBinT dGt (cVarB 3) (cK (.int 0)))
    (sSeq (sAppend 1 (cBin dMod (cCall dInt (cCons (cVarB 3) cNil)) (cK (.int 65536))))
    (sSet 3 (cBin dDiv (cVarB 3) (cK (.int 65536)))))
    sNext))
    (sSeq (sSet 5 (cBin dMod (cCall dInt (cCons (cBin dAdd (cBin dMul (cVarB 3) (cK (.int 48271))) (cBin dMul (cBin dAdd (cVar 2) (cK (.int 1))) (cK (.int 69621)))) cNil)) (cK (.int 2147483647))))
    (sSeq (sSet 5 (cBin dMod (cCall dInt (cCons (cBin dAdd (cBin dAdd (cBin dMul (cVarB 5) (cK (.int 16807))) (cBin dMul (cK (.int 11)) (cVarB 2))) (cK (.int 5))) cNil)) (cK (.int 2147483629))))
    (sSeq (sAppend 1 (cBin dMod (cCall dInt (cCons (cVarB 5) cNil)) (cK (.int 65536))))
    (sAppend 1 (cBin dMod (cCall dInt (cCons (cBin dDiv (cVarB 5) (cK (.int 65536))) cNil)) (cK (.int 32768))))))))))
    (sRet (cVar 1))))
def f_l_draws : List Int → R D := runS 6 g_l_draws
def g_l_mix : En → SR :=
  (sSeq (sSet 3 (cK (.int 0)))
    (sSeq (sIf (cBinT dGt (cCall dLen (cCons (cVarB 0) cNil)) (cK (.int 0)))
    (sSet 3 (cBin dIx (cVarB 0) (cBin dMod (cCall dInt (cCons (cVarB 1) cNil)) (cCall dLen (cCons (cVarB 0) cNil)))))
    sNext)
    (sSeq (sIf (cBinT dLt (cVarB 1) (cCall dLen (cCons (cVarB 0) cNil)))
    (sRet (cBin dMod (cCall dInt (cCons (cVarB 3) cNil)) (cVarB 2)))
    sNext)
    (sRet (cBin dMod (cCall dInt (cCons (cBin dDiv (cCall dInt (cCons (cBin dAdd (cBin dMul (cVarB 3) (cK (.int 7919))) (cBin dMul (cVarB 1) (cK (.int 104729)))) cNil)) (cK (.int 3))) cNil)) (cVarB 2))))))
def f_l_mix : List D → R D := runF 4 3 g_l_mix
def g_l_order : En → SR :=
  (sSeq (sSet 2 (cUn dLR (cCall dLen (cCons (cVarB 0) cNil))))
    (sSeq (sSetN 3 false (cList cNil))
    (sSeq (sWhile 100 (cBinT dNe (cVarB 2) (cList cNil))
    (sFor (gN 4) (cItems (cCall dListOf (cCons (cVarB 2) cNil)))
    (sSeq (sAsg (gT (gC (gN 7) (gC (gN 8) gE))) (cBin dIx (cVarB 0) (cVar 4)))
    (sSeq (sSet 5 (cK (.bool false)))
    (sSeq (sFor (gN 6) (cItems (cVar 2))
    (sSeq (sAsg (gT (gC (gN 9) (gC (gN 10) gE))) (cBin dIx (cVarB 0) (cVar 6)))
    (sSeq (sAsg (gT (gC (gN 11) (gC (gN 12) gE))) (cBin dIx (cDict (cKd (.inr "worth") (cTup (cCons (cVar 8) (cCons (cK (.int 1)) cNil))) (cKd (.inr "each") (cTup (cCons (cVar 8) (cCons (cCall dLen (cCons (cVarB 7) cNil)) cNil))) (cKd (.inr "root") (cTup (cCons (cBin dMul (cVarB 8) (cVarB 8)) (cCons (cCall dLen (cCons (cVarB 7) cNil)) cNil))) (fun _ => .ok []))))) (cVar 1)))
    (sSeq (sAsg (gT (gC (gN 13) (gC (gN 14) gE))) (cBin dIx (cDict (cKd (.inr "worth") (cTup (cCons (cVar 10) (cCons (cK (.int 1)) cNil))) (cKd (.inr "each") (cTup (cCons (cVar 10) (cCons (cCall dLen (cCons (cVarB 9) cNil)) cNil))) (cKd (.inr "root") (cTup (cCons (cBin dMul (cVarB 10) (cVarB 10)) (cCons (cCall dLen (cCons (cVarB 9) cNil)) cNil))) (fun _ => .ok []))))) (cVar 1)))
    (sSet 5 (cOrV (cVar 5) (cOrV (cBin dGt (cBin dMul (cVarB 13) (cVarB 12)) (cBin dMul (cVarB 11) (cVarB 14))) (cAndV (cBin dEq (cBin dMul (cVarB 13) (cVarB 12)) (cBin dMul (cVarB 11) (cVarB 14))) (cBin dLt (cVarB 6) (cVarB 4))))))))))
    (sIf (cAnd (cNot (cTest (cVar 5))) (cBinT dIn (cVar 4) (cVarB 2)))
    (sSeq (sAppend 3 (cVar 4))
    (sSet 2 (cLc [15] (cItems (cVar 2)) (gN 15) (cBinT dNe (cVarB 15) (cVarB 4)) (cVar 15))))
    sNext))))))
    (sRet (cVar 3)))))
def f_l_order : List D → R D := runF 16 2 g_l_order
def g_l_with : En → SR :=
  (sRet (cBin dAdd (cBin dAdd (cSlice (cVar 0) cPartN (cPart (cVar 1))) (cList (cCons (cVar 2) cNil))) (cSlice (cVar 0) (cPart (cBin dAdd (cVar 1) (cK (.int 1)))) cPartN)))
def f_l_with : List D → R D := runF 3 3 g_l_with
def g_l_best : En → SR :=
  (sSeq (sSet 2 (cK (.int 0)))
    (sSeq (sSet 3 (cList (cCons (cTup (cCons (cList cNil) (cCons (cK (.int 0)) cNil))) cNil)))
    (sSeq (sFor (gT (gC (gN 4) (gC (gN 5) gE))) (cItems (cVar 0))
    (sSeq (sSetN 6 false (cCall dListOf (cCons (cVarB 3) cNil)))
    (sSeq (sFor (gT (gC (gN 7) (gC (gN 8) gE))) (cItems (cVar 3))
    (sIf (cBinT dEq (cLc [9] (cItems (cVar 4)) (gN 9) (cBinT dIn (cVar 9) (cVarB 7)) (cVar 9)) (cList cNil))
    (sAppend 6 (cTup (cCons (cBin dAdd (cVar 7) (cCall dListOf (cCons (cVarB 4) cNil))) (cCons (cBin dAdd (cVar 8) (cVar 5)) cNil))))
    sNext))
    (sFrz 6 (sSet 3 (cVar 6))))))
    (sRet (cCall dMax (cCons (cBin dAdd (cList (cCons (cVar 2) cNil)) (cLc [7, 8] (cItems (cVar 3)) (gT (gC (gN 7) (gC (gN 8) gE))) cTrue (cVar 8))) cNil))))))
def f_l_best : List D → R D := runF 10 2 g_l_best
def g_parts_of (F_within : List D → R D) : En → SR :=
  (sRet (cLc [1] (cIter dRange1 (cCons (cBin dAdd (cVar 0) (cK (.int 1))) cNil)) (gN 1) (cTest (cCallF F_within (cCons (cVar 1) (cCons (cVar 0) cNil)))) (cVar 1)))
def f_parts_of : List D → R D := runF 2 1 (g_parts_of f_within)
def g_check_bids (F_check_goods : List D → R D) (F_is_bundle : List D → R D) : En → SR :=
  (sSeq (sExpr (cCallF F_check_goods (cCons (cVar 1) cNil)))
    (sSeq (sIf (cNot (cChainT dLe dLe (cK (.int 1)) (cCall dLen (cCons (cVarB 0) cNil)) (cK (.int 12))))
    (sRaise "BadBids" (cCall dLen (cCons (cVarB 0) cNil)))
    sNext)
    (sFor (gT (gC (gN 2) (gC (gT (gC (gN 3) (gC (gN 4) gE))) gE))) (cIter dEnum (cCons (cVar 0) cNil))
    (sIf (cOr (cNot (cTest (cCallF F_is_bundle (cCons (cVar 3) (cCons (cVar 1) cNil))))) (cNot (cChainT dLe dLe (cK (.int 0)) (cVarB 4) (cK (.int 1000000)))))
    (sRaise "BadBid" (cVar 2))
    sNext))))
def f_check_bids : List D → R D := runF 5 2 (g_check_bids f_check_goods f_is_bundle)
def g_is_ahead (F_weight_of : List D → R D) : En → SR :=
  (sSeq (sAsg (gT (gC (gN 4) (gC (gN 5) gE))) (cCallF F_weight_of (cCons (cBin dIx (cVarB 0) (cVar 2)) (cCons (cVar 1) cNil))))
    (sSeq (sAsg (gT (gC (gN 6) (gC (gN 7) gE))) (cCallF F_weight_of (cCons (cBin dIx (cVarB 0) (cVar 3)) (cCons (cVar 1) cNil))))
    (sRet (cOrV (cBin dGt (cBin dMul (cVarB 4) (cVarB 7)) (cBin dMul (cVarB 6) (cVarB 5))) (cAndV (cBin dEq (cBin dMul (cVarB 4) (cVarB 7)) (cBin dMul (cVarB 6) (cVarB 5))) (cBin dLt (cVarB 2) (cVarB 3)))))))
def f_is_ahead : List D → R D := runF 8 4 (g_is_ahead f_weight_of)
def g_l_won (F_l_order : List D → R D) : En → SR :=
  (sSeq (sSet 2 (cList cNil))
    (sSeq (sSetN 3 false (cList cNil))
    (sSeq (sFor (gN 4) (cItems (cCallF F_l_order (cCons (cVar 0) (cCons (cVar 1) cNil))))
    (sIf (cBinT dEq (cLc [5] (cItems (cBin dIx (cBin dIx (cVarB 0) (cVar 4)) (cK (.int 0)))) (gN 5) (cBinT dIn (cVar 5) (cVarB 2)) (cVar 5)) (cList cNil))
    (sSeq (sSet 2 (cBin dAdd (cVar 2) (cCall dListOf (cCons (cBin dIx (cBin dIx (cVarB 0) (cVar 4)) (cK (.int 0))) cNil))))
    (sAppend 3 (cVar 4)))
    sNext))
    (sRet (cCall dSorted (cCons (cVarB 3) cNil))))))
def f_l_won : List D → R D := runF 6 2 (g_l_won f_l_order)
def g_l_bundle (F_l_mix : List D → R D) : En → SR :=
  (sSeq (sSet 3 (cLc [4] (cIter dRange1 (cCons (cVarB 2) cNil)) (gN 4) (cBinT dEq (cCallF F_l_mix (cCons (cVar 0) (cCons (cBin dAdd (cVar 1) (cVar 4)) (cCons (cK (.int 2)) cNil)))) (cK (.int 0))) (cVar 4)))
    (sSeq (sIf (cBinT dEq (cVarB 3) (cList cNil))
    (sSet 3 (cList (cCons (cCallF F_l_mix (cCons (cVar 0) (cCons (cBin dAdd (cVar 1) (cK (.int 7))) (cCons (cVar 2) cNil)))) cNil)))
    sNext)
    (sRet (cCall dTupOf (cCons (cVar 3) cNil)))))
def f_l_bundle : List D → R D := runF 5 3 (g_l_bundle f_l_mix)
def g_together (F_parts_of : List D → R D) : En → SR :=
  (sRet (cLc [2] (cIter dRange1 (cCons (cCall dLen (cCons (cVarB 0) cNil)) cNil)) (gN 2) cTrue (cCall dMax (cCons (cLc [3] (cItems (cCallF F_parts_of (cCons (cVar 2) cNil))) (gN 3) cTrue (cBin dAdd (cBin dIx (cVarB 0) (cVar 3)) (cBin dIx (cVarB 1) (cBin dSub (cVarB 2) (cVarB 3))))) cNil))))
def f_together : List D → R D := runF 4 2 (g_together f_parts_of)
def g_check_all (F_check_bids : List D → R D) : En → SR :=
  (sSeq (sExpr (cCallF F_check_bids (cCons (cVar 0) (cCons (cVar 1) cNil))))
    (sIf (cBinT dNotIn (cVar 2) (cK (.tuple [(.str "worth"), (.str "each"), (.str "root")])))
    (sRaise "BadWord" (cK (.int 0)))
    sNext))
def f_check_all : List D → R D := runF 3 3 (g_check_all f_check_bids)
def g_order_of (F_is_ahead : List D → R D) : En → SR :=
  (sSeq (sSet 2 (cList cNil))
    (sSeq (sFor (gN 3) (cIter dRange1 (cCons (cCall dLen (cCons (cVarB 0) cNil)) cNil))
    (sSeq (sSet 4 (cCall dLen (cCons (cLc [5] (cItems (cVar 2)) (gN 5) (cTest (cCallF F_is_ahead (cCons (cVar 0) (cCons (cVar 1) (cCons (cVar 5) (cCons (cVar 3) cNil)))))) (cVar 5)) cNil)))
    (sSet 2 (cList (cStar (cSlice (cVar 2) cPartN (cPart (cVar 4))) (cCons (cVar 3) (cStar (cSlice (cVar 2) (cPart (cVar 4)) cPartN) cNil)))))))
    (sRet (cVar 2))))
def f_order_of : List D → R D := runF 6 2 (g_order_of f_is_ahead)
def g_best_sum (F_check_bids : List D → R D) : En → SR :=
  (sSeq (sExpr (cCallF F_check_bids (cCons (cVar 0) (cCons (cVar 1) cNil))))
    (sSeq (sSet 2 (cOneT (cTup cNil) (cK (.int 0))))
    (sSeq (sFor (gT (gC (gN 3) (gC (gN 4) gE))) (cItems (cVar 0))
    (sSeq (sSetN 5 true (cCall dCopyT (cCons (cVarB 2) cNil)))
    (sSeq (sForK 2 (gN 6)
    (sIf (cNot (cTest (cCall dAny (cCons (cLc [8] (cItems (cVar 3)) (gN 8) cTrue (cBin dIn (cVar 8) (cVarB 6))) cNil))))
    (sSeq (sSet 7 (cCall dTupOf (cCons (cCall dSorted (cCons (cList (cStar (cVarB 6) (cStar (cVarB 3) cNil))) cNil)) cNil)))
    (sSetD 5 (cVar 7) (cCall dMax2 (cCons (cGet2 (cVarB 5) (cVar 7) (cK (.int 0))) (cCons (cBin dAdd (cBin dIx (cVarB 2) (cVar 6)) (cVar 4)) cNil)))))
    sNext))
    (sFrz 5 (sSet 2 (cVar 5))))))
    (sRet (cCall dMax (cCons (cLc [6] (cKeysT 2) (gN 6) cTrue (cBin dIx (cVarB 2) (cVar 6))) cNil))))))
def f_best_sum : List D → R D := runF 9 2 (g_best_sum f_check_bids)
def g_l_least (F_l_won : List D → R D) (F_l_with : List D → R D) : En → SR :=
  (sSeq (sFor (gN 3) (cIter dRange1 (cCons (cK (.int 260)) cNil))
    (sIf (cBinT dIn (cVar 2) (cCallF F_l_won (cCons (cCallF F_l_with (cCons (cVar 0) (cCons (cVar 2) (cCons (cTup (cCons (cBin dIx (cBin dIx (cVarB 0) (cVar 2)) (cK (.int 0))) (cCons (cVar 3) cNil))) cNil)))) (cCons (cVar 1) cNil))))
    (sRet (cVar 3))
    sNext))
    (sRet (cK .none)))
def f_l_least : List D → R D := runF 4 3 (g_l_least f_l_won f_l_with)
def g_up_to (F_together : List D → R D) (F_most_of : List D → R D) : En → SR :=
  (sSeq (sSet 2 (cList (cCons (cBin dMul (cList (cCons (cK (.int 0)) cNil)) (cCall dLen (cCons (cBin dIx (cVarB 0) (cK (.int 0))) cNil))) cNil)))
    (sSeq (sFor (gN 3) (cItems (cVar 0))
    (sSeq (sSetN 4 false (cList (cCons (cCall dListOf (cCons (cBin dIx (cVarB 2) (cK (.int 0))) cNil)) cNil)))
    (sSeq (sFor (gN 5) (cIter dRange2 (cCons (cK (.int 1)) (cCons (cBin dAdd (cCall dMin2 (cCons (cVarB 1) (cCons (cCall dLen (cCons (cVarB 2) cNil)) cNil))) (cK (.int 1))) cNil)))
    (sSeq (sSet 6 (cCallF F_together (cCons (cBin dIx (cVarB 2) (cBin dSub (cVarB 5) (cK (.int 1)))) (cCons (cVar 3) cNil))))
    (sAppend 4 (cIf (cBinT dLt (cVarB 5) (cCall dLen (cCons (cVarB 2) cNil))) (cCallF F_most_of (cCons (cList (cCons (cBin dIx (cVarB 2) (cVar 5)) (cCons (cVar 6) cNil))) cNil)) (cVar 6)))))
    (sFrz 4 (sSet 2 (cVar 4))))))
    (sRet (cCallF F_most_of (cCons (cVar 2) cNil)))))
def f_up_to : List D → R D := runF 7 2 (g_up_to f_together f_most_of)
def g_won (F_order_of : List D → R D) : En → SR :=
  (sSeq (sSetN 2 false (cK (.dict [])))
    (sSeq (sSetN 3 false (cList cNil))
    (sSeq (sFor (gN 4) (cItems (cCallF F_order_of (cCons (cVar 0) (cCons (cVar 1) cNil))))
    (sIf (cNot (cTest (cCall dAny (cCons (cLc [5] (cItems (cBin dIx (cBin dIx (cVarB 0) (cVar 4)) (cK (.int 0)))) (gN 5) cTrue (cBin dIn (cVar 5) (cVarB 2))) cNil))))
    (sSeq (sAppend 3 (cVar 4))
    (sFor (gN 5) (cItems (cBin dIx (cBin dIx (cVarB 0) (cVar 4)) (cK (.int 0))))
    (sSetD 2 (cVar 5) (cK (.bool true)))))
    sNext))
    (sRet (cCall dSorted (cCons (cVarB 3) cNil))))))
def f_won : List D → R D := runF 6 2 (g_won f_order_of)
def g_winners (F_check_all : List D → R D) (F_won : List D → R D) : En → SR :=
  (sSeq (sExpr (cCallF F_check_all (cCons (cVar 0) (cCons (cVar 1) (cCons (cVar 2) cNil)))))
    (sRet (cCallF F_won (cCons (cVar 0) (cCons (cVar 2) cNil)))))
def f_winners : List D → R D := runF 3 3 (g_winners f_check_all f_won)
def g_wins_with (F_won : List D → R D) : En → SR :=
  (sRet (cBin dIn (cVar 2) (cCallF F_won (cCons (cList (cStar (cSlice (cVar 0) cPartN (cPart (cVar 2))) (cCons (cTup (cCons (cBin dIx (cBin dIx (cVarB 0) (cVar 2)) (cK (.int 0))) (cCons (cVar 3) cNil))) (cStar (cSlice (cVar 0) (cPart (cBin dAdd (cVar 2) (cK (.int 1)))) cPartN) cNil)))) (cCons (cVar 1) cNil)))))
def f_wins_with : List D → R D := runF 4 4 (g_wins_with f_won)
def g_least_for (F_wins_with : List D → R D) : En → SR :=
  (sSeq (sIf (cNot (cTest (cCallF F_wins_with (cCons (cVar 0) (cCons (cVar 1) (cCons (cVar 2) (cCons (cK (.int 1000000)) cNil)))))))
    (sRet (cK .none))
    sNext)
    (sSeq (sPar 3 4 (cCons (cUn dNeg (cK (.int 1))) (cCons (cK (.int 1000000)) cNil)))
    (sSeq (sWhile 100 (cBinT dGt (cBin dSub (cVarB 4) (cVarB 3)) (cK (.int 1)))
    (sSeq (sSet 5 (cBin dDiv (cBin dAdd (cVar 3) (cVar 4)) (cK (.int 2))))
    (sIf (cTest (cCallF F_wins_with (cCons (cVar 0) (cCons (cVar 1) (cCons (cVar 2) (cCons (cVar 5) cNil))))))
    (sSet 4 (cVar 5))
    (sSet 3 (cVar 5)))))
    (sRet (cVar 4)))))
def f_least_for : List D → R D := runF 6 3 (g_least_for f_wins_with)
def g_least_winning (F_check_all : List D → R D) (F_least_for : List D → R D) : En → SR :=
  (sSeq (sExpr (cCallF F_check_all (cCons (cVar 0) (cCons (cVar 1) (cCons (cVar 2) cNil)))))
    (sSeq (sIf (cNot (cChainT dLe dLt (cK (.int 0)) (cVarB 3) (cCall dLen (cCons (cVarB 0) cNil))))
    (sRaise "BadBidder" (cVar 3))
    sNext)
    (sRet (cCallF F_least_for (cCons (cVar 0) (cCons (cVar 2) (cCons (cVar 3) cNil)))))))
def f_least_winning : List D → R D := runF 4 4 (g_least_winning f_check_all f_least_for)
def g_paid (F_check_all : List D → R D) (F_won : List D → R D) (F_least_for : List D → R D) : En → SR :=
  (sSeq (sExpr (cCallF F_check_all (cCons (cVar 0) (cCons (cVar 1) (cCons (cVar 2) cNil)))))
    (sSeq (sSet 3 (cCallF F_won (cCons (cVar 0) (cCons (cVar 2) cNil))))
    (sRet (cLc [4] (cIter dRange1 (cCons (cCall dLen (cCons (cVarB 0) cNil)) cNil)) (gN 4) cTrue (cIf (cBinT dIn (cVar 4) (cVarB 3)) (cCallF F_least_for (cCons (cVar 0) (cCons (cVar 2) (cCons (cVar 4) cNil)))) (cK (.int 0)))))))
def f_paid : List D → R D := runF 5 3 (g_paid f_check_all f_won f_least_for)
def g_l_gain (F_l_with : List D → R D) (F_l_won : List D → R D) (F_least_winning : List D → R D) : En → SR :=
  (sSeq (sSet 5 (cCallF F_l_with (cCons (cVar 0) (cCons (cVar 2) (cCons (cVar 3) cNil)))))
    (sSeq (sIf (cBinT dNotIn (cVar 2) (cCallF F_l_won (cCons (cVar 5) (cCons (cVar 1) cNil))))
    (sRet (cK (.int 0)))
    sNext)
    (sSeq (sSet 6 (cBin dMul (cBin dIx (cBin dIx (cVarB 0) (cVar 2)) (cK (.int 1))) (cCall dInt (cCons (cBin dEq (cLc [7] (cItems (cBin dIx (cBin dIx (cVarB 0) (cVar 2)) (cK (.int 0)))) (gN 7) (cBinT dNotIn (cVar 7) (cBin dIx (cVarB 3) (cK (.int 0)))) (cVar 7)) (cList cNil)) cNil))))
    (sRet (cBin dSub (cVarB 6) (cCallF F_least_winning (cCons (cVar 5) (cCons (cVar 4) (cCons (cVar 1) (cCons (cVar 2) cNil))))))))))
def f_l_gain : List D → R D := runF 8 5 (g_l_gain f_l_with f_l_won f_least_winning)
def g_worths (F_number_of : List D → R D) (F_within : List D → R D) (F_inner : List D → R D) (F_worths : List D → R D) (F_most_of : List D → R D) (F_up_to : List D → R D) : En → SR :=
  (sSeq (sIf (cBinT dEq (cBin dIx (cVarB 0) (cK (.int 0))) (cK (.str "one")))
    (sSeq (sSet 3 (cCallF F_number_of (cCons (cBin dIx (cVarB 0) (cK (.int 1))) cNil)))
    (sRet (cLc [5] (cIter dRange1 (cCons (cBin dIx (cK (.tuple [(.int 1), (.int 2), (.int 4), (.int 8), (.int 16), (.int 32), (.int 64)])) (cVar 1)) cNil)) (gN 5) cTrue (cIf (cTest (cCallF F_within (cCons (cVar 3) (cCons (cVar 5) cNil)))) (cBin dIx (cVarB 0) (cK (.int 2))) (cK (.int 0))))))
    sNext)
    (sSeq (sSet 2 (cLc [4] (cItems (cCallF F_inner (cCons (cVar 0) cNil))) (gN 4) cTrue (cCallF F_worths (cCons (cVar 4) (cCons (cVar 1) cNil)))))
    (sSeq (sIf (cBinT dEq (cBin dIx (cVarB 0) (cK (.int 0))) (cK (.str "xor")))
    (sRet (cCallF F_most_of (cCons (cVar 2) cNil)))
    sNext)
    (sRet (cCallF F_up_to (cCons (cVar 2) (cCons (cIf (cBinT dEq (cBin dIx (cVarB 0) (cK (.int 0))) (cK (.str "up"))) (cBin dIx (cVarB 0) (cK (.int 1))) (cCall dLen (cCons (cVarB 2) cNil))) cNil)))))))
def f_worths_n : Nat → List D → R D
  | 0 => fun _ => .no
  | n + 1 => runF 6 2 (g_worths f_number_of f_within f_inner (f_worths_n n) f_most_of f_up_to)
def f_worths : List D → R D := f_worths_n 8
def g_book_of (F_check_bids : List D → R D) (F_worths : List D → R D) : En → SR :=
  (sSeq (sExpr (cCallF F_check_bids (cCons (cVar 0) (cCons (cVar 1) cNil))))
    (sRet (cLc [2, 3] (cItems (cVar 0)) (gT (gC (gN 2) (gC (gN 3) gE))) cTrue (cCallF F_worths (cCons (cTup (cCons (cK (.str "one")) (cCons (cVar 2) (cCons (cVar 3) cNil)))) (cCons (cVar 1) cNil))))))
def f_book_of : List D → R D := runF 4 2 (g_book_of f_check_bids f_worths)
def g_l_fault (F_book_of : List D → R D) (F_best_sum : List D → R D) (F_least_winning : List D → R D) (F_winners : List D → R D) (F_paid : List D → R D) : En → SR :=
  (sSeq (sTryAt 5 (sIf (cBinT dEq (cVarB 0) (cK (.int 0)))
    (sExpr (cCallF F_book_of (cCons (cVar 1) (cCons (cVar 2) cNil))))
    (sIf (cBinT dEq (cVarB 0) (cK (.int 1)))
    (sExpr (cCallF F_best_sum (cCons (cVar 1) (cCons (cVar 2) cNil))))
    (sIf (cBinT dEq (cVarB 0) (cK (.int 2)))
    (sExpr (cCallF F_least_winning (cCons (cVar 1) (cCons (cVar 2) (cCons (cVar 3) (cCons (cVar 4) cNil))))))
    (sExpr (cPick (cBin dSub (cVarB 0) (cK (.int 3))) [F_winners, F_paid] (cCons (cVar 1) (cCons (cVar 2) (cCons (cVar 3) cNil)))))))) [([("OutOfRange", true), ("BadBidder", false), ("BadWord", false), ("BadBids", false), ("BadBid", false)], "range"), ([("OutOfRange", false), ("BadBidder", false), ("BadWord", false), ("BadBids", true), ("BadBid", false)], "bids"), ([("OutOfRange", false), ("BadBidder", false), ("BadWord", false), ("BadBids", false), ("BadBid", true)], "bid"), ([("OutOfRange", false), ("BadBidder", false), ("BadWord", true), ("BadBids", false), ("BadBid", false)], "word"), ([("OutOfRange", false), ("BadBidder", true), ("BadWord", false), ("BadBids", false), ("BadBid", false)], "bidder")])
    (sRet (cTup (cCons (cK (.str "")) (cCons (cK (.int 0)) cNil)))))
def f_l_fault : List D → R D := runF 6 5 (g_l_fault f_book_of f_best_sum f_least_winning f_winners f_paid)
def g_l_faults (F_l_fault : List D → R D) : En → SR :=
  (sSeq (sSet 0 (cTup (cCons (cTup (cCons (cK (.int 0)) cNil)) (cCons (cK (.int 1)) cNil))))
    (sSeq (sFor (gN 1) (cIter dRange1 (cCons (cK (.int 5)) cNil))
    (sSeq (sIf (cOr (cBinT dNe (cCallF F_l_fault (cCons (cVar 1) (cCons (cList cNil) (cCons (cK (.int 0)) (cCons (cK (.str "x")) (cCons (cK (.int 9)) cNil)))))) (cTup (cCons (cK (.str "range")) (cCons (cK (.int 0)) cNil)))) (cOr (cBinT dNe (cCallF F_l_fault (cCons (cVar 1) (cCons (cList cNil) (cCons (cK (.int 7)) (cCons (cK (.str "x")) (cCons (cK (.int 9)) cNil)))))) (cTup (cCons (cK (.str "range")) (cCons (cK (.int 7)) cNil)))) (cBinT dNe (cCallF F_l_fault (cCons (cVar 1) (cCons (cList cNil) (cCons (cK (.int 2)) (cCons (cK (.str "x")) (cCons (cK (.int 9)) cNil)))))) (cTup (cCons (cK (.str "bids")) (cCons (cK (.int 0)) cNil))))))
    (sRet (cK (.bool false)))
    sNext)
    (sSeq (sIf (cBinT dNe (cCallF F_l_fault (cCons (cVar 1) (cCons (cBin dMul (cList (cCons (cVar 0) cNil)) (cK (.int 13))) (cCons (cK (.int 2)) (cCons (cK (.str "x")) (cCons (cK (.int 9)) cNil)))))) (cTup (cCons (cK (.str "bids")) (cCons (cK (.int 13)) cNil))))
    (sRet (cK (.bool false)))
    sNext)
    (sSeq (sFor (gN 2) (cItems (cList (cCons (cTup (cCons (cTup cNil) (cCons (cK (.int 1)) cNil))) (cCons (cTup (cCons (cTup (cCons (cK (.int 2)) cNil)) (cCons (cK (.int 1)) cNil))) (cCons (cTup (cCons (cTup (cCons (cK (.int 1)) (cCons (cK (.int 0)) cNil))) (cCons (cK (.int 1)) cNil))) (cCons (cTup (cCons (cTup (cCons (cK (.int 0)) (cCons (cK (.int 0)) cNil))) (cCons (cK (.int 1)) cNil))) (cCons (cTup (cCons (cTup (cCons (cK (.int 0)) cNil)) (cCons (cUn dNeg (cK (.int 1))) cNil))) (cCons (cTup (cCons (cTup (cCons (cK (.int 0)) cNil)) (cCons (cK (.int 1000001)) cNil))) cNil))))))))
    (sIf (cBinT dNe (cCallF F_l_fault (cCons (cVar 1) (cCons (cList (cCons (cVar 0) (cCons (cVar 2) cNil))) (cCons (cK (.int 2)) (cCons (cK (.str "x")) (cCons (cK (.int 9)) cNil)))))) (cTup (cCons (cK (.str "bid")) (cCons (cK (.int 1)) cNil))))
    (sRet (cK (.bool false)))
    sNext))
    (sIf (cAnd (cBinT dGt (cVarB 1) (cK (.int 1))) (cBinT dNe (cCallF F_l_fault (cCons (cVar 1) (cCons (cList (cCons (cVar 0) cNil)) (cCons (cK (.int 2)) (cCons (cK (.str "x")) (cCons (cK (.int 9)) cNil)))))) (cTup (cCons (cK (.str "word")) (cCons (cK (.int 0)) cNil)))))
    (sRet (cK (.bool false)))
    sNext)))))
    (sRet (cAndV (cBin dEq (cCallF F_l_fault (cCons (cK (.int 2)) (cCons (cList (cCons (cVar 0) cNil)) (cCons (cK (.int 2)) (cCons (cK (.str "each")) (cCons (cK (.int 1)) cNil)))))) (cTup (cCons (cK (.str "bidder")) (cCons (cK (.int 1)) cNil)))) (cBin dEq (cCallF F_l_fault (cCons (cK (.int 2)) (cCons (cList (cCons (cVar 0) cNil)) (cCons (cK (.int 2)) (cCons (cK (.str "each")) (cCons (cUn dNeg (cK (.int 1))) cNil)))))) (cTup (cCons (cK (.str "bidder")) (cCons (cUn dNeg (cK (.int 1))) cNil))))))))
def f_l_faults : List D → R D := runF 3 0 (g_l_faults f_l_fault)
def g_law (F_l_draws : List Int → R D) (F_l_mix : List D → R D) (F_l_bundle : List D → R D) (F_l_won : List D → R D) (F_winners : List D → R D) (F_least_winning : List D → R D) (F_l_least : List D → R D) (F_l_with : List D → R D) (F_paid : List D → R D) (F_l_gain : List D → R D) (F_l_best : List D → R D) (F_best_sum : List D → R D) (F_book_of : List D → R D) (F_l_faults : List D → R D) : En → SR :=
  (sSeq (sSet 1 (cCallS 0 F_l_draws))
    (sSeq (sSet 2 (cBin dAdd (cK (.int 1)) (cCallF F_l_mix (cCons (cVar 1) (cCons (cK (.int 0)) (cCons (cK (.int 5)) cNil))))))
    (sSeq (sSet 3 (cLc [10] (cIter dRange1 (cCons (cBin dAdd (cK (.int 1)) (cCallF F_l_mix (cCons (cVar 1) (cCons (cK (.int 2)) (cCons (cK (.int 7)) cNil))))) cNil)) (gN 10) cTrue (cTup (cCons (cCallF F_l_bundle (cCons (cVar 1) (cCons (cBin dAdd (cK (.int 10)) (cBin dMul (cK (.int 12)) (cVarB 10))) (cCons (cVar 2) cNil)))) (cCons (cCallF F_l_mix (cCons (cVar 1) (cCons (cBin dAdd (cK (.int 18)) (cBin dMul (cK (.int 12)) (cVarB 10))) (cCons (cBin dIx (cList (cCons (cK (.int 7)) (cCons (cK (.int 40)) cNil))) (cCallF F_l_mix (cCons (cVar 1) (cCons (cK (.int 1)) (cCons (cK (.int 2)) cNil))))) cNil)))) cNil)))))
    (sSeq (sSet 4 (cUn dRepr (cVar 3)))
    (sSeq (sFor (gN 5) (cItems (cList (cCons (cK (.str "worth")) (cCons (cK (.str "each")) (cCons (cK (.str "root")) cNil)))))
    (sSeq (sSet 8 (cCallF F_l_won (cCons (cVar 3) (cCons (cVar 5) cNil))))
    (sSeq (sIf (cBinT dNe (cCallF F_winners (cCons (cVar 3) (cCons (cVar 2) (cCons (cVar 5) cNil)))) (cVarB 8))
    (sRet (cK (.bool false)))
    sNext)
    (sSeq (sSetN 9 false (cList cNil))
    (sSeq (sFor (gN 7) (cIter dRange1 (cCons (cCall dLen (cCons (cVarB 3) cNil)) cNil))
    (sSeq (sSet 14 (cCallF F_least_winning (cCons (cVar 3) (cCons (cVar 2) (cCons (cVar 5) (cCons (cVar 7) cNil))))))
    (sSeq (sIf (cBinT dNe (cVarB 14) (cCallF F_l_least (cCons (cVar 3) (cCons (cVar 5) (cCons (cVar 7) cNil)))))
    (sRet (cK (.bool false)))
    sNext)
    (sSeq (sAppend 9 (cBin dIx (cList (cCons (cK (.int 0)) (cCons (cVar 14) cNil))) (cCall dInt (cCons (cBin dIn (cVar 7) (cVarB 8)) cNil))))
    (sIf (cBinT dIn (cVar 7) (cVarB 8))
    (sSeq (sSet 16 (cCallF F_l_with (cCons (cVar 3) (cCons (cVar 7) (cCons (cTup (cCons (cBin dIx (cBin dIx (cVarB 3) (cVar 7)) (cK (.int 0))) (cCons (cBin dAdd (cBin dAdd (cBin dIx (cBin dIx (cVarB 3) (cVar 7)) (cK (.int 1))) (cK (.int 1))) (cCallF F_l_mix (cCons (cVar 1) (cCons (cBin dAdd (cK (.int 120)) (cVar 7)) (cCons (cK (.int 9)) cNil))))) cNil))) cNil)))))
    (sSeq (sSet 17 (cCallF F_l_with (cCons (cVar 3) (cCons (cVar 7) (cCons (cTup (cCons (cSlice (cBin dIx (cBin dIx (cVarB 3) (cVar 7)) (cK (.int 0))) cPartN (cPart (cBin dAdd (cK (.int 1)) (cCallF F_l_mix (cCons (cVar 1) (cCons (cBin dAdd (cK (.int 130)) (cVar 7)) (cCons (cCall dLen (cCons (cBin dIx (cBin dIx (cVarB 3) (cVar 7)) (cK (.int 0))) cNil)) cNil))))))) (cCons (cBin dIx (cBin dIx (cVarB 3) (cVar 7)) (cK (.int 1))) cNil))) cNil)))))
    (sIf (cOr (cBinT dNotIn (cVar 7) (cCallF F_winners (cCons (cVar 16) (cCons (cVar 2) (cCons (cVar 5) cNil))))) (cOr (cBinT dNotIn (cVar 7) (cCallF F_winners (cCons (cVar 17) (cCons (cVar 2) (cCons (cVar 5) cNil))))) (cBinT dGt (cVarB 14) (cBin dIx (cBin dIx (cVarB 3) (cVar 7)) (cK (.int 1))))))
    (sRet (cK (.bool false)))
    sNext)))
    sNext)))))
    (sSeq (sIf (cBinT dNe (cCallF F_paid (cCons (cVar 3) (cCons (cVar 2) (cCons (cVar 5) cNil)))) (cVarB 9))
    (sRet (cK (.bool false)))
    sNext)
    (sSeq (sFor (gN 10) (cIter dRange1 (cCons (cK (.int 4)) cNil))
    (sSeq (sSet 7 (cCallF F_l_mix (cCons (cVar 1) (cCons (cBin dAdd (cK (.int 140)) (cBin dMul (cK (.int 12)) (cVarB 10))) (cCons (cCall dLen (cCons (cVarB 3) cNil)) cNil)))))
    (sSeq (sSet 15 (cTup (cCons (cCallF F_l_bundle (cCons (cVar 1) (cCons (cBin dAdd (cK (.int 141)) (cBin dMul (cK (.int 12)) (cVarB 10))) (cCons (cVar 2) cNil)))) (cCons (cCallF F_l_mix (cCons (cVar 1) (cCons (cBin dAdd (cK (.int 149)) (cBin dMul (cK (.int 12)) (cVarB 10))) (cCons (cK (.int 60)) cNil)))) cNil))))
    (sSeq (sIf (cBinT dLt (cVarB 10) (cK (.int 2)))
    (sSet 15 (cTup (cCons (cBin dIx (cBin dIx (cVarB 3) (cVar 7)) (cK (.int 0))) (cCons (cBin dIx (cVarB 15) (cK (.int 1))) cNil))))
    sNext)
    (sIf (cBinT dGt (cCallF F_l_gain (cCons (cVar 3) (cCons (cVar 5) (cCons (cVar 7) (cCons (cVar 15) (cCons (cVar 2) cNil)))))) (cCallF F_l_gain (cCons (cVar 3) (cCons (cVar 5) (cCons (cVar 7) (cCons (cBin dIx (cVarB 3) (cVar 7)) (cCons (cVar 2) cNil)))))))
    (sRet (cK (.bool false)))
    sNext)))))
    (sSeq (sSet 11 (cCall dSum (cCons (cLc [7] (cItems (cVar 8)) (gN 7) cTrue (cBin dIx (cBin dIx (cVarB 3) (cVar 7)) (cK (.int 1)))) cNil)))
    (sSeq (sSet 12 (cCallF F_l_best (cCons (cVar 3) (cCons (cVar 2) cNil))))
    (sIf (cOr (cBinT dGt (cVarB 11) (cVarB 12)) (cOr (cAnd (cBinT dEq (cVarB 5) (cK (.str "root"))) (cBinT dGt (cBin dMul (cVarB 12) (cVarB 12)) (cBin dMul (cBin dMul (cVarB 2) (cVarB 11)) (cVarB 11)))) (cBinT dNe (cCallF F_best_sum (cCons (cVar 3) (cCons (cVar 2) cNil))) (cVarB 12))))
    (sRet (cK (.bool false)))
    sNext))))))))))
    (sSeq (sSet 6 (cCallF F_book_of (cCons (cVar 3) (cCons (cVar 2) cNil))))
    (sSeq (sFor (gN 7) (cIter dRange1 (cCons (cCall dLen (cCons (cVarB 3) cNil)) cNil))
    (sSeq (sSet 13 (cCall dSum (cCons (cLc [18] (cItems (cBin dIx (cBin dIx (cVarB 3) (cVar 7)) (cK (.int 0)))) (gN 18) cTrue (cBin dIx (cList (cCons (cK (.int 1)) (cCons (cK (.int 2)) (cCons (cK (.int 4)) (cCons (cK (.int 8)) (cCons (cK (.int 16)) cNil)))))) (cVar 18))) cNil)))
    (sIf (cOr (cBinT dNe (cBin dIx (cBin dIx (cVarB 6) (cVar 7)) (cVar 13)) (cBin dIx (cBin dIx (cVarB 3) (cVar 7)) (cK (.int 1)))) (cOr (cBinT dNe (cBin dIx (cBin dIx (cVarB 6) (cVar 7)) (cK (.int 0))) (cK (.int 0))) (cOr (cBinT dNe (cBin dIx (cBin dIx (cVarB 6) (cVar 7)) (cUn dNeg (cK (.int 1)))) (cBin dIx (cBin dIx (cVarB 3) (cVar 7)) (cK (.int 1)))) (cBinT dNe (cCall dLen (cCons (cBin dIx (cVarB 6) (cVar 7)) cNil)) (cBin dIx (cList (cCons (cK (.int 2)) (cCons (cK (.int 4)) (cCons (cK (.int 8)) (cCons (cK (.int 16)) (cCons (cK (.int 32)) cNil)))))) (cBin dSub (cVarB 2) (cK (.int 1))))))))
    (sRet (cK (.bool false)))
    sNext)))
    (sRet (cAndV (cBin dEq (cUn dRepr (cVar 3)) (cVarB 4)) (cCallF F_l_faults fun _ => .ok []))))))))))
def f_law : List Int → R D := runS 19 (g_law f_l_draws f_l_mix f_l_bundle f_l_won f_winners f_least_winning f_l_least f_l_with f_paid f_l_gain f_l_best f_best_sum f_book_of f_l_faults)
end K06

namespace K06
end K06


namespace K06
open PySem PySem.Spec PyProof.Rows L2 G

abbrev w_c : En → R Bool := cBinT dGt (cVarB 2) (cK (.int 0))
abbrev w_b : En → SR := sSeq (sIf (cBinT dGt (cBin dMod (cVarB 2) (cK (.int 2))) (cBin dMod (cVarB 3) (cK (.int 2)))) (sRet (cK (.bool false))) sNext)
      (sPar 2 3 (cCons (cBin dDiv (cVarB 2) (cK (.int 2))) (cCons (cBin dDiv (cVarB 3) (cK (.int 2))) cNil)))
theorem within_loop (x y : Option Sl) : ∀ (n a b : Nat), a < 2 ^ n → ∃ a' b' : Nat, whileL w_c w_b (n + 1) [x, y, some (.v (nD a)), some (.v (nD b))] =
    if C.subF n a b = true then .nx [x, y, some (.v (nD a')), some (.v (nD b'))] else .rt (.bool false)
  | 0, a, b, h => by
    have : a = 0 := by simp at h; exact h
    subst this
    exact ⟨0, b, whileL_stop (by simp [cVar, cVarB, cK, cBin, cBinT, cCons, cNil, sNext, sSeq, sRet, sIf, sSet, sPar, SR.of, SR.out, enter, runF, ofO, toI, toB, disown, G.letGo, dSub, dNeg, dLe, dGt, dGe, R.bind])⟩
  | n + 1, a, b, h => by
    by_cases ha : a = 0
    · subst ha
      exact ⟨0, b, whileL_stop (by simp [cVar, cVarB, cK, cBin, cBinT, cCons, cNil, sNext, sSeq, sRet, sIf, sSet, sPar, SR.of, SR.out, enter, runF, ofO, toI, toB, disown, G.letGo, dSub, dNeg, dLe, dGt, dGe, R.bind])⟩
    · have hc : w_c [x, y, some (.v (nD a)), some (.v (nD b))] = .ok true := by simp [cVar, cVarB, cK, cBin, cBinT, cCons, cNil, sNext, sSeq, sRet, sIf, sSet, sPar, SR.of, SR.out, enter, runF, ofO, toI, toB, disown, G.letGo, dSub, dNeg, dLe, dGt, dGe, R.bind]; omega
      by_cases hb : b % 2 < a % 2
      · refine ⟨0, 0, (whileL_ret (d := .bool false) hc ?_).trans ?_⟩
        · simp [cVar, cVarB, cK, cBin, cBinT, cCons, cNil, sNext, sSeq, sRet, sIf, sSet, sPar, SR.of, SR.out, enter, runF, ofO, toI, toB, disown, G.letGo, dSub, dNeg, dLe, dGt, dGe, R.bind]
          rw [if_pos (by omega)]
        · simp [C.subF, ha, hb]
      · obtain ⟨a', b', ih⟩ := within_loop x y n (a / 2) (b / 2) (by rw [Nat.pow_succ] at h; omega)
        refine ⟨a', b', (whileL_step (ρ2 := [x, y, some (.v (nD (a / 2))), some (.v (nD (b / 2)))]) hc ?_).trans ?_⟩
        · simp [cVar, cVarB, cK, cBin, cBinT, cCons, cNil, sNext, sSeq, sRet, sIf, sSet, sPar, SR.of, SR.out, enter, runF, ofO, toI, toB, disown, G.letGo, dSub, dNeg, dLe, dGt, dGe, R.bind]
          rw [if_neg (by omega)]
          simp
        · rw [ih]
          simp [C.subF, ha, hb]
theorem within_eq (a b : Nat) (h : a < 2 ^ 99) : f_within [nD a, nD b] = .ok (.bool (C.sub a b)) := by
  obtain ⟨a', b', e⟩ := within_loop (some (.v (nD a))) (some (.v (nD b))) 99 a b h
  unfold f_within
  simp [g_within, sWhile, e, cVar, cVarB, cK, cBin, cBinT, cCons, cNil, sNext, sSeq, sRet, sIf, sSet, sPar, SR.of, SR.out, enter, runF, ofO, toI, toB, disown, G.letGo, dSub, dNeg, dLe, dGt, dGe, R.bind]
  unfold C.sub
  cases C.subF 99 a b <;> rfl
end K06

namespace K06
open PySem PySem.Spec PyProof.Rows L2 G
theorem cBinT_of {dop : D → D → Option D} {f g : En → R D} {ρ : En} {a b : D} {e : Bool} (h1 : f ρ = .ok a) (h2 : g ρ = .ok b) (h : dop a b = some (.bool e)) : cBinT dop f g ρ = .ok e := by
  simp only [cBinT, cBin, h1, h2, R.bind, h, ofO, cTest]
  rfl
end K06

namespace K06
open PySem PySem.Spec PyProof.Rows L2 G
theorem getD_mem {α : Type} {l : List α} {k : Nat} {z : α} (h : k < l.length) : l.getD k z ∈ l := by
  rw [List.getD_eq_getElem?_getD, List.getElem?_eq_getElem h]
  exact List.getElem_mem h
section
end
end K06

namespace K06
open PySem PySem.Spec PyProof.Rows L2 G
theorem cTup2_of {f g : En → R D} {ρ : En} {a b : D} (h1 : f ρ = .ok a) (h2 : g ρ = .ok b) : cTup (cCons f (cCons g cNil)) ρ = .ok (.tuple [a, b]) := by
  simp only [cTup, cCons, cNil, h1, h2, R.bind]
  rw [if_pos (by simp; unfold sizeLine; omega)]
theorem cUn_of {dop : D → Option D} {f : En → R D} {ρ : En} {a e : D} (h1 : f ρ = .ok a) (h : dop a = some e) : cUn dop f ρ = .ok e := by
  simp only [cUn, h1, R.bind, h, ofO]
section
end
section
end
end K06

namespace K06
open PySem PySem.Spec PyProof.Rows L2 G
theorem cCons_of {f : En → R D} {l : En → R (List D)} {ρ : En} {d : D} {ds : List D} (h : f ρ = .ok d) (h2 : l ρ = .ok ds) : cCons f l ρ = .ok (d :: ds) := by
  simp only [cCons, h, h2, R.bind]
theorem sAsg_of {t : TgF} {f : En → R D} {ρ ρ1 : En} {d : D} (h : f ρ = .ok d) (h2 : t d ρ = some ρ1) : sAsg t f ρ = .nx ρ1 := by
  unfold sAsg
  rw [h]
  simp only [SR.of, h2]
section
end
end K06

namespace K06
open PySem PySem.Spec PyProof.Rows L2 G
theorem sPar_of {i j : Nat} {l : En → R (List D)} {ρ : En} {d e : D} (h : l ρ = .ok [d, e]) : sPar i j l ρ = .nx ((ρ.set i (some (.v d))).set j (some (.v e))) := by
  unfold sPar
  rw [h]
  rfl
theorem sWhile_of {n : Nat} {c : En → R Bool} {body : En → SR} {ρ : En} {r : SR} (h : whileL c body n ρ = r) : sWhile n c body ρ = r := h
theorem cList2_of {f g : En → R D} {ρ : En} {a b : D} (h1 : f ρ = .ok a) (h2 : g ρ = .ok b) : cList (cCons f (cCons g cNil)) ρ = .ok (.list [a, b]) := by
  simp only [cList, cCons, cNil, h1, h2, R.bind]
  rw [if_pos (by simp; unfold sizeLine; omega)]
theorem half_mod {a b : Nat} (hb : 0 < b) (h : 0 < a % b) {k : Nat} (hk : b < 2 ^ (k + 1)) : b % (a % b) < 2 ^ k := by
  have h1 : a % b < b := Nat.mod_lt _ hb
  have h2 : b % (a % b) < a % b := Nat.mod_lt _ h
  have h3 : b % (a % b) + a % b ≤ b := by
    have e := Nat.div_add_mod b (a % b)
    have : 1 ≤ b / (a % b) := (Nat.le_div_iff_mul_le h).mpr (by omega)
    have := Nat.mul_le_mul_left (a % b) this
    omega
  rw [Nat.pow_succ] at hk
  omega
/-- Euclid's way, of any body that steps so -/
theorem euclid {c : En → R Bool} {body : En → SR} {st : Nat → Nat → En} (hc : ∀ a b, c (st a b) = .ok (decide (0 < b))) (hb : ∀ a b, 0 < b → body (st a b) = .nx (st b (a % b))) : ∀ (k a b m : Nat), b < 2 ^ k → 2 * k ≤ m → whileL c body (m + 1) (st a b) = .nx (st (Nat.gcd a b) 0)
  | 0, a, b, m, h, _ => by
    obtain rfl : b = 0 := by simpa using h
    rw [whileL_stop ((hc a 0).trans (by rfl)), Nat.gcd_zero_right]
  | k + 1, a, b, m, h, hm => by
    by_cases h0 : 0 < b
    · obtain ⟨m1, rfl⟩ : ∃ m1, m = m1 + 1 := ⟨m - 1, by omega⟩
      rw [whileL_step ((hc a b).trans (by rw [decide_eq_true h0])) (hb a b h0)]
      by_cases h1 : 0 < a % b
      · obtain ⟨m2, rfl⟩ : ∃ m2, m1 = m2 + 1 := ⟨m1 - 1, by omega⟩
        rw [whileL_step ((hc b (a % b)).trans (by rw [decide_eq_true h1])) (hb b (a % b) h1), euclid hc hb k (a % b) (b % (a % b)) m2 (half_mod h0 h1 h) (by omega)]
        rw [Nat.gcd_comm (a % b), ← Nat.gcd_rec, Nat.gcd_comm]
        congr 2
        rw [Nat.gcd_comm a b, Nat.gcd_rec b a, Nat.gcd_comm (a % b) b]
      · have h2 : a % b = 0 := by omega
        rw [h2, whileL_stop ((hc b 0).trans (by rfl))]
        rw [Nat.gcd_comm, Nat.gcd_rec, h2, Nat.gcd_zero_left]
    · obtain rfl : b = 0 := by omega
      rw [whileL_stop ((hc a 0).trans (by rfl)), Nat.gcd_zero_right]
end K06

namespace K06
open PySem PySem.Spec PyProof.Rows L2 G
def Big (i : Int) : Prop := i.natAbs < 2 ^ 200
theorem Big.log {i : Int} (h : Big i) : i.natAbs.log2 ≤ 200 := by
  by_cases h0 : i.natAbs = 0
  · rw [h0]; decide
  · exact Nat.le_of_lt ((Nat.log2_lt h0).mpr h)
theorem dMul_ok {a b : Int} (ha : Big a) (hb : Big b) : dMul (.int a) (.int b) = some (.int (a * b)) := by
  have h1 := ha.log
  have h2 := hb.log
  have : dMul (.int a) (.int b) = if a.natAbs.log2 + b.natAbs.log2 < 1000000 then some (.int (a * b)) else none := by simp only [dMul]
  rw [this, if_pos (by omega)]
theorem div_ok (a : Int) {k : Nat} (h : 0 < k) (h2 : k < 2 ^ 60) : dDiv (.int a) (nD k) = some (.int (a / k)) := dDiv_pos a (by omega) (by
  have : (k : Int).natAbs = k := rfl
  rw [this]
  have := (Nat.log2_lt (n := k) (k := 60) (by omega)).mpr h2
  omega)
end K06

namespace K06
open PySem PySem.Spec PyProof.Rows L2 G
theorem loopL_inv {P : En → Prop} {tgt : TgF} {body : En → SR} : ∀ {ds : List D} {ρ : En}, (∀ d ∈ ds, ∀ ρ, P ρ → ∃ ρ1 ρ2, tgt d ρ = some ρ1 ∧ body ρ1 = .nx ρ2 ∧ P ρ2) → P ρ → ∃ ρ2, loopL tgt body ds ρ = .nx ρ2 ∧ P ρ2
  | [], ρ, _, h => ⟨ρ, rfl, h⟩
  | d :: ds, ρ, hd, h => by
    obtain ⟨ρ1, ρ2, e1, e2, h2⟩ := hd d List.mem_cons_self ρ h
    obtain ⟨ρ3, e3, h3⟩ := loopL_inv (P := P) (fun a ha => hd a (List.mem_cons_of_mem _ ha)) h2
    exact ⟨ρ3, loopL_nx e1 e2 e3, h3⟩
theorem cOr_ff {p q : En → R Bool} {ρ : En} (h1 : p ρ = .ok false) (h2 : q ρ = .ok false) : cOr p q ρ = .ok false := by
  simp only [cOr, h1, R.bind, h2]
  rfl
theorem cNot_of {p : En → R Bool} {ρ : En} {b : Bool} (h : p ρ = .ok b) : cNot p ρ = .ok (!b) := by
  simp only [cNot, h, R.bind]
theorem cChainT_of {f g h : En → R D} {ρ : En} {a b c : Int} (h1 : f ρ = .ok (.int a)) (h2 : g ρ = .ok (.int b)) (h3 : h ρ = .ok (.int c)) (l1 : a ≤ b) (l2 : b ≤ c) : cChainT dLe dLe f g h ρ = .ok true := by
  simp only [cChainT, h1, h2, h3, R.bind, dLe, decide_eq_true l1, decide_eq_true l2]
  rfl
theorem cChain_of {f g h : En → R D} {ρ : En} {a b c : Int} (h1 : f ρ = .ok (.int a)) (h2 : g ρ = .ok (.int b)) (h3 : h ρ = .ok (.int c)) (l1 : a ≤ b) (l2 : b ≤ c) : cChain dLe dLe f g h ρ = .ok (.bool true) := by
  simp only [cChain, h1, h2, h3, R.bind, dLe, decide_eq_true l1, decide_eq_true l2]
  rfl
theorem cAndV_tt {f g : En → R D} {ρ : En} {r : R D} (h1 : f ρ = .ok (.bool true)) (h2 : g ρ = r) : cAndV f g ρ = r := by
  simp only [cAndV, cTest, h1, R.bind, toB, ofO]
  exact h2
end K06

namespace K06
open PySem PySem.Spec PyProof.Rows L2 G
theorem small_big {i : Int} (h1 : -10 ^ 12 ≤ i) (h2 : i ≤ 10 ^ 12) : Big i := by
  have e : (10 : Int) ^ 12 = 1000000000000 := by decide
  unfold Big
  have : (1000000000000 : Nat) < 2 ^ 200 := by decide
  omega
theorem sum_bound {l : List Int} {c : Int} (h : ∀ x ∈ l, -c ≤ x ∧ x ≤ c) : -(c * l.length) ≤ l.sum ∧ l.sum ≤ c * l.length := by
  induction l with
  | nil => simp
  | cons a r ih =>
    have h1 := h a List.mem_cons_self
    have h2 := ih fun x hx => h x (List.mem_cons_of_mem _ hx)
    rw [List.sum_cons, List.length_cons]
    have : c * ((r.length + 1 : Nat) : Int) = c * r.length + c := by rw [Int.natCast_add, Int.mul_add]; simp
    rw [this]
    omega
/-! ### rows of a Good -/
end K06

namespace K06
open PySem PySem.Spec PyProof.Rows L2 G
theorem sExpr_of {f : En → R D} {ρ : En} {d : D} (h : f ρ = .ok d) : sExpr f ρ = .nx ρ := by
  unfold sExpr
  rw [h]
  rfl
section
end
end K06

namespace K06
open PySem PySem.Spec PyProof.Rows L2 G
theorem cList_of {l : En → R (List D)} {ρ : En} {ds : List D} (h : l ρ = .ok ds) (hz : ds.length ≤ sizeLine) : cList l ρ = .ok (.list ds) := by
  unfold cList
  rw [h]
  show (if ds.length ≤ sizeLine then R.ok (PyData.list ds) else R.no) = _
  rw [if_pos hz]
section
end
end K06

namespace K06
open PySem PySem.Spec PyProof.Rows L2 G
theorem sSeq_rt {g1 g2 : En → SR} {ρ : En} {d : D} (h1 : g1 ρ = .rt d) : sSeq g1 g2 ρ = .rt d := by
  unfold sSeq
  rw [h1]
theorem sRetK {d : D} {ρ : En} : sRet (cK d) ρ = .rt d := rfl
section
theorem out_rt {d : D} : SR.out (.rt d) = .ok d := rfl
end
end K06

namespace K06
open PySem PySem.Spec PyProof.Rows L2 G
theorem loopL_cnt {P : Nat → En → Prop} {tgt : TgF} {body : En → SR} {q : Nat} : ∀ {ds : List D} {c : Nat} {ρ : En}, (∀ d ∈ ds, ∀ c' ρ, c' ≤ c + q * ds.length → P c' ρ → ∃ ρ1 ρ2, tgt d ρ = some ρ1 ∧ body ρ1 = .nx ρ2 ∧ P (c' + q) ρ2) → P c ρ → ∃ ρ2, loopL tgt body ds ρ = .nx ρ2 ∧ P (c + q * ds.length) ρ2
  | [], c, ρ, _, h => ⟨ρ, rfl, by simpa using h⟩
  | d :: ds, c, ρ, hd, h => by
    obtain ⟨ρ1, ρ2, e1, e2, h2⟩ := hd d List.mem_cons_self c ρ (by omega) h
    have hq : q * (d :: ds).length = q + q * ds.length := by rw [List.length_cons, Nat.mul_succ]; omega
    obtain ⟨ρ3, e3, h3⟩ := loopL_cnt (P := P) (q := q) (c := c + q) (fun a ha c' ρ hc => hd a (List.mem_cons_of_mem _ ha) c' ρ (by omega)) h2
    exact ⟨ρ3, loopL_nx e1 e2 e3, by rw [hq, ← Nat.add_assoc]; exact h3⟩
theorem mod_nat (a m : Nat) (hm : 0 < m) : dMod (nD a) (.int (m : Int)) = some (nD (a % m)) := by
  rw [dMod_pos _ (by omega)]
  simp
theorem div_nat (a m : Nat) (hm : 0 < m) (h : m < 2 ^ 60) : dDiv (nD a) (.int (m : Int)) = some (nD (a / m)) := by
  rw [div_ok (a : Int) hm h]
  simp
theorem big_nat {a : Nat} (h : a < 2 ^ 190) : Big (a : Int) := by
  unfold Big
  have : (2 : Nat) ^ 190 < 2 ^ 200 := by decide
  show a < _
  omega
theorem mul_nat (a b : Nat) (ha : a < 2 ^ 190) (hb : b < 2 ^ 190) : dMul (nD a) (nD b) = some (nD (a * b)) := by
  rw [dMul_ok (big_nat ha) (big_nat hb)]
  simp
theorem add_nat (a b : Nat) : dAdd (nD a) (nD b) = some (nD (a + b)) := by
  show some (PyData.int ((a : Int) + b)) = _
  simp
theorem lt_app {ds : List Nat} {b q : Nat} (h : ∀ d ∈ ds, d < q) (hb : b < q) : ∀ d ∈ ds ++ [b], d < q := fun d hd => by
  rcases List.mem_append.mp hd with hd | hd
  · exact h d hd
  · simp at hd
    subst hd
    exact hb
/-- the draws so far -/
def Dr (ns : List Int) (c : Nat) (ρ : En) : Prop := ∃ (ds : List Nat) (x y z u : Option Sl), (ds.length ≤ c ∧ ∀ d ∈ ds, d < 65536) ∧ ρ = [some (.sc ns), some (.own false (.list (ds.map nD))), x, y, z, u]
def DrR (ns : List Int) (K : D) (c : Nat) (ρ : En) : Prop := ∃ (ds : List Nat) (r : Nat) (z u : Option Sl), (ds.length ≤ c ∧ ∀ d ∈ ds, d < 65536) ∧ ρ = [some (.sc ns), some (.own false (.list (ds.map nD))), some (.v K), some (.v (nD r)), z, u]
abbrev dr_i : En → SR := (sIf (cBinT dGt (cVarB 3) (cK (.int 0)))
    (sSeq (sAppend 1 (cBin dMod (cCall dInt (cCons (cVarB 3) cNil)) (cK (.int 65536))))
    (sSet 3 (cBin dDiv (cVarB 3) (cK (.int 65536)))))
    sNext)
theorem dr_turns (ns : List Int) (K : D) {c : Nat} (hc : c ≤ 10000) {ρ : En} (h : DrR ns K c ρ) : ∃ ρ2, sFor (gN 4) (cIter dRange1 (cCons (cK (.int 60)) cNil)) dr_i ρ = .nx ρ2 ∧ DrR ns K (c + 60) ρ2 := by
  obtain ⟨ρ2, e, h2⟩ := loopL_cnt (P := DrR ns K) (q := 1) (tgt := gN 4) (body := dr_i) (ds := (List.range 60).map nD) (c := c) (ρ := ρ) (fun d hd c' ρ hc' hρ => by
    obtain ⟨ds, r, z, u, hl, rfl⟩ := hρ
    rw [List.length_map, List.length_range] at hc'
    by_cases hr : 0 < r
    · refine ⟨_, _, rfl, sIf_true (cBinT_of (a := nD r) (b := .int 0) rfl rfl (by show some (PyData.bool (decide ((0 : Int) < r))) = _; rw [decide_eq_true (by omega)])) (sSeq_nx (sAppend_of (t := false) (ds := ds.map nD) (d := nD (r % 65536)) rfl (cBin_of (a := nD r) (cCall1_of (d := nD r) rfl rfl) rfl (mod_nat r 65536 (by omega))) (by rw [List.length_map]; unfold sizeLine; omega)) (sSet_of (d := nD (r / 65536)) (cBin_of (a := nD r) rfl rfl (div_nat r 65536 (by omega) (by omega))))), ?_⟩
      exact ⟨ds ++ [r % 65536], r / 65536, _, _, ⟨by simp; omega, lt_app hl.2 (Nat.mod_lt _ (by omega))⟩, by rw [List.map_append]; rfl⟩
    · refine ⟨_, _, rfl, sIf_false (cBinT_of (a := nD r) (b := .int 0) rfl rfl (by show some (PyData.bool (decide ((0 : Int) < r))) = _; rw [decide_eq_false (by omega)])) rfl, ?_⟩
      exact ⟨ds, r, _, _, ⟨by omega, hl.2⟩, rfl⟩) h
  rw [List.length_map, List.length_range] at h2
  exact ⟨ρ2, sFor_of (cIter1_of (d := nD 60) rfl (dRange1_nat (by omega))) e, by simpa using h2⟩
abbrev dr_s : En → SR := (sSeq (sSet 5 (cBin dMod (cCall dInt (cCons (cBin dAdd (cBin dMul (cVarB 3) (cK (.int 48271))) (cBin dMul (cBin dAdd (cVar 2) (cK (.int 1))) (cK (.int 69621)))) cNil)) (cK (.int 2147483647))))
    (sSeq (sSet 5 (cBin dMod (cCall dInt (cCons (cBin dAdd (cBin dAdd (cBin dMul (cVarB 5) (cK (.int 16807))) (cBin dMul (cK (.int 11)) (cVarB 2))) (cK (.int 5))) cNil)) (cK (.int 2147483629))))
    (sSeq (sAppend 1 (cBin dMod (cCall dInt (cCons (cVarB 5) cNil)) (cK (.int 65536))))
    (sAppend 1 (cBin dMod (cCall dInt (cCons (cBin dDiv (cVarB 5) (cK (.int 65536))) cNil)) (cK (.int 32768)))))))
theorem dr_stir (ns : List Int) {c k : Nat} (hc : c ≤ 10000) (hk : k < 100) {ds : List Nat} {r : Nat} (hr : r < 10 ^ 18) {z u : Option Sl} (hl : ds.length ≤ c ∧ ∀ d ∈ ds, d < 65536) : ∃ ρ2, dr_s [some (.sc ns), some (.own false (.list (ds.map nD))), some (.v (nD k)), some (.v (nD r)), z, u] = .nx ρ2 ∧ Dr ns (c + 60) ρ2 := by
  have p18 : (10 : Nat) ^ 18 < 2 ^ 60 := by decide
  have p60 : (2 : Nat) ^ 60 < 2 ^ 190 := by decide
  have m31 : (2147483647 : Nat) < 2 ^ 60 := by decide
  let a := (r * 48271 + (k + 1) * 69621) % 2147483647
  let b := (a * 16807 + 11 * k + 5) % 2147483629
  have ha : a < 2147483647 := Nat.mod_lt _ (by omega)
  refine ⟨_, sSeq_nx (sSet_of (d := nD a) (cBin_of (a := nD (r * 48271 + (k + 1) * 69621)) (cCall1_of (d := nD (r * 48271 + (k + 1) * 69621)) (cBin_of (cBin_of (a := nD r) (b := nD 48271) rfl rfl (mul_nat _ _ (by omega) (by omega))) (cBin_of (a := nD (k + 1)) (b := nD 69621) (cBin_of (a := nD k) (b := nD 1) rfl rfl (add_nat _ _)) rfl (mul_nat _ _ (by omega) (by omega))) (add_nat _ _)) rfl) rfl (mod_nat _ 2147483647 (by omega))))
    (sSeq_nx (sSet_of (d := nD b) (cBin_of (a := nD (a * 16807 + 11 * k + 5)) (cCall1_of (d := nD (a * 16807 + 11 * k + 5)) (cBin_of (a := nD (a * 16807 + 11 * k)) (b := nD 5) (cBin_of (cBin_of (a := nD a) (b := nD 16807) rfl rfl (mul_nat _ _ (by omega) (by omega))) (cBin_of (a := nD 11) (b := nD k) rfl rfl (mul_nat _ _ (by omega) (by omega))) (add_nat _ _)) rfl (add_nat _ _)) rfl) rfl (mod_nat _ 2147483629 (by omega))))
    (sSeq_nx (sAppend_of (t := false) (ds := ds.map nD) (d := nD (b % 65536)) rfl (cBin_of (a := nD b) (cCall1_of (d := nD b) rfl rfl) rfl (mod_nat _ 65536 (by omega))) (by rw [List.length_map]; unfold sizeLine; omega))
    (sAppend_of (t := false) (ds := ds.map nD ++ [nD (b % 65536)]) (d := nD (b / 65536 % 32768)) rfl (cBin_of (a := nD (b / 65536)) (cCall1_of (d := nD (b / 65536)) (cBin_of (a := nD b) rfl rfl (div_nat _ 65536 (by omega) (by omega))) rfl) rfl (mod_nat _ 32768 (by omega))) (by rw [List.length_append, List.length_map]; unfold sizeLine; simp; omega)))), ?_⟩
  exact ⟨ds ++ [b % 65536] ++ [b / 65536 % 32768], _, _, _, _, ⟨by simp; omega, lt_app (lt_app hl.2 (Nat.mod_lt _ (by omega))) (Nat.lt_trans (Nat.mod_lt _ (by omega)) (by omega))⟩, by rw [List.map_append, List.map_append]; rfl⟩
end K06

namespace K06
open PySem PySem.Spec PyProof.Rows L2 G
theorem pow18 : dPow (.int 10) (.int 18) = some (nD (10 ^ 18)) := by kernel_rfl
abbrev dr_o : En → SR := (sSeq (sSet 3 (cCall dAbs (cCons (cIxS 0 (cVar 2)) cNil)))
    (sIf (cBinT dGe (cVarB 3) (cBin dPow (cK (.int 10)) (cK (.int 18))))
    (sFor (gN 4) (cIter dRange1 (cCons (cK (.int 60)) cNil)) dr_i)
    dr_s))
theorem dr_step (ns : List Int) {c k : Nat} (hc : c ≤ 10000) (hk : k < ns.length) (hn : ns.length ≤ 63) {ρ : En} (h : Dr ns c ρ) : ∃ ρ1 ρ2, gN 2 (nD k) ρ = some ρ1 ∧ dr_o ρ1 = .nx ρ2 ∧ Dr ns (c + 60) ρ2 := by
  obtain ⟨ds, x, y, z, u, hl, rfl⟩ := h
  have q : cCall dAbs (cCons (cIxS 0 (cVar 2)) cNil) [some (.sc ns), some (.own false (.list (ds.map nD))), some (.v (nD k)), y, z, u] = .ok (nD (ns.getD k 0).natAbs) := by
    refine cCall1_of (d := .int (ns.getD k 0)) ?_ rfl
    show ofO ((atI ns (k : Int)).map PyData.int) = _
    rw [G.atI_nat, List.getD_eq_getElem?_getD, List.getElem?_eq_getElem hk]
    rfl
  by_cases hb : (10 : Nat) ^ 18 ≤ (ns.getD k 0).natAbs
  · obtain ⟨ρ2, e, ds2, r2, z2, u2, h2, rfl⟩ := dr_turns ns (nD k) hc (ρ := [some (.sc ns), some (.own false (.list (ds.map nD))), some (.v (nD k)), some (.v (nD (ns.getD k 0).natAbs)), z, u]) ⟨ds, _, _, _, hl, rfl⟩
    refine ⟨_, _, rfl, sSeq_nx (sSet_of q) (sIf_true (cBinT_of (a := nD (ns.getD k 0).natAbs) rfl (cBin_of rfl rfl pow18) ?_) e), ds2, _, _, _, _, h2, rfl⟩
    show some (PyData.bool (decide (((10 ^ 18 : Nat) : Int) ≤ ((ns.getD k 0).natAbs : Int)))) = _
    rw [decide_eq_true (Int.ofNat_le.mpr hb)]
  · obtain ⟨ρ2, e, h2⟩ := dr_stir ns (c := c) (k := k) hc (by omega) (ds := ds) (r := (ns.getD k 0).natAbs) (by omega) (z := z) (u := u) hl
    refine ⟨_, ρ2, rfl, sSeq_nx (sSet_of q) (sIf_false (cBinT_of (a := nD (ns.getD k 0).natAbs) rfl (cBin_of rfl rfl pow18) ?_) e), h2⟩
    show some (PyData.bool (decide (((10 ^ 18 : Nat) : Int) ≤ ((ns.getD k 0).natAbs : Int)))) = _
    rw [decide_eq_false (fun z => hb (Int.ofNat_le.mp z))]
theorem draws_eq (ns : List Int) (hn : ns.length ≤ 63) : ∃ ds : List Nat, (ds.length ≤ 10000 ∧ ∀ d ∈ ds, d < 65536) ∧ f_l_draws ns = .ok (.list (ds.map nD)) := by
  obtain ⟨ρ2, e, h⟩ := loopL_cnt (P := Dr ns) (q := 60) (tgt := gN 2) (body := dr_o) (ds := (List.range ns.length).map nD) (c := 0) (ρ := [some (.sc ns), some (.own false (.list (([] : List Nat).map nD))), none, none, none, none]) (fun d hd c' ρ hc hρ => by
    obtain ⟨k, hk, rfl⟩ := List.mem_map.mp hd
    rw [List.mem_range] at hk
    rw [List.length_map, List.length_range] at hc
    exact dr_step ns (by omega) hk hn hρ) ⟨[], _, _, _, _, by simp, rfl⟩
  rw [List.length_map, List.length_range] at h
  obtain ⟨ds, x, y, z, u, hl, rfl⟩ := h
  refine ⟨ds, ⟨by omega, hl.2⟩, ?_⟩
  unfold f_l_draws g_l_draws runS
  have q : cIter dRange1 (cCons (cCall dMin2 (cCons (cK (.int 63)) (cCons (cLenS 0) cNil))) cNil) [some (.sc ns), some (.own false (.list [])), none, none, none, none] = .ok ((List.range ns.length).map nD) := by
    refine cIter1_of (d := nD ns.length) ?_ (dRange1_nat (by omega))
    show ofO (some (PyData.int (min (63 : Int) (ns.length : Nat)))) = _
    rw [Int.min_eq_right (by omega)]
    rfl
  have e9 := sSeq_nx (g2 := sSeq (sFor (gN 2) (cIter dRange1 (cCons (cCall dMin2 (cCons (cK (.int 63)) (cCons (cLenS 0) cNil))) cNil)) dr_o) (sRet (cVar 1))) (ρ := some (.sc ns) :: List.replicate 5 none) (sSetN_of (i := 1) (t := false) (f := cList cNil) (d := .list []) rfl) (sSeq_nx (sFor_of q e) rfl)
  exact (congrArg SR.out e9).trans (sRet_of rfl)
end K06

namespace K06
open PySem PySem.Spec PyProof.Rows L2 G
structure Draws (ds : List Nat) : Prop where
  few : ds.length ≤ 10000
  low : ∀ d ∈ ds, d < 65536
def cellOf (ds : List Nat) (k : Nat) : Nat := ds.getD (k % ds.length) 0
def mixOf (ds : List Nat) (k m : Nat) : Nat := if k < ds.length then cellOf ds k % m else (cellOf ds k * 7919 + k * 104729) / 3 % m
theorem mix_lt (ds : List Nat) (k : Nat) {m : Nat} (hm : 0 < m) : mixOf ds k m < m := by
  unfold mixOf
  split <;> exact Nat.mod_lt _ hm
theorem cell_lt {ds : List Nat} (h : Draws ds) (k : Nat) : cellOf ds k < 65536 := by
  unfold cellOf
  by_cases h0 : ds.length = 0
  · rw [List.length_eq_zero_iff.mp h0]; simp
  · exact h.low _ (getD_mem (Nat.mod_lt _ (by omega)))
theorem mix_eq {ds : List Nat} (h : Draws ds) {k m : Nat} (hk : k < 100000) (hm : 0 < m) : f_l_mix [.list (ds.map nD), nD k, nD m] = .ok (nD (mixOf ds k m)) := by
  have hc := cell_lt h k
  have p : (10000000000 : Nat) < 2 ^ 190 := by decide
  have ql : ∀ x, cCall dLen (cCons (cVarB 0) cNil) [some (.v (.list (ds.map nD))), some (.v (nD k)), some (.v (nD m)), x] = .ok (nD ds.length) := fun x => cCall1_of (d := .list (ds.map nD)) rfl (by rw [dLen_list, List.length_map])
  have e1 : sIf (cBinT dGt (cCall dLen (cCons (cVarB 0) cNil)) (cK (.int 0))) (sSet 3 (cBin dIx (cVarB 0) (cBin dMod (cCall dInt (cCons (cVarB 1) cNil)) (cCall dLen (cCons (cVarB 0) cNil))))) sNext [some (.v (.list (ds.map nD))), some (.v (nD k)), some (.v (nD m)), some (.v (.int 0))] = .nx [some (.v (.list (ds.map nD))), some (.v (nD k)), some (.v (nD m)), some (.v (nD (cellOf ds k)))] := by
    by_cases h0 : 0 < ds.length
    · refine sIf_true (cBinT_of (ql _) rfl (by show some (PyData.bool (decide ((0 : Int) < ds.length))) = _; rw [decide_eq_true (by omega)])) ((sSet_of (d := nD (cellOf ds k)) (cBin_of (a := .list (ds.map nD)) (b := nD (k % ds.length)) rfl (cBin_of (a := nD k) (cCall1_of (d := nD k) rfl rfl) (ql _) (mod_nat k ds.length h0)) ?_)).trans rfl)
      rw [dIx_nat, List.getElem?_map]
      unfold cellOf
      rw [List.getD_eq_getElem?_getD, List.getElem?_eq_getElem (Nat.mod_lt _ h0)]
      rfl
    · have hz : ds = [] := List.length_eq_zero_iff.mp (by omega)
      subst hz
      exact sIf_false (cBinT_of (ql _) rfl (by rfl)) (by simp [cellOf, sNext])
  unfold f_l_mix g_l_mix
  refine runF_of rfl ?_
  by_cases hl : k < ds.length
  · have e2 : sIf (cBinT dLt (cVarB 1) (cCall dLen (cCons (cVarB 0) cNil))) (sRet (cBin dMod (cCall dInt (cCons (cVarB 3) cNil)) (cVarB 2))) sNext [some (.v (.list (ds.map nD))), some (.v (nD k)), some (.v (nD m)), some (.v (nD (cellOf ds k)))] = .rt (nD (cellOf ds k % m)) := by
      refine sIf_true (cBinT_of (a := nD k) rfl (ql _) (by show some (PyData.bool (decide ((k : Int) < ds.length))) = _; rw [decide_eq_true (by omega)])) ?_
      have q : cBin dMod (cCall dInt (cCons (cVarB 3) cNil)) (cVarB 2) (disown [some (.v (.list (ds.map nD))), some (.v (nD k)), some (.v (nD m)), some (.v (nD (cellOf ds k)))]) = .ok (nD (cellOf ds k % m)) := cBin_of (a := nD (cellOf ds k)) (b := nD m) (cCall1_of (d := nD (cellOf ds k)) rfl rfl) rfl (mod_nat _ m hm)
      unfold sRet
      rw [q]
      rfl
    refine (congrArg SR.out (sSeq_nx (sSet_of (d := .int 0) rfl) (sSeq_nx e1 (sSeq_rt e2)))).trans ?_
    rw [out_rt, mixOf, if_pos hl]
  · have e2 : sIf (cBinT dLt (cVarB 1) (cCall dLen (cCons (cVarB 0) cNil))) (sRet (cBin dMod (cCall dInt (cCons (cVarB 3) cNil)) (cVarB 2))) sNext [some (.v (.list (ds.map nD))), some (.v (nD k)), some (.v (nD m)), some (.v (nD (cellOf ds k)))] = .nx [some (.v (.list (ds.map nD))), some (.v (nD k)), some (.v (nD m)), some (.v (nD (cellOf ds k)))] :=
      sIf_false (cBinT_of (a := nD k) rfl (ql _) (by show some (PyData.bool (decide ((k : Int) < ds.length))) = _; rw [decide_eq_false (by omega)])) rfl
    refine (congrArg SR.out (sSeq_nx (sSet_of (d := .int 0) rfl) (sSeq_nx e1 (sSeq_nx e2 rfl)))).trans (sRet_of ?_)
    rw [mixOf, if_neg hl]
    refine cBin_of (a := nD ((cellOf ds k * 7919 + k * 104729) / 3)) (b := nD m) (cCall1_of (d := nD ((cellOf ds k * 7919 + k * 104729) / 3)) (cBin_of (a := nD (cellOf ds k * 7919 + k * 104729)) (cCall1_of (d := nD (cellOf ds k * 7919 + k * 104729)) (cBin_of (cBin_of (a := nD (cellOf ds k)) (b := nD 7919) rfl rfl (mul_nat _ _ (by omega) (by omega))) (cBin_of (a := nD k) (b := nD 104729) rfl rfl (mul_nat _ _ (by omega) (by omega))) (add_nat _ _)) rfl) rfl (div_nat _ 3 (by omega) (by omega))) rfl) rfl (mod_nat _ m hm)
end K06

namespace K06
open PySem PySem.Spec PyProof.Rows L2 G
/-- data whose text can be shown, told by bounds -/
structure Fine (d : D) (dep len : Nat) : Prop where
  lay : d.canLay0 = true
  can : d.showable = true
  dep : d.depth ≤ dep
  len : d.shown.length ≤ len
  ok : PyData.strOk d.shown = true
theorem Fine.mono {d : D} {a b a' b' : Nat} (h : Fine d a b) (h1 : a ≤ a') (h2 : b ≤ b') : Fine d a' b' := ⟨h.lay, h.can, Nat.le_trans h.dep h1, Nat.le_trans h.len h2, h.ok⟩
theorem ok_lit (s : String) : PyData.strOk (Str.ofString s) = true := by
  rw [Str.ofString_eq_toList]
  unfold PyData.strOk
  rw [List.all_toArray, List.all_eq_true]
  intro n hn
  obtain ⟨c, _, rfl⟩ := List.mem_map.mp hn
  exact decide_eq_true (by
    have := c.valid
    unfold UInt32.isValidChar Nat.isValidChar at this
    show c.val.toNat < _
    omega)
theorem ok_app {x y : Str} (hx : PyData.strOk x = true) (hy : PyData.strOk y = true) : PyData.strOk (x ++ y) = true := by
  show (x.cps ++ y.cps).all _ = true
  rw [Array.all_append]
  unfold PyData.strOk at hx hy
  rw [hx, hy]
  rfl
theorem ok_from : ∀ (ts : List Str) (k : Nat) (acc : Str), PyData.strOk acc = true → (∀ t ∈ ts, PyData.strOk t = true) → PyData.strOk (textFrom k acc ts) = true
  | [], _, _, h, _ => h
  | t :: r, k, acc, h, ht => by
    unfold textFrom
    refine ok_from r _ _ (ok_app (ok_app h ?_) (ht t List.mem_cons_self)) fun a ha => ht a (List.mem_cons_of_mem _ ha)
    exact ok_lit _
theorem ok_list {ts : List Str} (h : ∀ t ∈ ts, PyData.strOk t = true) : PyData.strOk (listText ts) = true := ok_app (ok_from _ _ _ (ok_lit _) h) (ok_lit _)
theorem ok_join : ∀ {ts : List Str}, (∀ t ∈ ts, PyData.strOk t = true) → PyData.strOk (Str.join ", " ts) = true
  | [], _ => by simp [Str.join, Str.empty, PyData.strOk]
  | [x], h => h x List.mem_cons_self
  | x :: y :: r, h => ok_app (ok_app (h x List.mem_cons_self) (ok_lit _)) (ok_join fun a ha => h a (List.mem_cons_of_mem _ ha))
theorem ok_tup {ts : List Str} (h : ∀ t ∈ ts, PyData.strOk t = true) : PyData.strOk (tupleText ts) = true := ok_app (ok_app (ok_lit _) (ok_join h)) (ok_lit _)
theorem piled_few {b : Nat} : ∀ {ts : List Str}, (∀ t ∈ ts, t.length ≤ b) → piled ts ≤ ts.length * (b + 2)
  | [], _ => by rw [piled_nil]; omega
  | t :: r, h => by
    have h1 := h t List.mem_cons_self
    have h2 := piled_few (ts := r) fun a ha => h a (List.mem_cons_of_mem _ ha)
    rw [piled_cons, List.length_cons, Nat.succ_mul]
    omega
theorem list_len (ts : List Str) : (listText ts).length ≤ 2 + piled ts := by
  unfold listText
  have e1 : (Str.ofString "]").length = 1 := by rfl
  have e2 : (Str.ofString "[").length = 1 := by rfl
  cases ts with
  | nil => show (Str.ofString "[" ++ Str.ofString "]").length ≤ _; rw [strLen_append]; omega
  | cons t r =>
    rw [strLen_append]
    show (textFrom 1 (Str.ofString "[" ++ Str.ofString "" ++ t) r).length + _ ≤ _
    rw [textFrom_length_pos _ _ _ (by decide), strLen_append, strLen_append, piled_cons]
    have e3 : (Str.ofString "").length = 0 := by rfl
    omega
theorem tup_len (ts : List Str) : (tupleText ts).length ≤ 3 + piled ts := by
  unfold tupleText
  rw [strLen_append, strLen_append]
  have e1 : (Str.ofString "(").length = 1 := by rfl
  have e2 : (Str.ofString (if (ts.length == 1) = true then ",)" else ")")).length ≤ 2 := by split <;> decide
  by_cases h : ts = []
  · subst h
    have e3 : (Str.join ", " ([] : List Str)).length = 0 := by rfl
    omega
  · have := join_length_add ts h
    omega
theorem shown_mem {xs : List D} {t : Str} (h : t ∈ PyData.shownAll xs) : ∃ x ∈ xs, t = x.shown := by
  induction xs with
  | nil => simp [PyData.shownAll] at h
  | cons x r ih =>
    rw [PyData.shownAll] at h
    rcases List.mem_cons.mp h with h | h
    · exact ⟨x, List.mem_cons_self, h⟩
    · obtain ⟨y, hy, e⟩ := ih h
      exact ⟨y, List.mem_cons_of_mem _ hy, e⟩
theorem shown_all_len (xs : List D) : (PyData.shownAll xs).length = xs.length := by
  induction xs with
  | nil => simp [PyData.shownAll]
  | cons x r ih => simp [PyData.shownAll, ih]
theorem all_fine {xs : List D} {dep len : Nat} (h : ∀ x ∈ xs, Fine x dep len) : PyData.canLayAll0 xs = true ∧ PyData.showableAll xs = true ∧ PyData.depthAll xs ≤ dep := by
  induction xs with
  | nil => simp [PyData.canLayAll0, PyData.showableAll, PyData.depthAll]
  | cons x r ih =>
    obtain ⟨h1, h2, h3⟩ := ih fun a ha => h a (List.mem_cons_of_mem _ ha)
    obtain ⟨a1, a2, a3, _, _⟩ := h x List.mem_cons_self
    simp only [PyData.canLayAll0, PyData.showableAll, PyData.depthAll, a1, a2, h1, h2, Bool.and_self, true_and]
    omega
theorem fine_list {xs : List D} {dep len m : Nat} (h : ∀ x ∈ xs, Fine x dep len) (hm : xs.length ≤ m) : Fine (.list xs) (dep + 1) (2 + m * (len + 2)) := by
  obtain ⟨h1, h2, h3⟩ := all_fine h
  refine ⟨by simpa [PyData.canLay0] using h1, by simpa [PyData.showable] using h2, by rw [PyData.depth]; omega, ?_, ?_⟩
  · rw [PyData.shown]
    have e1 := list_len (PyData.shownAll xs)
    have e2 := piled_few (ts := PyData.shownAll xs) (b := len) fun t ht => by obtain ⟨x, hx, rfl⟩ := shown_mem ht; exact (h x hx).len
    rw [shown_all_len] at e2
    have e3 := Nat.mul_le_mul_right (len + 2) hm
    omega
  · rw [PyData.shown]
    exact ok_list fun t ht => by obtain ⟨x, hx, rfl⟩ := shown_mem ht; exact (h x hx).ok
theorem fine_tup {xs : List D} {dep len m : Nat} (h : ∀ x ∈ xs, Fine x dep len) (hm : xs.length ≤ m) : Fine (.tuple xs) (dep + 1) (3 + m * (len + 2)) := by
  obtain ⟨h1, h2, h3⟩ := all_fine h
  refine ⟨by simpa [PyData.canLay0] using h1, by simpa [PyData.showable] using h2, by rw [PyData.depth]; omega, ?_, ?_⟩
  · rw [PyData.shown]
    have e1 := tup_len (PyData.shownAll xs)
    have e2 := piled_few (ts := PyData.shownAll xs) (b := len) fun t ht => by obtain ⟨x, hx, rfl⟩ := shown_mem ht; exact (h x hx).len
    rw [shown_all_len] at e2
    have e3 := Nat.mul_le_mul_right (len + 2) hm
    omega
  · rw [PyData.shown]
    exact ok_tup fun t ht => by obtain ⟨x, hx, rfl⟩ := shown_mem ht; exact (h x hx).ok
theorem fine_int {i : Int} (h : i.natAbs.log2 < 1920) : Fine (.int i) 0 1921 := by
  refine ⟨by simp [PyData.canLay0], by simp [PyData.showable, h], by simp [PyData.depth], ?_, ?_⟩
  · rw [PyData.shown]
    exact PyProof.Rows.int_text_len_1921 h
  · rw [PyData.shown]
    exact ok_lit _
theorem fine_big {i : Int} (h : Big i) : Fine (.int i) 0 1921 := fine_int (by have := h.log; omega)
theorem fine_none : Fine .none 0 1921 := ⟨by simp [PyData.canLay0], by simp [PyData.showable], by simp [PyData.depth], by rw [PyData.shown]; decide, by rw [PyData.shown]; exact ok_lit _⟩
theorem Fine.repr {d : D} {dep len : Nat} (h : Fine d dep len) (h1 : dep ≤ 60) (h2 : len ≤ 16777216) : dRepr d = some (.str d.shown) := by
  unfold dRepr
  rw [if_pos ⟨PyData.hasDict_of_canLay d h.lay, h.can, Nat.le_trans h.dep h1, Nat.le_trans h.len (by unfold sizeLine; omega)⟩]
theorem ne_self {d : D} (h1 : d.canLay0 = true) (h2 : d.depth ≤ 64) : dNe d d = some (.bool false) := by
  have hs : SeqAt.shaped d = true := by unfold SeqAt.shaped; rw [h1, decide_eq_true h2]; rfl
  unfold dNe
  rw [if_pos ⟨hs, hs⟩, SeqAt.eqv_refl d h1]
  rfl
theorem eq_self {d : D} (h1 : d.canLay0 = true) (h2 : d.depth ≤ 64) : dEq d d = some (.bool true) := by
  have hs : SeqAt.shaped d = true := by unfold SeqAt.shaped; rw [h1, decide_eq_true h2]; rfl
  unfold dEq
  rw [if_pos ⟨hs, hs⟩, SeqAt.eqv_refl d h1]
theorem Fine.text {d : D} {dep len : Nat} (h : Fine d dep len) : PyData.canLay0 (.str d.shown) = true ∧ PyData.depth (.str d.shown) ≤ 64 := ⟨by rw [PyData.canLay0]; exact h.ok, by simp [PyData.depth]⟩
end K06

namespace K06
open PySem PySem.Spec PyProof.Rows L2 G
section
theorem sFrz_of {i : Nat} {b : En → SR} {ρ : En} {r : SR} (hb : b (frz i ρ) = r) : sFrz i b ρ = r := hb
end
end K06

namespace K06
open PySem PySem.Spec PyProof.Rows L2 G
theorem cAnd_f {p q : En → R Bool} {ρ : En} (h1 : p ρ = .ok false) : cAnd p q ρ = .ok false := by
  simp only [cAnd, h1, R.bind]
  rfl
theorem cAnd_t {p q : En → R Bool} {ρ : En} {b : Bool} (h1 : p ρ = .ok true) (h2 : q ρ = .ok b) : cAnd p q ρ = .ok b := by
  simp only [cAnd, h1, R.bind, h2]
  rfl
section
theorem ne_text {f1 f2 : En → R D} {ρ : En} {d : D} {a b : Nat} (hf : Fine d a b) (h1 : a ≤ 60) (h2 : b ≤ 16777216) (e1 : f1 ρ = .ok d) (e2 : f2 ρ = .ok d) : cBinT dNe (cUn dRepr f1) (cUn dRepr f2) ρ = .ok false :=
  cBinT_of (cUn_of e1 (hf.repr h1 h2)) (cUn_of e2 (hf.repr h1 h2)) (ne_self hf.text.1 hf.text.2)
end
end K06

namespace K06
open PySem PySem.Spec PyProof.Rows L2 G
section
end
theorem cCallS_of {i : Nat} {F : List Int → R D} {ρ : En} {ns : List Int} {r : R D} (h : ρ[i]? = some (some (.sc ns))) (h2 : F ns = r) : cCallS i F ρ = r := by
  unfold cCallS
  rw [h]
  exact h2
end K06

namespace K06
open PySem PySem.Spec PyProof.Rows L2 G
theorem enum_mem {xs : List D} {d : D} {k : Nat} (h : d ∈ enumL k xs) : ∃ i x, x ∈ xs ∧ i < xs.length ∧ d = .tuple [nD (k + i), x] := by
  obtain ⟨i, hi⟩ := List.mem_iff_getElem?.mp h
  rw [enumL_get] at hi
  obtain ⟨x, h1, h2⟩ := Option.map_eq_some_iff.mp hi
  exact ⟨i, x, List.mem_of_getElem? h1, (List.getElem?_eq_some_iff.mp h1).1, h2.symm⟩
theorem cChainT_lt {f g h : En → R D} {ρ : En} {a b c : Int} (h1 : f ρ = .ok (.int a)) (h2 : g ρ = .ok (.int b)) (h3 : h ρ = .ok (.int c)) (l1 : a ≤ b) (l2 : b < c) : cChainT dLe dLt f g h ρ = .ok true := by
  simp only [cChainT, h1, h2, h3, R.bind, dLe, dLt, decide_eq_true l1, decide_eq_true l2]
  rfl
theorem cTest_of {f : En → R D} {ρ : En} {b : Bool} (h : f ρ = .ok (.bool b)) : cTest f ρ = .ok b := by
  simp only [cTest, h, R.bind]
  rfl
section
end
theorem loopL_find {α β : Type} {P : En → Prop} {tgt : TgF} {body : En → SR} {enc : α → D} {out : β → D} {hit : α → Option β} : ∀ {xs : List α} {ρ : En}, (∀ x ∈ xs, ∀ ρ, P ρ → ∃ ρ1, tgt (enc x) ρ = some ρ1 ∧ ((∃ b, hit x = some b ∧ body ρ1 = .rt (out b)) ∨ (hit x = none ∧ ∃ ρ2, body ρ1 = .nx ρ2 ∧ P ρ2))) → P ρ →
    (∃ b, xs.findSome? hit = some b ∧ loopL tgt body (xs.map enc) ρ = .rt (out b)) ∨ (xs.findSome? hit = none ∧ ∃ ρ2, loopL tgt body (xs.map enc) ρ = .nx ρ2 ∧ P ρ2)
  | [], ρ, _, h => .inr ⟨rfl, ρ, rfl, h⟩
  | x :: xs, ρ, hd, h => by
    obtain ⟨ρ1, e1, ⟨b, e2, e3⟩ | ⟨e2, ρ2, e3, h2⟩⟩ := hd x List.mem_cons_self ρ h
    · exact .inl ⟨b, by simp [List.findSome?_cons, e2], loopL_rt e1 e3⟩
    · rcases loopL_find (out := out) (hit := hit) (P := P) (fun a ha => hd a (List.mem_cons_of_mem _ ha)) h2 with ⟨b, f1, f2⟩ | ⟨f1, ρ3, f2, f3⟩
      · exact .inl ⟨b, by simp [List.findSome?_cons, e2, f1], loopL_nx e1 e3 f2⟩
      · exact .inr ⟨by simp [List.findSome?_cons, e2, f1], ρ3, loopL_nx e1 e3 f2, f3⟩
theorem cCall2_of {df : List D → Option D} {f g : En → R D} {ρ : En} {a b e : D} (h1 : f ρ = .ok a) (h2 : g ρ = .ok b) (h3 : df [a, b] = some e) : cCall df (cCons f (cCons g cNil)) ρ = .ok e := by
  simp only [cCall, cCons, cNil, h1, h2, R.bind, h3, ofO]
theorem cIf_t {p : En → R Bool} {f g : En → R D} {ρ : En} {r : R D} (h : p ρ = .ok true) (h2 : f ρ = r) : cIf p f g ρ = r := by
  simp only [cIf, h, R.bind]
  exact h2
theorem cIf_f {p : En → R Bool} {f g : En → R D} {ρ : En} {r : R D} (h : p ρ = .ok false) (h2 : g ρ = r) : cIf p f g ρ = r := by
  simp only [cIf, h, R.bind]
  exact h2
theorem range2_eq {a b : Nat} (ha : a < 2 ^ 60) (hb : b < 2 ^ 60) : dRange2 [nD a, nD b] = some ((List.range (b - a)).map fun k => nD (a + k)) := by
  unfold dRange2
  have p1 : (2 : Int) ^ 62 = 4611686018427387904 := by decide
  have p2 : (2 : Nat) ^ 60 = 1152921504606846976 := by decide
  rw [p2] at ha hb
  simp only [p1]
  rw [if_pos ⟨by omega, by omega, by omega, by omega⟩]
  unfold rangeD
  have : ((b : Int) - a).toNat = b - a := by omega
  rw [this]
  congr 1
theorem cIter2_of {df : List D → Option (List D)} {f g : En → R D} {ρ : En} {a b : D} {e : List D} (h1 : f ρ = .ok a) (h2 : g ρ = .ok b) (h3 : df [a, b] = some e) : cIter df (cCons f (cCons g cNil)) ρ = .ok e := by
  simp only [cIter, cCons, cNil, h1, h2, R.bind, h3, ofO]
end K06

namespace K06
open PySem PySem.Spec PyProof.Rows L2 G
/-! ### bids, weights, turns: plain -/
abbrev Bid := List Nat × Nat
inductive Ms where
  | worth
  | each
  | root
def wt : Ms → Bid → Nat × Nat
  | .worth, b => (b.2, 1)
  | .each, b => (b.2, b.1.length)
  | .root, b => (b.2 * b.2, b.1.length)
structure Bn (g : Nat) (l : List Nat) : Prop where
  ne : l ≠ []
  up : l.Pairwise (· < ·)
  lt : ∀ x ∈ l, x < g
structure BsOk (g : Nat) (bs : List Bid) : Prop where
  one : 1 ≤ bs.length
  few : bs.length ≤ 12
  bn : ∀ b ∈ bs, Bn g b.1
  low : ∀ b ∈ bs, b.2 ≤ 1000000
def bd (bs : List Bid) (k : Nat) : Bid := bs.getD k ([0], 0)
theorem bd_mem {bs : List Bid} {k : Nat} (h : k < bs.length) : bd bs k ∈ bs := getD_mem h
theorem bd_at {bs : List Bid} {k : Nat} (h : k < bs.length) : bs[k]? = some (bd bs k) := by
  unfold bd
  rw [List.getD_eq_getElem?_getD, List.getElem?_eq_getElem h]
  rfl
theorem bd_pos {g : Nat} {bs : List Bid} (h : BsOk g bs) (k : Nat) : 0 < (bd bs k).1.length := by
  by_cases hk : k < bs.length
  · exact List.length_pos_iff.mpr (h.bn _ (bd_mem hk)).ne
  · unfold bd
    rw [List.getD_eq_getElem?_getD, List.getElem?_eq_none (by omega)]
    exact Nat.one_pos
theorem wt_pos {m : Ms} {b : Bid} (h : 0 < b.1.length) : 0 < (wt m b).2 := by
  cases m
  · exact Nat.one_pos
  · exact h
  · exact h
def ah (m : Ms) (bs : List Bid) (i j : Nat) : Bool := decide ((wt m (bd bs j)).1 * (wt m (bd bs i)).2 < (wt m (bd bs i)).1 * (wt m (bd bs j)).2) || (decide ((wt m (bd bs i)).1 * (wt m (bd bs j)).2 = (wt m (bd bs j)).1 * (wt m (bd bs i)).2) && decide (i < j))
theorem ah_iff {m : Ms} {bs : List Bid} {i j : Nat} : ah m bs i j = true ↔ (wt m (bd bs j)).1 * (wt m (bd bs i)).2 < (wt m (bd bs i)).1 * (wt m (bd bs j)).2 ∨ ((wt m (bd bs i)).1 * (wt m (bd bs j)).2 = (wt m (bd bs j)).1 * (wt m (bd bs i)).2 ∧ i < j) := by
  unfold ah
  rw [Bool.or_eq_true, Bool.and_eq_true, decide_eq_true_iff, decide_eq_true_iff, decide_eq_true_iff]
theorem ah_asym {m : Ms} {bs : List Bid} {i j : Nat} (h : ah m bs i j = true) : ah m bs j i = false := by
  rw [← Bool.not_eq_true, ah_iff]
  rw [ah_iff] at h
  omega
theorem ah_total {m : Ms} {bs : List Bid} {i j : Nat} (h : i ≠ j) (h2 : ah m bs i j = false) : ah m bs j i = true := by
  rw [← Bool.not_eq_true, ah_iff] at h2
  rw [ah_iff]
  omega
theorem ah_irr {m : Ms} {bs : List Bid} {i : Nat} : ah m bs i i = false := by
  rw [← Bool.not_eq_true, ah_iff]
  omega
theorem tr_le {a b c d e f : Nat} (hd : 0 < d) (h1 : c * b ≤ a * d) (h2 : e * d ≤ c * f) : e * b ≤ a * f := by
  refine Nat.le_of_mul_le_mul_right (c := d) ?_ hd
  calc e * b * d = e * d * b := by rw [Nat.mul_right_comm]
    _ ≤ c * f * b := Nat.mul_le_mul_right b h2
    _ = c * b * f := by rw [Nat.mul_right_comm]
    _ ≤ a * d * f := Nat.mul_le_mul_right f h1
    _ = a * f * d := by rw [Nat.mul_right_comm]
theorem tr_lt1 {a b c d e f : Nat} (hf : 0 < f) (h1 : c * b < a * d) (h2 : e * d ≤ c * f) : e * b < a * f := by
  refine Nat.lt_of_mul_lt_mul_right (a := d) ?_
  calc e * b * d = e * d * b := by rw [Nat.mul_right_comm]
    _ ≤ c * f * b := Nat.mul_le_mul_right b h2
    _ = c * b * f := by rw [Nat.mul_right_comm]
    _ < a * d * f := Nat.mul_lt_mul_of_pos_right h1 hf
    _ = a * f * d := by rw [Nat.mul_right_comm]
theorem tr_lt2 {a b c d e f : Nat} (hb : 0 < b) (h1 : c * b ≤ a * d) (h2 : e * d < c * f) : e * b < a * f := by
  refine Nat.lt_of_mul_lt_mul_right (a := d) ?_
  calc e * b * d = e * d * b := by rw [Nat.mul_right_comm]
    _ < c * f * b := Nat.mul_lt_mul_of_pos_right h2 hb
    _ = c * b * f := by rw [Nat.mul_right_comm]
    _ ≤ a * d * f := Nat.mul_le_mul_right f h1
    _ = a * f * d := by rw [Nat.mul_right_comm]
theorem ah_trans {g : Nat} {m : Ms} {bs : List Bid} (ok : BsOk g bs) {i j k : Nat} (h1 : ah m bs i j = true) (h2 : ah m bs j k = true) : ah m bs i k = true := by
  rw [ah_iff] at h1 h2 ⊢
  have pi := wt_pos (m := m) (bd_pos ok i)
  have pj := wt_pos (m := m) (bd_pos ok j)
  have pk := wt_pos (m := m) (bd_pos ok k)
  rcases h1 with h1 | ⟨h1, l1⟩
  · exact .inl (tr_lt1 pk h1 (by rcases h2 with h2 | ⟨h2, _⟩ <;> omega))
  · rcases h2 with h2 | ⟨h2, l2⟩
    · exact .inl (tr_lt2 pi (Nat.le_of_eq h1.symm) h2)
    · refine .inr ⟨Nat.le_antisymm ?_ ?_, Nat.lt_trans l1 l2⟩
      · exact tr_le pj (Nat.le_of_eq h2) (Nat.le_of_eq h1)
      · exact tr_le pj (Nat.le_of_eq h1.symm) (Nat.le_of_eq h2.symm)
/-! ### sorted lists are told by their items -/
theorem ord_uniq {r : Nat → Nat → Bool} (as : ∀ a b, r a b = true → r b a = false) : ∀ {l m : List Nat}, l.Perm m → l.Pairwise (fun a b => r a b = true) → m.Pairwise (fun a b => r a b = true) → l = m
  | [], m, p, _, _ => (List.nil_perm.mp p).symm
  | a :: l, [], p, _, _ => by cases (List.perm_nil.mp p)
  | a :: l, b :: m, p, h1, h2 => by
    have e : a = b := by
      rcases List.mem_cons.mp (p.mem_iff.mp List.mem_cons_self) with e | ha
      · exact e
      · rcases List.mem_cons.mp (p.mem_iff.mpr List.mem_cons_self) with e | hb
        · exact e.symm
        · have q1 := List.rel_of_pairwise_cons h2 ha
          have q2 := List.rel_of_pairwise_cons h1 hb
          rw [as _ _ q1] at q2
          cases q2
    subst e
    rw [ord_uniq as p.cons_inv (List.Pairwise.of_cons h1) (List.Pairwise.of_cons h2)]
theorem split_filter {p : Nat → Bool} : ∀ {l : List Nat}, l.Pairwise (fun a b => p b = true → p a = true) → l.take (l.filter p).length = l.filter p ∧ l.drop (l.filter p).length = l.filter (fun x => !p x)
  | [], _ => ⟨rfl, rfl⟩
  | a :: l, h => by
    have ih := split_filter (List.Pairwise.of_cons h)
    cases ha : p a with
    | true =>
      rw [List.filter_cons_of_pos ha, List.filter_cons_of_neg (by rw [ha]; decide), List.length_cons, List.take_succ_cons, List.drop_succ_cons, ih.1, ih.2]
      exact ⟨rfl, rfl⟩
    | false =>
      have h0 : l.filter p = [] := by
        rw [List.filter_eq_nil_iff]
        intro x hx hp
        rw [List.rel_of_pairwise_cons h hx hp] at ha
        cases ha
      have h1 : l.filter (fun x => !p x) = l := by
        rw [List.filter_eq_self]
        intro x hx
        cases hp : p x with
        | true => rw [List.rel_of_pairwise_cons h hx hp] at ha; cases ha
        | false => rfl
      rw [List.filter_cons_of_neg (by rw [ha]; decide), List.filter_cons_of_pos (by rw [ha]; rfl), h0, h1]
      exact ⟨rfl, rfl⟩
abbrev Srt (m : Ms) (bs : List Bid) (l : List Nat) : Prop := l.Pairwise fun a b => ah m bs a b = true
def ordStep (m : Ms) (bs : List Bid) (found : List Nat) (k : Nat) : List Nat := found.take (found.filter fun o => ah m bs o k).length ++ k :: found.drop (found.filter fun o => ah m bs o k).length
def ord (m : Ms) (bs : List Bid) : List Nat := (List.range bs.length).foldl (ordStep m bs) []
theorem ordStep_eq {g : Nat} {m : Ms} {bs : List Bid} (ok : BsOk g bs) {l : List Nat} (h : Srt m bs l) (k : Nat) : ordStep m bs l k = l.filter (fun o => ah m bs o k) ++ k :: l.filter (fun o => !ah m bs o k) := by
  have q := split_filter (p := fun o => ah m bs o k) (h.imp fun {a b} hab hb => ah_trans ok hab hb)
  unfold ordStep
  rw [q.1, q.2]
theorem ordStep_srt {g : Nat} {m : Ms} {bs : List Bid} (ok : BsOk g bs) {l : List Nat} (h : Srt m bs l) {k : Nat} (hk : k ∉ l) : Srt m bs (ordStep m bs l k) := by
  rw [ordStep_eq ok h]
  refine List.pairwise_append.mpr ⟨h.filter _, List.pairwise_cons.mpr ⟨fun b hb => ?_, h.filter _⟩, fun a ha b hb => ?_⟩
  · obtain ⟨h1, h2⟩ := List.mem_filter.mp hb
    have h2' : ah m bs b k = false := by simpa using h2
    exact ah_total (fun e => hk (by rw [← e]; exact h1)) h2'
  · have q := (List.mem_filter.mp ha).2
    rcases List.mem_cons.mp hb with rfl | hb
    · exact q
    · obtain ⟨h1, h2⟩ := List.mem_filter.mp hb
      have h2' : ah m bs b k = false := by simpa using h2
      exact ah_trans ok q (ah_total (fun e => hk (by rw [← e]; exact h1)) h2')
theorem filter_perm (p : Nat → Bool) : ∀ l : List Nat, (l.filter p ++ l.filter fun x => !p x).Perm l
  | [] => .refl _
  | a :: l => by
    cases ha : p a with
    | true => rw [List.filter_cons_of_pos ha, List.filter_cons_of_neg (by rw [ha]; decide)]; exact (filter_perm p l).cons a
    | false =>
      rw [List.filter_cons_of_neg (by rw [ha]; decide), List.filter_cons_of_pos (by rw [ha]; rfl)]
      exact List.perm_middle.trans ((filter_perm p l).cons a)
theorem ordStep_perm {m : Ms} {bs : List Bid} (l : List Nat) (k : Nat) : (ordStep m bs l k).Perm (k :: l) := by
  unfold ordStep
  refine List.perm_middle.trans ?_
  rw [List.take_append_drop]
theorem ord_upto {g : Nat} {m : Ms} {bs : List Bid} (ok : BsOk g bs) : ∀ n : Nat, Srt m bs ((List.range n).foldl (ordStep m bs) []) ∧ ((List.range n).foldl (ordStep m bs) []).Perm (List.range n)
  | 0 => ⟨.nil, .refl _⟩
  | n + 1 => by
    obtain ⟨h1, h2⟩ := ord_upto ok n
    rw [List.range_succ, List.foldl_append]
    refine ⟨ordStep_srt ok h1 fun h => ?_, (ordStep_perm _ n).trans ((h2.cons n).trans ?_)⟩
    · exact Nat.lt_irrefl n (List.mem_range.mp (h2.mem_iff.mp h))
    · exact (List.perm_append_comm (l₁ := [n]) (l₂ := List.range n))
theorem ord_srt {g : Nat} {m : Ms} {bs : List Bid} (ok : BsOk g bs) : Srt m bs (ord m bs) := (ord_upto ok _).1
theorem ord_perm {g : Nat} {m : Ms} {bs : List Bid} (ok : BsOk g bs) : (ord m bs).Perm (List.range bs.length) := (ord_upto ok _).2
theorem ord_of {g : Nat} {m : Ms} {bs : List Bid} (ok : BsOk g bs) {l : List Nat} (h1 : Srt m bs l) (h2 : l.Perm (List.range bs.length)) : l = ord m bs := ord_uniq (fun _ _ => ah_asym) (h2.trans (ord_perm ok).symm) h1 (ord_srt ok)
theorem ord_nodup {g : Nat} {m : Ms} {bs : List Bid} (ok : BsOk g bs) : (ord m bs).Nodup := (ord_perm ok).nodup_iff.mpr List.nodup_range
theorem ord_mem {g : Nat} {m : Ms} {bs : List Bid} (ok : BsOk g bs) {k : Nat} : k ∈ ord m bs ↔ k < bs.length := (ord_perm ok).mem_iff.trans List.mem_range
/-! ### who wins -/
def free (B : List Nat) (L : List Nat) : Bool := B.all fun g => !L.contains g
theorem free_iff {B L : List Nat} : free B L = true ↔ ∀ g ∈ B, g ∉ L := by
  unfold free
  rw [List.all_eq_true]
  refine ⟨fun h g hg hL => ?_, fun h g hg => ?_⟩
  · have := h g hg
    simp [hL] at this
  · simp [h g hg]
def wn (B : Nat → List Nat) : List Nat → List Nat → List Nat
  | [], _ => []
  | k :: r, L => if free (B k) L = true then k :: wn B r (L ++ B k) else wn B r L
section
variable {B B' : Nat → List Nat}
theorem wn_cons (k : Nat) (r L : List Nat) : wn B (k :: r) L = if free (B k) L = true then k :: wn B r (L ++ B k) else wn B r L := rfl
theorem wn_append : ∀ (r1 r2 L : List Nat), wn B (r1 ++ r2) L = wn B r1 L ++ wn B r2 (L ++ (wn B r1 L).flatMap B)
  | [], r2, L => by simp [wn]
  | k :: r, r2, L => by
    rw [List.cons_append, wn_cons, wn_cons]
    split
    · rw [wn_append r, List.cons_append, List.flatMap_cons, List.append_assoc]
    · rw [wn_append r]
theorem wn_sub : ∀ (r L : List Nat), (wn B r L).Sublist r
  | [], _ => .slnil
  | k :: r, L => by
    unfold wn
    split
    · exact (wn_sub r _).cons₂ k
    · exact (wn_sub r _).cons k
theorem wn_congr : ∀ {r : List Nat} (L : List Nat), (∀ k ∈ r, B k = B' k) → wn B r L = wn B' r L
  | [], _, _ => rfl
  | k :: r, L, h => by
    unfold wn
    rw [h k List.mem_cons_self, wn_congr (r := r) _ fun j hj => h j (List.mem_cons_of_mem _ hj), wn_congr (r := r) _ fun j hj => h j (List.mem_cons_of_mem _ hj)]
theorem flat_congr {r : List Nat} (h : ∀ k ∈ r, B k = B' k) : r.flatMap B = r.flatMap B' := by
  induction r with
  | nil => rfl
  | cons a r ih => rw [List.flatMap_cons, List.flatMap_cons, h a List.mem_cons_self, ih fun k hk => h k (List.mem_cons_of_mem _ hk)]
theorem wn_mem {r1 r2 L : List Nat} {k : Nat} (h1 : k ∉ r1) (h2 : k ∉ r2) : k ∈ wn B (r1 ++ k :: r2) L ↔ free (B k) (L ++ (wn B r1 L).flatMap B) = true := by
  rw [wn_append, List.mem_append]
  refine ⟨fun h => ?_, fun h => .inr ?_⟩
  · rcases h with h | h
    · exact absurd ((wn_sub r1 L).subset h) h1
    · unfold wn at h
      split at h
      · assumption
      · exact absurd ((wn_sub r2 _).subset h) h2
  · unfold wn
    rw [if_pos h]
    exact List.mem_cons_self
theorem wn_nodup : ∀ {r L : List Nat}, L.Nodup → (∀ k ∈ r, (B k).Nodup) → (L ++ (wn B r L).flatMap B).Nodup
  | [], L, h, _ => by simpa [wn] using h
  | k :: r, L, h, hB => by
    unfold wn
    split
    · rename_i hf
      rw [List.flatMap_cons, ← List.append_assoc]
      exact wn_nodup (List.nodup_append.mpr ⟨h, hB k List.mem_cons_self, fun a ha b hb e => free_iff.mp hf b hb (by rw [← e]; exact ha)⟩) fun j hj => hB j (List.mem_cons_of_mem _ hj)
    · exact wn_nodup h fun j hj => hB j (List.mem_cons_of_mem _ hj)
end
def Bof (bs : List Bid) (k : Nat) : List Nat := (bd bs k).1
def wset (m : Ms) (bs : List Bid) : List Nat := wn (Bof bs) (ord m bs) []
def wins (m : Ms) (bs : List Bid) (k : Nat) : Bool := (wset m bs).contains k
theorem wins_iff {m : Ms} {bs : List Bid} {k : Nat} : wins m bs k = true ↔ k ∈ wset m bs := by
  unfold wins
  simp
section
variable {g : Nat} {m : Ms} {bs bs' : List Bid} {k : Nat}
/-- the turns, split at a bid -/
theorem ord_split (ok : BsOk g bs) (hk : k < bs.length) : ∃ r1 r2, ord m bs = r1 ++ k :: r2 ∧ k ∉ r1 ∧ k ∉ r2 ∧ (∀ j ∈ r1, ah m bs j k = true) ∧ (∀ j ∈ r2, ah m bs k j = true) ∧ (r1 ++ r2).Perm ((List.range bs.length).erase k) ∧ Srt m bs (r1 ++ r2) := by
  obtain ⟨r1, r2, e⟩ := List.append_of_mem ((ord_mem (m := m) ok).mpr hk)
  have nd := ord_nodup (m := m) ok
  have sr := ord_srt (m := m) ok
  have pm := ord_perm (m := m) ok
  rw [e] at nd sr pm
  obtain ⟨n1, n2, n3⟩ := List.nodup_append.mp nd
  obtain ⟨s1, s2, s3⟩ := List.pairwise_append.mp sr
  obtain ⟨t1, t2⟩ := List.pairwise_cons.mp s2
  refine ⟨r1, r2, e, fun h => n3 k h k List.mem_cons_self rfl, (List.nodup_cons.mp n2).1, fun j hj => s3 j hj k List.mem_cons_self, t1, ?_, List.pairwise_append.mpr ⟨s1, t2, fun a ha b hb => s3 a ha b (List.mem_cons_of_mem _ hb)⟩⟩
  have q := (List.perm_middle.symm.trans pm).erase k
  rwa [List.erase_cons_head] at q
theorem first_wins (ok : BsOk g bs) (hk : k < bs.length) (h : ∀ j, j < bs.length → j ≠ k → ah m bs k j = true) : wins m bs k = true := by
  obtain ⟨r1, r2, e, n1, n2, a1, a2, pm, _⟩ := ord_split (m := m) ok hk
  have h0 : r1 = [] := by
    cases r1 with
    | nil => rfl
    | cons j r =>
      have hj := a1 j List.mem_cons_self
      have hm := (pm.mem_iff (a := j)).mp (List.mem_append_left _ List.mem_cons_self)
      have hlt := List.mem_range.mp (List.mem_of_mem_erase hm)
      have := ah_asym (h j hlt fun e => n1 (by rw [← e]; exact List.mem_cons_self))
      rw [hj] at this
      cases this
  rw [wins_iff]
  unfold wset
  rw [e, wn_mem n1 n2, h0]
  exact free_iff.mpr fun g _ => by simp [wn]
/-- who wins wins with more, and with fewer goods -/
theorem wins_mono (ok : BsOk g bs) (ok' : BsOk g bs') (hl : bs'.length = bs.length) (hk : k < bs.length) (he : ∀ j, j ≠ k → bd bs' j = bd bs j) (ha : ∀ j, ah m bs' j k = true → ah m bs j k = true)
    (hB : ∀ x ∈ (bd bs' k).1, x ∈ (bd bs k).1) (h : wins m bs k = true) : wins m bs' k = true := by
  obtain ⟨r1, r2, e, n1, n2, a1, a2, pm, sr⟩ := ord_split (m := m) ok hk
  obtain ⟨q1, q2, e', n1', n2', a1', a2', pm', sr'⟩ := ord_split (m := m) ok' (by rw [hl]; exact hk)
  have ea : ∀ a b, a ≠ k → b ≠ k → ah m bs' a b = ah m bs a b := fun a b h1 h2 => by
    unfold ah
    rw [he a h1, he b h2]
  have ne : ∀ a ∈ q1 ++ q2, a ≠ k := fun a hq e => by
    rcases List.mem_append.mp hq with h | h
    · exact n1' (by rw [← e]; exact h)
    · exact n2' (by rw [← e]; exact h)
  have eq : r1 ++ r2 = q1 ++ q2 := by
    refine ord_uniq (fun _ _ => ah_asym) (pm.trans ((by rw [hl] : ((List.range bs.length).erase k).Perm ((List.range bs'.length).erase k)).trans pm'.symm)) sr ?_
    exact sr'.imp_of_mem fun {a b} h1 h2 h => by rw [← ea a b (ne a h1) (ne b h2)]; exact h
  rw [wins_iff] at h ⊢
  unfold wset at h ⊢
  rw [e, wn_mem n1 n2, free_iff] at h
  rw [e', wn_mem n1' n2', free_iff]
  have pre : ∃ t, r1 = q1 ++ t := by
    rcases List.append_eq_append_iff.mp eq with ⟨t, h1, h2⟩ | ⟨t, h1, h2⟩
    · cases t with
      | nil => exact ⟨[], by rw [h1]; simp⟩
      | cons c t =>
        have hc : c ∈ q1 := by rw [h1]; simp
        have hc2 : c ∈ r2 := by rw [h2]; simp
        have x1 := ha c (a1' c hc)
        have x2 := ah_asym (a2 c hc2)
        rw [x1] at x2
        cases x2
    · exact ⟨t, h1⟩
  obtain ⟨t, et⟩ := pre
  intro x hx hm
  refine h x (hB x hx) ?_
  rw [et, wn_append]
  simp only [List.nil_append, List.flatMap_append] at hm ⊢
  refine List.mem_append_left _ ?_
  have hcong : ∀ j ∈ q1, Bof bs' j = Bof bs j := fun j hj => by unfold Bof; rw [he j (fun e => n1' (by rw [← e]; exact hj))]
  rw [wn_congr [] hcong, flat_congr (B' := Bof bs) fun j hj => hcong j ((wn_sub q1 []).subset hj)] at hm
  exact hm
end
end K06

namespace K06
open PySem PySem.Spec PyProof.Rows L2 G
/-! ### all rows of bids with parted goods -/
def rowStep (R : List (List Nat × Nat)) (b : Bid) : List (List Nat × Nat) := R ++ (R.filter fun r => free b.1 r.1).map fun r => (r.1 ++ b.1, r.2 + b.2)
def rowsOf (bs : List Bid) : List (List Nat × Nat) := bs.foldl rowStep [([], 0)]
theorem rows_complete : ∀ {bs S : List Bid} {R : List (List Nat × Nat)} {A : List Nat} {s : Nat}, S.Sublist bs → (A ++ S.flatMap (·.1)).Nodup → (A, s) ∈ R → (A ++ S.flatMap (·.1), s + (S.map (·.2)).sum) ∈ bs.foldl rowStep R
  | [], S, R, A, s, h, _, hm => by
    cases List.sublist_nil.mp h
    simpa using hm
  | b :: bs, S, R, A, s, h, nd, hm => by
    rw [List.foldl_cons]
    cases h with
    | cons _ h => exact rows_complete h nd (List.mem_append_left _ hm)
    | @cons_cons S2 _ _ h =>
      rw [List.flatMap_cons] at nd ⊢
      rw [← List.append_assoc] at nd ⊢
      rw [List.map_cons, List.sum_cons, ← Nat.add_assoc]
      refine rows_complete h nd (List.mem_append_right _ (List.mem_map.mpr ⟨(A, s), List.mem_filter.mpr ⟨hm, ?_⟩, rfl⟩))
      rw [free_iff]
      intro g hg hA
      exact (List.nodup_append.mp (List.nodup_append.mp nd).1).2.2 g hA g hg rfl
theorem rows_sound : ∀ {bs : List Bid} {R : List (List Nat × Nat)} {A : List Nat} {s : Nat}, (∀ b ∈ bs, b.1.Nodup) → (∀ r ∈ R, r.1.Nodup) → (A, s) ∈ bs.foldl rowStep R → ∃ (A0 : List Nat) (s0 : Nat) (S : List Bid), (A0, s0) ∈ R ∧ S.Sublist bs ∧ A = A0 ++ S.flatMap (·.1) ∧ s = s0 + (S.map (·.2)).sum ∧ A.Nodup
  | [], R, A, s, _, hR, hm => ⟨A, s, [], hm, .slnil, by simp, by simp, hR _ hm⟩
  | b :: bs, R, A, s, hb, hR, hm => by
    rw [List.foldl_cons] at hm
    obtain ⟨A0, s0, S, h1, h2, h3, h4, h5⟩ := rows_sound (fun x hx => hb x (List.mem_cons_of_mem _ hx)) (fun r hr => by
      rcases List.mem_append.mp hr with hr | hr
      · exact hR r hr
      · obtain ⟨q, hq, rfl⟩ := List.mem_map.mp hr
        obtain ⟨q1, q2⟩ := List.mem_filter.mp hq
        exact List.nodup_append.mpr ⟨hR q q1, hb b List.mem_cons_self, fun a ha c hc e => free_iff.mp q2 c hc (by rw [← e]; exact ha)⟩) hm
    rcases List.mem_append.mp h1 with h1 | h1
    · exact ⟨A0, s0, S, h1, h2.cons b, h3, h4, h5⟩
    · obtain ⟨q, hq, e⟩ := List.mem_map.mp h1
      cases e
      refine ⟨q.1, q.2, b :: S, (List.mem_filter.mp hq).1, h2.cons_cons b, ?_, ?_, h5⟩
      · rw [h3, List.flatMap_cons, List.append_assoc]
      · rw [h4, List.map_cons, List.sum_cons, Nat.add_assoc]
theorem rows_len : ∀ {bs : List Bid} {R : List (List Nat × Nat)} {n : Nat}, R.length ≤ n → (bs.foldl rowStep R).length ≤ n * 2 ^ bs.length
  | [], R, n, h => by simpa using h
  | b :: bs, R, n, h => by
    rw [List.foldl_cons, List.length_cons, Nat.pow_succ]
    have : (rowStep R b).length ≤ n * 2 := by
      unfold rowStep
      rw [List.length_append, List.length_map]
      have := List.length_filter_le (fun r : List Nat × Nat => free b.1 r.1) R
      omega
    have q := rows_len (bs := bs) this
    rw [Nat.mul_comm (2 ^ bs.length) 2, ← Nat.mul_assoc]
    exact q
/-! ### the root law -/
theorem meet_len : ∀ {S : List (List Nat)} {B : List Nat}, (S.flatten).Nodup → (∀ l ∈ S, ∃ g, g ∈ l ∧ g ∈ B) → S.length ≤ B.length
  | [], B, _, _ => Nat.zero_le _
  | l :: S, B, nd, h => by
    obtain ⟨g, hg, hB⟩ := h l List.mem_cons_self
    rw [List.flatten_cons] at nd
    obtain ⟨_, n2, n3⟩ := List.nodup_append.mp nd
    have ih := meet_len (S := S) (B := B.erase g) n2 fun l' hl' => by
      obtain ⟨g', h1, h2⟩ := h l' (List.mem_cons_of_mem _ hl')
      refine ⟨g', h1, (List.mem_erase_of_ne fun e => ?_).mpr h2⟩
      exact n3 g hg g' (List.mem_flatten.mpr ⟨l', hl', h1⟩) e.symm
    rw [List.length_erase_of_mem hB] at ih
    have := List.length_pos_of_mem hB
    rw [List.length_cons]
    omega
theorem nodup_len {l : List Nat} {m : Nat} (nd : l.Nodup) (h : ∀ x ∈ l, x < m) : l.length ≤ m := by
  have q := meet_len (S := l.map fun x => [x]) (B := List.range m) (by rw [← List.flatMap_def, List.flatMap_singleton']; exact nd) fun l' hl' => by
    obtain ⟨x, hx, rfl⟩ := List.mem_map.mp hl'
    exact ⟨x, List.mem_singleton_self x, List.mem_range.mpr (h x hx)⟩
  rwa [List.length_map, List.length_range] at q
/-- 2 w (sum) <= n w² + sum of squares -/
theorem twice_le (w : Nat) : ∀ l : List Nat, 2 * (w * l.sum) ≤ l.length * (w * w) + (l.map fun x => x * x).sum
  | [] => by simp
  | x :: l => by
    have ih := twice_le w l
    have h2 : 2 * (w * x) ≤ w * w + x * x := by
      rcases Nat.le_total w x with h | h
      · obtain ⟨d, rfl⟩ := Nat.exists_eq_add_of_le h
        simp only [Nat.mul_add, Nat.add_mul]
        have := Nat.mul_comm d w
        omega
      · obtain ⟨d, rfl⟩ := Nat.exists_eq_add_of_le h
        simp only [Nat.mul_add, Nat.add_mul]
        have := Nat.mul_comm d x
        omega
    rw [List.sum_cons, List.length_cons, List.map_cons, List.sum_cons, Nat.mul_add, Nat.add_mul l.length 1, Nat.one_mul]
    omega
theorem sub_flat {α β : Type} (f : α → List β) {S T : List α} (h : S.Sublist T) : (S.flatMap f).Sublist (T.flatMap f) := by
  induction h with
  | slnil => exact .slnil
  | cons a h ih => rw [List.flatMap_cons]; exact ih.trans (List.sublist_append_right _ _)
  | cons_cons a h ih => rw [List.flatMap_cons, List.flatMap_cons]; exact (List.Sublist.refl _).append ih
theorem cauchy : ∀ l : List Nat, l.sum * l.sum ≤ l.length * (l.map fun x => x * x).sum
  | [] => by simp
  | x :: l => by
    have ih := cauchy l
    have t := twice_le x l
    rw [List.sum_cons, List.length_cons, List.map_cons, List.sum_cons]
    generalize l.sum = S at *
    generalize (l.map fun x => x * x).sum = Q at *
    generalize l.length = n at *
    simp only [Nat.mul_add, Nat.add_mul]
    have := Nat.mul_comm S x
    omega
theorem sq_le {a b : Nat} (h : a * a ≤ b * b) : a ≤ b := by
  refine Nat.le_of_not_lt fun h2 => ?_
  have := Nat.mul_lt_mul'' h2 h2
  omega
theorem join_sq {m x X w W : Nat} (h1 : x * x ≤ m * (w * w)) (h2 : X * X ≤ m * (W * W)) : (x + X) * (x + X) ≤ m * ((w + W) * (w + W)) := by
  have h3 : x * X ≤ m * (w * W) := by
    refine sq_le ?_
    calc x * X * (x * X) = (x * x) * (X * X) := by rw [Nat.mul_mul_mul_comm]
      _ ≤ (m * (w * w)) * (m * (W * W)) := Nat.mul_le_mul h1 h2
      _ = m * (w * W) * (m * (w * W)) := by rw [Nat.mul_mul_mul_comm, Nat.mul_mul_mul_comm w w W W, ← Nat.mul_mul_mul_comm]
  simp only [Nat.mul_add, Nat.add_mul] at *
  have := Nat.mul_comm x X
  have := Nat.mul_comm w W
  rw [Nat.mul_comm X x, Nat.mul_comm W w]
  omega
theorem one_bound {m : Nat} {S : List Bid} {j : Bid} (nd : (S.flatMap (·.1)).Nodup) (hm : ∀ b ∈ S, ∀ g ∈ b.1, g < m) (h : ∀ i ∈ S, (∃ g, g ∈ i.1 ∧ g ∈ j.1) ∧ i.2 * i.2 * j.1.length ≤ j.2 * j.2 * i.1.length) (hj : 0 < j.1.length) : (S.map (·.2)).sum * (S.map (·.2)).sum ≤ m * (j.2 * j.2) := by
  have h1 : S.length ≤ j.1.length := by
    have := meet_len (S := S.map (·.1)) (B := j.1) (by rw [← List.flatMap_def]; exact nd) fun l hl => by
      obtain ⟨i, hi, rfl⟩ := List.mem_map.mp hl
      exact (h i hi).1
    rwa [List.length_map] at this
  have h2 : (S.flatMap (·.1)).length ≤ m := nodup_len nd fun x hx => by
    obtain ⟨b, hb, hx⟩ := List.mem_flatMap.mp hx
    exact hm b hb x hx
  have h3 : ((S.map (·.2)).map fun x => x * x).sum * j.1.length ≤ j.2 * j.2 * (S.flatMap (·.1)).length := by
    clear h1 h2 nd hm
    induction S with
    | nil => simp
    | cons i S ih =>
      have q := ih fun i hi => h i (List.mem_cons_of_mem _ hi)
      have q2 := (h i List.mem_cons_self).2
      rw [List.map_cons, List.map_cons, List.sum_cons, List.flatMap_cons, List.length_append, Nat.add_mul, Nat.mul_add]
      omega
  have h4 := cauchy (S.map (·.2))
  rw [List.length_map] at h4
  refine Nat.le_of_mul_le_mul_right (c := j.1.length) ?_ hj
  calc (S.map (·.2)).sum * (S.map (·.2)).sum * j.1.length ≤ S.length * ((S.map (·.2)).map fun x => x * x).sum * j.1.length := Nat.mul_le_mul_right _ h4
    _ = S.length * (((S.map (·.2)).map fun x => x * x).sum * j.1.length) := Nat.mul_assoc _ _ _
    _ ≤ j.1.length * (j.2 * j.2 * m) := Nat.mul_le_mul h1 (Nat.le_trans h3 (Nat.mul_le_mul_left _ h2))
    _ = m * (j.2 * j.2) * j.1.length := by rw [Nat.mul_comm, Nat.mul_comm (j.2 * j.2) m]
theorem root_bound {m : Nat} : ∀ {W S : List Bid}, (S.flatMap (·.1)).Nodup → (∀ b ∈ S, ∀ g ∈ b.1, g < m) → (∀ j ∈ W, 0 < j.1.length) → (∀ i ∈ S, ∃ j ∈ W, (∃ g, g ∈ i.1 ∧ g ∈ j.1) ∧ i.2 * i.2 * j.1.length ≤ j.2 * j.2 * i.1.length) →
    (S.map (·.2)).sum * (S.map (·.2)).sum ≤ m * ((W.map (·.2)).sum * (W.map (·.2)).sum)
  | [], S, _, _, _, h => by
    cases S with
    | nil => simp
    | cons i S => obtain ⟨j, hj, _⟩ := h i List.mem_cons_self; cases hj
  | j :: W, S, nd, hm, hp, h => by
    let c : Bid → Bool := fun i => decide ((∃ g, g ∈ i.1 ∧ g ∈ j.1) ∧ i.2 * i.2 * j.1.length ≤ j.2 * j.2 * i.1.length)
    have hs : ∀ p : Bid → Bool, ((S.filter p).flatMap (·.1)).Nodup := fun p => nd.sublist (sub_flat _ List.filter_sublist)
    have b1 := one_bound (m := m) (S := S.filter c) (j := j) (hs c) (fun b hb => hm b (List.mem_filter.mp hb).1) (fun i hi => by simpa [c] using (List.mem_filter.mp hi).2) (hp j List.mem_cons_self)
    have b2 := root_bound (m := m) (W := W) (S := S.filter fun i => !c i) (hs _) (fun b hb => hm b (List.mem_filter.mp hb).1) (fun x hx => hp x (List.mem_cons_of_mem _ hx)) fun i hi => by
      obtain ⟨i1, i2⟩ := List.mem_filter.mp hi
      obtain ⟨j', hj', q⟩ := h i i1
      rcases List.mem_cons.mp hj' with rfl | hj'
      · have : c i = true := by simpa [c] using q
        rw [this] at i2
        cases i2
      · exact ⟨j', hj', q⟩
    have e : (S.map (·.2)).sum = ((S.filter c).map (·.2)).sum + ((S.filter fun i => !c i).map (·.2)).sum := by
      clear b1 b2 hs h hm nd
      induction S with
      | nil => rfl
      | cons a S ih =>
        cases hc : c a with
        | true => rw [List.filter_cons_of_pos hc, List.filter_cons_of_neg (by rw [hc]; decide), List.map_cons, List.map_cons, List.sum_cons, List.sum_cons, ih]; omega
        | false => rw [List.filter_cons_of_neg (by rw [hc]; decide), List.filter_cons_of_pos (by rw [hc]; rfl), List.map_cons, List.map_cons, List.sum_cons, List.sum_cons, ih]; omega
    rw [e, List.map_cons, List.sum_cons]
    exact join_sq b1 b2
end K06

namespace K06
open PySem PySem.Spec PyProof.Rows L2 G
/-! ### another bid told; the least worth that wins -/
theorem sub_len {l B : List Nat} (nd : l.Nodup) (h : ∀ x ∈ l, x ∈ B) : l.length ≤ B.length := by
  have q := meet_len (S := l.map fun x => [x]) (B := B) (by rw [← List.flatMap_def, List.flatMap_singleton']; exact nd) fun l' hl' => by
    obtain ⟨x, hx, rfl⟩ := List.mem_map.mp hl'
    exact ⟨x, List.mem_singleton_self x, h x hx⟩
  rwa [List.length_map] at q
theorem Bn.nodup {g : Nat} {l : List Nat} (h : Bn g l) : l.Nodup := h.up.imp fun h => Nat.ne_of_lt h
theorem Bn.len {g : Nat} {l : List Nat} (h : Bn g l) : l.length ≤ g := nodup_len h.nodup h.lt
theorem Bn.pos {g : Nat} {l : List Nat} (h : Bn g l) : 0 < l.length := List.length_pos_iff.mpr h.ne
theorem bd_set {bs : List Bid} {k : Nat} (b : Bid) (hk : k < bs.length) : bd (bs.set k b) k = b := by
  unfold bd
  rw [List.getD_eq_getElem?_getD, List.getElem?_set_self hk]
  rfl
theorem bd_set_ne {bs : List Bid} {k j : Nat} (b : Bid) (h : j ≠ k) : bd (bs.set k b) j = bd bs j := by
  unfold bd
  rw [List.getD_eq_getElem?_getD, List.getD_eq_getElem?_getD, List.getElem?_set_ne (Ne.symm h)]
theorem set_same {bs : List Bid} {k : Nat} (hk : k < bs.length) : bs.set k (bd bs k) = bs := by
  refine List.ext_getElem? fun i => ?_
  by_cases h : i = k
  · subst h
    rw [List.getElem?_set_self hk, bd_at hk]
  · rw [List.getElem?_set_ne (Ne.symm h)]
theorem BsOk.set {g : Nat} {bs : List Bid} (ok : BsOk g bs) (k : Nat) {b : Bid} (h1 : Bn g b.1) (h2 : b.2 ≤ 1000000) : BsOk g (bs.set k b) where
  one := by rw [List.length_set]; exact ok.one
  few := by rw [List.length_set]; exact ok.few
  bn := fun x hx => by
    rcases List.mem_or_eq_of_mem_set hx with h | h
    · exact ok.bn x h
    · rw [h]; exact h1
  low := fun x hx => by
    rcases List.mem_or_eq_of_mem_set hx with h | h
    · exact ok.low x h
    · rw [h]; exact h2
theorem ah_mono {m : Ms} {bs : List Bid} {k : Nat} (hk : k < bs.length) {b b' : Bid} (hw : b.2 ≤ b'.2) (hl : b'.1.length ≤ b.1.length) {j : Nat} (h : ah m (bs.set k b') j k = true) : ah m (bs.set k b) j k = true := by
  by_cases hj : j = k
  · subst hj
    rw [ah_irr] at h
    cases h
  · rw [ah_iff] at h ⊢
    rw [bd_set _ hk, bd_set_ne _ hj] at h ⊢
    have h1 : (wt m b).1 * (wt m (bd bs j)).2 ≤ (wt m b').1 * (wt m (bd bs j)).2 := Nat.mul_le_mul_right _ (by
      cases m
      · exact hw
      · exact hw
      · exact Nat.mul_le_mul hw hw)
    have h2 : (wt m (bd bs j)).1 * (wt m b').2 ≤ (wt m (bd bs j)).1 * (wt m b).2 := Nat.mul_le_mul_left _ (by
      cases m
      · exact Nat.le_refl _
      · exact hl
      · exact hl)
    omega
section
variable {g : Nat} {m : Ms} {bs : List Bid} {k : Nat}
/-- does a bid win with another bundle and worth -/
def wi (m : Ms) (bs : List Bid) (k : Nat) (B : List Nat) (w : Nat) : Bool := wins m (bs.set k (B, w)) k
theorem wi_mono (ok : BsOk g bs) (hk : k < bs.length) {B B' : List Nat} {w w' : Nat} (hB : Bn g B) (hB' : Bn g B') (hs : ∀ x ∈ B', x ∈ B) (hw : w ≤ w') (hw' : w' ≤ 1000000) (h : wi m bs k B w = true) : wi m bs k B' w' = true := by
  have hl : B'.length ≤ B.length := sub_len hB'.nodup hs
  refine wins_mono (ok.set k (b := (B, w)) hB (Nat.le_trans hw hw')) (ok.set k (b := (B', w')) hB' hw') (by rw [List.length_set, List.length_set]) (by rw [List.length_set]; exact hk) (fun j hj => by rw [bd_set_ne _ hj, bd_set_ne _ hj]) (fun j => ah_mono hk hw hl) (fun x hx => ?_) h
  rw [bd_set _ hk] at hx ⊢
  exact hs x hx
theorem wi_top (ok : BsOk g bs) (hg : g ≤ 5) (hk : k < bs.length) (hv : ∀ j, j < bs.length → j ≠ k → (bd bs j).2 ≤ 50) {B : List Nat} (hB : Bn g B) {w : Nat} (h1 : 259 ≤ w) (h2 : w ≤ 1000000) : wi m bs k B w = true := by
  refine first_wins (ok.set k (b := (B, w)) hB h2) (by rw [List.length_set]; exact hk) fun j hj hjk => ?_
  rw [List.length_set] at hj
  rw [ah_iff, bd_set _ hk, bd_set_ne _ hjk]
  left
  have p := bd_pos ok j
  have v := hv j hj hjk
  have l := hB.len
  cases m
  · show (bd bs j).2 * 1 < w * 1
    omega
  · show (bd bs j).2 * B.length < w * (bd bs j).1.length
    have a1 : (bd bs j).2 * B.length ≤ 50 * 5 := Nat.mul_le_mul v (Nat.le_trans l hg)
    have a2 : w * 1 ≤ w * (bd bs j).1.length := Nat.mul_le_mul_left _ p
    omega
  · show (bd bs j).2 * (bd bs j).2 * B.length < w * w * (bd bs j).1.length
    have a1 : (bd bs j).2 * (bd bs j).2 * B.length ≤ 50 * 50 * 5 := Nat.mul_le_mul (Nat.mul_le_mul v v) (Nat.le_trans l hg)
    have a2 : w * w * 1 ≤ w * w * (bd bs j).1.length := Nat.mul_le_mul_left _ p
    have a3 : 259 * 259 ≤ w * w := Nat.mul_le_mul h1 h1
    omega
def least (m : Ms) (bs : List Bid) (k : Nat) (B : List Nat) : Nat := ((List.range 260).find? (wi m bs k B)).getD 0
theorem find_least (p : Nat → Bool) : ∀ (n : Nat), (∃ w, w < n ∧ p w = true) → ∃ w, (List.range n).find? p = some w ∧ p w = true ∧ w < n ∧ ∀ v, v < w → p v = false
  | 0, ⟨w, h, _⟩ => absurd h (Nat.not_lt_zero _)
  | n + 1, ⟨w, h, hp⟩ => by
    rw [List.range_succ, List.find?_append]
    by_cases hex : ∃ w, w < n ∧ p w = true
    · obtain ⟨v, e, h1, h2, h3⟩ := find_least p n hex
      exact ⟨v, by rw [e]; rfl, h1, by omega, h3⟩
    · have hw : w = n := by
        refine Nat.le_antisymm (by omega) (Nat.le_of_not_lt fun h2 => hex ⟨w, h2, hp⟩)
      subst hw
      have e : (List.range w).find? p = none := by
        rw [List.find?_eq_none]
        intro x hx hpx
        exact hex ⟨x, List.mem_range.mp hx, hpx⟩
      refine ⟨w, by rw [e]; simp [hp], hp, Nat.lt_succ_self _, fun v hv => ?_⟩
      cases hpv : p v with
      | false => rfl
      | true => exact absurd ⟨v, hv, hpv⟩ hex
theorem least_spec (ok : BsOk g bs) (hg : g ≤ 5) (hk : k < bs.length) (hv : ∀ j, j < bs.length → j ≠ k → (bd bs j).2 ≤ 50) {B : List Nat} (hB : Bn g B) : (List.range 260).find? (wi m bs k B) = some (least m bs k B) ∧ wi m bs k B (least m bs k B) = true ∧ least m bs k B < 260 ∧ ∀ w, w < least m bs k B → wi m bs k B w = false := by
  obtain ⟨w, e, h1, h2, h3⟩ := find_least (wi m bs k B) 260 ⟨259, by omega, wi_top ok hg hk hv hB (Nat.le_refl _) (by omega)⟩
  have e2 : least m bs k B = w := by unfold least; rw [e]; rfl
  rw [e2]
  exact ⟨e, h1, h2, h3⟩
theorem least_le (ok : BsOk g bs) (hg : g ≤ 5) (hk : k < bs.length) (hv : ∀ j, j < bs.length → j ≠ k → (bd bs j).2 ≤ 50) {B : List Nat} (hB : Bn g B) {w : Nat} (h : wi m bs k B w = true) : least m bs k B ≤ w := by
  refine Nat.le_of_not_lt fun h2 => ?_
  rw [(least_spec (m := m) ok hg hk hv hB).2.2.2 w h2] at h
  cases h
def subs (B B' : List Nat) : Bool := B.all fun x => B'.contains x
theorem subs_iff {B B' : List Nat} : subs B B' = true ↔ ∀ x ∈ B, x ∈ B' := by
  unfold subs
  rw [List.all_eq_true]
  exact ⟨fun h x hx => by simpa using h x hx, fun h x hx => by simpa using h x hx⟩
def gainOf (m : Ms) (bs : List Bid) (k : Nat) (b : Bid) : Int := if wins m (bs.set k b) k = true then ((bd bs k).2 : Int) * (if subs (bd bs k).1 b.1 = true then 1 else 0) - (least m bs k b.1 : Int) else 0
theorem gain_truth (hk : k < bs.length) : gainOf m bs k (bd bs k) = if wins m bs k = true then ((bd bs k).2 : Int) - (least m bs k (bd bs k).1 : Int) else 0 := by
  unfold gainOf
  rw [set_same hk, if_pos (show subs (bd bs k).1 (bd bs k).1 = true from subs_iff.mpr fun x h => h), Int.mul_one]
theorem wi_own (hk : k < bs.length) : wi m bs k (bd bs k).1 (bd bs k).2 = wins m bs k := by
  unfold wi
  rw [show (((bd bs k).1, (bd bs k).2) : Bid) = bd bs k from rfl, set_same hk]
theorem own_le (ok : BsOk g bs) (hg : g ≤ 5) (hk : k < bs.length) (hv : ∀ j, j < bs.length → j ≠ k → (bd bs j).2 ≤ 50) (h : wins m bs k = true) : least m bs k (bd bs k).1 ≤ (bd bs k).2 :=
  least_le ok hg hk hv (ok.bn _ (bd_mem hk)) (by rw [wi_own hk]; exact h)
/-- no lie gains more -/
theorem no_lie (ok : BsOk g bs) (hg : g ≤ 5) (hk : k < bs.length) (hv : ∀ j, j < bs.length → j ≠ k → (bd bs j).2 ≤ 50) {b : Bid} (hb : Bn g b.1) : gainOf m bs k b ≤ gainOf m bs k (bd bs k) := by
  have hB := ok.bn _ (bd_mem hk)
  have h0 : 0 ≤ gainOf m bs k (bd bs k) := by
    rw [gain_truth hk]
    split
    · rename_i h
      have := own_le ok hg hk hv h
      omega
    · exact Int.le_refl _
  by_cases hw : wins m (bs.set k b) k = true
  · have e1 : gainOf m bs k b = ((bd bs k).2 : Int) * (if subs (bd bs k).1 b.1 = true then 1 else 0) - (least m bs k b.1 : Int) := by
      unfold gainOf
      rw [if_pos hw]
    rw [e1]
    by_cases hs : subs (bd bs k).1 b.1 = true
    · rw [if_pos hs, Int.mul_one]
      have sp := least_spec (m := m) ok hg hk hv hb
      have mono : least m bs k (bd bs k).1 ≤ least m bs k b.1 :=
        least_le ok hg hk hv hB (wi_mono ok hk hb hB (subs_iff.mp hs) (Nat.le_refl _) (by have := sp.2.2.1; omega) sp.2.1)
      rw [gain_truth hk]
      split
      · omega
      · rename_i hn
        have hlt : (bd bs k).2 < least m bs k (bd bs k).1 := by
          refine Nat.lt_of_not_le fun hle => hn ?_
          rw [← wi_own (m := m) hk]
          exact wi_mono ok hk hB hB (fun x h => h) hle (ok.low _ (bd_mem hk)) (least_spec (m := m) ok hg hk hv hB).2.1
        omega
    · rw [if_neg hs, Int.mul_zero]
      omega
  · have e : gainOf m bs k b = 0 := by
      unfold gainOf
      rw [if_neg hw]
    rw [e]
    exact h0
end
/-! ### who wins, ascending; sums -/
def wonL (m : Ms) (bs : List Bid) : List Nat := (List.range bs.length).filter (wins m bs)
def turns (m : Ms) (bs : List Bid) : Nat := ((wonL m bs).map fun k => (bd bs k).2).sum
section
variable {g : Nat} {m : Ms} {bs : List Bid}
theorem wonL_mem (ok : BsOk g bs) {k : Nat} : k ∈ wonL m bs ↔ k ∈ wset m bs := by
  unfold wonL
  rw [List.mem_filter, wins_iff, List.mem_range]
  exact ⟨fun h => h.2, fun h => ⟨(ord_mem ok).mp ((wn_sub _ _).subset h), h⟩⟩
theorem wset_nodup (ok : BsOk g bs) : (wset m bs).Nodup := (ord_nodup ok).sublist (wn_sub _ _)
theorem wonL_nodup : (wonL m bs).Nodup := List.nodup_range.sublist List.filter_sublist
theorem nodup_perm : ∀ {l m : List Nat}, l.Nodup → m.Nodup → (∀ x, x ∈ l ↔ x ∈ m) → l.Perm m
  | [], m, _, _, h => by
    cases m with
    | nil => exact .refl _
    | cons a m => cases (h a).mpr List.mem_cons_self
  | a :: l, m, nl, nm, h => by
    obtain ⟨n1, n2⟩ := List.nodup_cons.mp nl
    have ha := (h a).mp List.mem_cons_self
    refine ((nodup_perm (m := m.erase a) n2 (nm.erase a) fun x => ?_).cons a).trans (List.perm_cons_erase ha).symm
    rw [nm.mem_erase_iff]
    exact ⟨fun hx => ⟨fun e => n1 (by rw [← e]; exact hx), (h x).mp (List.mem_cons_of_mem _ hx)⟩, fun ⟨h1, h2⟩ => by
      rcases List.mem_cons.mp ((h x).mpr h2) with e | hx
      · exact absurd e h1
      · exact hx⟩
theorem wonL_perm (ok : BsOk g bs) : (wonL m bs).Perm (wset m bs) := nodup_perm wonL_nodup (wset_nodup ok) fun x => wonL_mem ok
theorem range_bd : (List.range bs.length).map (bd bs) = bs := by
  refine List.ext_getElem? fun i => ?_
  rw [List.getElem?_map]
  by_cases h : i < bs.length
  · rw [List.getElem?_range h, bd_at h]; rfl
  · rw [List.getElem?_eq_none (by rw [List.length_range]; omega), List.getElem?_eq_none (by omega)]; rfl
theorem won_sub : ((wonL m bs).map (bd bs)).Sublist bs := by
  have h : ((wonL m bs).map (bd bs)).Sublist ((List.range bs.length).map (bd bs)) := List.filter_sublist.map _
  rwa [range_bd] at h
theorem won_flat (ok : BsOk g bs) : (((wonL m bs).map (bd bs)).flatMap (·.1)).Nodup := by
  have h := wn_nodup (B := Bof bs) (r := ord m bs) (L := []) .nil fun k hk => (ok.bn _ (bd_mem ((ord_mem ok).mp hk))).nodup
  rw [List.nil_append] at h
  rw [List.flatMap_map]
  exact (((wonL_perm ok).flatMap_right (Bof bs)).nodup_iff).mpr h
theorem turns_eq : turns m bs = (((wonL m bs).map (bd bs)).map (·.2)).sum := by
  unfold turns
  rw [List.map_map]
  rfl
/-- by turns is never more than the best -/
theorem turns_row (ok : BsOk g bs) : ∃ A, (A, turns m bs) ∈ rowsOf bs := by
  have h := rows_complete (R := [([], 0)]) (A := []) (s := 0) (won_sub (m := m) (bs := bs)) (by rw [List.nil_append]; exact won_flat ok) List.mem_cons_self
  rw [List.nil_append, Nat.zero_add, ← turns_eq] at h
  exact ⟨_, h⟩
theorem root_law (ok : BsOk g bs) {A : List Nat} {s : Nat} (h : (A, s) ∈ rowsOf bs) : s * s ≤ g * (turns .root bs * turns .root bs) := by
  obtain ⟨A0, s0, S, h1, h2, h3, h4, h5⟩ := rows_sound (R := [([], 0)]) (fun b hb => (ok.bn b hb).nodup) (fun r hr => by cases List.mem_singleton.mp hr; exact .nil) h
  cases List.mem_singleton.mp h1
  rw [List.nil_append] at h3
  rw [Nat.zero_add] at h4
  subst h3 h4
  rw [turns_eq]
  refine root_bound h5 (fun b hb g hg => (ok.bn b (h2.subset hb)).lt g hg) (fun j hj => ?_) fun i hi => ?_
  · obtain ⟨k, hk, rfl⟩ := List.mem_map.mp hj
    exact bd_pos ok k
  · obtain ⟨k, hk, e⟩ := List.getElem_of_mem (h2.subset hi)
    have ei : bd bs k = i := by
      have := bd_at hk
      rw [List.getElem?_eq_getElem hk] at this
      rw [← Option.some.inj this]
      exact e
    have hne := (ok.bn i (h2.subset hi)).ne
    by_cases hw : k ∈ wset .root bs
    · refine ⟨i, List.mem_map.mpr ⟨k, (wonL_mem ok).mpr hw, ei⟩, ?_, Nat.le_refl _⟩
      obtain ⟨x, hx⟩ := List.exists_mem_of_ne_nil _ hne
      exact ⟨x, hx, hx⟩
    · obtain ⟨r1, r2, e1, n1, n2, a1, _, _, _⟩ := ord_split (m := .root) ok hk
      have hw' := hw
      unfold wset at hw'
      rw [e1, wn_mem n1 n2, free_iff] at hw'
      have : ∃ x, x ∈ Bof bs k ∧ x ∈ [] ++ (wn (Bof bs) r1 []).flatMap (Bof bs) := by
        refine Classical.byContradiction fun hc => hw' fun x hx hm => hc ⟨x, hx, hm⟩
      obtain ⟨x, hx, hm⟩ := this
      rw [List.nil_append] at hm
      obtain ⟨j, hj, hxj⟩ := List.mem_flatMap.mp hm
      have hjr := (wn_sub r1 []).subset hj
      have hjw : j ∈ wset .root bs := by
        unfold wset
        rw [e1, wn_append]
        exact List.mem_append_left _ hj
      refine ⟨bd bs j, List.mem_map.mpr ⟨j, (wonL_mem ok).mpr hjw, rfl⟩, ⟨x, by rw [← ei]; exact hx, hxj⟩, ?_⟩
      have q := ah_iff.mp (a1 j hjr)
      rw [ei] at q
      change i.2 * i.2 * (bd bs j).1.length < (bd bs j).2 * (bd bs j).2 * i.1.length ∨ ((bd bs j).2 * (bd bs j).2 * i.1.length = i.2 * i.2 * (bd bs j).1.length ∧ j < k) at q
      omega
end
end K06

namespace K06
open PySem PySem.Spec PyProof.Rows L2 G
/-! ### the greatest sum by a dict of taken goods: plain -/
def srtN (l : List Nat) : List Nat := (srtI (l.map fun n : Nat => (n : Int))).map Int.toNat
theorem srtN_int (l : List Nat) : srtI (l.map fun n : Nat => (n : Int)) = (srtN l).map fun n : Nat => (n : Int) := by
  unfold srtN
  rw [List.map_map]
  have h : ∀ x ∈ srtI (l.map fun n : Nat => (n : Int)), ((fun n : Nat => (n : Int)) ∘ Int.toNat) x = x := fun x hx => by
    obtain ⟨n, _, rfl⟩ := List.mem_map.mp ((srtI_perm _).mem_iff.mp hx)
    simp
  rw [List.map_congr_left h, List.map_id']
theorem srtN_perm (l : List Nat) : (srtN l).Perm l := by
  have h := (srtI_perm (l.map fun n : Nat => (n : Int))).map Int.toNat
  rw [List.map_map] at h
  have e : l.map (Int.toNat ∘ fun n : Nat => (n : Int)) = l := by
    rw [List.map_congr_left (g := id) fun x _ => by simp]
    simp
  rw [e] at h
  exact h
theorem srtN_eq {l m : List Nat} (p : l.Perm m) : srtN l = srtN m := by
  unfold srtN
  have := srtI_eq (l := m.map fun n : Nat => (n : Int)) (m := srtI (l.map fun n : Nat => (n : Int))) ((srtI_perm _).trans (p.map _)) (srtI_sorted _)
  rw [this]
theorem srtN_le (l : List Nat) : (srtN l).Pairwise (· ≤ ·) := by
  unfold srtN
  exact List.Pairwise.map _ (fun a b h => by omega) (srtI_sorted _)
theorem srtN_up {l : List Nat} (h : l.Nodup) : (srtN l).Pairwise (· < ·) := by
  have nd := (srtN_perm l).nodup_iff.mpr h
  exact (srtN_le l).imp₂ (fun a b h1 h2 => Nat.lt_of_le_of_ne h1 h2) nd
theorem free_srt (B A : List Nat) : free B (srtN A) = free B A := by
  rw [Bool.eq_iff_iff, free_iff, free_iff]
  exact ⟨fun h g hg hm => h g hg ((srtN_perm A).mem_iff.mpr hm), fun h g hg hm => h g hg ((srtN_perm A).mem_iff.mp hm)⟩
theorem srt_srt (A B : List Nat) : srtN (srtN A ++ B) = srtN (A ++ B) := srtN_eq ((srtN_perm A).append_right B)
abbrev Dct := List (List Nat × Nat)
def aget : Dct → List Nat → Option Nat
  | [], _ => none
  | r :: d, k => if r.1 = k then some r.2 else aget d k
def aput (d : Dct) (k : List Nat) (v : Nat) : Dct := if (d.any fun r => decide (r.1 = k)) = true then d.map (fun r => if r.1 = k then (r.1, v) else r) else d ++ [(k, v)]
theorem aget_mem : ∀ {d : Dct} {k : List Nat} {v : Nat}, aget d k = some v → (k, v) ∈ d
  | [], _, _, h => by cases h
  | r :: d, k, v, h => by
    unfold aget at h
    split at h
    · rename_i e
      cases h
      rw [← e]
      exact List.mem_cons_self
    · exact List.mem_cons_of_mem _ (aget_mem h)
theorem aget_of : ∀ {d : Dct} {k : List Nat} {v : Nat}, (d.map (·.1)).Nodup → (k, v) ∈ d → aget d k = some v
  | [], _, _, _, h => by cases h
  | r :: d, k, v, nd, h => by
    rw [List.map_cons] at nd
    obtain ⟨n1, n2⟩ := List.nodup_cons.mp nd
    unfold aget
    rcases List.mem_cons.mp h with h | h
    · rw [← h, if_pos rfl]
    · rw [if_neg (fun e => n1 (List.mem_map.mpr ⟨(k, v), h, e.symm⟩))]
      exact aget_of n2 h
theorem aget_none : ∀ {d : Dct} {k : List Nat}, aget d k = none → ∀ v, (k, v) ∉ d
  | [], _, _, _, h => by cases h
  | r :: d, k, e, v, h => by
    unfold aget at e
    split at e
    · cases e
    · rename_i n
      rcases List.mem_cons.mp h with h | h
      · exact n (by rw [← h])
      · exact aget_none e v h
theorem aput_mem {d : Dct} {k k' : List Nat} {v v' : Nat} (h : (k', v') ∈ aput d k v) : (k' = k ∧ v' = v) ∨ (k', v') ∈ d := by
  unfold aput at h
  split at h
  · obtain ⟨r, hr, e⟩ := List.mem_map.mp h
    split at e
    · rename_i e2
      cases e
      exact .inl ⟨e2, rfl⟩
    · subst e
      exact .inr hr
  · rcases List.mem_append.mp h with h | h
    · exact .inr h
    · cases List.mem_singleton.mp h
      exact .inl ⟨rfl, rfl⟩
theorem aput_has (d : Dct) (k : List Nat) (v : Nat) : (k, v) ∈ aput d k v := by
  unfold aput
  split
  · rename_i h
    obtain ⟨r, hr, e⟩ := List.any_eq_true.mp h
    have e := of_decide_eq_true e
    exact List.mem_map.mpr ⟨r, hr, by rw [if_pos e, e]⟩
  · exact List.mem_append_right _ (List.mem_singleton_self _)
theorem aput_keep {d : Dct} {k k' : List Nat} {v v' : Nat} (h : (k', v') ∈ d) (n : k' ≠ k) : (k', v') ∈ aput d k v := by
  unfold aput
  split
  · exact List.mem_map.mpr ⟨_, h, by rw [if_neg n]⟩
  · exact List.mem_append_left _ h
theorem aput_keys {d : Dct} {k : List Nat} {v : Nat} (h : (d.map (·.1)).Nodup) : ((aput d k v).map (·.1)).Nodup := by
  unfold aput
  split
  · rw [List.map_map]
    have e : d.map ((fun r : List Nat × Nat => r.1) ∘ fun r => if r.1 = k then (r.1, v) else r) = d.map (·.1) := List.map_congr_left fun r _ => by
      show (if r.1 = k then (r.1, v) else r).1 = r.1
      split <;> rfl
    rw [e]
    exact h
  · rename_i hn
    rw [List.map_append]
    refine List.nodup_append.mpr ⟨h, by simp, fun a ha b hb e => ?_⟩
    rw [List.map_cons, List.map_nil, List.mem_singleton] at hb
    obtain ⟨r, hr, e2⟩ := List.mem_map.mp ha
    exact hn (List.any_eq_true.mpr ⟨r, hr, decide_eq_true (by rw [e2, e, hb])⟩)
theorem aput_len (d : Dct) (k : List Nat) (v : Nat) : (aput d k v).length ≤ d.length + 1 := by
  unfold aput
  split
  · rw [List.length_map]; omega
  · rw [List.length_append]; exact Nat.le_refl _
def upd1 (d : Dct) (b : Bid) (more : Dct) (k : List Nat) : Dct := if free b.1 k = true then aput more (srtN (k ++ b.1)) (max ((aget more (srtN (k ++ b.1))).getD 0) ((aget d k).getD 0 + b.2)) else more
def dStep (d : Dct) (b : Bid) : Dct := (d.map (·.1)).foldl (upd1 d b) d
theorem put_grows {more : Dct} (nd : (more.map (·.1)).Nodup) {w : List Nat} {x : Nat} {k : List Nat} {v : Nat} (h : (k, v) ∈ more) : ∃ v', (k, v') ∈ aput more w (max ((aget more w).getD 0) x) ∧ v ≤ v' := by
  by_cases e : k = w
  · subst e
    refine ⟨_, aput_has _ _ _, ?_⟩
    rw [aget_of nd h]
    exact Nat.le_max_left _ _
  · exact ⟨v, aput_keep h e, Nat.le_refl _⟩
theorem upd1_len (d : Dct) (b : Bid) : ∀ (ks : List (List Nat)) (more : Dct), (ks.foldl (upd1 d b) more).length ≤ more.length + ks.length
  | [], more => Nat.le_refl _
  | k :: ks, more => by
    rw [List.foldl_cons, List.length_cons]
    refine Nat.le_trans (upd1_len d b ks _) ?_
    have : (upd1 d b more k).length ≤ more.length + 1 := by
      unfold upd1
      split
      · exact aput_len _ _ _
      · omega
    omega
theorem dStep_len (d : Dct) (b : Bid) : (dStep d b).length ≤ 2 * d.length := by
  have := upd1_len d b (d.map (·.1)) d
  rw [List.length_map] at this
  unfold dStep
  omega
/-- the dict stands for the rows -/
structure Std (R : List (List Nat × Nat)) (d : Dct) : Prop where
  keys : (d.map (·.1)).Nodup
  sound : ∀ k v, (k, v) ∈ d → ∃ A, (A, v) ∈ R ∧ k = srtN A
  full : ∀ A s, (A, s) ∈ R → ∃ v, (srtN A, v) ∈ d ∧ s ≤ v
structure Mid (R : List (List Nat × Nat)) (b : Bid) (d more : Dct) : Prop where
  keys : (more.map (·.1)).Nodup
  sound : ∀ k v, (k, v) ∈ more → ∃ A, (A, v) ∈ rowStep R b ∧ k = srtN A
  grow : ∀ k v, (k, v) ∈ d → ∃ v', (k, v') ∈ more ∧ v ≤ v'
theorem upd1_keep {d more : Dct} {b : Bid} {k : List Nat} (nd : (more.map (·.1)).Nodup) {w : List Nat} {v : Nat} (h : (w, v) ∈ more) : ∃ v', (w, v') ∈ upd1 d b more k ∧ v ≤ v' := by
  unfold upd1
  split
  · exact put_grows nd h
  · exact ⟨v, h, Nat.le_refl _⟩
theorem mid_step {R : List (List Nat × Nat)} {b : Bid} {d more : Dct} (s : Std R d) (m : Mid R b d more) {k : List Nat} {v : Nat} (hk : (k, v) ∈ d) : Mid R b d (upd1 d b more k) ∧ (free b.1 k = true → ∃ v', (srtN (k ++ b.1), v') ∈ upd1 d b more k ∧ v + b.2 ≤ v') := by
  have ek : aget d k = some v := aget_of s.keys hk
  obtain ⟨A, hA, eA⟩ := s.sound k v hk
  refine ⟨⟨?_, fun k2 v2 h2 => ?_, fun k2 v2 h2 => ?_⟩, fun hf => ?_⟩
  · unfold upd1
    split
    · exact aput_keys m.keys
    · exact m.keys
  · unfold upd1 at h2
    split at h2
    · rename_i hf
      rcases aput_mem h2 with ⟨e1, e2⟩ | h2
      · rw [ek, Option.getD_some] at e2
        have new : (A ++ b.1, v + b.2) ∈ rowStep R b := List.mem_append_right _ (List.mem_map.mpr ⟨(A, v), List.mem_filter.mpr ⟨hA, by rw [eA, free_srt] at hf; exact hf⟩, rfl⟩)
        have hs : srtN (k ++ b.1) = srtN (A ++ b.1) := by rw [eA, srt_srt]
        cases eo : aget more (srtN (k ++ b.1)) with
        | none =>
          rw [eo] at e2
          refine ⟨A ++ b.1, ?_, by rw [e1, hs]⟩
          rw [e2]
          simpa using new
        | some u =>
          rw [eo, Option.getD_some] at e2
          by_cases hle : u ≤ v + b.2
          · refine ⟨A ++ b.1, ?_, by rw [e1, hs]⟩
            rw [e2, Nat.max_eq_right hle]
            exact new
          · rw [Nat.max_eq_left (by omega)] at e2
            rw [e1, e2]
            exact m.sound _ _ (aget_mem eo)
      · exact m.sound _ _ h2
    · exact m.sound _ _ h2
  · obtain ⟨v', h3, h4⟩ := m.grow k2 v2 h2
    obtain ⟨v'', h5, h6⟩ := upd1_keep (d := d) (b := b) (k := k) m.keys h3
    exact ⟨v'', h5, Nat.le_trans h4 h6⟩
  · unfold upd1
    rw [if_pos hf]
    refine ⟨_, aput_has _ _ _, ?_⟩
    rw [ek]
    exact Nat.le_max_right _ _
theorem mid_fold {R : List (List Nat × Nat)} {b : Bid} {d : Dct} (s : Std R d) : ∀ {ks : List (List Nat)} {more : Dct}, (∀ k ∈ ks, ∃ v, (k, v) ∈ d) → Mid R b d more →
    Mid R b d (ks.foldl (upd1 d b) more) ∧ (∀ w v, (w, v) ∈ more → ∃ v', (w, v') ∈ ks.foldl (upd1 d b) more ∧ v ≤ v') ∧ ∀ k v, k ∈ ks → (k, v) ∈ d → free b.1 k = true → ∃ v', (srtN (k ++ b.1), v') ∈ ks.foldl (upd1 d b) more ∧ v + b.2 ≤ v'
  | [], more, _, m => ⟨m, fun w v h => ⟨v, h, Nat.le_refl _⟩, fun k v h => by cases h⟩
  | k :: ks, more, hk, m => by
    obtain ⟨v, hv⟩ := hk k List.mem_cons_self
    obtain ⟨m1, m2⟩ := mid_step s m hv
    obtain ⟨f1, f2, f3⟩ := mid_fold s (ks := ks) (fun k' h => hk k' (List.mem_cons_of_mem _ h)) m1
    rw [List.foldl_cons]
    refine ⟨f1, fun w u h => ?_, fun k' u h1 h2 h3 => ?_⟩
    · obtain ⟨u', h1, h2⟩ := upd1_keep (d := d) (b := b) (k := k) m.keys h
      obtain ⟨u'', h3, h4⟩ := f2 w u' h1
      exact ⟨u'', h3, Nat.le_trans h2 h4⟩
    · rcases List.mem_cons.mp h1 with e | h1
      · subst e
        have ev : u = v := by
          have a1 := aget_of s.keys h2
          rw [aget_of s.keys hv] at a1
          exact (Option.some.inj a1).symm
        subst ev
        obtain ⟨u', h4, h5⟩ := m2 h3
        obtain ⟨u'', h6, h7⟩ := f2 _ u' h4
        exact ⟨u'', h6, Nat.le_trans h5 h7⟩
      · exact f3 k' u h1 h2 h3
theorem std_step {R : List (List Nat × Nat)} {b : Bid} {d : Dct} (s : Std R d) : Std (rowStep R b) (dStep d b) := by
  obtain ⟨m, _, f⟩ := mid_fold (b := b) s (ks := d.map (·.1)) (more := d) (fun k hk => by
    obtain ⟨r, hr, rfl⟩ := List.mem_map.mp hk
    exact ⟨r.2, hr⟩) ⟨s.keys, fun k v h => by
      obtain ⟨A, h1, h2⟩ := s.sound k v h
      exact ⟨A, List.mem_append_left _ h1, h2⟩, fun k v h => ⟨v, h, Nat.le_refl _⟩⟩
  refine ⟨m.keys, m.sound, fun A t h => ?_⟩
  rcases List.mem_append.mp h with h | h
  · obtain ⟨v, h1, h2⟩ := s.full A t h
    obtain ⟨v', h3, h4⟩ := m.grow _ _ h1
    exact ⟨v', h3, Nat.le_trans h2 h4⟩
  · obtain ⟨r, hr, e⟩ := List.mem_map.mp h
    cases e
    obtain ⟨r1, r2⟩ := List.mem_filter.mp hr
    obtain ⟨v, h1, h2⟩ := s.full r.1 r.2 r1
    obtain ⟨v', h3, h4⟩ := f (srtN r.1) v (List.mem_map.mpr ⟨_, h1, rfl⟩) h1 (by rw [free_srt]; exact r2)
    rw [srt_srt] at h3
    exact ⟨v', h3, by omega⟩
theorem std_all : ∀ {bs : List Bid} {R : List (List Nat × Nat)} {d : Dct}, Std R d → Std (bs.foldl rowStep R) (bs.foldl dStep d)
  | [], _, _, s => s
  | b :: bs, R, d, s => by rw [List.foldl_cons, List.foldl_cons]; exact std_all (std_step s)
def dctOf (bs : List Bid) : Dct := bs.foldl dStep [([], 0)]
theorem std_of (bs : List Bid) : Std (rowsOf bs) (dctOf bs) := std_all ⟨by simp, fun k v h => ⟨[], by cases List.mem_singleton.mp h; exact List.mem_singleton_self _, by cases List.mem_singleton.mp h; rfl⟩, fun A s h => ⟨0, by cases List.mem_singleton.mp h; exact List.mem_singleton_self _, by cases List.mem_singleton.mp h; exact Nat.le_refl _⟩⟩
def topOf (bs : List Bid) : Int := C.top ((0 :: (rowsOf bs).map (·.2)).map fun n : Nat => (n : Int))
theorem row_mono : ∀ {bs : List Bid} {R : List (List Nat × Nat)} {r : List Nat × Nat}, r ∈ R → r ∈ bs.foldl rowStep R
  | [], _, _, h => h
  | b :: bs, R, r, h => by rw [List.foldl_cons]; exact row_mono (List.mem_append_left _ h)
theorem topOf_row (bs : List Bid) : ∃ A s, (A, s) ∈ rowsOf bs ∧ topOf bs = (s : Int) := by
  have h : topOf bs ∈ (0 :: (rowsOf bs).map (·.2)).map fun n : Nat => (n : Int) := C.top_mem (by simp)
  obtain ⟨n, hn, e⟩ := List.mem_map.mp h
  rcases List.mem_cons.mp hn with h0 | hn
  · subst h0
    exact ⟨[], 0, row_mono List.mem_cons_self, e.symm⟩
  · obtain ⟨r, hr, e2⟩ := List.mem_map.mp hn
    exact ⟨r.1, r.2, hr, by rw [e2]; exact e.symm⟩
theorem topOf_ge {bs : List Bid} {A : List Nat} {s : Nat} (h : (A, s) ∈ rowsOf bs) : (s : Int) ≤ topOf bs := C.top_ge (List.mem_map.mpr ⟨s, List.mem_cons_of_mem _ (List.mem_map.mpr ⟨(A, s), h, rfl⟩), rfl⟩)
theorem dct_top (bs : List Bid) : C.top ((dctOf bs).map fun r => (r.2 : Int)) = topOf bs := by
  have s := std_of bs
  obtain ⟨A, t, h1, h2⟩ := topOf_row bs
  obtain ⟨v, h3, h4⟩ := s.full A t h1
  obtain ⟨A', h5, _⟩ := s.sound _ _ h3
  have h6 := topOf_ge h5
  have h7 : v = t := by omega
  refine C.top_eq (List.mem_map.mpr ⟨_, h3, ?_⟩) fun x hx => ?_
  · show (v : Int) = _
    rw [h2, h7]
  · obtain ⟨r, hr, rfl⟩ := List.mem_map.mp hx
    obtain ⟨A2, h8, _⟩ := s.sound r.1 r.2 hr
    exact topOf_ge h8
end K06

namespace K06
open PySem PySem.Spec PyProof.Rows L2 G
/-! ### the data -/
abbrev bsD (l : List Nat) : D := .tuple (l.map nD)
abbrev lsD (l : List Nat) : D := .list (l.map nD)
abbrev bidD (b : Bid) : D := .tuple [bsD b.1, nD b.2]
abbrev bidsD (bs : List Bid) : D := .list (bs.map bidD)
def Ms.s : Ms → Str
  | .worth => "worth"
  | .each => "each"
  | .root => "root"
abbrev mD (m : Ms) : D := .str m.s
theorem at_map {α β : Type} {f g : α → β} {l : List α} (h : l.map f = l.map g) {a : α} (ha : a ∈ l) : f a = g a := List.map_inj_left.mp h a ha
theorem loopL_foldI {α σ : Type} {P : Nat → σ → En → Prop} {tgt : TgF} {body : En → SR} {enc : α → D} {stp : σ → α → σ} (N : Nat) : ∀ {xs : List α} {i : Nat} {st : σ} {ρ : En}, (∀ x ∈ xs, ∀ i, i < N → ∀ st ρ, P i st ρ → ∃ ρ1 ρ2, tgt (enc x) ρ = some ρ1 ∧ body ρ1 = .nx ρ2 ∧ P (i + 1) (stp st x) ρ2) → i + xs.length ≤ N → P i st ρ →
    ∃ ρ2, loopL tgt body (xs.map enc) ρ = .nx ρ2 ∧ P (i + xs.length) (xs.foldl stp st) ρ2
  | [], i, st, ρ, _, _, h => ⟨ρ, rfl, h⟩
  | x :: xs, i, st, ρ, hx, hN, h => by
    rw [List.length_cons] at hN
    obtain ⟨ρ1, ρ2, e1, e2, h2⟩ := hx x List.mem_cons_self i (by omega) st ρ h
    obtain ⟨ρ3, e3, h3⟩ := loopL_foldI N (P := P) (stp := stp) (xs := xs) (fun a ha => hx a (List.mem_cons_of_mem _ ha)) (by omega) h2
    exact ⟨ρ3, loopL_nx e1 e2 e3, by rw [List.length_cons, show i + (xs.length + 1) = i + 1 + xs.length by omega]; exact h3⟩
theorem cut_to (xs : List D) (k : Nat) : cutL xs none (some (k : Int)) = xs.take k := by
  unfold cutL
  rw [HT.sIx_nat, HT.sIx_none]
  simp
theorem cut_from (xs : List D) (k : Nat) : cutL xs (some (k : Int)) none = xs.drop k := by
  unfold cutL
  rw [HT.sIx_nat, HT.sIx_none]
  rcases Nat.lt_or_ge k xs.length with h | h
  · rw [Nat.min_eq_left (by omega), List.take_of_length_le (by simp)]
  · rw [Nat.min_eq_right (by omega), List.drop_of_length_le (Nat.le_refl _), List.drop_of_length_le h]; simp
theorem cPart_of {g : En → R D} {ρ : En} {k : Nat} (h2 : g ρ = .ok (nD k)) : cPart g ρ = .ok (some (k : Int)) := by
  simp only [cPart, h2, R.bind, toI, ofO]
theorem cSlice_to {f g : En → R D} {ρ : En} {xs : List D} {k : Nat} (h : f ρ = .ok (.list xs)) (h2 : g ρ = .ok (nD k)) : cSlice f cPartN (cPart g) ρ = .ok (.list (xs.take k)) := by
  simp only [cSlice, h, cPart_of h2, R.bind, cPartN]
  show ofO (some (PyData.list (cutL xs none (some (k : Int))))) = _
  rw [cut_to]
  rfl
theorem cSliceT_to {f g : En → R D} {ρ : En} {xs : List D} {k : Nat} (h : f ρ = .ok (.tuple xs)) (h2 : g ρ = .ok (nD k)) : cSlice f cPartN (cPart g) ρ = .ok (.tuple (xs.take k)) := by
  simp only [cSlice, h, cPart_of h2, R.bind, cPartN]
  show ofO (some (PyData.tuple (cutL xs none (some (k : Int))))) = _
  rw [cut_to]
  rfl
theorem cSlice_from {f g : En → R D} {ρ : En} {xs : List D} {k : Nat} (h : f ρ = .ok (.list xs)) (h2 : g ρ = .ok (nD k)) : cSlice f (cPart g) cPartN ρ = .ok (.list (xs.drop k)) := by
  simp only [cSlice, h, cPart_of h2, R.bind, cPartN]
  show ofO (some (PyData.list (cutL xs (some (k : Int)) none))) = _
  rw [cut_from]
  rfl
theorem cStarL_of {f : En → R D} {l : En → R (List D)} {ρ : En} {xs ds : List D} (h : f ρ = .ok (.list xs)) (h2 : l ρ = .ok ds) : cStar f l ρ = .ok (xs ++ ds) := by
  simp only [cStar, h, h2, R.bind, itemsOf, ofO]
theorem cStarT_of {f : En → R D} {l : En → R (List D)} {ρ : En} {xs ds : List D} (h : f ρ = .ok (.tuple xs)) (h2 : l ρ = .ok ds) : cStar f l ρ = .ok (xs ++ ds) := by
  simp only [cStar, h, h2, R.bind, itemsOf, ofO]
theorem cList_of' {l : En → R (List D)} {ρ : En} {ds : List D} (h : l ρ = .ok ds) (hz : ds.length ≤ 1000000) : cList l ρ = .ok (.list ds) := by
  simp only [cList, h, R.bind]
  rw [if_pos (Nat.le_trans hz (by unfold sizeLine; omega))]
theorem dAdd_list {xs ys : List D} (h : xs.length + ys.length ≤ 1000000) : dAdd (.list xs) (.list ys) = some (.list (xs ++ ys)) := by
  show (if xs.length + ys.length ≤ sizeLine then _ else _) = _
  rw [if_pos (Nat.le_trans h (by unfold sizeLine; omega))]
theorem cOrV_of {f g : En → R D} {ρ : En} {a b : Bool} (h1 : f ρ = .ok (.bool a)) (h2 : g ρ = .ok (.bool b)) : cOrV f g ρ = .ok (.bool (a || b)) := by
  cases a <;> simp only [cOrV, cTest, h1, h2, R.bind, toB, ofO] <;> rfl
theorem cAndV_of {f g : En → R D} {ρ : En} {a b : Bool} (h1 : f ρ = .ok (.bool a)) (h2 : g ρ = .ok (.bool b)) : cAndV f g ρ = .ok (.bool (a && b)) := by
  cases a <;> simp only [cAndV, cTest, h1, h2, R.bind, toB, ofO] <;> rfl
theorem cOr_of {p q : En → R Bool} {ρ : En} {a b : Bool} (h1 : p ρ = .ok a) (h2 : q ρ = .ok b) : cOr p q ρ = .ok (a || b) := by
  cases a <;> simp only [cOr, h1, h2, R.bind] <;> rfl
theorem len_ls {f : En → R D} {ρ : En} {l : List Nat} (h : f ρ = .ok (lsD l)) : cCall dLen (cCons f cNil) ρ = .ok (nD l.length) := cCall1_of h (by rw [dLen_list, List.length_map])
theorem len_bs {f : En → R D} {ρ : En} {l : List Nat} (h : f ρ = .ok (bsD l)) : cCall dLen (cCons f cNil) ρ = .ok (nD l.length) := cCall1_of h (by
  show some (PyData.int ((l.map nD).length : Nat)) = _
  rw [List.length_map])
theorem len_bids {f : En → R D} {ρ : En} {l : List Bid} (h : f ρ = .ok (bidsD l)) : cCall dLen (cCons f cNil) ρ = .ok (nD l.length) := cCall1_of h (by rw [dLen_list, List.length_map])
theorem bids_ix {bs : List Bid} {k : Nat} (h : k < bs.length) : dIx (bidsD bs) (nD k) = some (bidD (bd bs k)) := by
  rw [dIx_nat, List.getElem?_map, bd_at h]
  rfl
theorem ix_bid {f g : En → R D} {ρ : En} {bs : List Bid} {k : Nat} (h1 : f ρ = .ok (bidsD bs)) (h2 : g ρ = .ok (nD k)) (h : k < bs.length) : cBin dIx f g ρ = .ok (bidD (bd bs k)) := cBin_of h1 h2 (bids_ix h)
theorem ix_goods {f : En → R D} {ρ : En} {b : Bid} (h : f ρ = .ok (bidD b)) : cBin dIx f (cK (.int 0)) ρ = .ok (bsD b.1) := cBin_of h rfl (by rw [dIxT_zero]; rfl)
theorem ix_worth {f : En → R D} {ρ : En} {b : Bid} (h : f ρ = .ok (bidD b)) : cBin dIx f (cK (.int 1)) ρ = .ok (nD b.2) := cBin_of h rfl (by rw [dIxT_one]; rfl)
theorem eqv_nD (a b : Nat) : PyData.eqv (nD a) (nD b) = decide (a = b) := by
  show ((a : Int) == (b : Int)) = _
  by_cases h : a = b
  · subst h; simp
  · have h2 : ¬ ((a : Int) = (b : Int)) := by omega
    rw [decide_eq_false h]
    simpa using h2
theorem any_nD (x : Nat) (l : List Nat) : ((l.map nD).any fun z => PyData.eqv z (nD x)) = l.contains x := by
  induction l with
  | nil => rfl
  | cons a r ih =>
    rw [List.map_cons, List.any_cons, ih, eqv_nD, List.contains_cons]
    by_cases h : a = x
    · subst h; simp
    · have h2 : ¬ x = a := fun e => h e.symm
      simp [h, h2]
theorem lay_nats : ∀ l : List Nat, PyData.canLayAll0 (l.map nD) = true ∧ PyData.depthAll (l.map nD) ≤ 1
  | [] => by simp [PyData.canLayAll0, PyData.depthAll]
  | a :: l => by
    obtain ⟨h1, h2⟩ := lay_nats l
    rw [List.map_cons]
    simp only [PyData.canLayAll0, PyData.depthAll, PyData.canLay0, PyData.depth, h1, Bool.true_and]
    exact ⟨trivial, by omega⟩
theorem shaped_ls (l : List Nat) : SeqAt.shaped (lsD l) = true := by
  obtain ⟨h1, h2⟩ := lay_nats l
  unfold SeqAt.shaped
  simp [PyData.canLay0, PyData.depth, h1]
  omega
theorem in_ls (x : Nat) (l : List Nat) : inB (nD x) (lsD l) = some (l.contains x) := by
  have e : inB (nD x) (lsD l) = if SeqAt.shaped (nD x) = true ∧ SeqAt.shaped (lsD l) = true then some ((l.map nD).any fun z => PyData.eqv z (nD x)) else none := by simp only [inB]
  rw [e, if_pos ⟨rfl, shaped_ls l⟩, any_nD]
theorem flat_nats (l : List Nat) : (l.map nD).all flatB1 = true := by
  rw [List.all_eq_true]
  intro x hx
  obtain ⟨i, _, rfl⟩ := List.mem_map.mp hx
  rfl
theorem in_bs (x : Nat) (l : List Nat) : inB (nD x) (bsD l) = some (l.contains x) := by
  have e : inB (nD x) (bsD l) = if flatB1 (nD x) = true ∧ (l.map nD).all flatB1 = true then some ((l.map nD).any fun z => PyData.eqv z (nD x)) else none := by simp only [inB]
  rw [e, if_pos ⟨rfl, flat_nats l⟩, any_nD]
abbrev ldR (l : List Nat) : List (D × D) := l.map fun g => (nD g, .bool true)
abbrev ldD (l : List Nat) : D := .dict (ldR l)
theorem ld_keys (l : List Nat) : ((ldR l).all fun kv => (keyD kv.1).isSome) = true := by
  rw [List.all_eq_true]
  intro x hx
  obtain ⟨i, _, rfl⟩ := List.mem_map.mp hx
  rfl
theorem ld_get (x : Nat) : ∀ l : List Nat, (getK (ldR l) (.inl (x : Int))).isSome = l.contains x
  | [] => rfl
  | a :: l => by
    have ih := ld_get x l
    show (if keyD (nD a) = some (.inl (x : Int)) then some (PyData.bool true) else getK (ldR l) (.inl (x : Int))).isSome = _
    rw [List.contains_cons]
    by_cases h : a = x
    · subst h
      rw [if_pos (show keyD (nD a) = some (.inl (a : Int)) from rfl)]
      simp
    · rw [if_neg (fun e => h (by
        have e2 : (Sum.inl (a : Int) : Key) = .inl (x : Int) := Option.some.inj e
        have e3 := Sum.inl.inj e2
        omega)), ih]
      have h2 : ¬ x = a := fun e => h e.symm
      simp [h2]
theorem in_ld (x : Nat) (l : List Nat) : inB (nD x) (ldD l) = some (l.contains x) := by
  have e : inB (nD x) (ldD l) = if ((ldR l).all fun kv => (keyD kv.1).isSome) = true then some (getK (ldR l) (.inl (x : Int))).isSome else none := by simp only [inB, keyD, Option.bind_some]
  rw [e, if_pos (ld_keys l), ld_get]
theorem dIn_of {x y : D} {b : Bool} (h : inB x y = some b) : dIn x y = some (.bool b) := by unfold dIn; rw [h]; rfl
theorem dNotIn_of {x y : D} {b : Bool} (h : inB x y = some b) : dNotIn x y = some (.bool (!b)) := by unfold dNotIn; rw [h]; rfl
theorem inT_of {f g : En → R D} {ρ : En} {x y : D} {b : Bool} (h1 : f ρ = .ok x) (h2 : g ρ = .ok y) (h : inB x y = some b) : cBinT dIn f g ρ = .ok b := cBinT_of h1 h2 (dIn_of h)
theorem notinT_of {f g : En → R D} {ρ : En} {x y : D} {b : Bool} (h1 : f ρ = .ok x) (h2 : g ρ = .ok y) (h : inB x y = some b) : cBinT dNotIn f g ρ = .ok (!b) := cBinT_of h1 h2 (dNotIn_of h)
theorem eqv_ls : ∀ (s t : List Nat), PyData.eqvAll (s.map nD) (t.map nD) = decide (s = t)
  | [], [] => by simp [PyData.eqvAll]
  | [], b :: t => by simp [PyData.eqvAll]
  | a :: s, [] => by simp [PyData.eqvAll]
  | a :: s, b :: t => by
    rw [List.map_cons, List.map_cons, PyData.eqvAll, eqv_ls s t, eqv_nD]
    simp
theorem eq_ls (s t : List Nat) : dEq (lsD s) (lsD t) = some (.bool (decide (s = t))) := by
  unfold dEq
  rw [if_pos ⟨shaped_ls s, shaped_ls t⟩]
  show some (PyData.bool (PyData.eqv (.list (s.map nD)) (.list (t.map nD)))) = _
  rw [PyData.eqv, eqv_ls]
theorem ne_ls (s t : List Nat) : dNe (lsD s) (lsD t) = some (.bool (!decide (s = t))) := by
  unfold dNe
  rw [if_pos ⟨shaped_ls s, shaped_ls t⟩]
  show some (PyData.bool (!PyData.eqv (.list (s.map nD)) (.list (t.map nD)))) = _
  rw [PyData.eqv, eqv_ls]
theorem bools_map {α : Type} (f : α → Bool) : ∀ l : List α, boolsOf (l.map fun x => PyData.bool (f x)) = some (l.map f)
  | [] => rfl
  | a :: l => by
    rw [List.map_cons]
    simp only [boolsOf, bools_map f l]
    rfl
theorem any_of {α : Type} (f : α → Bool) (l : List α) : dAny [.list (l.map fun x => PyData.bool (f x))] = some (.bool (l.any f)) := by
  show (boolsOf _).map _ = _
  rw [bools_map, Option.map_some, List.any_map]
  rfl
theorem free_any (B L : List Nat) : free B L = !(B.any fun g => L.contains g) := by
  unfold free
  induction B with
  | nil => rfl
  | cons a r ih => rw [List.all_cons, List.any_cons, ih, Bool.not_or]
theorem free_nil (B L : List Nat) : free B L = decide ((B.filter fun g => L.contains g) = []) := by
  rw [Bool.eq_iff_iff, decide_eq_true_iff, List.filter_eq_nil_iff, free_iff]
  exact ⟨fun h g hg hm => h g hg (by simpa using hm), fun h g hg hm => h g hg (by simpa using hm)⟩
theorem gt_nat (a b : Nat) : dGt (nD a) (nD b) = some (.bool (decide (b < a))) := by
  show some (PyData.bool (decide ((b : Int) < a))) = _
  by_cases h : b < a
  · rw [decide_eq_true h, decide_eq_true (by omega)]
  · rw [decide_eq_false h, decide_eq_false (by omega)]
theorem lt_nat (a b : Nat) : dLt (nD a) (nD b) = some (.bool (decide (a < b))) := by
  rw [dLt_int]
  by_cases h : a < b
  · rw [decide_eq_true h, decide_eq_true (by omega)]
  · rw [decide_eq_false h, decide_eq_false (by omega)]
theorem eq_nat (a b : Nat) : dEq (nD a) (nD b) = some (.bool (decide (a = b))) := by
  rw [dEq_int]
  by_cases h : a = b
  · rw [decide_eq_true h, decide_eq_true (by omega)]
  · rw [decide_eq_false h, decide_eq_false (by omega)]
theorem ne_nat (a b : Nat) : dNe (nD a) (nD b) = some (.bool (decide (a ≠ b))) := by
  rw [dNe_int]
  by_cases h : a = b
  · rw [decide_eq_false (by omega), decide_eq_false (by omega)]
  · rw [decide_eq_true (by omega), decide_eq_true h]
/-! ### bundles of up to five goods -/
def all5 : List (List Nat) := (List.range 32).map fun p => (List.range 5).filter fun g => p / 2 ^ g % 2 == 1
theorem all5_bits : ∀ a b c d e : Bool, ((if a then [0] else []) ++ (if b then [1] else []) ++ (if c then [2] else []) ++ (if d then [3] else []) ++ (if e then [4] else []) : List Nat) ∈ all5 := by decide +kernel
theorem range5_filter (f : Nat → Bool) : (List.range 5).filter f = (if f 0 then [0] else []) ++ (if f 1 then [1] else []) ++ (if f 2 then [2] else []) ++ (if f 3 then [3] else []) ++ (if f 4 then [4] else []) := by
  show [0, 1, 2, 3, 4].filter f = _
  simp only [List.filter_cons, List.filter_nil]
  cases f 0 <;> cases f 1 <;> cases f 2 <;> cases f 3 <;> cases f 4 <;> rfl
theorem all5_filter (f : Nat → Bool) : (List.range 5).filter f ∈ all5 := by
  rw [range5_filter]
  exact all5_bits _ _ _ _ _
theorem range_up (n : Nat) : (List.range n).Pairwise (· < ·) := List.pairwise_lt_range
theorem up_filter {n : Nat} {l : List Nat} (h : l.Pairwise (· < ·)) (h2 : ∀ x ∈ l, x < n) : l = (List.range n).filter fun g => l.contains g := by
  have nd : l.Nodup := h.imp fun h => Nat.ne_of_lt h
  refine ord_uniq (r := fun a b => decide (a < b)) (fun a b h => by simp at *; omega) (nodup_perm nd (List.nodup_range.sublist List.filter_sublist) fun x => ?_) (h.imp fun h => by simpa using h) (((range_up n).filter _).imp fun h => by simpa using h)
  rw [List.mem_filter, List.mem_range]
  exact ⟨fun hx => ⟨h2 x hx, by simpa using hx⟩, fun hx => by simpa using hx.2⟩
theorem in_all5 {l : List Nat} (h : l.Pairwise (· < ·)) (h2 : ∀ x ∈ l, x < 5) : l ∈ all5 := by
  rw [up_filter h h2]
  exact all5_filter _
theorem Bn.all5 {g : Nat} {l : List Nat} (h : Bn g l) (hg : g ≤ 5) : l ∈ all5 := in_all5 h.up fun x hx => Nat.lt_of_lt_of_le (h.lt x hx) hg
theorem is_bundle_all : ((List.range 6).flatMap fun g => (all5.tail).map fun l => (g, l)).map (fun p => f_is_bundle [bsD p.2, nD p.1]) = ((List.range 6).flatMap fun g => (all5.tail).map fun l => (g, l)).map fun p => R.ok (.bool (p.2.all fun x => decide (x < p.1))) := by kernel_rfl
theorem all5_head : all5 = [] :: all5.tail := by decide +kernel
theorem is_bundle_eq {g : Nat} {l : List Nat} (h : Bn g l) (hg : g ≤ 5) : f_is_bundle [bsD l, nD g] = .ok (.bool true) := by
  have hm := h.all5 hg
  rw [all5_head] at hm
  have hm : l ∈ all5.tail := by
    rcases List.mem_cons.mp hm with e | e
    · exact absurd e h.ne
    · exact e
  have := at_map is_bundle_all (a := (g, l)) (List.mem_flatMap.mpr ⟨g, List.mem_range.mpr (by omega), List.mem_map.mpr ⟨l, hm, rfl⟩⟩)
  rw [this]
  show R.ok (PyData.bool (l.all fun x => decide (x < g))) = _
  rw [List.all_eq_true.mpr fun x hx => decide_eq_true (h.lt x hx)]
theorem check_goods_eq {g : Nat} (h1 : 1 ≤ g) (h6 : g ≤ 6) : f_check_goods [nD g] = .ok .none := by
  unfold f_check_goods g_check_goods
  refine runF_of rfl ?_
  exact congrArg SR.out (sIf_false (ρ := enter 1 1 [nD g]) (g1 := sRaise "OutOfRange" (cVar 0)) (g2 := sNext) (cNot_of (b := true) (cChainT_of (a := 1) (b := (g : Int)) (c := 6) rfl rfl rfl (by omega) (by omega))) rfl)
theorem check_bids_eq {g : Nat} {bs : List Bid} (ok : BsOk g bs) (h1 : 1 ≤ g) (h5 : g ≤ 5) : f_check_bids [bidsD bs, nD g] = .ok .none := by
  unfold f_check_bids g_check_bids
  refine runF_of rfl ?_
  have s1 : sExpr (cCallF f_check_goods (cCons (cVar 1) cNil)) (enter 5 2 [bidsD bs, nD g]) = .nx (enter 5 2 [bidsD bs, nD g]) := sExpr_of (cCallF1_of (d := nD g) rfl (check_goods_eq h1 (by omega)))
  have s2 : sIf (cNot (cChainT dLe dLe (cK (.int 1)) (cCall dLen (cCons (cVarB 0) cNil)) (cK (.int 12)))) (sRaise "BadBids" (cCall dLen (cCons (cVarB 0) cNil))) sNext (enter 5 2 [bidsD bs, nD g]) = .nx (enter 5 2 [bidsD bs, nD g]) :=
    sIf_false (cNot_of (b := true) (cChainT_of (a := 1) (b := (bs.length : Int)) (c := 12) rfl (len_bids rfl) rfl (by have := ok.one; omega) (by have := ok.few; omega))) rfl
  obtain ⟨ρ2, e, _⟩ := loopL_inv (P := fun ρ => ∃ x2 x3 x4, ρ = [some (.v (bidsD bs)), some (.v (nD g)), x2, x3, x4]) (tgt := gT (gC (gN 2) (gC (gT (gC (gN 3) (gC (gN 4) gE))) gE)))
    (body := sIf (cOr (cNot (cTest (cCallF f_is_bundle (cCons (cVar 3) (cCons (cVar 1) cNil))))) (cNot (cChainT dLe dLe (cK (.int 0)) (cVarB 4) (cK (.int 1000000))))) (sRaise "BadBid" (cVar 2)) sNext) (ds := enumL 0 (bs.map bidD)) (ρ := enter 5 2 [bidsD bs, nD g]) (fun d hd ρ ⟨x2, x3, x4, er⟩ => by
      obtain ⟨i, x, hx, hi, rfl⟩ := enum_mem hd
      obtain ⟨b, hb, rfl⟩ := List.mem_map.mp hx
      subst er
      refine ⟨[some (.v (bidsD bs)), some (.v (nD g)), some (.v (nD (0 + i))), some (.v (bsD b.1)), some (.v (nD b.2))], _, rfl, sIf_false (cOr_ff (cNot_of (b := true) (cTest_of (cCallF_of (ds := [bsD b.1, nD g]) rfl (is_bundle_eq (ok.bn b hb) h5)))) (cNot_of (b := true) (cChainT_of (a := 0) (b := (b.2 : Int)) (c := 1000000) rfl rfl rfl (by omega) (by have := ok.low b hb; omega)))) rfl, _, _, _, rfl⟩) ⟨none, none, none, rfl⟩
  exact congrArg SR.out (sSeq_nx s1 (sSeq_nx s2 (sFor_of (cIter1_of (d := bidsD bs) (e := enumL 0 (bs.map bidD)) rfl rfl) e)))
theorem word_in (m : Ms) : dNotIn (mD m) (.tuple [.str "worth", .str "each", .str "root"]) = some (.bool false) := by
  cases m <;> kernel_rfl
theorem check_all_eq {g : Nat} {bs : List Bid} (ok : BsOk g bs) (h1 : 1 ≤ g) (h5 : g ≤ 5) (m : Ms) : f_check_all [bidsD bs, nD g, mD m] = .ok .none := by
  unfold f_check_all g_check_all
  refine runF_of rfl ?_
  exact congrArg SR.out (sSeq_nx (sExpr_of (ρ := enter 3 3 [bidsD bs, nD g, mD m]) (cCallF_of (ds := [bidsD bs, nD g]) rfl (check_bids_eq ok h1 h5))) (sIf_false (cBinT_of (a := mD m) rfl rfl (word_in m)) rfl))
/-! ### weights -/
theorem wt_low {g : Nat} {bs : List Bid} (ok : BsOk g bs) (h5 : g ≤ 5) {m : Ms} {k : Nat} (hk : k < bs.length) : (wt m (bd bs k)).1 ≤ 1000000000000 ∧ (wt m (bd bs k)).2 ≤ 5 := by
  have h1 := ok.low _ (bd_mem hk)
  have h2 := (ok.bn _ (bd_mem hk)).len
  cases m
  · exact ⟨by show (bd bs k).2 ≤ _; omega, by show (1 : Nat) ≤ 5; omega⟩
  · exact ⟨by show (bd bs k).2 ≤ _; omega, by show (bd bs k).1.length ≤ 5; omega⟩
  · exact ⟨Nat.mul_le_mul h1 h1, by show (bd bs k).1.length ≤ 5; omega⟩
theorem weight_of_eq {b : Bid} (hb : b.2 ≤ 1000000) (m : Ms) : f_weight_of [bidD b, mD m] = .ok (.tuple [nD (wt m b).1, nD (wt m b).2]) := by
  unfold f_weight_of g_weight_of
  refine runF_of rfl ?_
  have s1 : sAsg (gT (gC (gN 2) (gC (gN 3) gE))) (cVar 0) (enter 4 2 [bidD b, mD m]) = .nx [some (.v (bidD b)), some (.v (mD m)), some (.v (bsD b.1)), some (.v (nD b.2))] := sAsg_of (d := bidD b) rfl rfl
  cases m with
  | worth =>
    refine (congrArg SR.out (sSeq_nx s1 (sSeq_rt (sIf_true (cBinT_of (a := .str "worth") (b := .str "worth") rfl rfl (by kernel_rfl)) (show sRet _ _ = .rt (.tuple [nD b.2, nD 1]) from ?_))))).trans rfl
    exact rfl
  | each =>
    refine (congrArg SR.out (sSeq_nx s1 (sSeq_nx (sIf_false (cBinT_of (a := .str "each") (b := .str "worth") rfl rfl (by kernel_rfl)) rfl) rfl))).trans (sRet_of (cIf_t (cBinT_of (a := .str "each") (b := .str "each") rfl rfl (by kernel_rfl)) (cTup2_of rfl (len_bs rfl))))
  | root =>
    refine (congrArg SR.out (sSeq_nx s1 (sSeq_nx (sIf_false (cBinT_of (a := .str "root") (b := .str "worth") rfl rfl (by kernel_rfl)) rfl) rfl))).trans (sRet_of (cIf_f (cBinT_of (a := .str "root") (b := .str "each") rfl rfl (by kernel_rfl)) (cTup2_of (cBin_of (a := nD b.2) (b := nD b.2) rfl rfl (mul_nat _ _ (Nat.lt_of_le_of_lt hb (by decide)) (Nat.lt_of_le_of_lt hb (by decide)))) (len_bs rfl))))
theorem big12 {a : Nat} (h : a ≤ 1000000000000) : a < 2 ^ 190 := Nat.lt_of_le_of_lt h (by decide)
theorem ah_val {f1 f2 f3 f4 : En → R D} {ρ : En} {a b c d : Nat} (h1 : f1 ρ = .ok (nD a)) (h2 : f2 ρ = .ok (nD b)) (h3 : f3 ρ = .ok (nD c)) (h4 : f4 ρ = .ok (nD d)) (l1 : a ≤ 1000000000000) (l2 : b ≤ 5) (l3 : c ≤ 1000000000000) (l4 : d ≤ 5) {f5 f6 : En → R D} {i j : Nat} (h5 : f5 ρ = .ok (nD i)) (h6 : f6 ρ = .ok (nD j)) :
    cOrV (cBin dGt (cBin dMul f1 f4) (cBin dMul f3 f2)) (cAndV (cBin dEq (cBin dMul f1 f4) (cBin dMul f3 f2)) (cBin dLt f5 f6)) ρ = .ok (.bool (decide (c * b < a * d) || (decide (a * d = c * b) && decide (i < j)))) := by
  have q1 : cBin dMul f1 f4 ρ = .ok (nD (a * d)) := cBin_of h1 h4 (mul_nat _ _ (big12 l1) (big12 (by omega)))
  have q2 : cBin dMul f3 f2 ρ = .ok (nD (c * b)) := cBin_of h3 h2 (mul_nat _ _ (big12 l3) (big12 (by omega)))
  exact cOrV_of (cBin_of q1 q2 (gt_nat _ _)) (cAndV_of (cBin_of q1 q2 (eq_nat _ _)) (cBin_of h5 h6 (lt_nat _ _)))
theorem is_ahead_eq {g : Nat} {bs : List Bid} (ok : BsOk g bs) (h5 : g ≤ 5) {m : Ms} {i j : Nat} (hi : i < bs.length) (hj : j < bs.length) : f_is_ahead [bidsD bs, mD m, nD i, nD j] = .ok (.bool (ah m bs i j)) := by
  unfold f_is_ahead g_is_ahead
  refine runF_of rfl ?_
  have s1 : sAsg (gT (gC (gN 4) (gC (gN 5) gE))) (cCallF f_weight_of (cCons (cBin dIx (cVarB 0) (cVar 2)) (cCons (cVar 1) cNil))) (enter 8 4 [bidsD bs, mD m, nD i, nD j]) = .nx [some (.v (bidsD bs)), some (.v (mD m)), some (.v (nD i)), some (.v (nD j)), some (.v (nD (wt m (bd bs i)).1)), some (.v (nD (wt m (bd bs i)).2)), none, none] :=
    sAsg_of (cCallF_of (ds := [bidD (bd bs i), mD m]) (cCons_of (ix_bid rfl rfl hi) rfl) (weight_of_eq (ok.low _ (bd_mem hi)) m)) rfl
  have s2 : sAsg (gT (gC (gN 6) (gC (gN 7) gE))) (cCallF f_weight_of (cCons (cBin dIx (cVarB 0) (cVar 3)) (cCons (cVar 1) cNil))) [some (.v (bidsD bs)), some (.v (mD m)), some (.v (nD i)), some (.v (nD j)), some (.v (nD (wt m (bd bs i)).1)), some (.v (nD (wt m (bd bs i)).2)), none, none] = .nx [some (.v (bidsD bs)), some (.v (mD m)), some (.v (nD i)), some (.v (nD j)), some (.v (nD (wt m (bd bs i)).1)), some (.v (nD (wt m (bd bs i)).2)), some (.v (nD (wt m (bd bs j)).1)), some (.v (nD (wt m (bd bs j)).2))] :=
    sAsg_of (cCallF_of (ds := [bidD (bd bs j), mD m]) (cCons_of (ix_bid rfl rfl hj) rfl) (weight_of_eq (ok.low _ (bd_mem hj)) m)) rfl
  have l1 := wt_low ok h5 (m := m) hi
  have l2 := wt_low ok h5 (m := m) hj
  refine (congrArg SR.out (sSeq_nx s1 (sSeq_nx s2 rfl))).trans (sRet_of ?_)
  exact ah_val rfl rfl rfl rfl l1.1 l1.2 l2.1 l2.2 rfl rfl
end K06

namespace K06
open PySem PySem.Spec PyProof.Rows L2 G
theorem sRet_rt {f : En → R D} {ρ : En} {d : D} (h : f (disown ρ) = .ok d) : sRet f ρ = .rt d := by
  unfold sRet
  rw [h]
  rfl
theorem sz {n : Nat} (h : n ≤ 1000000) : n ≤ sizeLine := Nat.le_trans h (by unfold sizeLine; omega)
/-! ### the order of turns -/
abbrev odE (bs : List Bid) (m : Ms) (f : List Nat) (x3 x4 : Option Sl) : En := [some (.v (bidsD bs)), some (.v (mD m)), some (.v (lsD f)), x3, x4, none]
abbrev od_n : En → R D := cCall dLen (cCons (cLc [5] (cItems (cVar 2)) (gN 5) (cTest (cCallF f_is_ahead (cCons (cVar 0) (cCons (cVar 1) (cCons (cVar 5) (cCons (cVar 3) cNil)))))) (cVar 5)) cNil)
abbrev od_l : En → R D := cList (cStar (cSlice (cVar 2) cPartN (cPart (cVar 4))) (cCons (cVar 3) (cStar (cSlice (cVar 2) (cPart (cVar 4)) cPartN) cNil)))
section
variable {g : Nat} {m : Ms} {bs : List Bid}
theorem od_step (ok : BsOk g bs) (h5 : g ≤ 5) {f : List Nat} (hf : ∀ o ∈ f, o < bs.length) (hl : f.length ≤ 100) {k : Nat} (hk : k < bs.length) (x4 : Option Sl) :
    sSeq (sSet 4 od_n) (sSet 2 od_l) (odE bs m f (some (.v (nD k))) x4) = .nx (odE bs m (ordStep m bs f k) (some (.v (nD k))) (some (.v (nD (f.filter fun o => ah m bs o k).length)))) := by
  have e := lcL_gen (tgt := gN 5) (p := cTest (cCallF f_is_ahead (cCons (cVar 0) (cCons (cVar 1) (cCons (cVar 5) (cCons (cVar 3) cNil)))))) (f := cVar 5) (ρ := odE bs m f (some (.v (nD k))) x4) (enc := nD)
    (fun o => [some (.v (bidsD bs)), some (.v (mD m)), some (.v (lsD f)), some (.v (nD k)), x4, some (.v (nD o))]) (fun o => ah m bs o k) nD (xs := f) fun o ho => ⟨rfl, cTest_of (cCallF_of (ds := [bidsD bs, mD m, nD o, nD k]) rfl (is_ahead_eq ok h5 (hf o ho) hk)), fun _ => rfl⟩
  have q1 : cLc [5] (cItems (cVar 2)) (gN 5) (cTest (cCallF f_is_ahead (cCons (cVar 0) (cCons (cVar 1) (cCons (cVar 5) (cCons (cVar 3) cNil)))))) (cVar 5) (odE bs m f (some (.v (nD k))) x4) = .ok (lsD (f.filter fun o => ah m bs o k)) :=
    cLc_of (vs := [5]) (ρ := odE bs m f (some (.v (nD k))) x4) (cItems_of (ds := f.map nD) rfl) e (by rw [List.length_map]; exact sz (Nat.le_trans (List.length_filter_le _ _) (by omega)))
  have s1 := (sSet_of (i := 4) (ρ := odE bs m f (some (.v (nD k))) x4) (f := od_n) (len_ls q1)).trans (show _ = SR.nx (odE bs m f (some (.v (nD k))) (some (.v (nD (f.filter fun o => ah m bs o k).length)))) from rfl)
  refine sSeq_nx s1 ?_
  have q2 : od_l (odE bs m f (some (.v (nD k))) (some (.v (nD (f.filter fun o => ah m bs o k).length)))) = .ok (lsD (ordStep m bs f k)) := by
    refine (cList_of' (cStarL_of (cSlice_to (xs := f.map nD) rfl rfl) (cCons_of (d := nD k) rfl (cStarL_of (cSlice_from (xs := f.map nD) rfl rfl) rfl))) ?_).trans ?_
    · rw [List.length_append, List.length_cons, List.length_append, List.length_take, List.length_drop, List.length_map]
      simp
      omega
    · unfold ordStep
      rw [List.append_nil, lsD, List.map_append, List.map_cons, List.map_take, List.map_drop]
  exact (sSet_of (i := 2) (f := od_l) q2).trans rfl
theorem ordStep_len (f : List Nat) (k : Nat) : (ordStep m bs f k).length = f.length + 1 := by
  rw [(ordStep_perm f k).length_eq, List.length_cons]
theorem order_of_eq (ok : BsOk g bs) (h5 : g ≤ 5) : f_order_of [bidsD bs, mD m] = .ok (lsD (ord m bs)) := by
  unfold f_order_of g_order_of
  refine runF_of rfl ?_
  have s1 := (sSet_of (i := 2) (ρ := enter 6 2 [bidsD bs, mD m]) (f := cList cNil) (d := lsD []) rfl).trans (show _ = SR.nx (odE bs m [] none none) from rfl)
  obtain ⟨ρ2, e, ⟨⟨x3, x4, rfl⟩, _⟩⟩ := loopL_foldI (P := fun i f ρ => (∃ x3 x4, ρ = odE bs m f x3 x4) ∧ f.length = i ∧ ∀ o ∈ f, o < bs.length) (tgt := gN 3) (body := sSeq (sSet 4 od_n) (sSet 2 od_l)) (enc := nD) (stp := ordStep m bs) 100 (xs := List.range bs.length) (i := 0) (st := []) (ρ := odE bs m [] none none)
    (fun k hk i hi f ρ ⟨⟨x3, x4, er⟩, hl, hf⟩ => by
      subst er
      have hk := List.mem_range.mp hk
      refine ⟨odE bs m f (some (.v (nD k))) x4, _, rfl, od_step ok h5 hf (by omega) hk x4, ⟨_, _, rfl⟩, by rw [ordStep_len, hl], fun o ho => ?_⟩
      rcases List.mem_cons.mp ((ordStep_perm f k).mem_iff.mp ho) with e | e
      · rw [e]; exact hk
      · exact hf o e) (by rw [List.length_range]; have := ok.few; omega) ⟨⟨none, none, rfl⟩, rfl, fun o ho => by cases ho⟩
  have s2 : sFor (gN 3) (cIter dRange1 (cCons (cCall dLen (cCons (cVarB 0) cNil)) cNil)) (sSeq (sSet 4 od_n) (sSet 2 od_l)) (odE bs m [] none none) = .nx (odE bs m (ord m bs) x3 x4) :=
    sFor_of (cIter1_of (len_bids rfl) (dRange1_nat (by have := ok.few; omega))) e
  exact (congrArg SR.out (sSeq_nx s1 (sSeq_nx s2 rfl))).trans (sRet_of rfl)
/-! ### who wins -/
theorem sSetD_of {i : Nat} {fi f : En → R D} {ρ : En} {t : Bool} {ds q : List (D × D)} {d k : D} (ho : ownD ρ i = some (t, ds)) (h1 : f ρ = .ok d) (h2 : fi ρ = .ok k) (h3 : dPut t ds k d = some q) : sSetD i fi f ρ = .nx (ρ.set i (some (.own t (.dict q)))) := by
  unfold sSetD
  rw [ho]
  show SR.of ((f ρ).bind _) ρ _ = _
  rw [h1]
  simp only [R.bind, h2, h3, ofO]
  rfl
theorem ld_put {L : List Nat} {x : Nat} (h : x ∉ L) (hl : L.length ≤ 1000) : dPut false (ldR L) (nD x) (.bool true) = some (ldR (L ++ [x])) := by
  have e : dPut false (ldR L) (nD x) (.bool true) = if (ldR L).length < sizeLine then some (putD (isK (.inl (x : Int))) (nD x) (.bool true) (ldR L)) else none := rfl
  rw [e, if_pos (by rw [List.length_map]; unfold sizeLine; omega)]
  unfold putD
  rw [if_neg, ldR, ldR, List.map_append]
  · rfl
  · rw [List.any_eq_true]
    rintro ⟨r, hr, hx⟩
    obtain ⟨y, hy, rfl⟩ := List.mem_map.mp hr
    have e2 : keyD (nD y) = some (.inl (x : Int)) := of_decide_eq_true hx
    have e3 : (Sum.inl (y : Int) : Key) = .inl (x : Int) := Option.some.inj e2
    have e4 := Sum.inl.inj e3
    exact h (by rw [← show y = x by omega]; exact hy)
abbrev woE (bs : List Bid) (m : Ms) (L f : List Nat) (x4 x5 : Option Sl) : En := [some (.v (bidsD bs)), some (.v (mD m)), some (.own false (ldD L)), some (.own false (lsD f)), x4, x5]
abbrev wo_p : En → SR := sSetD 2 (cVar 5) (cK (.bool true))
theorem put_loop (f : List Nat) (x4 : Option Sl) : ∀ (B L : List Nat) (x5 : Option Sl), (∀ x ∈ B, x ∉ L) → B.Nodup → L.length + B.length ≤ 1000 → ∃ y5, loopL (gN 5) wo_p (B.map nD) (woE bs m L f x4 x5) = .nx (woE bs m (L ++ B) f x4 y5)
  | [], L, x5, _, _, _ => ⟨x5, by rw [List.append_nil]; rfl⟩
  | x :: B, L, x5, h, nd, hl => by
    obtain ⟨n1, n2⟩ := List.nodup_cons.mp nd
    rw [List.length_cons] at hl
    obtain ⟨y5, e⟩ := put_loop f x4 B (L ++ [x]) (some (.v (nD x))) (fun y hy hm => by
      rcases List.mem_append.mp hm with hm | hm
      · exact h y (List.mem_cons_of_mem _ hy) hm
      · cases List.mem_singleton.mp hm; exact n1 hy) n2 (by rw [List.length_append]; simp; omega)
    rw [List.append_assoc] at e
    exact ⟨y5, loopL_nx (ρ1 := woE bs m L f x4 (some (.v (nD x)))) rfl ((sSetD_of (t := false) (ds := ldR L) rfl (d := .bool true) rfl (k := nD x) rfl (ld_put (h x List.mem_cons_self) (by omega))).trans rfl) e⟩
def wstep (B : Nat → List Nat) (s : List Nat × List Nat) (k : Nat) : List Nat × List Nat := if free (B k) s.1 = true then (s.1 ++ B k, s.2 ++ [k]) else s
theorem fold_wn (B : Nat → List Nat) : ∀ (r L f : List Nat), r.foldl (wstep B) (L, f) = (L ++ (wn B r L).flatMap B, f ++ wn B r L)
  | [], L, f => by simp [wn]
  | k :: r, L, f => by
    rw [List.foldl_cons, wn_cons, show wstep B (L, f) k = if free (B k) L = true then (L ++ B k, f ++ [k]) else (L, f) from rfl]
    split
    · rw [fold_wn B r, List.flatMap_cons, List.append_assoc, List.append_assoc]; rfl
    · exact fold_wn B r L f
abbrev wo_c : En → R Bool := cNot (cTest (cCall dAny (cCons (cLc [5] (cItems (cBin dIx (cBin dIx (cVarB 0) (cVar 4)) (cK (.int 0)))) (gN 5) cTrue (cBin dIn (cVar 5) (cVarB 2))) cNil)))
abbrev wo_b : En → SR := sIf wo_c (sSeq (sAppend 3 (cVar 4))
    (sFor (gN 5) (cItems (cBin dIx (cBin dIx (cVarB 0) (cVar 4)) (cK (.int 0)))) wo_p)) sNext
theorem Bof_few (ok : BsOk g bs) (h5 : g ≤ 5) {k : Nat} (hk : k < bs.length) : (Bof bs k).length ≤ 5 := Nat.le_trans (ok.bn _ (bd_mem hk)).len h5
theorem wo_test (ok : BsOk g bs) (h5 : g ≤ 5) {L f : List Nat} {k : Nat} (hk : k < bs.length) (x5 : Option Sl) : wo_c (woE bs m L f (some (.v (nD k))) x5) = .ok (free (Bof bs k) L) := by
  have e := lcL_map (tgt := gN 5) (f := cBin dIn (cVar 5) (cVarB 2)) (ρ := woE bs m L f (some (.v (nD k))) none) (enc := nD) (fun o => woE bs m L f (some (.v (nD k))) (some (.v (nD o)))) (fun o => .bool (L.contains o)) (xs := Bof bs k) fun o ho => ⟨rfl, cBin_of (a := nD o) (b := ldD L) rfl rfl (dIn_of (in_ld o L))⟩
  have hb := Bof_few ok h5 hk
  rw [free_any]
  exact cNot_of (cTest_of (cCall1_of (cLc_of (vs := [5]) (ρ := woE bs m L f (some (.v (nD k))) x5) (cItemsT_of (ds := (Bof bs k).map nD) (ix_goods (ix_bid rfl rfl hk))) e (by rw [List.length_map]; exact sz (by omega))) (any_of _ _)))
theorem wo_step (ok : BsOk g bs) (h5 : g ≤ 5) {L f : List Nat} {k : Nat} (hk : k < bs.length) (hL : L.length ≤ 900) (hf : f.length ≤ 1000) (x5 : Option Sl) : ∃ y5, wo_b (woE bs m L f (some (.v (nD k))) x5) = .nx (woE bs m (wstep (Bof bs) (L, f) k).1 (wstep (Bof bs) (L, f) k).2 (some (.v (nD k))) y5) := by
  have t := wo_test (m := m) (f := f) (L := L) ok h5 hk x5
  cases hc : free (Bof bs k) L with
  | false =>
    rw [hc] at t
    refine ⟨x5, (sIf_false t rfl).trans ?_⟩
    rw [show wstep (Bof bs) (L, f) k = if free (Bof bs k) L = true then (L ++ Bof bs k, f ++ [k]) else (L, f) from rfl, if_neg (by rw [hc]; decide)]
    rfl
  | true =>
    rw [hc] at t
    have fr := free_iff.mp hc
    have hb := Bof_few ok h5 hk
    obtain ⟨y5, e⟩ := put_loop (m := m) (bs := bs) (f ++ [k]) (some (.v (nD k))) (Bof bs k) L x5 fr (ok.bn _ (bd_mem hk)).nodup (by omega)
    refine ⟨y5, (sIf_true t (sSeq_nx ((sAppend_of (i := 3) (t := false) (ds := f.map nD) (d := nD k) rfl rfl (by rw [List.length_map]; unfold sizeLine; omega)).trans (show _ = SR.nx (woE bs m L (f ++ [k]) (some (.v (nD k))) x5) from ?_)) (sFor_of (cItemsT_of (ds := (Bof bs k).map nD) (ix_goods (ix_bid rfl rfl hk))) e))).trans ?_⟩
    · show SR.nx _ = _
      unfold woE lsD
      rw [List.map_append]
      rfl
    · rw [show wstep (Bof bs) (L, f) k = if free (Bof bs k) L = true then (L ++ Bof bs k, f ++ [k]) else (L, f) from rfl, if_pos hc]
theorem srtN_self {l : List Nat} (h : l.Pairwise (· ≤ ·)) : srtN l = l := by
  have e : l.map (fun n : Nat => (n : Int)) = srtI (l.map fun n : Nat => (n : Int)) := srtI_eq (.refl _) (List.Pairwise.map _ (fun a b h => by omega) h)
  unfold srtN
  rw [← e, List.map_map]
  rw [List.map_congr_left (g := id) fun x _ => by simp]
  simp
theorem sorted_ls (l : List Nat) : dSorted [lsD l] = some (lsD (srtN l)) := by
  show (intsOf (l.map nD)).map _ = _
  rw [show l.map nD = l.map fun n : Nat => PyData.int ((fun n : Nat => (n : Int)) n) from rfl, intsOf_int, Option.map_some, srtN_int, List.map_map]
  rfl
theorem wonL_srt (ok : BsOk g bs) : srtN (wset m bs) = wonL m bs := by
  rw [srtN_eq (wonL_perm ok).symm, srtN_self]
  exact ((range_up _).filter _).imp fun h => Nat.le_of_lt h
theorem L_few (ok : BsOk g bs) (h5 : g ≤ 5) {L : List Nat} (nd : L.Nodup) (h : ∀ x ∈ L, x < g) : L.length ≤ 900 := by
  have := nodup_len nd h
  omega
theorem won_eq (ok : BsOk g bs) (h5 : g ≤ 5) : f_won [bidsD bs, mD m] = .ok (lsD (wonL m bs)) := by
  unfold f_won g_won
  refine runF_of rfl ?_
  have s1 := (sSetN_of (i := 2) (t := false) (ρ := enter 6 2 [bidsD bs, mD m]) (f := cK (.dict [])) rfl).trans (show _ = SR.nx [some (.v (bidsD bs)), some (.v (mD m)), some (.own false (ldD [])), none, none, none] from rfl)
  have s2 := (sSetN_of (i := 3) (t := false) (ρ := [some (.v (bidsD bs)), some (.v (mD m)), some (.own false (ldD [])), none, none, none]) (f := cList cNil) (d := lsD []) rfl).trans (show _ = SR.nx (woE bs m [] [] none none) from rfl)
  obtain ⟨ρ2, e, ⟨x4, x5, er⟩, _⟩ := loopL_foldI (P := fun i s ρ => (∃ x4 x5, ρ = woE bs m s.1 s.2 x4 x5) ∧ s.1.Nodup ∧ (∀ x ∈ s.1, x < g) ∧ s.2.length ≤ i) (tgt := gN 4) (body := wo_b) (enc := nD) (stp := wstep (Bof bs)) 100 (xs := ord m bs) (i := 0) (st := ([], [])) (ρ := woE bs m [] [] none none)
    (fun k hk i hi s ρ ⟨⟨x4, x5, er⟩, nd, lt, hl⟩ => by
      subst er
      have hk := (ord_mem ok).mp hk
      obtain ⟨y5, e⟩ := wo_step (m := m) (L := s.1) (f := s.2) ok h5 hk (L_few ok h5 nd lt) (by omega) x5
      refine ⟨woE bs m s.1 s.2 (some (.v (nD k))) x5, _, rfl, e, ⟨_, _, rfl⟩, ?_⟩
      have hb := ok.bn _ (bd_mem hk)
      rw [show wstep (Bof bs) s k = if free (Bof bs k) s.1 = true then (s.1 ++ Bof bs k, s.2 ++ [k]) else s from rfl]
      split
      · rename_i hf
        refine ⟨List.nodup_append.mpr ⟨nd, hb.nodup, fun a ha b hb2 e => free_iff.mp hf b hb2 (by rw [← e]; exact ha)⟩, fun x hx => ?_, by rw [List.length_append]; simp; omega⟩
        rcases List.mem_append.mp hx with hx | hx
        · exact lt x hx
        · exact hb.lt x hx
      · exact ⟨nd, lt, by omega⟩) (by rw [(ord_perm ok).length_eq, List.length_range]; have := ok.few; omega) ⟨⟨none, none, rfl⟩, .nil, (fun x (hx : x ∈ ([] : List Nat)) => absurd hx List.not_mem_nil), Nat.le_refl _⟩
  rw [fold_wn, List.nil_append, List.nil_append] at er
  change ρ2 = woE bs m _ (wset m bs) x4 x5 at er
  subst er
  have s3 := sFor_of (cItems_of (f := cCallF f_order_of (cCons (cVar 0) (cCons (cVar 1) cNil))) (ρ := woE bs m [] [] none none) (cCallF_of (ds := [bidsD bs, mD m]) rfl (order_of_eq ok h5))) e
  refine (congrArg SR.out (sSeq_nx s1 (sSeq_nx s2 (sSeq_nx s3 rfl)))).trans (sRet_of (cCall1_of (d := lsD (wset m bs)) rfl ?_))
  rw [sorted_ls, wonL_srt ok]
theorem winners_eq (ok : BsOk g bs) (h1 : 1 ≤ g) (h5 : g ≤ 5) : f_winners [bidsD bs, nD g, mD m] = .ok (lsD (wonL m bs)) := by
  unfold f_winners g_winners
  refine runF_of rfl ?_
  exact (congrArg SR.out (sSeq_nx (sExpr_of (ρ := enter 3 3 [bidsD bs, nD g, mD m]) (cCallF_of (ds := [bidsD bs, nD g, mD m]) rfl (check_all_eq ok h1 h5 m))) rfl)).trans (sRet_of (cCallF_of (ds := [bidsD bs, mD m]) rfl (won_eq ok h5)))
theorem wonL_has {k : Nat} (hk : k < bs.length) : (wonL m bs).contains k = wins m bs k := by
  rw [Bool.eq_iff_iff, List.contains_iff_mem]
  unfold wonL
  rw [List.mem_filter, List.mem_range]
  exact ⟨fun h => h.2, fun h => ⟨hk, h⟩⟩
theorem set_cut {k : Nat} (hk : k < bs.length) (b : Bid) : (bs.map bidD).take k ++ bidD b :: (bs.map bidD).drop (k + 1) = (bs.set k b).map bidD := by
  rw [List.set_eq_take_append_cons_drop, if_pos hk, List.map_append, List.map_cons, List.map_take, List.map_drop]
theorem wins_with_eq (ok : BsOk g bs) (h5 : g ≤ 5) {k : Nat} (hk : k < bs.length) {w : Nat} (hw : w ≤ 1000000) : f_wins_with [bidsD bs, mD m, nD k, nD w] = .ok (.bool (wi m bs k (bd bs k).1 w)) := by
  have ok' : BsOk g (bs.set k ((bd bs k).1, w)) := ok.set k (b := ((bd bs k).1, w)) (show Bn g (bd bs k).1 from ok.bn _ (bd_mem hk)) hw
  unfold f_wins_with g_wins_with
  refine runF_of rfl ((sRet_of (ρ := enter 4 4 [bidsD bs, mD m, nD k, nD w]) ?_))
  refine cBin_of (a := nD k) (b := lsD (wonL m (bs.set k ((bd bs k).1, w)))) rfl (cCallF_of (ds := [bidsD (bs.set k ((bd bs k).1, w)), mD m]) (cCons_of ?_ rfl) (won_eq ok' h5)) (dIn_of ?_)
  · refine (cList_of' (cStarL_of (cSlice_to (xs := bs.map bidD) rfl rfl) (cCons_of (d := bidD ((bd bs k).1, w)) (cTup2_of (a := bsD (bd bs k).1) (b := nD w) (ix_goods (b := bd bs k) (ix_bid rfl rfl hk)) rfl) (cStarL_of (cSlice_from (xs := bs.map bidD) (k := k + 1) rfl (cBin_of (a := nD k) (b := .int 1) rfl rfl rfl)) rfl))) ?_).trans ?_
    · rw [List.append_nil, set_cut hk, List.length_map, List.length_set]
      have := ok.few
      omega
    · rw [List.append_nil, set_cut hk]
  · rw [in_ls, wonL_has (by rw [List.length_set]; exact hk)]
    rfl
/-! ### the least winning worth, halving -/
abbrev lfE (bs : List Bid) (m : Ms) (k : Nat) (lo : Int) (hi : Nat) (x5 : Option Sl) : En := [some (.v (bidsD bs)), some (.v (mD m)), some (.v (nD k)), some (.v (.int lo)), some (.v (nD hi)), x5]
abbrev lf_c : En → R Bool := cBinT dGt (cBin dSub (cVarB 4) (cVarB 3)) (cK (.int 1))
abbrev lf_b : En → SR := sSeq (sSet 5 (cBin dDiv (cBin dAdd (cVar 3) (cVar 4)) (cK (.int 2))))
    (sIf (cTest (cCallF f_wins_with (cCons (cVar 0) (cCons (cVar 1) (cCons (cVar 2) (cCons (cVar 5) cNil))))))
    (sSet 4 (cVar 5))
    (sSet 3 (cVar 5)))
theorem lf_loop (ok : BsOk g bs) (h5 : g ≤ 5) {k : Nat} (hk : k < bs.length) : ∀ (n : Nat) (lo : Int) (hi : Nat) (x5 : Option Sl), -1 ≤ lo → lo < hi → hi ≤ 1000000 → (hi : Int) - lo ≤ 2 ^ n → wi m bs k (bd bs k).1 hi = true → (∀ w : Nat, (w : Int) ≤ lo → wi m bs k (bd bs k).1 w = false) →
    ∃ lo' x' L, whileL lf_c lf_b (n + 1) (lfE bs m k lo hi x5) = .nx (lfE bs m k lo' L x') ∧ wi m bs k (bd bs k).1 L = true ∧ ∀ w, w < L → wi m bs k (bd bs k).1 w = false
  | n, lo, hi, x5, h1, h2, h3, h4, h6, h7 => by
    by_cases hd : (hi : Int) - lo ≤ 1
    · refine ⟨lo, x5, hi, whileL_stop (cBinT_of (cBin_of (a := nD hi) (b := .int lo) (e := .int ((hi : Int) - lo)) rfl rfl rfl) rfl ?_), h6, fun w hw => h7 w (by omega)⟩
      show some (PyData.bool (decide (1 < (hi : Int) - lo))) = _
      rw [decide_eq_false (by omega)]
    · cases n with
      | zero => exact absurd (by simpa using h4) hd
      | succ n =>
        have hc : lf_c (lfE bs m k lo hi x5) = .ok true := by
          refine cBinT_of (cBin_of (a := nD hi) (b := .int lo) (e := .int ((hi : Int) - lo)) rfl rfl rfl) rfl ?_
          show some (PyData.bool (decide (1 < (hi : Int) - lo))) = _
          rw [decide_eq_true (by omega)]
        obtain ⟨M, hM⟩ : ∃ M : Nat, (lo + hi) / 2 = (M : Int) := ⟨((lo + hi) / 2).toNat, by omega⟩
        have e2 : (2 : Int) ^ (n + 1) = 2 ^ n * 2 := Int.pow_succ 2 n
        rw [e2] at h4
        have s1 := (sSet_of (i := 5) (ρ := lfE bs m k lo hi x5) (f := cBin dDiv (cBin dAdd (cVar 3) (cVar 4)) (cK (.int 2))) (d := nD M) (cBin_of (a := .int (lo + hi)) (b := .int 2) (cBin_of (a := .int lo) (b := nD hi) rfl rfl rfl) rfl (by rw [dDiv_pos _ (by omega) (by decide), hM]))).trans (show _ = SR.nx (lfE bs m k lo hi (some (.v (nD M)))) from rfl)
        have t : cTest (cCallF f_wins_with (cCons (cVar 0) (cCons (cVar 1) (cCons (cVar 2) (cCons (cVar 5) cNil))))) (lfE bs m k lo hi (some (.v (nD M)))) = .ok (wi m bs k (bd bs k).1 M) := cTest_of (cCallF_of (ds := [bidsD bs, mD m, nD k, nD M]) rfl (wins_with_eq ok h5 hk (by omega)))
        cases hp : wi m bs k (bd bs k).1 M with
        | true =>
          rw [hp] at t
          obtain ⟨lo', x', L, e, r⟩ := lf_loop ok h5 hk n lo M (some (.v (nD M))) h1 (by omega) (by omega) (by omega) hp h7
          exact ⟨lo', x', L, (whileL_step hc (sSeq_nx s1 (sIf_true t ((sSet_of (i := 4) (f := cVar 5) (d := nD M) rfl).trans rfl)))).trans e, r⟩
        | false =>
          rw [hp] at t
          obtain ⟨lo', x', L, e, r⟩ := lf_loop ok h5 hk n (M : Int) hi (some (.v (nD M))) (by omega) (by omega) h3 (by omega) h6 fun w hw => by
            cases hq : wi m bs k (bd bs k).1 w with
            | false => rfl
            | true =>
              have hB := ok.bn _ (bd_mem hk)
              rw [wi_mono ok hk hB hB (fun x h => h) (by omega : w ≤ M) (by omega) hq] at hp
              cases hp
          exact ⟨lo', x', L, (whileL_step hc (sSeq_nx s1 (sIf_false t ((sSet_of (i := 3) (f := cVar 5) (d := nD M) rfl).trans rfl)))).trans e, r⟩
theorem least_uniq {p : Nat → Bool} {a b : Nat} (h1 : p a = true) (h2 : ∀ w, w < a → p w = false) (h3 : p b = true) (h4 : ∀ w, w < b → p w = false) : a = b := by
  refine Nat.le_antisymm (Nat.le_of_not_lt fun h => ?_) (Nat.le_of_not_lt fun h => ?_)
  · rw [h2 b h] at h3; cases h3
  · rw [h4 a h] at h1; cases h1
theorem least_for_eq (ok : BsOk g bs) (h5 : g ≤ 5) {k : Nat} (hk : k < bs.length) (hv : ∀ j, j < bs.length → j ≠ k → (bd bs j).2 ≤ 50) : f_least_for [bidsD bs, mD m, nD k] = .ok (nD (least m bs k (bd bs k).1)) := by
  have hB := ok.bn _ (bd_mem hk)
  have top := wi_top (m := m) ok h5 hk hv hB (w := 1000000) (by omega) (Nat.le_refl _)
  unfold f_least_for g_least_for
  refine runF_of rfl ?_
  have s1 : sIf (cNot (cTest (cCallF f_wins_with (cCons (cVar 0) (cCons (cVar 1) (cCons (cVar 2) (cCons (cK (.int 1000000)) cNil))))))) (sRet (cK .none)) sNext (enter 6 3 [bidsD bs, mD m, nD k]) = .nx (enter 6 3 [bidsD bs, mD m, nD k]) :=
    sIf_false (cNot_of (b := true) (cTest_of (cCallF_of (ds := [bidsD bs, mD m, nD k, nD 1000000]) rfl (by rw [wins_with_eq ok h5 hk (Nat.le_refl _), top])))) rfl
  have s2 := (sPar_of (i := 3) (j := 4) (ρ := enter 6 3 [bidsD bs, mD m, nD k]) (l := cCons (cUn dNeg (cK (.int 1))) (cCons (cK (.int 1000000)) cNil)) (d := .int (-1)) (e := .int 1000000) rfl).trans (show _ = SR.nx (lfE bs m k (-1) 1000000 none) from rfl)
  obtain ⟨lo', x', L, e, h1, h2⟩ := lf_loop (m := m) ok h5 hk 99 (-1) 1000000 none (by omega) (by omega) (Nat.le_refl _) (by decide) top fun w hw => by omega
  have sp := least_spec (m := m) ok h5 hk hv hB
  have eL : L = least m bs k (bd bs k).1 := least_uniq h1 h2 sp.2.1 sp.2.2.2
  subst eL
  exact (congrArg SR.out (sSeq_nx s1 (sSeq_nx s2 (sSeq_nx (sWhile_of e) rfl)))).trans (sRet_of rfl)
theorem least_winning_eq (ok : BsOk g bs) (h1 : 1 ≤ g) (h5 : g ≤ 5) {k : Nat} (hk : k < bs.length) (hv : ∀ j, j < bs.length → j ≠ k → (bd bs j).2 ≤ 50) : f_least_winning [bidsD bs, nD g, mD m, nD k] = .ok (nD (least m bs k (bd bs k).1)) := by
  unfold f_least_winning g_least_winning
  refine runF_of rfl ?_
  have s1 : sExpr (cCallF f_check_all (cCons (cVar 0) (cCons (cVar 1) (cCons (cVar 2) cNil)))) (enter 4 4 [bidsD bs, nD g, mD m, nD k]) = .nx (enter 4 4 [bidsD bs, nD g, mD m, nD k]) := sExpr_of (cCallF_of (ds := [bidsD bs, nD g, mD m]) rfl (check_all_eq ok h1 h5 m))
  have s2 : sIf (cNot (cChainT dLe dLt (cK (.int 0)) (cVarB 3) (cCall dLen (cCons (cVarB 0) cNil)))) (sRaise "BadBidder" (cVar 3)) sNext (enter 4 4 [bidsD bs, nD g, mD m, nD k]) = .nx (enter 4 4 [bidsD bs, nD g, mD m, nD k]) :=
    sIf_false (cNot_of (b := true) (cChainT_lt (a := 0) (b := (k : Int)) (c := (bs.length : Int)) rfl rfl (len_bids rfl) (by omega) (by omega))) rfl
  exact (congrArg SR.out (sSeq_nx s1 (sSeq_nx s2 rfl))).trans (sRet_of (cCallF_of (ds := [bidsD bs, mD m, nD k]) rfl (least_for_eq ok h5 hk hv)))
def dues (m : Ms) (bs : List Bid) : List Nat := (List.range bs.length).map fun k => if wins m bs k = true then least m bs k (bd bs k).1 else 0
theorem paid_eq (ok : BsOk g bs) (h1 : 1 ≤ g) (h5 : g ≤ 5) (hv : ∀ b ∈ bs, b.2 ≤ 50) : f_paid [bidsD bs, nD g, mD m] = .ok (lsD (dues m bs)) := by
  unfold f_paid g_paid
  refine runF_of rfl ?_
  have s1 : sExpr (cCallF f_check_all (cCons (cVar 0) (cCons (cVar 1) (cCons (cVar 2) cNil)))) (enter 5 3 [bidsD bs, nD g, mD m]) = .nx (enter 5 3 [bidsD bs, nD g, mD m]) := sExpr_of (cCallF_of (ds := [bidsD bs, nD g, mD m]) rfl (check_all_eq ok h1 h5 m))
  have s2 := (sSet_of (i := 3) (ρ := enter 5 3 [bidsD bs, nD g, mD m]) (f := cCallF f_won (cCons (cVar 0) (cCons (cVar 2) cNil))) (cCallF_of (ds := [bidsD bs, mD m]) rfl (won_eq (m := m) ok h5))).trans (show _ = SR.nx [some (.v (bidsD bs)), some (.v (nD g)), some (.v (mD m)), some (.v (lsD (wonL m bs))), none] from rfl)
  have e := lcL_map (tgt := gN 4) (f := cIf (cBinT dIn (cVar 4) (cVarB 3)) (cCallF f_least_for (cCons (cVar 0) (cCons (cVar 2) (cCons (cVar 4) cNil)))) (cK (.int 0))) (ρ := [some (.v (bidsD bs)), some (.v (nD g)), some (.v (mD m)), some (.v (lsD (wonL m bs))), none]) (enc := nD)
    (fun k => [some (.v (bidsD bs)), some (.v (nD g)), some (.v (mD m)), some (.v (lsD (wonL m bs))), some (.v (nD k))]) (fun k => nD (if wins m bs k = true then least m bs k (bd bs k).1 else 0)) (xs := List.range bs.length) fun k hk => ⟨rfl, by
      have hk := List.mem_range.mp hk
      have t : cBinT dIn (cVar 4) (cVarB 3) [some (.v (bidsD bs)), some (.v (nD g)), some (.v (mD m)), some (.v (lsD (wonL m bs))), some (.v (nD k))] = .ok (wins m bs k) := inT_of (x := nD k) (y := lsD (wonL m bs)) rfl rfl (by rw [in_ls, wonL_has hk])
      by_cases hw : wins m bs k = true
      · rw [hw] at t
        rw [if_pos hw]
        exact cIf_t t (cCallF_of (ds := [bidsD bs, mD m, nD k]) rfl (least_for_eq ok h5 hk fun j hj _ => hv _ (bd_mem hj)))
      · rw [Bool.not_eq_true] at hw
        rw [hw] at t
        rw [if_neg (by rw [hw]; decide)]
        exact cIf_f t rfl⟩
  have q := cLc_of (vs := [4]) (ρ := disown [some (.v (bidsD bs)), some (.v (nD g)), some (.v (mD m)), some (.v (lsD (wonL m bs))), none]) (l := cIter dRange1 (cCons (cCall dLen (cCons (cVarB 0) cNil)) cNil)) (cIter1_of (len_bids rfl) (dRange1_nat (by have := ok.few; omega))) e (by rw [List.length_map, List.length_range]; exact sz (by have := ok.few; omega))
  refine (congrArg SR.out (sSeq_nx s1 (sSeq_nx s2 rfl))).trans (sRet_of (q.trans ?_))
  unfold dues lsD
  rw [List.map_map]
  rfl
end
end K06

namespace K06
open PySem PySem.Spec PyProof.Rows L2 G
/-! ### best_sum: the dict as data -/
abbrev dctR (d : Dct) : List (D × D) := d.map fun r => (bsD r.1, nD r.2)
abbrev dctD (d : Dct) : D := .dict (dctR d)
def keyN (k : List Nat) : List Key := k.map fun n : Nat => (.inl (n : Int) : Key)
theorem keyN_kD (k : List Nat) : (keyN k).map kD = k.map nD := by
  unfold keyN
  rw [List.map_map]
  rfl
theorem keyN_keys (k : List Nat) : keysD (k.map nD) = some (keyN k) := by
  rw [← keyN_kD, keysD_map]
theorem keyN_inj : ∀ {a b : List Nat}, keyN a = keyN b → a = b
  | [], [], _ => rfl
  | [], b :: t, h => by cases h
  | a :: s, [], h => by cases h
  | a :: s, b :: t, h => by
    have h1 : (Sum.inl (a : Int) : Key) = .inl (b : Int) := (List.cons.inj h).1
    have h2 : keyN s = keyN t := (List.cons.inj h).2
    have h3 := Sum.inl.inj h1
    rw [keyN_inj h2, show a = b by omega]
theorem keyN_noZ {k : List Nat} (h : ∀ x ∈ k, x < 6) : noZ (keyN k) = true := by
  unfold noZ
  split
  · rename_i e
    cases k with
    | nil => cases e
    | cons a r =>
      have h1 : (Sum.inl (a : Int) : Key) = .inl 100 := (List.cons.inj e).1
      have h2 := Sum.inl.inj h1
      have := h a List.mem_cons_self
      omega
  · rename_i e
    cases k with
    | nil => cases e
    | cons a r =>
      have h1 : (Sum.inl (a : Int) : Key) = .inl 101 := (List.cons.inj e).1
      have h2 := Sum.inl.inj h1
      have := h a List.mem_cons_self
      omega
  · rfl
theorem dct_get (k : List Nat) : ∀ d : Dct, getT (dctR d) (keyN k) = (aget d k).map nD
  | [] => rfl
  | r :: d => by
    have ih := dct_get k d
    show (if keysD (r.1.map nD) = some (keyN k) then some (nD r.2) else getT (dctR d) (keyN k)) = _
    rw [keyN_keys]
    unfold aget
    by_cases h : r.1 = k
    · rw [if_pos h, if_pos (by rw [h])]; rfl
    · rw [if_neg h, if_neg (fun e => h (keyN_inj (Option.some.inj e))), ih]
theorem dct_keys (d : Dct) : ((dctR d).all fun kv => (keyD kv.1).isNone) = true := by
  rw [List.all_eq_true]
  intro x hx
  obtain ⟨r, _, rfl⟩ := List.mem_map.mp hx
  rfl
theorem dct_ix {d : Dct} {k : List Nat} (h : ∀ x ∈ k, x < 6) : dIx (dctD d) (bsD k) = (aget d k).map nD := by
  show (keysD (k.map nD)).bind _ = _
  rw [keyN_keys, Option.bind_some, if_pos ⟨dct_keys d, keyN_noZ h⟩, dct_get]
theorem dct_get2 {d : Dct} {k : List Nat} (h : ∀ x ∈ k, x < 6) : dGetT (dctR d) (bsD k) (.int 0) = some (nD ((aget d k).getD 0)) := by
  show (keysD (k.map nD)).bind _ = _
  rw [keyN_keys, Option.bind_some, if_pos (keyN_noZ h), dct_get]
  cases aget d k <;> rfl
theorem dct_rows {d : Dct} (h : d ≠ []) : tupRows (dctD d) = some (dctR d) := by
  show (if (dctR d).isEmpty = false ∧ ((dctR d).all fun kv => (keyD kv.1).isNone) = true then some (dctR d) else none) = _
  rw [if_pos ⟨by cases d with | nil => exact absurd rfl h | cons a r => rfl, dct_keys d⟩]
theorem isT_dec (k k2 : List Nat) : isT (keyN k) (bsD k2) = decide (k2 = k) := by
  show decide (keysD (k2.map nD) = some (keyN k)) = _
  rw [keyN_keys]
  by_cases h : k2 = k
  · subst h; simp
  · rw [decide_eq_false h, decide_eq_false (fun e => h (keyN_inj (Option.some.inj e)))]
theorem dct_put {d : Dct} {k : List Nat} {v : Nat} (h : ∀ x ∈ k, x < 6) (hl : d.length ≤ 1000000) : dPut true (dctR d) (bsD k) (nD v) = some (dctR (aput d k v)) := by
  have e : dPut true (dctR d) (bsD k) (nD v) = if (dctR d).length < sizeLine then ((keysD (k.map nD)).bind fun q => if noZ q = true then some q else none).map (fun q => putD (isT q) (bsD k) (nD v) (dctR d)) else none := rfl
  rw [e, if_pos (by rw [List.length_map]; unfold sizeLine; omega), keyN_keys, Option.bind_some, if_pos (keyN_noZ h), Option.map_some]
  unfold putD aput
  have ea : ((dctR d).any fun kv => isT (keyN k) kv.1) = d.any fun r => decide (r.1 = k) := by
    rw [List.any_map]
    exact congrArg (fun f => d.any f) (funext fun r => isT_dec k r.1)
  rw [ea]
  split
  · show some (((d.map fun r => (bsD r.1, nD r.2)).map _)) = some ((d.map fun r => if r.1 = k then (r.1, v) else r).map fun r => (bsD r.1, nD r.2))
    rw [List.map_map, List.map_map]
    refine congrArg some (List.map_congr_left fun r _ => ?_)
    show (if isT (keyN k) (bsD r.1) = true then (bsD r.1, nD v) else (bsD r.1, nD r.2)) = (bsD (if r.1 = k then (r.1, v) else r).1, nD (if r.1 = k then (r.1, v) else r).2)
    rw [isT_dec]
    by_cases hk : r.1 = k
    · rw [if_pos (decide_eq_true hk), if_pos hk]
    · rw [if_neg (by rw [decide_eq_false hk]; decide), if_neg hk]
  · show some (dctR d ++ [(bsD k, nD v)]) = some ((d ++ [(k, v)]).map fun r => (bsD r.1, nD r.2))
    rw [List.map_append]; rfl
theorem hash_all : (all5.map fun l => hashI (l.map fun n : Nat => (n : Int))).Nodup := by decide +kernel
theorem pair_inj {α β : Type} {f : α → β} : ∀ {l : List α}, (l.map f).Nodup → ∀ a ∈ l, ∀ b ∈ l, f a = f b → a = b
  | [], _, a, ha, _, _, _ => by cases ha
  | x :: l, h, a, ha, b, hb, e => by
    rw [List.map_cons] at h
    obtain ⟨h1, h2⟩ := List.nodup_cons.mp h
    rcases List.mem_cons.mp ha with e1 | ha
    · rcases List.mem_cons.mp hb with e2 | hb
      · rw [e1, e2]
      · exact absurd (List.mem_map.mpr ⟨b, hb, by rw [← e, e1]⟩) h1
    · rcases List.mem_cons.mp hb with e2 | hb
      · exact absurd (List.mem_map.mpr ⟨a, ha, by rw [e, e2]⟩) h1
      · exact pair_inj h2 a ha b hb e
theorem nodup_inj {α β : Type} {f : α → β} : ∀ {l : List α}, l.Nodup → (∀ a ∈ l, ∀ b ∈ l, f a = f b → a = b) → (l.map f).Nodup
  | [], _, _ => by simp
  | x :: l, nd, h => by
    obtain ⟨h1, h2⟩ := List.nodup_cons.mp nd
    rw [List.map_cons]
    refine List.nodup_cons.mpr ⟨fun hm => ?_, nodup_inj h2 fun a ha b hb => h a (List.mem_cons_of_mem _ ha) b (List.mem_cons_of_mem _ hb)⟩
    obtain ⟨y, hy, e⟩ := List.mem_map.mp hm
    rw [h y (List.mem_cons_of_mem _ hy) x List.mem_cons_self e] at hy
    exact h1 hy
/-- rows whose goods are parted and below five -/
def RowOk (R : List (List Nat × Nat)) : Prop := ∀ r ∈ R, r.1.Nodup ∧ ∀ x ∈ r.1, x < 5
theorem RowOk.step {g : Nat} {R : List (List Nat × Nat)} {b : Bid} (h : RowOk R) (hb : Bn g b.1) (h5 : g ≤ 5) : RowOk (rowStep R b) := fun r hr => by
  rcases List.mem_append.mp hr with hr | hr
  · exact h r hr
  · obtain ⟨q, hq, rfl⟩ := List.mem_map.mp hr
    obtain ⟨q1, q2⟩ := List.mem_filter.mp hq
    refine ⟨List.nodup_append.mpr ⟨(h q q1).1, hb.nodup, fun a ha c hc e => free_iff.mp q2 c hc (by rw [← e]; exact ha)⟩, fun x hx => ?_⟩
    rcases List.mem_append.mp hx with hx | hx
    · exact (h q q1).2 x hx
    · exact Nat.lt_of_lt_of_le (hb.lt x hx) h5
theorem srt_ok {A : List Nat} (h : A.Nodup ∧ ∀ x ∈ A, x < 5) : srtN A ∈ all5 ∧ ∀ x ∈ srtN A, x < 5 := by
  have h2 : ∀ x ∈ srtN A, x < 5 := fun x hx => h.2 x ((srtN_perm A).mem_iff.mp hx)
  exact ⟨in_all5 (srtN_up h.1) h2, h2⟩
theorem std_key {R : List (List Nat × Nat)} {d : Dct} (s : Std R d) (h : RowOk R) : ∀ r ∈ d, r.1 ∈ all5 ∧ ∀ x ∈ r.1, x < 5 := fun r hr => by
  obtain ⟨A, h1, h2⟩ := s.sound r.1 r.2 hr
  rw [h2]
  exact srt_ok (h _ h1)
theorem keysI_dct : ∀ d : Dct, keysI (dctR d) = some (d.map fun r => r.1.map fun n : Nat => (n : Int))
  | [] => rfl
  | r :: d => by
    show (keyI (bsD r.1)).bind (fun k => (keysI (dctR d)).map fun ks => k :: ks) = _
    rw [keysI_dct d]
    show (intsOf (r.1.map nD)).bind _ = _
    rw [show r.1.map nD = r.1.map fun n : Nat => PyData.int ((fun n : Nat => (n : Int)) n) from rfl, intsOf_int]
    rfl
theorem dct_copy {d : Dct} (h0 : d ≠ []) (nd : (d.map (·.1)).Nodup) (h : ∀ r ∈ d, r.1 ∈ all5) : dCopyT [dctD d] = some (dctD d) := by
  show (keysI (dctR d)).bind _ = _
  rw [keysI_dct, Option.bind_some, if_pos]
  refine ⟨by cases d with | nil => exact absurd rfl h0 | cons a r => rfl, ?_⟩
  rw [List.map_map]
  have : (d.map (hashI ∘ fun r : List Nat × Nat => r.1.map fun n : Nat => (n : Int))) = (d.map (·.1)).map fun l => hashI (l.map fun n : Nat => (n : Int)) := by rw [List.map_map]; rfl
  rw [this]
  refine nodup_inj nd fun a ha b hb e => pair_inj hash_all a ?_ b ?_ e
  · obtain ⟨r, hr, rfl⟩ := List.mem_map.mp ha; exact h r hr
  · obtain ⟨r, hr, rfl⟩ := List.mem_map.mp hb; exact h r hr
/-! ### best_sum -/
abbrev suE (bs : List Bid) (g : Nat) (d : Dct) (x3 x4 x5 x6 x7 x8 : Option Sl) : En := [some (.v (bidsD bs)), some (.v (nD g)), some (.v (dctD d)), x3, x4, x5, x6, x7, x8]
abbrev suI (bs : List Bid) (g : Nat) (d : Dct) (b : Bid) (more : Dct) (x6 x7 x8 : Option Sl) : En := suE bs g d (some (.v (bsD b.1))) (some (.v (nD b.2))) (some (.own true (dctD more))) x6 x7 x8
abbrev su_i : En → SR := sIf (cNot (cTest (cCall dAny (cCons (cLc [8] (cItems (cVar 3)) (gN 8) cTrue (cBin dIn (cVar 8) (cVarB 6))) cNil))))
    (sSeq (sSet 7 (cCall dTupOf (cCons (cCall dSorted (cCons (cList (cStar (cVarB 6) (cStar (cVarB 3) cNil))) cNil)) cNil)))
    (sSetD 5 (cVar 7) (cCall dMax2 (cCons (cGet2 (cVarB 5) (cVar 7) (cK (.int 0))) (cCons (cBin dAdd (cBin dIx (cVarB 2) (cVar 6)) (cVar 4)) cNil)))))
    sNext
theorem max_nat (a b : Nat) : dMax2 [nD a, nD b] = some (nD (max a b)) := by
  show some (PyData.int (max (a : Int) (b : Int))) = _
  congr 2
  omega
section
variable {g : Nat} {bs : List Bid}
theorem su_step {R : List (List Nat × Nat)} {d more : Dct} {b : Bid} (hb : Bn g b.1) (h5 : g ≤ 5) (hR : RowOk R) (s : Std R d) (m : Mid R b d more) (hl : more.length ≤ 100000) {k : List Nat} {v : Nat} (hk : (k, v) ∈ d) (x7 x8 : Option Sl) :
    ∃ y7, su_i (suI bs g d b more (some (.v (bsD k))) x7 x8) = .nx (suI bs g d b (upd1 d b more k) (some (.v (bsD k))) y7 x8) := by
  have e := lcL_map (tgt := gN 8) (f := cBin dIn (cVar 8) (cVarB 6)) (ρ := suI bs g d b more (some (.v (bsD k))) x7 none) (enc := nD) (fun o => suI bs g d b more (some (.v (bsD k))) x7 (some (.v (nD o)))) (fun o => .bool (k.contains o)) (xs := b.1) fun o ho => ⟨rfl, cBin_of (a := nD o) (b := bsD k) rfl rfl (dIn_of (in_bs o k))⟩
  have hz : b.1.length ≤ 5 := Nat.le_trans hb.len h5
  have t : cNot (cTest (cCall dAny (cCons (cLc [8] (cItems (cVar 3)) (gN 8) cTrue (cBin dIn (cVar 8) (cVarB 6))) cNil))) (suI bs g d b more (some (.v (bsD k))) x7 x8) = .ok (free b.1 k) := by
    rw [free_any]
    exact cNot_of (cTest_of (cCall1_of (cLc_of (vs := [8]) (ρ := suI bs g d b more (some (.v (bsD k))) x7 x8) (cItemsT_of (ds := b.1.map nD) rfl) e (by rw [List.length_map]; exact sz (by omega))) (any_of _ _)))
  have kOk := (std_key s hR _ hk).2
  cases hf : free b.1 k with
  | false =>
    rw [hf] at t
    refine ⟨x7, (sIf_false t rfl).trans ?_⟩
    unfold upd1
    rw [if_neg (by rw [hf]; decide)]
    rfl
  | true =>
    rw [hf] at t
    have kl : k.length ≤ 5 := by
      have := (std_key s hR _ hk).1
      have q : ∀ l ∈ all5, l.length ≤ 5 := by decide +kernel
      exact q k this
    have wOk : ∀ x ∈ srtN (k ++ b.1), x < 6 := fun x hx => by
      rcases List.mem_append.mp ((srtN_perm _).mem_iff.mp hx) with hx | hx
      · have := kOk x hx
        change x < 5 at this
        omega
      · have := hb.lt x hx
        omega
    have s1 := (sSet_of (i := 7) (ρ := suI bs g d b more (some (.v (bsD k))) x7 x8) (f := cCall dTupOf (cCons (cCall dSorted (cCons (cList (cStar (cVarB 6) (cStar (cVarB 3) cNil))) cNil)) cNil)) (d := bsD (srtN (k ++ b.1)))
      (cCall1_of (d := lsD (srtN (k ++ b.1))) (cCall1_of (d := lsD (k ++ b.1)) ((cList_of' (cStarT_of (xs := k.map nD) rfl (cStarT_of (xs := b.1.map nD) rfl rfl)) (by rw [List.append_nil, List.length_append, List.length_map, List.length_map]; omega)).trans (by rw [List.append_nil, lsD, List.map_append])) (sorted_ls _)) rfl)).trans
      (show _ = SR.nx (suI bs g d b more (some (.v (bsD k))) (some (.v (bsD (srtN (k ++ b.1))))) x8) from rfl)
    have ek : aget d k = some v := aget_of s.keys hk
    have hne : more ≠ [] := by
      obtain ⟨v', h1, _⟩ := m.grow k v hk
      intro z
      rw [z] at h1
      cases h1
    have q1 : cGet2 (cVarB 5) (cVar 7) (cK (.int 0)) (suI bs g d b more (some (.v (bsD k))) (some (.v (bsD (srtN (k ++ b.1))))) x8) = .ok (nD ((aget more (srtN (k ++ b.1))).getD 0)) := by
      have q : cGet2 (cVarB 5) (cVar 7) (cK (.int 0)) (suI bs g d b more (some (.v (bsD k))) (some (.v (bsD (srtN (k ++ b.1))))) x8) = match tupRows (dctD more) with
        | some kvs => (G.R.ok (bsD (srtN (k ++ b.1)))).bind fun k => (G.R.ok (PyData.int 0)).bind fun x => ofO (dGetT kvs k x)
        | none => .no := rfl
      rw [q, dct_rows hne]
      show ofO (dGetT (dctR more) (bsD (srtN (k ++ b.1))) (.int 0)) = _
      rw [dct_get2 wOk]
      rfl
    have q2 : cBin dAdd (cBin dIx (cVarB 2) (cVar 6)) (cVar 4) (suI bs g d b more (some (.v (bsD k))) (some (.v (bsD (srtN (k ++ b.1))))) x8) = .ok (nD (v + b.2)) := cBin_of (a := nD v) (b := nD b.2) (cBin_of (a := dctD d) (b := bsD k) rfl rfl (by rw [dct_ix fun x hx => Nat.lt_succ_of_lt (kOk x hx), ek]; rfl)) rfl (add_nat _ _)
    refine ⟨some (.v (bsD (srtN (k ++ b.1)))), sIf_true t (sSeq_nx s1 ((sSetD_of (t := true) (ds := dctR more) rfl (cCall2_of q1 q2 (max_nat _ _)) (k := bsD (srtN (k ++ b.1))) rfl (dct_put wOk (by omega))).trans ?_))⟩
    unfold upd1
    rw [if_pos hf, ek]
    rfl
theorem Mid.start {R : List (List Nat × Nat)} {d : Dct} (s : Std R d) (b : Bid) : Mid R b d d := ⟨s.keys, fun k v h => by
      obtain ⟨A, h1, h2⟩ := s.sound k v h
      exact ⟨A, List.mem_append_left _ h1, h2⟩, fun k v h => ⟨v, h, Nat.le_refl _⟩⟩
abbrev su_b : En → SR := sSeq (sSetN 5 true (cCall dCopyT (cCons (cVarB 2) cNil)))
    (sSeq (sForK 2 (gN 6) su_i)
    (sFrz 5 (sSet 2 (cVar 5))))
theorem Std.ne {R : List (List Nat × Nat)} {d : Dct} (s : Std R d) (h : R ≠ []) : d ≠ [] := fun z => by
  cases R with
  | nil => exact h rfl
  | cons r R =>
    obtain ⟨v, h1, _⟩ := s.full r.1 r.2 List.mem_cons_self
    rw [z] at h1
    cases h1
theorem su_round {R : List (List Nat × Nat)} {d : Dct} {b : Bid} (hb : Bn g b.1) (h5 : g ≤ 5) (hR : RowOk R) (h0 : R ≠ []) (s : Std R d) (hl : d.length ≤ 40000) (x5 x6 x7 x8 : Option Sl) :
    ∃ y5 y6 y7, su_b (suE bs g d (some (.v (bsD b.1))) (some (.v (nD b.2))) x5 x6 x7 x8) = .nx (suE bs g (dStep d b) (some (.v (bsD b.1))) (some (.v (nD b.2))) y5 y6 y7 x8) := by
  have hne := s.ne h0
  have s1 := (sSetN_of (i := 5) (t := true) (ρ := suE bs g d (some (.v (bsD b.1))) (some (.v (nD b.2))) x5 x6 x7 x8) (f := cCall dCopyT (cCons (cVarB 2) cNil)) (cCall1_of (d := dctD d) rfl (dct_copy hne s.keys fun r hr => (std_key s hR r hr).1))).trans (show _ = SR.nx (suI bs g d b d x6 x7 x8) from rfl)
  obtain ⟨ρ2, e, ⟨⟨x6', x7', er⟩, _⟩⟩ := loopL_foldI (P := fun i more ρ => (∃ x6 x7, ρ = suI bs g d b more x6 x7 x8) ∧ Mid R b d more ∧ more.length ≤ d.length + i) (tgt := gN 6) (body := su_i) (enc := bsD) (stp := upd1 d b) 50000 (xs := d.map (·.1)) (i := 0) (st := d) (ρ := suI bs g d b d x6 x7 x8)
    (fun k hk i hi more ρ ⟨⟨x6, x7, er⟩, mid, ml⟩ => by
      subst er
      obtain ⟨r, hr, rfl⟩ := List.mem_map.mp hk
      obtain ⟨y7, e⟩ := su_step (bs := bs) hb h5 hR s mid (by omega) (k := r.1) (v := r.2) hr x7 x8
      refine ⟨suI bs g d b more (some (.v (bsD r.1))) x7 x8, _, rfl, e, ⟨_, _, rfl⟩, (mid_step s mid hr).1, ?_⟩
      have : (upd1 d b more r.1).length ≤ more.length + 1 := by
        unfold upd1
        split
        · exact aput_len _ _ _
        · omega
      omega) (by rw [List.length_map]; omega) ⟨⟨_, _, rfl⟩, Mid.start s b, by omega⟩
  change ρ2 = suI bs g d b (dStep d b) x6' x7' x8 at er
  subst er
  have s2 : sForK 2 (gN 6) su_i (suI bs g d b d x6 x7 x8) = .nx (suI bs g d b (dStep d b) x6' x7' x8) := by
    have q : sForK 2 (gN 6) su_i (suI bs g d b d x6 x7 x8) = match tupRows (dctD d) with
      | some kvs => (match loopL (gN 6) su_i (kvs.map (·.1)) (suI bs g d b d x6 x7 x8) with
        | .nx ρ' => .nx ρ'
        | _ => .no)
      | none => .no := rfl
    rw [q, dct_rows hne]
    show (match loopL (gN 6) su_i ((dctR d).map (·.1)) (suI bs g d b d x6 x7 x8) with
        | .nx ρ' => SR.nx ρ'
        | _ => .no) = _
    rw [show (dctR d).map (·.1) = (d.map (·.1)).map bsD by rw [List.map_map, List.map_map]; rfl, e]
  exact ⟨_, _, _, sSeq_nx s1 (sSeq_nx s2 ((sSet_of (i := 2) (ρ := frz 5 (suI bs g d b (dStep d b) x6' x7' x8)) (f := cVar 5) (d := dctD (dStep d b)) rfl).trans rfl))⟩
theorem fold_pair : ∀ (bs : List Bid) (R : List (List Nat × Nat)) (d : Dct), bs.foldl (fun (s : List (List Nat × Nat) × Dct) b => (rowStep s.1 b, dStep s.2 b)) (R, d) = (bs.foldl rowStep R, bs.foldl dStep d)
  | [], _, _ => rfl
  | b :: bs, R, d => by rw [List.foldl_cons, List.foldl_cons, List.foldl_cons]; exact fold_pair bs _ _
theorem row_start : RowOk [([], 0)] := fun r hr => by
  cases List.mem_singleton.mp hr
  exact ⟨.nil, fun x hx => by cases hx⟩
theorem std_start : Std [([], 0)] [([], 0)] := std_of []
theorem best_sum_eq (ok : BsOk g bs) (h1 : 1 ≤ g) (h5 : g ≤ 5) : f_best_sum [bidsD bs, nD g] = .ok (.int (topOf bs)) := by
  unfold f_best_sum g_best_sum
  refine runF_of rfl ?_
  have s1 : sExpr (cCallF f_check_bids (cCons (cVar 0) (cCons (cVar 1) cNil))) (enter 9 2 [bidsD bs, nD g]) = .nx (enter 9 2 [bidsD bs, nD g]) := sExpr_of (cCallF_of (ds := [bidsD bs, nD g]) rfl (check_bids_eq ok h1 h5))
  have s2 := (sSet_of (i := 2) (ρ := enter 9 2 [bidsD bs, nD g]) (f := cOneT (cTup cNil) (cK (.int 0))) (d := dctD [([], 0)]) rfl).trans (show _ = SR.nx (suE bs g [([], 0)] none none none none none none) from rfl)
  obtain ⟨ρ2, e, ⟨⟨x3, x4, x5, x6, x7, er⟩, hstd, _⟩⟩ := loopL_foldI (P := fun i (s : List (List Nat × Nat) × Dct) ρ => (∃ x3 x4 x5 x6 x7, ρ = suE bs g s.2 x3 x4 x5 x6 x7 none) ∧ Std s.1 s.2 ∧ RowOk s.1 ∧ s.1 ≠ [] ∧ s.2.length ≤ 2 ^ i) (tgt := gT (gC (gN 3) (gC (gN 4) gE))) (body := su_b) (enc := bidD) (stp := fun (s : List (List Nat × Nat) × Dct) b => (rowStep s.1 b, dStep s.2 b)) 12 (xs := bs) (i := 0) (st := ([([], 0)], [([], 0)])) (ρ := suE bs g [([], 0)] none none none none none none)
    (fun b hb i hi s ρ ⟨⟨x3, x4, x5, x6, x7, er⟩, st, ro, ne, ln⟩ => by
      subst er
      have hl : s.2.length ≤ 4096 := Nat.le_trans ln (Nat.pow_le_pow_right (by decide) (by omega : i ≤ 12))
      obtain ⟨y5, y6, y7, e⟩ := su_round (bs := bs) (ok.bn b hb) h5 ro ne st (by omega) x5 x6 x7 none
      refine ⟨suE bs g s.2 (some (.v (bsD b.1))) (some (.v (nD b.2))) x5 x6 x7 none, _, rfl, e, ⟨_, _, _, _, _, rfl⟩, std_step st, ro.step (ok.bn b hb) h5, fun z => ?_, ?_⟩
      · exact ne (List.append_eq_nil_iff.mp z).1
      · have := dStep_len s.2 b
        rw [Nat.pow_succ]
        show (dStep s.2 b).length ≤ _
        omega) (by have := ok.few; omega) ⟨⟨_, _, _, _, _, rfl⟩, std_start, row_start, by simp, by simp⟩
  rw [fold_pair] at er hstd
  change ρ2 = suE bs g (dctOf bs) x3 x4 x5 x6 x7 none at er
  change Std (rowsOf bs) (dctOf bs) at hstd
  subst er
  have ro : RowOk (rowsOf bs) := by
    have : ∀ (l : List Bid) (R : List (List Nat × Nat)), (∀ b ∈ l, Bn g b.1) → RowOk R → RowOk (l.foldl rowStep R) := fun l => by
      induction l with
      | nil => intro R _ h; exact h
      | cons b l ih => intro R hb h; rw [List.foldl_cons]; exact ih _ (fun c hc => hb c (List.mem_cons_of_mem _ hc)) (h.step (hb b List.mem_cons_self) h5)
    exact this bs _ ok.bn row_start
  have hne : dctOf bs ≠ [] := hstd.ne fun z => by
    have : (([], 0) : List Nat × Nat) ∈ rowsOf bs := row_mono List.mem_cons_self
    rw [z] at this
    cases this
  have s3 := sFor_of (cItems_of (f := cVar 0) (ρ := suE bs g [([], 0)] none none none none none none) (ds := bs.map bidD) rfl) e
  have e4 := lcL_map (tgt := gN 6) (f := cBin dIx (cVarB 2) (cVar 6)) (ρ := wipeE (disown (suE bs g (dctOf bs) x3 x4 x5 x6 x7 none)) [6]) (enc := fun r : List Nat × Nat => bsD r.1) (fun r => [some (.v (bidsD bs)), some (.v (nD g)), some (.v (dctD (dctOf bs))), letGo x3, letGo x4, letGo x5, some (.v (bsD r.1)), letGo x7, none]) (fun r => nD r.2) (xs := dctOf bs) fun r hr => ⟨rfl, cBin_of (a := dctD (dctOf bs)) (b := bsD r.1) rfl rfl (by rw [dct_ix fun x hx => Nat.lt_succ_of_lt ((std_key hstd ro r hr).2 x hx), aget_of hstd.keys (k := r.1) (v := r.2) hr]; rfl)⟩
  have len : (dctOf bs).length ≤ 4096 := by
    have : ∀ (l : List Bid) (d : Dct), (l.foldl dStep d).length ≤ d.length * 2 ^ l.length := fun l => by
      induction l with
      | nil => intro d; simp
      | cons b l ih =>
        intro d
        rw [List.foldl_cons, List.length_cons, Nat.pow_succ]
        refine Nat.le_trans (ih _) ?_
        have := Nat.mul_le_mul_right (2 ^ l.length) (dStep_len d b)
        rw [Nat.mul_comm (2 ^ l.length) 2, ← Nat.mul_assoc, Nat.mul_comm d.length 2]
        exact this
    have h := this bs [([], 0)]
    have : 2 ^ bs.length ≤ 2 ^ 12 := Nat.pow_le_pow_right (by decide) ok.few
    change (dctOf bs).length ≤ 1 * 2 ^ bs.length at h
    omega
  refine (congrArg SR.out (sSeq_nx s1 (sSeq_nx s2 (sSeq_nx s3 rfl)))).trans (sRet_of ?_)
  have hk : cKeysT 2 (disown (suE bs g (dctOf bs) x3 x4 x5 x6 x7 none)) = .ok ((dctOf bs).map fun r => bsD r.1) := by
    have q : cKeysT 2 (disown (suE bs g (dctOf bs) x3 x4 x5 x6 x7 none)) = match tupRows (dctD (dctOf bs)) with
      | some kvs => .ok (kvs.map (·.1))
      | none => .no := rfl
    rw [q, dct_rows hne]
    show R.ok ((dctR (dctOf bs)).map (·.1)) = _
    rw [List.map_map]
    rfl
  refine cCall1_of (cLc_of hk e4 (by rw [List.length_map]; exact sz (by omega))) ?_
  have q : ((dctOf bs).map fun r => nD r.2) = ((dctOf bs).map fun r => (r.2 : Int)).map PyData.int := by rw [List.map_map]; rfl
  rw [q]
  have := dMax_top (xs := (dctOf bs).map fun r => (r.2 : Int)) (by
    intro z
    exact hne (List.map_eq_nil_iff.mp z))
  rw [dct_top] at this
  exact this
end
end K06

namespace K06
open PySem PySem.Spec PyProof.Rows L2 G
/-! ### the law's own turns: plain -/
section
variable {g : Nat} {m : Ms} {bs : List Bid}
def pstep (m : Ms) (bs : List Bid) (s : List Nat × List Nat) (k : Nat) : List Nat × List Nat := if (!(s.1.any fun j => ah m bs j k) && s.1.contains k) = true then (s.1.filter fun o => decide (o ≠ k), s.2 ++ [k]) else s
structure PInv (m : Ms) (bs : List Bid) (s : List Nat × List Nat) : Prop where
  nd : s.1.Nodup
  lt : ∀ x ∈ s.1, x < bs.length
  pm : (s.2 ++ s.1).Perm (List.range bs.length)
  srt : Srt m bs s.2
  sep : ∀ f ∈ s.2, ∀ l ∈ s.1, ah m bs f l = true
theorem filter_ne {k : Nat} : ∀ {l : List Nat}, l.Nodup → k ∈ l → (k :: l.filter fun o => decide (o ≠ k)).Perm l := fun {l} nd hk => by
  refine nodup_perm (List.nodup_cons.mpr ⟨fun h => ?_, nd.sublist List.filter_sublist⟩) nd fun x => ?_
  · have := (List.mem_filter.mp h).2
    simp at this
  · rw [List.mem_cons, List.mem_filter]
    refine ⟨fun h => ?_, fun h => ?_⟩
    · rcases h with h | h
      · rw [h]; exact hk
      · exact h.1
    · by_cases e : x = k
      · exact .inl e
      · exact .inr ⟨h, by simpa using e⟩
theorem pstep_inv {s : List Nat × List Nat} (h : PInv m bs s) (k : Nat) : PInv m bs (pstep m bs s k) := by
  unfold pstep
  split
  · rename_i hc
    rw [Bool.and_eq_true, Bool.not_eq_true', List.any_eq_false, List.contains_iff_mem] at hc
    obtain ⟨h1, h2⟩ := hc
    refine ⟨h.nd.sublist List.filter_sublist, fun x hx => h.lt x (List.mem_filter.mp hx).1, ?_, ?_, fun f hf l hl => ?_⟩
    · refine List.Perm.trans ?_ h.pm
      show (s.2 ++ [k] ++ s.1.filter fun o => decide (o ≠ k)).Perm (s.2 ++ s.1)
      rw [List.append_assoc]
      exact (filter_ne h.nd h2).append_left s.2
    · refine List.pairwise_append.mpr ⟨h.srt, List.pairwise_singleton _ _, fun a ha b hb => ?_⟩
      rw [List.mem_singleton.mp hb]
      exact h.sep a ha k h2
    · obtain ⟨l1, l2⟩ := List.mem_filter.mp hl
      have hne : l ≠ k := by simpa using l2
      rcases List.mem_append.mp hf with hf | hf
      · exact h.sep f hf l l1
      · rw [List.mem_singleton.mp hf]
        exact ah_total hne (by simpa using h1 l l1)
  · exact h
theorem pstep_sub (s : List Nat × List Nat) (k : Nat) : (pstep m bs s k).1.Sublist s.1 := by
  unfold pstep
  split
  · exact List.filter_sublist
  · exact List.Sublist.refl _
theorem pass_gone {left : List Nat} {k0 : Nat} (hmin : ∀ j ∈ left, ah m bs j k0 = false) : ∀ (xs : List Nat) (s : List Nat × List Nat), s.1.Sublist left → (xs.foldl (pstep m bs) s).1.Sublist s.1 ∧ (k0 ∈ xs → k0 ∉ (xs.foldl (pstep m bs) s).1)
  | [], s, _ => ⟨List.Sublist.refl _, fun h => by cases h⟩
  | x :: xs, s, hs => by
    rw [List.foldl_cons]
    have q := pstep_sub (m := m) (bs := bs) s x
    obtain ⟨h1, h2⟩ := pass_gone hmin xs (pstep m bs s x) (q.trans hs)
    refine ⟨h1.trans q, fun h => ?_⟩
    rcases List.mem_cons.mp h with e | h
    · subst e
      intro hm
      have hx := h1.subset hm
      unfold pstep at hx
      split at hx
      · have := (List.mem_filter.mp hx).2
        simp at this
      · rename_i hc
        apply hc
        rw [Bool.and_eq_true, Bool.not_eq_true', List.any_eq_false, List.contains_iff_mem]
        exact ⟨fun j hj => by rw [hmin j (hs.subset hj)]; decide, hx⟩
    · exact h2 h
theorem least_item (ok : BsOk g bs) : ∀ {l : List Nat}, l ≠ [] → ∃ k ∈ l, ∀ j ∈ l, ah m bs j k = false
  | [], h => absurd rfl h
  | [a], _ => ⟨a, List.mem_cons_self, fun j hj => by rw [List.mem_singleton.mp hj]; exact ah_irr⟩
  | a :: b :: l, _ => by
    obtain ⟨k, hk, h⟩ := least_item ok (l := b :: l) (by simp)
    cases hc : ah m bs a k with
    | false =>
      exact ⟨k, List.mem_cons_of_mem _ hk, fun j hj => by
        rcases List.mem_cons.mp hj with e | hj
        · rw [e]; exact hc
        · exact h j hj⟩
    | true =>
      refine ⟨a, List.mem_cons_self, fun j hj => ?_⟩
      rcases List.mem_cons.mp hj with e | hj
      · rw [e]; exact ah_irr
      · cases hq : ah m bs j a with
        | false => rfl
        | true =>
          have := ah_trans ok hq hc
          rw [h j hj] at this
          cases this
def pass (m : Ms) (bs : List Bid) (s : List Nat × List Nat) : List Nat × List Nat := s.1.foldl (pstep m bs) s
theorem pass_inv {s : List Nat × List Nat} (h : PInv m bs s) : PInv m bs (pass m bs s) := by
  have : ∀ (xs : List Nat) (s : List Nat × List Nat), PInv m bs s → PInv m bs (xs.foldl (pstep m bs) s) := fun xs => by
    induction xs with
    | nil => intro s h; exact h
    | cons x xs ih => intro s h; rw [List.foldl_cons]; exact ih _ (pstep_inv h x)
  exact this _ _ h
theorem pass_less (ok : BsOk g bs) {s : List Nat × List Nat} (h : s.1 ≠ []) : (pass m bs s).1.length < s.1.length := by
  obtain ⟨k, hk, hmin⟩ := least_item (m := m) ok h
  obtain ⟨h1, h2⟩ := pass_gone hmin s.1 s (List.Sublist.refl _)
  refine Nat.lt_of_le_of_ne h1.length_le fun e => ?_
  have := h1.eq_of_length e
  have h3 := h2 hk
  rw [this] at h3
  exact h3 hk
theorem PInv.done (ok : BsOk g bs) {s : List Nat × List Nat} (h : PInv m bs s) (h0 : s.1 = []) : s.2 = ord m bs := by
  have := h.pm
  rw [h0, List.append_nil] at this
  exact ord_of ok h.srt this
theorem PInv.start : PInv m bs (List.range bs.length, []) := ⟨List.nodup_range, fun x hx => List.mem_range.mp hx, .refl _, .nil, fun f hf => by cases hf⟩
/-! ### .. and as the law has them -/
theorem dict_at (T1 T2 T3 : D) (m : Ms) : dIx (.dict (mergeD [((.inr "worth" : Key), T1), (.inr "each", T2), (.inr "root", T3)])) (mD m) = some (match m with | .worth => T1 | .each => T2 | .root => T3) := by
  cases m <;> kernel_rfl
theorem dict_wt {fw fw2 fb : En → R D} {ρ : En} {w : Nat} {B : List Nat} (h1 : fw ρ = .ok (nD w)) (h2 : fw2 ρ = .ok (nD w)) (h3 : fb ρ = .ok (bsD B)) (h4 : cVar 1 ρ = .ok (mD m)) (hw : w ≤ 1000000) :
    cBin dIx (cDict (cKd (.inr "worth") (cTup (cCons fw (cCons (cK (.int 1)) cNil))) (cKd (.inr "each") (cTup (cCons fw (cCons (cCall dLen (cCons fb cNil)) cNil))) (cKd (.inr "root") (cTup (cCons (cBin dMul fw2 fw2) (cCons (cCall dLen (cCons fb cNil)) cNil))) (fun _ => .ok []))))) (cVar 1) ρ = .ok (.tuple [nD (wt m (B, w)).1, nD (wt m (B, w)).2]) := by
  have q1 : cTup (cCons fw (cCons (cK (.int 1)) cNil)) ρ = .ok (.tuple [nD w, nD 1]) := cTup2_of h1 rfl
  have q2 : cTup (cCons fw (cCons (cCall dLen (cCons fb cNil)) cNil)) ρ = .ok (.tuple [nD w, nD B.length]) := cTup2_of h1 (len_bs h3)
  have q3 : cTup (cCons (cBin dMul fw2 fw2) (cCons (cCall dLen (cCons fb cNil)) cNil)) ρ = .ok (.tuple [nD (w * w), nD B.length]) := cTup2_of (cBin_of h2 h2 (mul_nat _ _ (Nat.lt_of_le_of_lt hw (by decide)) (Nat.lt_of_le_of_lt hw (by decide)))) (len_bs h3)
  refine cBin_of (a := .dict (mergeD [((.inr "worth" : Key), .tuple [nD w, nD 1]), (.inr "each", .tuple [nD w, nD B.length]), (.inr "root", .tuple [nD (w * w), nD B.length])])) ?_ h4 ?_
  · simp only [cDict, cKd, q1, q2, q3, R.bind]
    rfl
  · rw [dict_at]
    cases m <;> rfl
abbrev loE (bs : List Bid) (m : Ms) (left found : List Nat) (x4 x5 x6 x7 x8 x9 x10 x11 x12 x13 x14 : Option Sl) : En := [some (.v (bidsD bs)), some (.v (mD m)), some (.v (lsD left)), some (.own false (lsD found)), x4, x5, x6, x7, x8, x9, x10, x11, x12, x13, x14, none]
abbrev lo_d (i j : Nat) : En → R D := cBin dIx (cDict (cKd (.inr "worth") (cTup (cCons (cVar i) (cCons (cK (.int 1)) cNil))) (cKd (.inr "each") (cTup (cCons (cVar i) (cCons (cCall dLen (cCons (cVarB j) cNil)) cNil))) (cKd (.inr "root") (cTup (cCons (cBin dMul (cVarB i) (cVarB i)) (cCons (cCall dLen (cCons (cVarB j) cNil)) cNil))) (fun _ => .ok []))))) (cVar 1)
abbrev lo_j : En → SR := sSeq (sAsg (gT (gC (gN 9) (gC (gN 10) gE))) (cBin dIx (cVarB 0) (cVar 6)))
    (sSeq (sAsg (gT (gC (gN 11) (gC (gN 12) gE))) (lo_d 8 7))
    (sSeq (sAsg (gT (gC (gN 13) (gC (gN 14) gE))) (lo_d 10 9))
    (sSet 5 (cOrV (cVar 5) (cOrV (cBin dGt (cBin dMul (cVarB 13) (cVarB 12)) (cBin dMul (cVarB 11) (cVarB 14))) (cAndV (cBin dEq (cBin dMul (cVarB 13) (cVarB 12)) (cBin dMul (cVarB 11) (cVarB 14))) (cBin dLt (cVarB 6) (cVarB 4))))))))
abbrev bx (b : Bool) : Option Sl := some (.v (.bool b))
abbrev nx (n : Nat) : Option Sl := some (.v (nD n))
abbrev sx (l : List Nat) : Option Sl := some (.v (bsD l))
theorem lo_jstep (ok : BsOk g bs) (h5 : g ≤ 5) {left found : List Nat} {k j : Nat} (hk : k < bs.length) (hj : j < bs.length) (acc : Bool) (x9 x10 x11 x12 x13 x14 : Option Sl) : ∃ y9 y10 y11 y12 y13 y14,
    lo_j (loE bs m left found (nx k) (bx acc) (nx j) (sx (bd bs k).1) (nx (bd bs k).2) x9 x10 x11 x12 x13 x14) = .nx (loE bs m left found (nx k) (bx (acc || ah m bs j k)) (nx j) (sx (bd bs k).1) (nx (bd bs k).2) y9 y10 y11 y12 y13 y14) := by
  have s1 := (sAsg_of (t := gT (gC (gN 9) (gC (gN 10) gE))) (f := cBin dIx (cVarB 0) (cVar 6)) (ρ := loE bs m left found (nx k) (bx acc) (nx j) (sx (bd bs k).1) (nx (bd bs k).2) x9 x10 x11 x12 x13 x14) (ix_bid rfl rfl hj) rfl).trans (show _ = SR.nx (loE bs m left found (nx k) (bx acc) (nx j) (sx (bd bs k).1) (nx (bd bs k).2) (sx (bd bs j).1) (nx (bd bs j).2) x11 x12 x13 x14) from rfl)
  have s2 := (sAsg_of (t := gT (gC (gN 11) (gC (gN 12) gE))) (f := lo_d 8 7) (ρ := loE bs m left found (nx k) (bx acc) (nx j) (sx (bd bs k).1) (nx (bd bs k).2) (sx (bd bs j).1) (nx (bd bs j).2) x11 x12 x13 x14) (dict_wt (m := m) (w := (bd bs k).2) (B := (bd bs k).1) rfl rfl rfl rfl (ok.low _ (bd_mem hk))) rfl).trans (show _ = SR.nx (loE bs m left found (nx k) (bx acc) (nx j) (sx (bd bs k).1) (nx (bd bs k).2) (sx (bd bs j).1) (nx (bd bs j).2) (nx (wt m (bd bs k)).1) (nx (wt m (bd bs k)).2) x13 x14) from rfl)
  have s3 := (sAsg_of (t := gT (gC (gN 13) (gC (gN 14) gE))) (f := lo_d 10 9) (ρ := loE bs m left found (nx k) (bx acc) (nx j) (sx (bd bs k).1) (nx (bd bs k).2) (sx (bd bs j).1) (nx (bd bs j).2) (nx (wt m (bd bs k)).1) (nx (wt m (bd bs k)).2) x13 x14) (dict_wt (m := m) (w := (bd bs j).2) (B := (bd bs j).1) rfl rfl rfl rfl (ok.low _ (bd_mem hj))) rfl).trans (show _ = SR.nx (loE bs m left found (nx k) (bx acc) (nx j) (sx (bd bs k).1) (nx (bd bs k).2) (sx (bd bs j).1) (nx (bd bs j).2) (nx (wt m (bd bs k)).1) (nx (wt m (bd bs k)).2) (nx (wt m (bd bs j)).1) (nx (wt m (bd bs j)).2)) from rfl)
  have l1 := wt_low ok h5 (m := m) hk
  have l2 := wt_low ok h5 (m := m) hj
  have q := ah_val (f1 := cVarB 13) (f2 := cVarB 14) (f3 := cVarB 11) (f4 := cVarB 12) (ρ := loE bs m left found (nx k) (bx acc) (nx j) (sx (bd bs k).1) (nx (bd bs k).2) (sx (bd bs j).1) (nx (bd bs j).2) (nx (wt m (bd bs k)).1) (nx (wt m (bd bs k)).2) (nx (wt m (bd bs j)).1) (nx (wt m (bd bs j)).2)) rfl rfl rfl rfl l2.1 l2.2 l1.1 l1.2 (f5 := cVarB 6) (f6 := cVarB 4) (i := j) (j := k) rfl rfl
  exact ⟨_, _, _, _, _, _, sSeq_nx s1 (sSeq_nx s2 (sSeq_nx s3 ((sSet_of (i := 5) (d := .bool (acc || ah m bs j k)) (cOrV_of (a := acc) rfl q)).trans rfl)))⟩
theorem fold_or (p : Nat → Bool) : ∀ (l : List Nat) (acc : Bool), l.foldl (fun a j => a || p j) acc = (acc || l.any p)
  | [], acc => by simp
  | x :: l, acc => by rw [List.foldl_cons, fold_or p l, List.any_cons, Bool.or_assoc]
abbrev lo_k : En → SR := sSeq (sAsg (gT (gC (gN 7) (gC (gN 8) gE))) (cBin dIx (cVarB 0) (cVar 4)))
    (sSeq (sSet 5 (cK (.bool false)))
    (sSeq (sFor (gN 6) (cItems (cVar 2)) lo_j)
    (sIf (cAnd (cNot (cTest (cVar 5))) (cBinT dIn (cVar 4) (cVarB 2)))
    (sSeq (sAppend 3 (cVar 4))
    (sSet 2 (cLc [15] (cItems (cVar 2)) (gN 15) (cBinT dNe (cVarB 15) (cVarB 4)) (cVar 15))))
    sNext)))
theorem lo_kstep (ok : BsOk g bs) (h5 : g ≤ 5) {left found : List Nat} (hl : ∀ x ∈ left, x < bs.length) (hz : left.length ≤ 100) (hf : found.length ≤ 100) {k : Nat} (hk : k < bs.length) (x5 x6 x7 x8 x9 x10 x11 x12 x13 x14 : Option Sl) : ∃ y5 y6 y7 y8 y9 y10 y11 y12 y13 y14,
    lo_k (loE bs m left found (nx k) x5 x6 x7 x8 x9 x10 x11 x12 x13 x14) = .nx (loE bs m (pstep m bs (left, found) k).1 (pstep m bs (left, found) k).2 (nx k) y5 y6 y7 y8 y9 y10 y11 y12 y13 y14) := by
  have s1 := (sAsg_of (t := gT (gC (gN 7) (gC (gN 8) gE))) (f := cBin dIx (cVarB 0) (cVar 4)) (ρ := loE bs m left found (nx k) x5 x6 x7 x8 x9 x10 x11 x12 x13 x14) (ix_bid rfl rfl hk) rfl).trans (show _ = SR.nx (loE bs m left found (nx k) x5 x6 (sx (bd bs k).1) (nx (bd bs k).2) x9 x10 x11 x12 x13 x14) from rfl)
  have s2 := (sSet_of (i := 5) (f := cK (.bool false)) (ρ := loE bs m left found (nx k) x5 x6 (sx (bd bs k).1) (nx (bd bs k).2) x9 x10 x11 x12 x13 x14) rfl).trans (show _ = SR.nx (loE bs m left found (nx k) (bx false) x6 (sx (bd bs k).1) (nx (bd bs k).2) x9 x10 x11 x12 x13 x14) from rfl)
  obtain ⟨ρ2, e, ⟨y6, y9, y10, y11, y12, y13, y14, er⟩⟩ := loopL_foldI (P := fun _ acc ρ => ∃ y6 y9 y10 y11 y12 y13 y14, ρ = loE bs m left found (nx k) (bx acc) y6 (sx (bd bs k).1) (nx (bd bs k).2) y9 y10 y11 y12 y13 y14) (tgt := gN 6) (body := lo_j) (enc := nD) (stp := fun a j => a || ah m bs j k) 1000 (xs := left) (i := 0) (st := false) (ρ := loE bs m left found (nx k) (bx false) x6 (sx (bd bs k).1) (nx (bd bs k).2) x9 x10 x11 x12 x13 x14)
    (fun j hj i _ acc ρ ⟨y6, y9, y10, y11, y12, y13, y14, er⟩ => by
      subst er
      obtain ⟨z9, z10, z11, z12, z13, z14, e⟩ := lo_jstep (m := m) (left := left) (found := found) ok h5 hk (hl j hj) acc y9 y10 y11 y12 y13 y14
      exact ⟨loE bs m left found (nx k) (bx acc) (nx j) (sx (bd bs k).1) (nx (bd bs k).2) y9 y10 y11 y12 y13 y14, _, rfl, e, _, _, _, _, _, _, _, rfl⟩) (by omega) ⟨_, _, _, _, _, _, _, rfl⟩
  rw [fold_or, Bool.false_or] at er
  subst er
  have s3 := sFor_of (cItems_of (f := cVar 2) (ρ := loE bs m left found (nx k) (bx false) x6 (sx (bd bs k).1) (nx (bd bs k).2) x9 x10 x11 x12 x13 x14) (ds := left.map nD) rfl) e
  have ep : pstep m bs (left, found) k = if (!(left.any fun j => ah m bs j k) && left.contains k) = true then (left.filter fun o => decide (o ≠ k), found ++ [k]) else (left, found) := rfl
  have t : cAnd (cNot (cTest (cVar 5))) (cBinT dIn (cVar 4) (cVarB 2)) (loE bs m left found (nx k) (bx (left.any fun j => ah m bs j k)) y6 (sx (bd bs k).1) (nx (bd bs k).2) y9 y10 y11 y12 y13 y14) = .ok (!(left.any fun j => ah m bs j k) && left.contains k) := by
    have t1 : cNot (cTest (cVar 5)) (loE bs m left found (nx k) (bx (left.any fun j => ah m bs j k)) y6 (sx (bd bs k).1) (nx (bd bs k).2) y9 y10 y11 y12 y13 y14) = .ok (!(left.any fun j => ah m bs j k)) := cNot_of (cTest_of rfl)
    have t2 : cBinT dIn (cVar 4) (cVarB 2) (loE bs m left found (nx k) (bx (left.any fun j => ah m bs j k)) y6 (sx (bd bs k).1) (nx (bd bs k).2) y9 y10 y11 y12 y13 y14) = .ok (left.contains k) := inT_of (x := nD k) (y := lsD left) rfl rfl (in_ls k left)
    cases hb : !(left.any fun j => ah m bs j k) with
    | true => rw [hb] at t1; exact cAnd_t t1 t2
    | false => rw [hb] at t1; exact cAnd_f t1
  by_cases hc : (!(left.any fun j => ah m bs j k) && left.contains k) = true
  · rw [hc] at t
    rw [ep, if_pos hc]
    have s4 := (sAppend_of (i := 3) (ρ := loE bs m left found (nx k) (bx (left.any fun j => ah m bs j k)) y6 (sx (bd bs k).1) (nx (bd bs k).2) y9 y10 y11 y12 y13 y14) (f := cVar 4) (t := false) (ds := found.map nD) (d := nD k) rfl rfl (by rw [List.length_map]; unfold sizeLine; omega)).trans (show _ = SR.nx (loE bs m left (found ++ [k]) (nx k) (bx (left.any fun j => ah m bs j k)) y6 (sx (bd bs k).1) (nx (bd bs k).2) y9 y10 y11 y12 y13 y14) by
      unfold loE lsD
      rw [List.map_append]
      rfl)
    have e5 := lcL_gen (tgt := gN 15) (p := cBinT dNe (cVarB 15) (cVarB 4)) (f := cVar 15) (ρ := loE bs m left (found ++ [k]) (nx k) (bx (left.any fun j => ah m bs j k)) y6 (sx (bd bs k).1) (nx (bd bs k).2) y9 y10 y11 y12 y13 y14) (enc := nD)
      (fun o => [some (.v (bidsD bs)), some (.v (mD m)), some (.v (lsD left)), some (.own false (lsD (found ++ [k]))), nx k, bx (left.any fun j => ah m bs j k), y6, sx (bd bs k).1, nx (bd bs k).2, y9, y10, y11, y12, y13, y14, some (.v (nD o))]) (fun o => decide (o ≠ k)) nD (xs := left) fun o ho => ⟨rfl, cBinT_of (a := nD o) (b := nD k) rfl rfl (ne_nat o k), fun _ => rfl⟩
    exact ⟨_, _, _, _, _, _, _, _, _, _, sSeq_nx s1 (sSeq_nx s2 (sSeq_nx s3 (sIf_true t (sSeq_nx s4 ((sSet_of (i := 2) (cLc_of (vs := [15]) (ρ := loE bs m left (found ++ [k]) (nx k) (bx (left.any fun j => ah m bs j k)) y6 (sx (bd bs k).1) (nx (bd bs k).2) y9 y10 y11 y12 y13 y14) (cItems_of (ds := left.map nD) rfl) e5 (by rw [List.length_map]; exact sz (Nat.le_trans (List.length_filter_le _ _) (by omega))))).trans rfl)))))⟩
  · rw [Bool.not_eq_true] at hc
    rw [hc] at t
    rw [ep, if_neg (by rw [hc]; decide)]
    exact ⟨_, _, _, _, _, _, _, _, _, _, sSeq_nx s1 (sSeq_nx s2 (sSeq_nx s3 (sIf_false t rfl)))⟩
abbrev lo_b : En → SR := sFor (gN 4) (cItems (cCall dListOf (cCons (cVarB 2) cNil))) lo_k
abbrev lo_c : En → R Bool := cBinT dNe (cVarB 2) (cList cNil)
def LoP (bs : List Bid) (m : Ms) (s : List Nat × List Nat) (ρ : En) : Prop := ∃ x4 x5 x6 x7 x8 x9 x10 x11 x12 x13 x14, ρ = loE bs m s.1 s.2 x4 x5 x6 x7 x8 x9 x10 x11 x12 x13 x14
theorem PInv.few (ok : BsOk g bs) {s : List Nat × List Nat} (h : PInv m bs s) : s.1.length ≤ 12 ∧ s.2.length ≤ 12 := by
  have := h.pm.length_eq
  rw [List.length_append, List.length_range] at this
  have := ok.few
  omega
theorem lo_pass (ok : BsOk g bs) (h5 : g ≤ 5) {s : List Nat × List Nat} (h : PInv m bs s) {ρ : En} (hp : LoP bs m s ρ) : ∃ ρ2, lo_b ρ = .nx ρ2 ∧ LoP bs m (pass m bs s) ρ2 := by
  obtain ⟨x4, x5, x6, x7, x8, x9, x10, x11, x12, x13, x14, rfl⟩ := hp
  obtain ⟨ρ2, e, hp2, _⟩ := loopL_foldI (P := fun _ t ρ => LoP bs m t ρ ∧ PInv m bs t) (tgt := gN 4) (body := lo_k) (enc := nD) (stp := pstep m bs) 1000 (xs := s.1) (i := 0) (st := s) (ρ := loE bs m s.1 s.2 x4 x5 x6 x7 x8 x9 x10 x11 x12 x13 x14)
    (fun k hk i _ t ρ ⟨⟨y4, y5, y6, y7, y8, y9, y10, y11, y12, y13, y14, er⟩, hi⟩ => by
      subst er
      have fw := hi.few ok
      obtain ⟨z5, z6, z7, z8, z9, z10, z11, z12, z13, z14, e⟩ := lo_kstep (m := m) (left := t.1) (found := t.2) ok h5 hi.lt (by omega) (by omega) (h.lt k hk) y5 y6 y7 y8 y9 y10 y11 y12 y13 y14
      exact ⟨loE bs m t.1 t.2 (nx k) y5 y6 y7 y8 y9 y10 y11 y12 y13 y14, _, rfl, e, ⟨_, _, _, _, _, _, _, _, _, _, _, rfl⟩, pstep_inv hi k⟩) (by have := (h.few ok).1; omega) ⟨⟨_, _, _, _, _, _, _, _, _, _, _, rfl⟩, h⟩
  exact ⟨ρ2, sFor_of (cItems_of (ds := s.1.map nD) (cCall1_of (d := lsD s.1) rfl rfl)) e, hp2⟩
theorem lo_loop (ok : BsOk g bs) (h5 : g ≤ 5) : ∀ (n : Nat) (s : List Nat × List Nat) (ρ : En), s.1.length ≤ n → PInv m bs s → LoP bs m s ρ → ∃ ρ2, whileL lo_c lo_b (n + 1) ρ = .nx ρ2 ∧ LoP bs m ([], ord m bs) ρ2
  | n, s, ρ, hn, h, hp => by
    have hc : lo_c ρ = .ok (!decide (s.1 = [])) := by
      obtain ⟨x4, x5, x6, x7, x8, x9, x10, x11, x12, x13, x14, rfl⟩ := hp
      exact cBinT_of (a := lsD s.1) (b := lsD []) rfl rfl (ne_ls s.1 [])
    by_cases h0 : s.1 = []
    · refine ⟨ρ, whileL_stop (by rw [hc, h0]; rfl), ?_⟩
      have e := h.done ok h0
      obtain ⟨x4, x5, x6, x7, x8, x9, x10, x11, x12, x13, x14, rfl⟩ := hp
      exact ⟨x4, x5, x6, x7, x8, x9, x10, x11, x12, x13, x14, by rw [h0, e]⟩
    · cases n with
      | zero => exact absurd (List.length_eq_zero_iff.mp (Nat.le_zero.mp hn)) h0
      | succ n =>
        obtain ⟨ρ1, e1, hp1⟩ := lo_pass ok h5 h hp
        have less := pass_less (m := m) ok h0
        obtain ⟨ρ2, e2, hp2⟩ := lo_loop ok h5 n (pass m bs s) ρ1 (by omega) (pass_inv h) hp1
        exact ⟨ρ2, (whileL_step (by rw [hc, decide_eq_false h0]; rfl) e1).trans e2, hp2⟩
theorem l_order_eq (ok : BsOk g bs) (h5 : g ≤ 5) : f_l_order [bidsD bs, mD m] = .ok (lsD (ord m bs)) := by
  unfold f_l_order g_l_order
  refine runF_of rfl ?_
  have s1 := (sSet_of (i := 2) (ρ := enter 16 2 [bidsD bs, mD m]) (f := cUn dLR (cCall dLen (cCons (cVarB 0) cNil))) (d := lsD (List.range bs.length)) (cUn_of (len_bids rfl) (by
    have hf := ok.few
    have e : dLR (nD bs.length) = if -(2 ^ 62) ≤ (bs.length : Int) ∧ (bs.length : Int) ≤ 16777216 then some (PyData.list (rangeD 0 (bs.length : Int).toNat)) else none := rfl
    rw [e, if_pos ⟨by omega, by omega⟩, Int.toNat_natCast, rangeD_nat]))).trans (show _ = SR.nx [some (.v (bidsD bs)), some (.v (mD m)), some (.v (lsD (List.range bs.length))), none, none, none, none, none, none, none, none, none, none, none, none, none] from rfl)
  have s2 := (sSetN_of (i := 3) (t := false) (ρ := [some (.v (bidsD bs)), some (.v (mD m)), some (.v (lsD (List.range bs.length))), none, none, none, none, none, none, none, none, none, none, none, none, none]) (f := cList cNil) (d := lsD []) rfl).trans (show _ = SR.nx (loE bs m (List.range bs.length) [] none none none none none none none none none none none) from rfl)
  obtain ⟨ρ2, e, x4, x5, x6, x7, x8, x9, x10, x11, x12, x13, x14, er⟩ := lo_loop (m := m) ok h5 99 (List.range bs.length, []) _ (by rw [List.length_range]; have := ok.few; omega) PInv.start ⟨none, none, none, none, none, none, none, none, none, none, none, rfl⟩
  subst er
  exact (congrArg SR.out (sSeq_nx s1 (sSeq_nx s2 (sSeq_nx (sWhile_of e) rfl)))).trans (sRet_of (f := cVar 3) (ρ := loE bs m [] (ord m bs) x4 x5 x6 x7 x8 x9 x10 x11 x12 x13 x14) (d := lsD (ord m bs)) rfl)
end
end K06

namespace K06
open PySem PySem.Spec PyProof.Rows L2 G
section
variable {g : Nat} {m : Ms} {bs : List Bid}
/-! ### the law's winners -/
abbrev lwE (bs : List Bid) (m : Ms) (L f : List Nat) (x4 : Option Sl) : En := [some (.v (bidsD bs)), some (.v (mD m)), some (.v (lsD L)), some (.own false (lsD f)), x4, none]
abbrev lw_g : En → R D := cBin dIx (cBin dIx (cVarB 0) (cVar 4)) (cK (.int 0))
abbrev lw_b : En → SR := sIf (cBinT dEq (cLc [5] (cItems lw_g) (gN 5) (cBinT dIn (cVar 5) (cVarB 2)) (cVar 5)) (cList cNil))
    (sSeq (sSet 2 (cBin dAdd (cVar 2) (cCall dListOf (cCons lw_g cNil))))
    (sAppend 3 (cVar 4)))
    sNext
theorem lw_step (ok : BsOk g bs) (h5 : g ≤ 5) {L f : List Nat} {k : Nat} (hk : k < bs.length) (hL : L.length ≤ 900) (hf : f.length ≤ 1000) : lw_b (lwE bs m L f (nx k)) = .nx (lwE bs m (wstep (Bof bs) (L, f) k).1 (wstep (Bof bs) (L, f) k).2 (nx k)) := by
  have e := lcL_gen (tgt := gN 5) (p := cBinT dIn (cVar 5) (cVarB 2)) (f := cVar 5) (ρ := lwE bs m L f (nx k)) (enc := nD) (fun o => [some (.v (bidsD bs)), some (.v (mD m)), some (.v (lsD L)), some (.own false (lsD f)), nx k, nx o]) (fun o => L.contains o) nD (xs := Bof bs k) fun o ho => ⟨rfl, inT_of (x := nD o) (y := lsD L) rfl rfl (in_ls o L), fun _ => rfl⟩
  have hb := Bof_few ok h5 hk
  have t : cBinT dEq (cLc [5] (cItems lw_g) (gN 5) (cBinT dIn (cVar 5) (cVarB 2)) (cVar 5)) (cList cNil) (lwE bs m L f (nx k)) = .ok (free (Bof bs k) L) := by
    rw [free_nil]
    exact cBinT_of (b := lsD []) (cLc_of (vs := [5]) (ρ := lwE bs m L f (nx k)) (cItemsT_of (ds := (Bof bs k).map nD) (ix_goods (ix_bid rfl rfl hk))) e (by rw [List.length_map]; exact sz (Nat.le_trans (List.length_filter_le _ _) (by omega)))) rfl (eq_ls _ [])
  have ew : wstep (Bof bs) (L, f) k = if free (Bof bs k) L = true then (L ++ Bof bs k, f ++ [k]) else (L, f) := rfl
  cases hc : free (Bof bs k) L with
  | false =>
    rw [hc] at t
    rw [ew, if_neg (by rw [hc]; decide)]
    exact (sIf_false t rfl).trans rfl
  | true =>
    rw [hc] at t
    rw [ew, if_pos hc]
    have s1 := (sSet_of (i := 2) (ρ := lwE bs m L f (nx k)) (f := cBin dAdd (cVar 2) (cCall dListOf (cCons lw_g cNil))) (d := lsD (L ++ Bof bs k)) (cBin_of (a := lsD L) (b := lsD (Bof bs k)) rfl (cCall1_of (d := bsD (Bof bs k)) (ix_goods (ix_bid rfl rfl hk)) rfl) (by rw [dAdd_list (by rw [List.length_map, List.length_map]; omega), lsD, List.map_append]))).trans (show _ = SR.nx (lwE bs m (L ++ Bof bs k) f (nx k)) from rfl)
    refine sIf_true t (sSeq_nx s1 ((sAppend_of (i := 3) (t := false) (ds := f.map nD) (d := nD k) rfl rfl (by rw [List.length_map]; unfold sizeLine; omega)).trans ?_))
    unfold lwE lsD
    rw [List.map_append, List.map_append]
    rfl
theorem l_won_eq (ok : BsOk g bs) (h5 : g ≤ 5) : f_l_won [bidsD bs, mD m] = .ok (lsD (wonL m bs)) := by
  unfold f_l_won g_l_won
  refine runF_of rfl ?_
  have s1 := (sSet_of (i := 2) (ρ := enter 6 2 [bidsD bs, mD m]) (f := cList cNil) (d := lsD []) rfl).trans (show _ = SR.nx [some (.v (bidsD bs)), some (.v (mD m)), some (.v (lsD [])), none, none, none] from rfl)
  have s2 := (sSetN_of (i := 3) (t := false) (ρ := [some (.v (bidsD bs)), some (.v (mD m)), some (.v (lsD [])), none, none, none]) (f := cList cNil) (d := lsD []) rfl).trans (show _ = SR.nx (lwE bs m [] [] none) from rfl)
  obtain ⟨ρ2, e, ⟨x4, er⟩, _⟩ := loopL_foldI (P := fun i s ρ => (∃ x4, ρ = lwE bs m s.1 s.2 x4) ∧ s.1.Nodup ∧ (∀ x ∈ s.1, x < g) ∧ s.2.length ≤ i) (tgt := gN 4) (body := lw_b) (enc := nD) (stp := wstep (Bof bs)) 100 (xs := ord m bs) (i := 0) (st := ([], [])) (ρ := lwE bs m [] [] none)
    (fun k hk i hi s ρ ⟨⟨x4, er⟩, nd, lt, hl⟩ => by
      subst er
      have hk := (ord_mem ok).mp hk
      refine ⟨lwE bs m s.1 s.2 (nx k), _, rfl, lw_step (m := m) (L := s.1) (f := s.2) ok h5 hk (L_few ok h5 nd lt) (by omega), ⟨_, rfl⟩, ?_⟩
      have hb := ok.bn _ (bd_mem hk)
      rw [show wstep (Bof bs) s k = if free (Bof bs k) s.1 = true then (s.1 ++ Bof bs k, s.2 ++ [k]) else s from rfl]
      split
      · rename_i hf
        refine ⟨List.nodup_append.mpr ⟨nd, hb.nodup, fun a ha b hb2 e => free_iff.mp hf b hb2 (by rw [← e]; exact ha)⟩, fun x hx => ?_, by rw [List.length_append]; simp; omega⟩
        rcases List.mem_append.mp hx with hx | hx
        · exact lt x hx
        · exact hb.lt x hx
      · exact ⟨nd, lt, by omega⟩) (by rw [(ord_perm ok).length_eq, List.length_range]; have := ok.few; omega) ⟨⟨none, rfl⟩, .nil, (fun x (hx : x ∈ ([] : List Nat)) => absurd hx List.not_mem_nil), Nat.le_refl _⟩
  rw [fold_wn, List.nil_append, List.nil_append] at er
  change ρ2 = lwE bs m _ (wset m bs) x4 at er
  subst er
  have s3 := sFor_of (cItems_of (f := cCallF f_l_order (cCons (cVar 0) (cCons (cVar 1) cNil))) (ρ := lwE bs m [] [] none) (cCallF_of (ds := [bidsD bs, mD m]) rfl (l_order_eq ok h5))) e
  refine (congrArg SR.out (sSeq_nx s1 (sSeq_nx s2 (sSeq_nx s3 rfl)))).trans (sRet_of (cCall1_of (d := lsD (wset m bs)) rfl ?_))
  rw [sorted_ls, wonL_srt ok]
theorem l_with_eq {k : Nat} (hk : k < bs.length) (hz : bs.length ≤ 1000) (b : Bid) : f_l_with [bidsD bs, nD k, bidD b] = .ok (bidsD (bs.set k b)) := by
  unfold f_l_with g_l_with
  refine runF_of rfl (sRet_of (ρ := enter 3 3 [bidsD bs, nD k, bidD b]) ?_)
  refine cBin_of (cBin_of (a := .list ((bs.map bidD).take k)) (b := .list [bidD b]) (cSlice_to rfl rfl) rfl (dAdd_list ?_)) (cSlice_from (xs := bs.map bidD) (k := k + 1) rfl (cBin_of (a := nD k) (b := .int 1) rfl rfl rfl)) ?_
  · rw [List.length_take, List.length_map]
    simp
    omega
  · rw [dAdd_list, List.append_assoc, List.singleton_append, set_cut hk]
    rw [List.length_append, List.length_take, List.length_drop, List.length_map]
    simp
    omega
/-! ### the law's best sum -/
abbrev rowD (r : List Nat × Nat) : D := .tuple [lsD r.1, nD r.2]
abbrev rowsD (R : List (List Nat × Nat)) : D := .list (R.map rowD)
abbrev lbE (bs : List Bid) (g : Nat) (R : List (List Nat × Nat)) (x4 x5 x6 x7 x8 : Option Sl) : En := [some (.v (bidsD bs)), some (.v (nD g)), some (.v (.int 0)), some (.v (rowsD R)), x4, x5, x6, x7, x8, none]
abbrev lbI (bs : List Bid) (g : Nat) (R : List (List Nat × Nat)) (b : Bid) (more : List (List Nat × Nat)) (x7 x8 : Option Sl) : En := lbE bs g R (sx b.1) (nx b.2) (some (.own false (rowsD more))) x7 x8
abbrev lb_i : En → SR := sIf (cBinT dEq (cLc [9] (cItems (cVar 4)) (gN 9) (cBinT dIn (cVar 9) (cVarB 7)) (cVar 9)) (cList cNil))
    (sAppend 6 (cTup (cCons (cBin dAdd (cVar 7) (cCall dListOf (cCons (cVarB 4) cNil))) (cCons (cBin dAdd (cVar 8) (cVar 5)) cNil))))
    sNext
abbrev lb_b : En → SR := sSeq (sSetN 6 false (cCall dListOf (cCons (cVarB 3) cNil)))
    (sSeq (sFor (gT (gC (gN 7) (gC (gN 8) gE))) (cItems (cVar 3)) lb_i)
    (sFrz 6 (sSet 3 (cVar 6))))
def istep (b : Bid) (more : List (List Nat × Nat)) (r : List Nat × Nat) : List (List Nat × Nat) := if free b.1 r.1 = true then more ++ [(r.1 ++ b.1, r.2 + b.2)] else more
theorem fold_istep (b : Bid) : ∀ (R more : List (List Nat × Nat)), R.foldl (istep b) more = more ++ (R.filter fun r => free b.1 r.1).map fun r => (r.1 ++ b.1, r.2 + b.2)
  | [], more => by simp
  | r :: R, more => by
    rw [List.foldl_cons, fold_istep b R]
    unfold istep
    cases hf : free b.1 r.1 with
    | true => rw [if_pos rfl, List.filter_cons_of_pos (p := fun r : List Nat × Nat => free b.1 r.1) hf, List.map_cons, List.append_assoc]; rfl
    | false => rw [if_neg (by decide), List.filter_cons_of_neg (p := fun r : List Nat × Nat => free b.1 r.1) (by rw [hf]; decide)]
theorem lb_istep {R more : List (List Nat × Nat)} {b : Bid} {r : List Nat × Nat} (hb : b.1.length ≤ 5) (hr : r.1.length ≤ 5) (hm : more.length ≤ 100000) : lb_i (lbI bs g R b more (some (.v (lsD r.1))) (nx r.2)) = .nx (lbI bs g R b (istep b more r) (some (.v (lsD r.1))) (nx r.2)) := by
  have e := lcL_gen (tgt := gN 9) (p := cBinT dIn (cVar 9) (cVarB 7)) (f := cVar 9) (ρ := lbI bs g R b more (some (.v (lsD r.1))) (nx r.2)) (enc := nD) (fun o => [some (.v (bidsD bs)), some (.v (nD g)), some (.v (.int 0)), some (.v (rowsD R)), sx b.1, nx b.2, some (.own false (rowsD more)), some (.v (lsD r.1)), nx r.2, nx o]) (fun o => r.1.contains o) nD (xs := b.1) fun o ho => ⟨rfl, inT_of (x := nD o) (y := lsD r.1) rfl rfl (in_ls o r.1), fun _ => rfl⟩
  have t : cBinT dEq (cLc [9] (cItems (cVar 4)) (gN 9) (cBinT dIn (cVar 9) (cVarB 7)) (cVar 9)) (cList cNil) (lbI bs g R b more (some (.v (lsD r.1))) (nx r.2)) = .ok (free b.1 r.1) := by
    rw [free_nil]
    exact cBinT_of (b := lsD []) (cLc_of (vs := [9]) (ρ := lbI bs g R b more (some (.v (lsD r.1))) (nx r.2)) (cItemsT_of (ds := b.1.map nD) rfl) e (by rw [List.length_map]; exact sz (Nat.le_trans (List.length_filter_le _ _) (by omega)))) rfl (eq_ls _ [])
  have ei : istep b more r = if free b.1 r.1 = true then more ++ [(r.1 ++ b.1, r.2 + b.2)] else more := rfl
  cases hc : free b.1 r.1 with
  | false =>
    rw [hc] at t
    rw [ei, if_neg (by rw [hc]; decide)]
    exact (sIf_false t rfl).trans rfl
  | true =>
    rw [hc] at t
    rw [ei, if_pos hc]
    have q1 : cBin dAdd (cVar 7) (cCall dListOf (cCons (cVarB 4) cNil)) (lbI bs g R b more (some (.v (lsD r.1))) (nx r.2)) = .ok (lsD (r.1 ++ b.1)) := cBin_of (a := lsD r.1) (b := lsD b.1) rfl (cCall1_of (d := bsD b.1) rfl rfl) (by rw [dAdd_list (by rw [List.length_map, List.length_map]; omega), lsD, List.map_append])
    refine sIf_true t ((sAppend_of (i := 6) (t := false) (ds := more.map rowD) (d := rowD (r.1 ++ b.1, r.2 + b.2)) rfl (cTup2_of q1 (cBin_of (a := nD r.2) (b := nD b.2) rfl rfl (add_nat _ _))) (by rw [List.length_map]; unfold sizeLine; omega)).trans ?_)
    unfold lbI lbE rowsD
    rw [List.map_append]
    rfl
theorem lb_round {R : List (List Nat × Nat)} {b : Bid} (hb : b.1.length ≤ 5) (hR : ∀ r ∈ R, r.1.length ≤ 5) (hl : R.length ≤ 40000) (x6 x7 x8 : Option Sl) : ∃ y6 y7 y8, lb_b (lbE bs g R (sx b.1) (nx b.2) x6 x7 x8) = .nx (lbE bs g (rowStep R b) (sx b.1) (nx b.2) y6 y7 y8) := by
  have s1 := (sSetN_of (i := 6) (t := false) (ρ := lbE bs g R (sx b.1) (nx b.2) x6 x7 x8) (f := cCall dListOf (cCons (cVarB 3) cNil)) (d := rowsD R) (cCall1_of (d := rowsD R) rfl rfl)).trans (show _ = SR.nx (lbI bs g R b R x7 x8) from rfl)
  obtain ⟨ρ2, e, ⟨x7', x8', er⟩, _⟩ := loopL_foldI (P := fun i more ρ => (∃ x7 x8, ρ = lbI bs g R b more x7 x8) ∧ more.length ≤ R.length + i) (tgt := gT (gC (gN 7) (gC (gN 8) gE))) (body := lb_i) (enc := rowD) (stp := istep b) 50000 (xs := R) (i := 0) (st := R) (ρ := lbI bs g R b R x7 x8)
    (fun r hr i hi more ρ ⟨⟨x7, x8, er⟩, ml⟩ => by
      subst er
      refine ⟨lbI bs g R b more (some (.v (lsD r.1))) (nx r.2), _, rfl, lb_istep hb (hR r hr) (by omega), ⟨_, _, rfl⟩, ?_⟩
      unfold istep
      split
      · rw [List.length_append]; simp; omega
      · omega) (by omega) ⟨⟨_, _, rfl⟩, by omega⟩
  rw [fold_istep] at er
  change ρ2 = lbI bs g R b (rowStep R b) x7' x8' at er
  subst er
  have s2 := sFor_of (cItems_of (f := cVar 3) (ρ := lbI bs g R b R x7 x8) (ds := R.map rowD) rfl) e
  exact ⟨_, _, _, sSeq_nx s1 (sSeq_nx s2 ((sSet_of (i := 3) (ρ := frz 6 (lbI bs g R b (rowStep R b) x7' x8')) (f := cVar 6) (d := rowsD (rowStep R b)) rfl).trans rfl))⟩
theorem row_len {R : List (List Nat × Nat)} (h : RowOk R) : ∀ r ∈ R, r.1.length ≤ 5 := fun r hr => nodup_len (h r hr).1 (h r hr).2
theorem rowStep_len (R : List (List Nat × Nat)) (b : Bid) : (rowStep R b).length ≤ 2 * R.length := by
  unfold rowStep
  rw [List.length_append, List.length_map]
  have := List.length_filter_le (fun r : List Nat × Nat => free b.1 r.1) R
  omega
theorem l_best_eq (ok : BsOk g bs) (h5 : g ≤ 5) : f_l_best [bidsD bs, nD g] = .ok (.int (topOf bs)) := by
  unfold f_l_best g_l_best
  refine runF_of rfl ?_
  have s1 := (sSet_of (i := 2) (ρ := enter 10 2 [bidsD bs, nD g]) (f := cK (.int 0)) rfl).trans (show _ = SR.nx [some (.v (bidsD bs)), some (.v (nD g)), some (.v (.int 0)), none, none, none, none, none, none, none] from rfl)
  have s2 := (sSet_of (i := 3) (ρ := [some (.v (bidsD bs)), some (.v (nD g)), some (.v (.int 0)), none, none, none, none, none, none, none]) (f := cList (cCons (cTup (cCons (cList cNil) (cCons (cK (.int 0)) cNil))) cNil)) (d := rowsD [([], 0)]) rfl).trans (show _ = SR.nx (lbE bs g [([], 0)] none none none none none) from rfl)
  obtain ⟨ρ2, e, ⟨x4, x5, x6, x7, x8, er⟩, ro, rl⟩ := loopL_foldI (P := fun i R ρ => (∃ x4 x5 x6 x7 x8, ρ = lbE bs g R x4 x5 x6 x7 x8) ∧ RowOk R ∧ R.length ≤ 2 ^ i) (tgt := gT (gC (gN 4) (gC (gN 5) gE))) (body := lb_b) (enc := bidD) (stp := rowStep) 12 (xs := bs) (i := 0) (st := [([], 0)]) (ρ := lbE bs g [([], 0)] none none none none none)
    (fun b hb i hi R ρ ⟨⟨x4, x5, x6, x7, x8, er⟩, ro, rl⟩ => by
      subst er
      have hl : R.length ≤ 4096 := Nat.le_trans rl (Nat.pow_le_pow_right (by decide) (by omega : i ≤ 12))
      obtain ⟨y6, y7, y8, e⟩ := lb_round (bs := bs) (g := g) (R := R) (b := b) (Nat.le_trans (ok.bn b hb).len h5) (row_len ro) (by omega) x6 x7 x8
      refine ⟨lbE bs g R (sx b.1) (nx b.2) x6 x7 x8, _, rfl, e, ⟨_, _, _, _, _, rfl⟩, ro.step (ok.bn b hb) h5, ?_⟩
      have := rowStep_len R b
      rw [Nat.pow_succ]
      omega) (by have := ok.few; omega) ⟨⟨_, _, _, _, _, rfl⟩, row_start, by simp⟩
  change ρ2 = lbE bs g (rowsOf bs) x4 x5 x6 x7 x8 at er
  subst er
  have s3 := sFor_of (cItems_of (f := cVar 0) (ρ := lbE bs g [([], 0)] none none none none none) (ds := bs.map bidD) rfl) e
  have rl2 : (rowsOf bs).length ≤ 4096 := Nat.le_trans rl (Nat.pow_le_pow_right (n := 2) (by omega) (by have := ok.few; omega : 0 + bs.length ≤ 12))
  have e4 := lcL_map (tgt := gT (gC (gN 7) (gC (gN 8) gE))) (f := cVar 8) (ρ := wipeE (disown (lbE bs g (rowsOf bs) x4 x5 x6 x7 x8)) [7, 8]) (enc := rowD) (fun r => [some (.v (bidsD bs)), some (.v (nD g)), some (.v (.int 0)), some (.v (rowsD (rowsOf bs))), letGo x4, letGo x5, letGo x6, some (.v (lsD r.1)), nx r.2, none]) (fun r => nD r.2) (xs := rowsOf bs) fun r hr => ⟨rfl, rfl⟩
  refine (congrArg SR.out (sSeq_nx s1 (sSeq_nx s2 (sSeq_nx s3 rfl)))).trans (sRet_of ?_)
  refine cCall1_of (cBin_of (a := .list [.int 0]) rfl (cLc_of (cItems_of (ds := (rowsOf bs).map rowD) rfl) e4 (by rw [List.length_map]; exact sz (by omega))) (dAdd_list (by rw [List.length_map]; simp; omega))) ?_
  have q : [PyData.int 0] ++ (rowsOf bs).map (fun r => nD r.2) = ((0 :: (rowsOf bs).map (·.2)).map fun n : Nat => (n : Int)).map PyData.int := by
    rw [List.map_cons, List.map_cons, List.map_map, List.map_map]; rfl
  rw [q]
  exact dMax_top (by simp)
/-! ### the law's least worth and gain -/
theorem find_some (p : Nat → Bool) : ∀ l : List Nat, l.findSome? (fun w => if p w = true then some w else none) = l.find? p
  | [] => rfl
  | a :: l => by
    rw [List.findSome?_cons, List.find?_cons, find_some p l]
    cases h : p a <;> simp
theorem l_least_eq (ok : BsOk g bs) (h5 : g ≤ 5) {k : Nat} (hk : k < bs.length) (hv : ∀ j, j < bs.length → j ≠ k → (bd bs j).2 ≤ 50) : f_l_least [bidsD bs, mD m, nD k] = .ok (nD (least m bs k (bd bs k).1)) := by
  have hB := ok.bn _ (bd_mem hk)
  have sp := least_spec (m := m) ok h5 hk hv hB
  unfold f_l_least g_l_least
  refine runF_of rfl ?_
  rcases loopL_find (P := fun ρ => ∃ x3, ρ = [some (.v (bidsD bs)), some (.v (mD m)), nx k, x3]) (tgt := gN 3) (body := sIf (cBinT dIn (cVar 2) (cCallF f_l_won (cCons (cCallF f_l_with (cCons (cVar 0) (cCons (cVar 2) (cCons (cTup (cCons (cBin dIx (cBin dIx (cVarB 0) (cVar 2)) (cK (.int 0))) (cCons (cVar 3) cNil))) cNil)))) (cCons (cVar 1) cNil)))) (sRet (cVar 3)) sNext) (enc := nD) (out := nD) (hit := fun w => if wi m bs k (bd bs k).1 w = true then some w else none) (xs := List.range 260) (ρ := enter 4 3 [bidsD bs, mD m, nD k])
    (fun w hw ρ ⟨x3, er⟩ => by
      subst er
      have hw := List.mem_range.mp hw
      have ok' : BsOk g (bs.set k ((bd bs k).1, w)) := ok.set k (b := ((bd bs k).1, w)) hB (show w ≤ 1000000 by omega)
      have t : cBinT dIn (cVar 2) (cCallF f_l_won (cCons (cCallF f_l_with (cCons (cVar 0) (cCons (cVar 2) (cCons (cTup (cCons (cBin dIx (cBin dIx (cVarB 0) (cVar 2)) (cK (.int 0))) (cCons (cVar 3) cNil))) cNil)))) (cCons (cVar 1) cNil))) [some (.v (bidsD bs)), some (.v (mD m)), nx k, nx w] = .ok (wi m bs k (bd bs k).1 w) := by
        refine inT_of (x := nD k) (y := lsD (wonL m (bs.set k ((bd bs k).1, w)))) rfl (cCallF_of (ds := [bidsD (bs.set k ((bd bs k).1, w)), mD m]) (cCons_of (cCallF_of (ds := [bidsD bs, nD k, bidD ((bd bs k).1, w)]) (cCons_of rfl (cCons_of rfl (cCons_of (cTup2_of (a := bsD (bd bs k).1) (b := nD w) (ix_goods (b := bd bs k) (ix_bid rfl rfl hk)) rfl) rfl))) (l_with_eq hk (by have := ok.few; omega) _)) rfl) (l_won_eq ok' h5)) ?_
        rw [in_ls, wonL_has (by rw [List.length_set]; exact hk)]
        rfl
      refine ⟨[some (.v (bidsD bs)), some (.v (mD m)), nx k, nx w], rfl, ?_⟩
      cases hp : wi m bs k (bd bs k).1 w with
      | true =>
        rw [hp] at t
        exact .inl ⟨w, if_pos rfl, sIf_true t (sRet_rt rfl)⟩
      | false =>
        rw [hp] at t
        exact .inr ⟨if_neg (by decide), _, sIf_false t rfl, _, rfl⟩) ⟨none, rfl⟩ with ⟨b, e1, e2⟩ | ⟨e1, _⟩
  · rw [find_some, sp.1] at e1
    cases e1
    exact (congrArg SR.out (sSeq_rt (sFor_of (cIter1_of (d := nD 260) rfl (dRange1_nat (by decide))) e2))).trans rfl
  · rw [find_some, sp.1] at e1
    cases e1
theorem least_set (k : Nat) (b : Bid) (B : List Nat) : least m (bs.set k b) k B = least m bs k B := by
  have : wi m (bs.set k b) k B = wi m bs k B := funext fun w => by
    unfold wi
    rw [List.set_set]
  unfold least
  rw [this]
theorem subs_nil (B B' : List Nat) : subs B B' = decide ((B.filter fun x => !B'.contains x) = []) := by
  rw [Bool.eq_iff_iff, decide_eq_true_iff, List.filter_eq_nil_iff, subs_iff]
  exact ⟨fun h x hx hn => by simp [h x hx] at hn, fun h x hx => by
    have := h x hx
    simpa using this⟩
abbrev lgE (bs : List Bid) (m : Ms) (k : Nat) (b : Bid) (g : Nat) (x5 x6 : Option Sl) : En := [some (.v (bidsD bs)), some (.v (mD m)), nx k, some (.v (bidD b)), nx g, x5, x6, none]
theorem l_gain_eq (ok : BsOk g bs) (h1 : 1 ≤ g) (h5 : g ≤ 5) {k : Nat} (hk : k < bs.length) (hv : ∀ j, j < bs.length → j ≠ k → (bd bs j).2 ≤ 50) {b : Bid} (hb : Bn g b.1) (hw : b.2 ≤ 1000000) : f_l_gain [bidsD bs, mD m, nD k, bidD b, nD g] = .ok (.int (gainOf m bs k b)) := by
  have ok' : BsOk g (bs.set k b) := ok.set k hb hw
  have hk' : k < (bs.set k b).length := by rw [List.length_set]; exact hk
  unfold f_l_gain g_l_gain
  refine runF_of rfl ?_
  have s1 := (sSet_of (i := 5) (ρ := enter 8 5 [bidsD bs, mD m, nD k, bidD b, nD g]) (f := cCallF f_l_with (cCons (cVar 0) (cCons (cVar 2) (cCons (cVar 3) cNil)))) (cCallF_of (ds := [bidsD bs, nD k, bidD b]) rfl (l_with_eq hk (by have := ok.few; omega) b))).trans (show _ = SR.nx (lgE bs m k b g (some (.v (bidsD (bs.set k b)))) none) from rfl)
  have t : cBinT dNotIn (cVar 2) (cCallF f_l_won (cCons (cVar 5) (cCons (cVar 1) cNil))) (lgE bs m k b g (some (.v (bidsD (bs.set k b)))) none) = .ok (!wins m (bs.set k b) k) :=
    notinT_of (x := nD k) (y := lsD (wonL m (bs.set k b))) rfl (cCallF_of (ds := [bidsD (bs.set k b), mD m]) rfl (l_won_eq ok' h5)) (by rw [in_ls, wonL_has hk'])
  cases hc : wins m (bs.set k b) k with
  | false =>
    rw [hc] at t
    refine (congrArg SR.out (sSeq_nx s1 (sSeq_rt (sIf_true t (sRet_rt (d := .int 0) rfl))))).trans ?_
    unfold gainOf
    rw [if_neg (by rw [hc]; decide)]
    rfl
  | true =>
    rw [hc] at t
    have hz := Nat.le_trans (ok.bn _ (bd_mem hk)).len h5
    have e := lcL_gen (tgt := gN 7) (p := cBinT dNotIn (cVar 7) (cBin dIx (cVarB 3) (cK (.int 0)))) (f := cVar 7) (ρ := lgE bs m k b g (some (.v (bidsD (bs.set k b)))) none) (enc := nD) (fun o => [some (.v (bidsD bs)), some (.v (mD m)), nx k, some (.v (bidD b)), nx g, some (.v (bidsD (bs.set k b))), none, nx o]) (fun o => !b.1.contains o) nD (xs := (bd bs k).1) fun o ho => ⟨rfl, notinT_of (x := nD o) (y := bsD b.1) rfl (ix_goods rfl) (in_bs o b.1), fun _ => rfl⟩
    have q1 : cCall dInt (cCons (cBin dEq (cLc [7] (cItems (cBin dIx (cBin dIx (cVarB 0) (cVar 2)) (cK (.int 0)))) (gN 7) (cBinT dNotIn (cVar 7) (cBin dIx (cVarB 3) (cK (.int 0)))) (cVar 7)) (cList cNil)) cNil) (lgE bs m k b g (some (.v (bidsD (bs.set k b)))) none) = .ok (nD (if subs (bd bs k).1 b.1 = true then 1 else 0)) := by
      refine cCall1_of (d := .bool (subs (bd bs k).1 b.1)) ?_ ?_
      · rw [subs_nil]
        exact cBin_of (b := lsD []) (cLc_of (vs := [7]) (ρ := lgE bs m k b g (some (.v (bidsD (bs.set k b)))) none) (cItemsT_of (ds := (bd bs k).1.map nD) (ix_goods (ix_bid rfl rfl hk))) e (by rw [List.length_map]; exact sz (Nat.le_trans (List.length_filter_le _ _) (by omega)))) rfl (eq_ls _ [])
      · cases subs (bd bs k).1 b.1 <;> rfl
    have wl := ok.low _ (bd_mem hk)
    have s2 := (sSet_of (i := 6) (ρ := lgE bs m k b g (some (.v (bidsD (bs.set k b)))) none) (f := cBin dMul (cBin dIx (cBin dIx (cVarB 0) (cVar 2)) (cK (.int 1))) (cCall dInt (cCons (cBin dEq (cLc [7] (cItems (cBin dIx (cBin dIx (cVarB 0) (cVar 2)) (cK (.int 0)))) (gN 7) (cBinT dNotIn (cVar 7) (cBin dIx (cVarB 3) (cK (.int 0)))) (cVar 7)) (cList cNil)) cNil)))
      (d := nD ((bd bs k).2 * (if subs (bd bs k).1 b.1 = true then 1 else 0))) (cBin_of (ix_worth (ix_bid rfl rfl hk)) q1 (mul_nat _ _ (Nat.lt_of_le_of_lt wl (by decide)) (by split <;> decide)))).trans (show _ = SR.nx (lgE bs m k b g (some (.v (bidsD (bs.set k b)))) (nx ((bd bs k).2 * (if subs (bd bs k).1 b.1 = true then 1 else 0)))) from rfl)
    refine (congrArg SR.out (sSeq_nx s1 (sSeq_nx (sIf_false t rfl) (sSeq_nx s2 rfl)))).trans (sRet_of ?_)
    have lw := least_winning_eq (m := m) ok' h1 h5 hk' (fun j hj hjk => by rw [bd_set_ne _ hjk]; exact hv j (by rw [List.length_set] at hj; exact hj) hjk)
    rw [bd_set _ hk, least_set] at lw
    refine cBin_of (a := nD ((bd bs k).2 * (if subs (bd bs k).1 b.1 = true then 1 else 0))) rfl (cCallF_of (ds := [bidsD (bs.set k b), nD g, mD m, nD k]) rfl lw) ?_
    unfold gainOf
    rw [if_pos hc]
    show some (PyData.int ((((bd bs k).2 * (if subs (bd bs k).1 b.1 = true then 1 else 0) : Nat) : Int) - ((least m bs k b.1 : Nat) : Int))) = _
    congr 2
    split <;> simp
end
end K06

namespace K06
open PySem PySem.Spec PyProof.Rows L2 G
theorem faults_eq : f_l_faults [] = .ok (.bool true) := by kernel_rfl
/-! ### drawn bundles -/
def bndl (ds : List Nat) (k g : Nat) : List Nat := if ((List.range g).filter fun x => decide (mixOf ds (k + x) 2 = 0)) = [] then [mixOf ds (k + 7) g] else (List.range g).filter fun x => decide (mixOf ds (k + x) 2 = 0)
theorem bndl_bn (ds : List Nat) (k : Nat) {g : Nat} (hg : 1 ≤ g) : Bn g (bndl ds k g) := by
  unfold bndl
  split
  · exact ⟨by simp, by simp, fun x hx => by rw [List.mem_singleton.mp hx]; exact mix_lt ds _ hg⟩
  · rename_i h
    exact ⟨h, (range_up g).filter _, fun x hx => List.mem_range.mp (List.mem_filter.mp hx).1⟩
theorem l_bundle_eq {ds : List Nat} (h : Draws ds) {k g : Nat} (hk : k < 90000) (h1 : 1 ≤ g) (h5 : g ≤ 5) : f_l_bundle [.list (ds.map nD), nD k, nD g] = .ok (bsD (bndl ds k g)) := by
  unfold f_l_bundle g_l_bundle
  refine runF_of rfl ?_
  have e := lcL_gen (tgt := gN 4) (p := cBinT dEq (cCallF f_l_mix (cCons (cVar 0) (cCons (cBin dAdd (cVar 1) (cVar 4)) (cCons (cK (.int 2)) cNil)))) (cK (.int 0))) (f := cVar 4) (ρ := enter 5 3 [.list (ds.map nD), nD k, nD g]) (enc := nD) (fun o => [some (.v (.list (ds.map nD))), nx k, nx g, none, nx o]) (fun x => decide (mixOf ds (k + x) 2 = 0)) nD (xs := List.range g) fun o ho => ⟨rfl, by
      have := List.mem_range.mp ho
      have q : cBinT dEq (cCallF f_l_mix (cCons (cVar 0) (cCons (cBin dAdd (cVar 1) (cVar 4)) (cCons (cK (.int 2)) cNil)))) (cK (.int 0)) [some (.v (.list (ds.map nD))), nx k, nx g, none, nx o] = .ok (decide (mixOf ds (k + o) 2 = 0)) :=
        cBinT_of (a := nD (mixOf ds (k + o) 2)) (b := nD 0) (cCallF_of (ds := [.list (ds.map nD), nD (k + o), nD 2]) (cCons_of rfl (cCons_of (cBin_of (a := nD k) (b := nD o) rfl rfl (add_nat k o)) rfl)) (mix_eq h (by omega) (by decide))) rfl (eq_nat _ 0)
      exact q, fun _ => rfl⟩
  have s1 := (sSet_of (i := 3) (ρ := enter 5 3 [.list (ds.map nD), nD k, nD g]) (cLc_of (vs := [4]) (ρ := enter 5 3 [.list (ds.map nD), nD k, nD g]) (l := cIter dRange1 (cCons (cVarB 2) cNil)) (cIter1_of (d := nD g) rfl (dRange1_nat (by omega))) e (by rw [List.length_map]; exact sz (Nat.le_trans (List.length_filter_le _ _) (by rw [List.length_range]; omega))))).trans
    (show _ = SR.nx [some (.v (.list (ds.map nD))), nx k, nx g, some (.v (lsD ((List.range g).filter fun x => decide (mixOf ds (k + x) 2 = 0)))), none] from rfl)
  have t := cBinT_of (dop := dEq) (f := cVarB 3) (g := cList cNil) (ρ := [some (.v (.list (ds.map nD))), nx k, nx g, some (.v (lsD ((List.range g).filter fun x => decide (mixOf ds (k + x) 2 = 0)))), none]) (a := lsD ((List.range g).filter fun x => decide (mixOf ds (k + x) 2 = 0))) (b := lsD []) rfl rfl (eq_ls _ [])
  by_cases hn : ((List.range g).filter fun x => decide (mixOf ds (k + x) 2 = 0)) = []
  · rw [decide_eq_true hn] at t
    have s2 := (sSet_of (i := 3) (ρ := [some (.v (.list (ds.map nD))), nx k, nx g, some (.v (lsD ((List.range g).filter fun x => decide (mixOf ds (k + x) 2 = 0)))), none]) (f := cList (cCons (cCallF f_l_mix (cCons (cVar 0) (cCons (cBin dAdd (cVar 1) (cK (.int 7))) (cCons (cVar 2) cNil)))) cNil)) (d := lsD [mixOf ds (k + 7) g])
      (cList_of' (cCons_of (cCallF_of (ds := [.list (ds.map nD), nD (k + 7), nD g]) (cCons_of rfl (cCons_of (cBin_of (a := nD k) (b := nD 7) rfl rfl (add_nat k 7)) rfl)) (mix_eq h (by omega) h1)) rfl) (by simp))).trans (show _ = SR.nx [some (.v (.list (ds.map nD))), nx k, nx g, some (.v (lsD [mixOf ds (k + 7) g])), none] from rfl)
    refine (congrArg SR.out (sSeq_nx s1 (sSeq_nx (sIf_true t s2) rfl))).trans (sRet_of (cCall1_of (d := lsD [mixOf ds (k + 7) g]) rfl ?_))
    unfold bndl
    rw [if_pos hn]
    rfl
  · rw [decide_eq_false hn] at t
    refine (congrArg SR.out (sSeq_nx s1 (sSeq_nx (sIf_false t rfl) rfl))).trans (sRet_of (cCall1_of (d := lsD ((List.range g).filter fun x => decide (mixOf ds (k + x) 2 = 0))) rfl ?_))
    unfold bndl
    rw [if_neg hn]
    rfl
/-! ### the tables of bids -/
def num (l : List Nat) : Nat := (l.map fun x => 2 ^ x).sum
theorem num_all : all5.map (fun l => f_number_of [bsD l]) = all5.map fun l => R.ok (nD (num l)) := by kernel_rfl
theorem num_facts : ∀ g, g < 6 → ∀ l ∈ all5, l ≠ [] → (∀ x ∈ l, x < g) → num l < 2 ^ g ∧ C.sub (num l) (num l) = true ∧ C.sub (num l) 0 = false ∧ C.sub (num l) (2 ^ g - 1) = true := by decide +kernel
theorem pow_ix : ∀ g : Nat, g < 6 → dIx (.tuple [(.int 1), (.int 2), (.int 4), (.int 8), (.int 16), (.int 32), (.int 64)]) (nD g) = some (nD (2 ^ g))
  | 0, _ => by kernel_rfl
  | 1, _ => by kernel_rfl
  | 2, _ => by kernel_rfl
  | 3, _ => by kernel_rfl
  | 4, _ => by kernel_rfl
  | 5, _ => by kernel_rfl
  | g + 6, h => absurd h (by omega)
theorem pow_low {g : Nat} (h : g ≤ 5) : 2 ^ g ≤ 32 := Nat.pow_le_pow_right (n := 2) (by omega) h
def tabOf (g : Nat) (b : Bid) : List Nat := (List.range (2 ^ g)).map fun q => if C.sub (num b.1) q = true then b.2 else 0
abbrev oneD (b : Bid) : D := .tuple [.str "one", bsD b.1, nD b.2]
theorem worths_eq {g : Nat} (h5 : g ≤ 5) {b : Bid} (hb : Bn g b.1) : f_worths [oneD b, nD g] = .ok (lsD (tabOf g b)) := by
  have hm := hb.all5 h5
  have nf := num_facts g (by omega) b.1 hm hb.ne hb.lt
  have p32 := pow_low h5
  show f_worths_n (7 + 1) _ = _
  rw [f_worths_n]
  unfold g_worths
  refine runF_of rfl ?_
  have c : cBinT dEq (cBin dIx (cVarB 0) (cK (.int 0))) (cK (.str "one")) (enter 6 2 [oneD b, nD g]) = .ok true := cBinT_of (a := .str "one") (cBin_of (a := oneD b) rfl rfl (by rw [dIxT_zero]; rfl)) rfl (by kernel_rfl)
  have s1 := (sSet_of (i := 3) (ρ := enter 6 2 [oneD b, nD g]) (f := cCallF f_number_of (cCons (cBin dIx (cVarB 0) (cK (.int 1))) cNil)) (cCallF1_of (d := bsD b.1) (cBin_of (a := oneD b) rfl rfl (by rw [dIxT_one]; rfl)) (at_map num_all hm))).trans (show _ = SR.nx [some (.v (oneD b)), nx g, none, nx (num b.1), none, none] from rfl)
  have e := lcL_map (tgt := gN 5) (f := cIf (cTest (cCallF f_within (cCons (cVar 3) (cCons (cVar 5) cNil)))) (cBin dIx (cVarB 0) (cK (.int 2))) (cK (.int 0))) (ρ := [some (.v (oneD b)), nx g, none, nx (num b.1), none, none]) (enc := nD) (fun w => [some (.v (oneD b)), nx g, none, nx (num b.1), none, nx w]) (fun w => nD (if C.sub (num b.1) w = true then b.2 else 0)) (xs := List.range (2 ^ g)) fun w hw => ⟨rfl, by
    have t1 : cTest (cCallF f_within (cCons (cVar 3) (cCons (cVar 5) cNil))) [some (.v (oneD b)), nx g, none, nx (num b.1), none, nx w] = .ok (C.sub (num b.1) w) := cTest_of (cCallF_of (ds := [nD (num b.1), nD w]) rfl (within_eq _ _ (Nat.lt_trans (Nat.lt_of_lt_of_le nf.1 p32) (by decide))))
    by_cases hs : C.sub (num b.1) w = true
    · rw [hs] at t1
      rw [if_pos hs]
      exact cIf_t t1 (cBin_of (a := oneD b) (b := .int 2) rfl rfl rfl)
    · rw [if_neg hs]
      rw [Bool.not_eq_true] at hs
      rw [hs] at t1
      exact cIf_f t1 rfl⟩
  have e2 : (List.range (2 ^ g)).map (fun w => nD (if C.sub (num b.1) w = true then b.2 else 0)) = (tabOf g b).map nD := by unfold tabOf; rw [List.map_map]; rfl
  rw [e2] at e
  have q2 : cIter dRange1 (cCons (cBin dIx (cK (.tuple [(.int 1), (.int 2), (.int 4), (.int 8), (.int 16), (.int 32), (.int 64)])) (cVar 1)) cNil) [some (.v (oneD b)), nx g, none, nx (num b.1), none, none] = .ok ((List.range (2 ^ g)).map nD) := cIter1_of (d := nD (2 ^ g)) (cBin_of rfl rfl (pow_ix g (by omega))) (dRange1_nat (Nat.lt_trans (show 2 ^ g < 100 by omega) (by decide)))
  have q3 := cLc_of (vs := [5]) (ρ := disown [some (.v (oneD b)), nx g, none, nx (num b.1), none, none]) q2 e (by rw [List.length_map]; unfold tabOf; rw [List.length_map, List.length_range]; exact sz (by omega))
  exact (congrArg SR.out (sSeq_rt (sIf_true c (sSeq_nx s1 (sRet_rt q3))))).trans rfl
theorem book_of_eq {g : Nat} {bs : List Bid} (ok : BsOk g bs) (h1 : 1 ≤ g) (h5 : g ≤ 5) : f_book_of [bidsD bs, nD g] = .ok (.list (bs.map fun b => lsD (tabOf g b))) := by
  unfold f_book_of g_book_of
  refine runF_of rfl ?_
  have s1 : sExpr (cCallF f_check_bids (cCons (cVar 0) (cCons (cVar 1) cNil))) (enter 4 2 [bidsD bs, nD g]) = .nx (enter 4 2 [bidsD bs, nD g]) := sExpr_of (cCallF_of (ds := [bidsD bs, nD g]) rfl (check_bids_eq ok h1 h5))
  have e := lcL_map (tgt := gT (gC (gN 2) (gC (gN 3) gE))) (f := cCallF f_worths (cCons (cTup (cCons (cK (.str "one")) (cCons (cVar 2) (cCons (cVar 3) cNil)))) (cCons (cVar 1) cNil))) (ρ := enter 4 2 [bidsD bs, nD g]) (enc := bidD) (fun b => [some (.v (bidsD bs)), nx g, sx b.1, nx b.2]) (fun b => lsD (tabOf g b)) (xs := bs) fun b hb => ⟨rfl, cCallF_of (ds := [oneD b, nD g]) rfl (worths_eq h5 (ok.bn b hb))⟩
  exact (congrArg SR.out (sSeq_nx s1 rfl)).trans (sRet_of (cLc_of (vs := [2, 3]) (ρ := disown (enter 4 2 [bidsD bs, nD g])) (cItems_of (ds := bs.map bidD) rfl) e (by rw [List.length_map]; exact sz (by have := ok.few; omega))))
theorem tab_at {g : Nat} {b : Bid} {i : Nat} (h : i < 2 ^ g) : dIx (lsD (tabOf g b)) (nD i) = some (nD (if C.sub (num b.1) i = true then b.2 else 0)) := by
  rw [dIx_nat]
  unfold tabOf
  rw [List.getElem?_map, List.getElem?_map, List.getElem?_range h]
  rfl
theorem tab_last {g : Nat} {b : Bid} : dIx (lsD (tabOf g b)) (.int (-1)) = some (nD (if C.sub (num b.1) (2 ^ g - 1) = true then b.2 else 0)) := by
  have hp : 0 < 2 ^ g := Nat.pow_pos (by omega)
  rw [dIx_last, List.getLast?_eq_getElem?]
  unfold tabOf
  rw [List.length_map, List.length_map, List.length_range, List.getElem?_map, List.getElem?_map, List.getElem?_range (by omega)]
  rfl
theorem pows_ix : ∀ g : Nat, g < 5 → dIx (.list [(.int 1), (.int 2), (.int 4), (.int 8), (.int 16)]) (nD g) = some (nD (2 ^ g))
  | 0, _ => by kernel_rfl
  | 1, _ => by kernel_rfl
  | 2, _ => by kernel_rfl
  | 3, _ => by kernel_rfl
  | 4, _ => by kernel_rfl
  | g + 5, h => absurd h (by omega)
theorem lens_ix : ∀ g : Nat, 1 ≤ g → g ≤ 5 → dIx (.list [(.int 2), (.int 4), (.int 8), (.int 16), (.int 32)]) (.int ((g : Int) - 1)) = some (nD (2 ^ g))
  | 0, h, _ => absurd h (by omega)
  | 1, _, _ => by kernel_rfl
  | 2, _, _ => by kernel_rfl
  | 3, _, _ => by kernel_rfl
  | 4, _, _ => by kernel_rfl
  | 5, _, _ => by kernel_rfl
  | g + 6, _, h => absurd h (by omega)
theorem sum_nats (l : List Nat) : dSum [lsD l] = some (nD l.sum) := by
  show (intsOf (l.map nD)).map _ = _
  rw [show l.map nD = l.map fun n : Nat => PyData.int ((fun n : Nat => (n : Int)) n) from rfl, intsOf_int, Option.map_some]
  congr 2
  induction l with
  | nil => rfl
  | cons a l ih => rw [List.map_cons, List.sum_cons, List.sum_cons, ih]; simp
theorem fine_nat {n : Nat} (h : n ≤ 1000000) : Fine (nD n) 0 1921 := fine_big (small_big (by omega) (by omega))
theorem fine_bids {g : Nat} {bs : List Bid} (ok : BsOk g bs) (h5 : g ≤ 5) : Fine (bidsD bs) 3 400000 := by
  refine (fine_list (dep := 2) (len := 20000) (m := 12) (fun x hx => ?_) (by rw [List.length_map]; exact ok.few)).mono (by omega) (by omega)
  obtain ⟨b, hb, rfl⟩ := List.mem_map.mp hx
  have hB := ok.bn b hb
  have f1 : Fine (bsD b.1) 1 9650 := (fine_tup (dep := 0) (len := 1921) (m := 5) (fun y hy => by
    obtain ⟨n, hn, rfl⟩ := List.mem_map.mp hy
    exact fine_nat (by have := hB.lt n hn; omega)) (by rw [List.length_map]; exact Nat.le_trans hB.len h5)).mono (by omega) (by omega)
  refine (fine_tup (xs := [bsD b.1, nD b.2]) (dep := 1) (len := 9650) (m := 2) (fun y hy => ?_) (Nat.le_refl 2)).mono (by omega) (by omega)
  rcases List.mem_cons.mp hy with e | hy
  · rw [e]; exact f1
  · rw [List.mem_singleton.mp hy]; exact (fine_nat (ok.low b hb)).mono (by omega) (by omega)
end K06

namespace K06
open PySem PySem.Spec PyProof.Rows L2 G
/-! ### the law -/
abbrev laE (ns : List Int) (ds : List Nat) (g : Nat) (bs : List Bid) (kept : D) (x5 x7 x8 x9 x10 x11 x12 x14 x15 x16 x17 : Option Sl) : En :=
  [some (.sc ns), some (.v (.list (ds.map nD))), nx g, some (.v (bidsD bs)), some (.v kept), x5, none, x7, x8, x9, x10, x11, x12, none, x14, x15, x16, x17, none]
section
variable {ns : List Int} {ds : List Nat} {g : Nat} {bs : List Bid} {kept : D} {m : Ms}
/-- the prices, bid by bid -/
abbrev la_k : En → SR := (sSeq (sSet 14 (cCallF f_least_winning (cCons (cVar 3) (cCons (cVar 2) (cCons (cVar 5) (cCons (cVar 7) cNil))))))
    (sSeq (sIf (cBinT dNe (cVarB 14) (cCallF f_l_least (cCons (cVar 3) (cCons (cVar 5) (cCons (cVar 7) cNil)))))
    (sRet (cK (.bool false)))
    sNext)
    (sSeq (sAppend 9 (cBin dIx (cList (cCons (cK (.int 0)) (cCons (cVar 14) cNil))) (cCall dInt (cCons (cBin dIn (cVar 7) (cVarB 8)) cNil))))
    (sIf (cBinT dIn (cVar 7) (cVarB 8))
    (sSeq (sSet 16 (cCallF f_l_with (cCons (cVar 3) (cCons (cVar 7) (cCons (cTup (cCons (cBin dIx (cBin dIx (cVarB 3) (cVar 7)) (cK (.int 0))) (cCons (cBin dAdd (cBin dAdd (cBin dIx (cBin dIx (cVarB 3) (cVar 7)) (cK (.int 1))) (cK (.int 1))) (cCallF f_l_mix (cCons (cVar 1) (cCons (cBin dAdd (cK (.int 120)) (cVar 7)) (cCons (cK (.int 9)) cNil))))) cNil))) cNil)))))
    (sSeq (sSet 17 (cCallF f_l_with (cCons (cVar 3) (cCons (cVar 7) (cCons (cTup (cCons (cSlice (cBin dIx (cBin dIx (cVarB 3) (cVar 7)) (cK (.int 0))) cPartN (cPart (cBin dAdd (cK (.int 1)) (cCallF f_l_mix (cCons (cVar 1) (cCons (cBin dAdd (cK (.int 130)) (cVar 7)) (cCons (cCall dLen (cCons (cBin dIx (cBin dIx (cVarB 3) (cVar 7)) (cK (.int 0))) cNil)) cNil))))))) (cCons (cBin dIx (cBin dIx (cVarB 3) (cVar 7)) (cK (.int 1))) cNil))) cNil)))))
    (sIf (cOr (cBinT dNotIn (cVar 7) (cCallF f_winners (cCons (cVar 16) (cCons (cVar 2) (cCons (cVar 5) cNil))))) (cOr (cBinT dNotIn (cVar 7) (cCallF f_winners (cCons (cVar 17) (cCons (cVar 2) (cCons (cVar 5) cNil))))) (cBinT dGt (cVarB 14) (cBin dIx (cBin dIx (cVarB 3) (cVar 7)) (cK (.int 1))))))
    (sRet (cK (.bool false)))
    sNext)))
    sNext))))
theorem take_bn {l : List Nat} (h : Bn g l) {j : Nat} (hj : 1 ≤ j) : Bn g (l.take j) where
  ne := fun e => by
    have := congrArg List.length e
    rw [List.length_take, List.length_nil] at this
    have := h.pos
    omega
  up := h.up.sublist (List.take_sublist _ _)
  lt := fun x hx => h.lt x (List.mem_of_mem_take hx)
theorem int_bool (b : Bool) : dInt [.bool b] = some (nD (if b = true then 1 else 0)) := by cases b <;> rfl
theorem la_kstep (hd : Draws ds) (ok : BsOk g bs) (h1 : 1 ≤ g) (h5 : g ≤ 5) (hv : ∀ b ∈ bs, b.2 ≤ 50) {k : Nat} (hk : k < bs.length) {due : List Nat} (hz : due.length ≤ 100) (x10 x11 x12 x14 x15 x16 x17 : Option Sl) : ∃ y14 y16 y17,
    la_k (laE ns ds g bs kept (some (.v (mD m))) (nx k) (some (.v (lsD (wonL m bs)))) (some (.own false (lsD due))) x10 x11 x12 x14 x15 x16 x17) = .nx (laE ns ds g bs kept (some (.v (mD m))) (nx k) (some (.v (lsD (wonL m bs)))) (some (.own false (lsD (due ++ [if wins m bs k = true then least m bs k (bd bs k).1 else 0])))) x10 x11 x12 y14 x15 y16 y17) := by
  have hv' : ∀ j, j < bs.length → j ≠ k → (bd bs j).2 ≤ 50 := fun j hj _ => hv _ (bd_mem hj)
  have hB := ok.bn _ (bd_mem hk)
  have hvk := hv _ (bd_mem hk)
  have sp := least_spec (m := m) ok h5 hk hv' hB
  have few := ok.few
  obtain ⟨T, hT⟩ : ∃ T, T = least m bs k (bd bs k).1 := ⟨_, rfl⟩
  have s1 := (sSet_of (i := 14) (ρ := laE ns ds g bs kept (some (.v (mD m))) (nx k) (some (.v (lsD (wonL m bs)))) (some (.own false (lsD due))) x10 x11 x12 x14 x15 x16 x17) (f := cCallF f_least_winning (cCons (cVar 3) (cCons (cVar 2) (cCons (cVar 5) (cCons (cVar 7) cNil))))) (d := nD T) (cCallF_of (ds := [bidsD bs, nD g, mD m, nD k]) rfl (by rw [hT]; exact least_winning_eq ok h1 h5 hk hv'))).trans
    (show _ = SR.nx (laE ns ds g bs kept (some (.v (mD m))) (nx k) (some (.v (lsD (wonL m bs)))) (some (.own false (lsD due))) x10 x11 x12 (nx T) x15 x16 x17) from rfl)
  have s2 : sIf (cBinT dNe (cVarB 14) (cCallF f_l_least (cCons (cVar 3) (cCons (cVar 5) (cCons (cVar 7) cNil))))) (sRet (cK (.bool false))) sNext (laE ns ds g bs kept (some (.v (mD m))) (nx k) (some (.v (lsD (wonL m bs)))) (some (.own false (lsD due))) x10 x11 x12 (nx T) x15 x16 x17) = .nx (laE ns ds g bs kept (some (.v (mD m))) (nx k) (some (.v (lsD (wonL m bs)))) (some (.own false (lsD due))) x10 x11 x12 (nx T) x15 x16 x17) :=
    sIf_false (cBinT_of (a := nD T) (b := nD T) rfl (cCallF_of (ds := [bidsD bs, mD m, nD k]) rfl (by rw [hT]; exact l_least_eq ok h5 hk hv')) (by rw [ne_nat, decide_eq_false (by simp)])) rfl
  have hin : ∀ x9 x14 x16 x17, cBinT dIn (cVar 7) (cVarB 8) (laE ns ds g bs kept (some (.v (mD m))) (nx k) (some (.v (lsD (wonL m bs)))) x9 x10 x11 x12 x14 x15 x16 x17) = .ok (wins m bs k) := fun _ _ _ _ => inT_of (x := nD k) (y := lsD (wonL m bs)) rfl rfl (by rw [in_ls, wonL_has hk])
  have q3 : cBin dIx (cList (cCons (cK (.int 0)) (cCons (cVar 14) cNil))) (cCall dInt (cCons (cBin dIn (cVar 7) (cVarB 8)) cNil)) (laE ns ds g bs kept (some (.v (mD m))) (nx k) (some (.v (lsD (wonL m bs)))) (some (.own false (lsD due))) x10 x11 x12 (nx T) x15 x16 x17) = .ok (nD (if wins m bs k = true then T else 0)) := by
    refine cBin_of (a := lsD [0, T]) (b := nD (if wins m bs k = true then 1 else 0)) rfl (cCall1_of (d := .bool (wins m bs k)) (cBin_of (a := nD k) (b := lsD (wonL m bs)) rfl rfl (dIn_of (by rw [in_ls, wonL_has hk]))) (int_bool _)) ?_
    rw [dIx_nat]
    cases wins m bs k <;> rfl
  have s3 := (sAppend_of (i := 9) (ρ := laE ns ds g bs kept (some (.v (mD m))) (nx k) (some (.v (lsD (wonL m bs)))) (some (.own false (lsD due))) x10 x11 x12 (nx T) x15 x16 x17) (t := false) (ds := due.map nD) rfl q3 (by rw [List.length_map]; unfold sizeLine; omega)).trans
    (show _ = SR.nx (laE ns ds g bs kept (some (.v (mD m))) (nx k) (some (.v (lsD (wonL m bs)))) (some (.own false (lsD (due ++ [if wins m bs k = true then T else 0])))) x10 x11 x12 (nx T) x15 x16 x17) by
      unfold laE lsD
      rw [List.map_append]
      rfl)
  rw [← hT]
  have t := hin (some (.own false (lsD (due ++ [if wins m bs k = true then T else 0])))) (nx T) x16 x17
  cases hw : wins m bs k with
  | false =>
    rw [hw] at t s3
    exact ⟨_, _, _, sSeq_nx s1 (sSeq_nx s2 (sSeq_nx s3 (sIf_false t rfl)))⟩
  | true =>
    rw [hw] at t s3
    obtain ⟨W, hW⟩ : ∃ W, W = (bd bs k).2 + 1 + mixOf ds (120 + k) 9 := ⟨_, rfl⟩
    have m9 := mix_lt ds (120 + k) (m := 9) (by omega)
    have okM : BsOk g (bs.set k ((bd bs k).1, W)) := ok.set k (b := ((bd bs k).1, W)) hB (show W ≤ 1000000 by omega)
    have q4 : cTup (cCons (cBin dIx (cBin dIx (cVarB 3) (cVar 7)) (cK (.int 0))) (cCons (cBin dAdd (cBin dAdd (cBin dIx (cBin dIx (cVarB 3) (cVar 7)) (cK (.int 1))) (cK (.int 1))) (cCallF f_l_mix (cCons (cVar 1) (cCons (cBin dAdd (cK (.int 120)) (cVar 7)) (cCons (cK (.int 9)) cNil))))) cNil)) (laE ns ds g bs kept (some (.v (mD m))) (nx k) (some (.v (lsD (wonL m bs)))) (some (.own false (lsD (due ++ [if true = true then T else 0])))) x10 x11 x12 (nx T) x15 x16 x17) = .ok (bidD ((bd bs k).1, W)) := by
      rw [hW]
      exact cTup2_of (a := bsD (bd bs k).1) (b := nD ((bd bs k).2 + 1 + mixOf ds (120 + k) 9)) (ix_goods (b := bd bs k) (ix_bid rfl rfl hk)) (cBin_of (cBin_of (b := nD 1) (ix_worth (ix_bid rfl rfl hk)) rfl (add_nat _ 1)) (cCallF_of (ds := [.list (ds.map nD), nD (120 + k), nD 9]) (cCons_of rfl (cCons_of (cBin_of (a := nD 120) (b := nD k) rfl rfl (add_nat _ _)) rfl)) (mix_eq hd (by omega) (by omega))) (add_nat _ _))
    have s4 := (sSet_of (i := 16) (ρ := laE ns ds g bs kept (some (.v (mD m))) (nx k) (some (.v (lsD (wonL m bs)))) (some (.own false (lsD (due ++ [if true = true then T else 0])))) x10 x11 x12 (nx T) x15 x16 x17) (d := bidsD (bs.set k ((bd bs k).1, W))) (cCallF_of (F := f_l_with) (l := cCons (cVar 3) (cCons (cVar 7) (cCons _ cNil))) (ds := [bidsD bs, nD k, bidD ((bd bs k).1, W)]) (cCons_of rfl (cCons_of rfl (cCons_of q4 rfl))) (l_with_eq hk (by omega) _))).trans
      (show _ = SR.nx (laE ns ds g bs kept (some (.v (mD m))) (nx k) (some (.v (lsD (wonL m bs)))) (some (.own false (lsD (due ++ [if true = true then T else 0])))) x10 x11 x12 (nx T) x15 (some (.v (bidsD (bs.set k ((bd bs k).1, W))))) x17) from rfl)
    obtain ⟨J, hJ⟩ : ∃ J, J = 1 + mixOf ds (130 + k) (bd bs k).1.length := ⟨_, rfl⟩
    have hBt : Bn g ((bd bs k).1.take J) := take_bn hB (by omega)
    have okF : BsOk g (bs.set k ((bd bs k).1.take J, (bd bs k).2)) := ok.set k (b := ((bd bs k).1.take J, (bd bs k).2)) hBt (show (bd bs k).2 ≤ 1000000 by omega)
    have q5 : cTup (cCons (cSlice (cBin dIx (cBin dIx (cVarB 3) (cVar 7)) (cK (.int 0))) cPartN (cPart (cBin dAdd (cK (.int 1)) (cCallF f_l_mix (cCons (cVar 1) (cCons (cBin dAdd (cK (.int 130)) (cVar 7)) (cCons (cCall dLen (cCons (cBin dIx (cBin dIx (cVarB 3) (cVar 7)) (cK (.int 0))) cNil)) cNil))))))) (cCons (cBin dIx (cBin dIx (cVarB 3) (cVar 7)) (cK (.int 1))) cNil)) (laE ns ds g bs kept (some (.v (mD m))) (nx k) (some (.v (lsD (wonL m bs)))) (some (.own false (lsD (due ++ [if true = true then T else 0])))) x10 x11 x12 (nx T) x15 (some (.v (bidsD (bs.set k ((bd bs k).1, W))))) x17) = .ok (bidD ((bd bs k).1.take J, (bd bs k).2)) := by
      rw [hJ]
      refine (cTup2_of (cSliceT_to (xs := (bd bs k).1.map nD) (k := 1 + mixOf ds (130 + k) (bd bs k).1.length) (ix_goods (b := bd bs k) (ix_bid rfl rfl hk)) (cBin_of (a := nD 1) rfl (cCallF_of (ds := [.list (ds.map nD), nD (130 + k), nD (bd bs k).1.length]) (cCons_of rfl (cCons_of (cBin_of (a := nD 130) (b := nD k) rfl rfl (add_nat _ _)) (cCons_of (len_bs (ix_goods (b := bd bs k) (ix_bid rfl rfl hk))) rfl))) (mix_eq hd (by omega) hB.pos)) (add_nat 1 _))) (ix_worth (ix_bid rfl rfl hk))).trans ?_
      rw [← List.map_take]
    have s5 := (sSet_of (i := 17) (ρ := laE ns ds g bs kept (some (.v (mD m))) (nx k) (some (.v (lsD (wonL m bs)))) (some (.own false (lsD (due ++ [if true = true then T else 0])))) x10 x11 x12 (nx T) x15 (some (.v (bidsD (bs.set k ((bd bs k).1, W))))) x17) (d := bidsD (bs.set k ((bd bs k).1.take J, (bd bs k).2))) (cCallF_of (F := f_l_with) (l := cCons (cVar 3) (cCons (cVar 7) (cCons _ cNil))) (ds := [bidsD bs, nD k, bidD ((bd bs k).1.take J, (bd bs k).2)]) (cCons_of rfl (cCons_of rfl (cCons_of q5 rfl))) (l_with_eq hk (by omega) _))).trans
      (show _ = SR.nx (laE ns ds g bs kept (some (.v (mD m))) (nx k) (some (.v (lsD (wonL m bs)))) (some (.own false (lsD (due ++ [if true = true then T else 0])))) x10 x11 x12 (nx T) x15 (some (.v (bidsD (bs.set k ((bd bs k).1, W))))) (some (.v (bidsD (bs.set k ((bd bs k).1.take J, (bd bs k).2)))))) from rfl)
    have w1 : wins m (bs.set k ((bd bs k).1, W)) k = true := wi_mono (B := (bd bs k).1) (B' := (bd bs k).1) (w := (bd bs k).2) ok hk hB hB (fun x h => h) (by omega) (by omega) (by rw [wi_own hk]; exact hw)
    have w2 : wins m (bs.set k ((bd bs k).1.take J, (bd bs k).2)) k = true := wi_mono (B := (bd bs k).1) (B' := (bd bs k).1.take J) (w := (bd bs k).2) ok hk hB hBt (fun x h => List.mem_of_mem_take h) (Nat.le_refl _) (by omega) (by rw [wi_own hk]; exact hw)
    have le := own_le (m := m) ok h5 hk hv' hw
    rw [← hT] at le
    have t6 : cOr (cBinT dNotIn (cVar 7) (cCallF f_winners (cCons (cVar 16) (cCons (cVar 2) (cCons (cVar 5) cNil))))) (cOr (cBinT dNotIn (cVar 7) (cCallF f_winners (cCons (cVar 17) (cCons (cVar 2) (cCons (cVar 5) cNil))))) (cBinT dGt (cVarB 14) (cBin dIx (cBin dIx (cVarB 3) (cVar 7)) (cK (.int 1))))) (laE ns ds g bs kept (some (.v (mD m))) (nx k) (some (.v (lsD (wonL m bs)))) (some (.own false (lsD (due ++ [if true = true then T else 0])))) x10 x11 x12 (nx T) x15 (some (.v (bidsD (bs.set k ((bd bs k).1, W))))) (some (.v (bidsD (bs.set k ((bd bs k).1.take J, (bd bs k).2)))))) = .ok false := by
      refine cOr_ff ?_ (cOr_ff ?_ ?_)
      · exact notinT_of (x := nD k) (y := lsD (wonL m (bs.set k ((bd bs k).1, W)))) (b := true) rfl (cCallF_of (ds := [bidsD (bs.set k ((bd bs k).1, W)), nD g, mD m]) rfl (winners_eq okM h1 h5)) (by rw [in_ls, wonL_has (by rw [List.length_set]; exact hk), w1])
      · exact notinT_of (x := nD k) (y := lsD (wonL m (bs.set k ((bd bs k).1.take J, (bd bs k).2)))) (b := true) rfl (cCallF_of (ds := [bidsD (bs.set k ((bd bs k).1.take J, (bd bs k).2)), nD g, mD m]) rfl (winners_eq okF h1 h5)) (by rw [in_ls, wonL_has (by rw [List.length_set]; exact hk), w2])
      · exact cBinT_of (a := nD T) (b := nD (bd bs k).2) rfl (ix_worth (ix_bid rfl rfl hk)) (by rw [gt_nat, decide_eq_false (by omega)])
    exact ⟨_, _, _, sSeq_nx s1 (sSeq_nx s2 (sSeq_nx s3 (sIf_true t (sSeq_nx s4 (sSeq_nx s5 (sIf_false t6 rfl))))))⟩
end
end K06

namespace K06
open PySem PySem.Spec PyProof.Rows L2 G
section
variable {ns : List Int} {ds : List Nat} {g : Nat} {bs : List Bid} {kept : D} {m : Ms}
abbrev la_t : En → SR := (sSeq (sSet 7 (cCallF f_l_mix (cCons (cVar 1) (cCons (cBin dAdd (cK (.int 140)) (cBin dMul (cK (.int 12)) (cVarB 10))) (cCons (cCall dLen (cCons (cVarB 3) cNil)) cNil)))))
    (sSeq (sSet 15 (cTup (cCons (cCallF f_l_bundle (cCons (cVar 1) (cCons (cBin dAdd (cK (.int 141)) (cBin dMul (cK (.int 12)) (cVarB 10))) (cCons (cVar 2) cNil)))) (cCons (cCallF f_l_mix (cCons (cVar 1) (cCons (cBin dAdd (cK (.int 149)) (cBin dMul (cK (.int 12)) (cVarB 10))) (cCons (cK (.int 60)) cNil)))) cNil))))
    (sSeq (sIf (cBinT dLt (cVarB 10) (cK (.int 2)))
    (sSet 15 (cTup (cCons (cBin dIx (cBin dIx (cVarB 3) (cVar 7)) (cK (.int 0))) (cCons (cBin dIx (cVarB 15) (cK (.int 1))) cNil))))
    sNext)
    (sIf (cBinT dGt (cCallF f_l_gain (cCons (cVar 3) (cCons (cVar 5) (cCons (cVar 7) (cCons (cVar 15) (cCons (cVar 2) cNil)))))) (cCallF f_l_gain (cCons (cVar 3) (cCons (cVar 5) (cCons (cVar 7) (cCons (cBin dIx (cVarB 3) (cVar 7)) (cCons (cVar 2) cNil)))))))
    (sRet (cK (.bool false)))
    sNext))))
theorem at12 {ρ : En} {a t : Nat} (h : ρ[10]? = some (nx t)) (ht : t < 100) : cBin dAdd (cK (.int (a : Int))) (cBin dMul (cK (.int 12)) (cVarB 10)) ρ = .ok (nD (a + 12 * t)) := by
  have q : cVarB 10 ρ = .ok (nD t) := by
    unfold cVarB
    rw [h]
  exact cBin_of (a := nD a) rfl (cBin_of (a := nD 12) rfl q (mul_nat 12 t (by decide) (Nat.lt_trans ht (by decide)))) (add_nat _ _)
theorem la_tstep (hd : Draws ds) (ok : BsOk g bs) (h1 : 1 ≤ g) (h5 : g ≤ 5) (hv : ∀ b ∈ bs, b.2 ≤ 50) {t : Nat} (ht : t < 4) (x7 x8 x9 x11 x12 x14 x15 x16 x17 : Option Sl) : ∃ y7 y15,
    la_t (laE ns ds g bs kept (some (.v (mD m))) x7 x8 x9 (nx t) x11 x12 x14 x15 x16 x17) = .nx (laE ns ds g bs kept (some (.v (mD m))) y7 x8 x9 (nx t) x11 x12 x14 y15 x16 x17) := by
  have one := ok.one
  obtain ⟨k, hK⟩ : ∃ k, k = mixOf ds (140 + 12 * t) bs.length := ⟨_, rfl⟩
  have hk : k < bs.length := by rw [hK]; exact mix_lt ds _ one
  have hv' : ∀ j, j < bs.length → j ≠ k → (bd bs j).2 ≤ 50 := fun j hj _ => hv _ (bd_mem hj)
  have s1 := (sSet_of (i := 7) (ρ := laE ns ds g bs kept (some (.v (mD m))) x7 x8 x9 (nx t) x11 x12 x14 x15 x16 x17) (f := cCallF f_l_mix (cCons (cVar 1) (cCons (cBin dAdd (cK (.int 140)) (cBin dMul (cK (.int 12)) (cVarB 10))) (cCons (cCall dLen (cCons (cVarB 3) cNil)) cNil)))) (d := nD k) (cCallF_of (ds := [.list (ds.map nD), nD (140 + 12 * t), nD bs.length]) (cCons_of rfl (cCons_of (at12 (a := 140) rfl (by omega)) (cCons_of (len_bids rfl) rfl))) (by rw [hK]; exact mix_eq hd (by omega) one))).trans
    (show _ = SR.nx (laE ns ds g bs kept (some (.v (mD m))) (nx k) x8 x9 (nx t) x11 x12 x14 x15 x16 x17) from rfl)
  obtain ⟨B0, hB0⟩ : ∃ B0, B0 = bndl ds (141 + 12 * t) g := ⟨_, rfl⟩
  have b0 : Bn g B0 := by rw [hB0]; exact bndl_bn ds _ h1
  obtain ⟨w, hw⟩ : ∃ w, w = mixOf ds (149 + 12 * t) 60 := ⟨_, rfl⟩
  have w60 : w < 60 := by rw [hw]; exact mix_lt ds _ (by omega)
  have s2 := (sSet_of (i := 15) (ρ := laE ns ds g bs kept (some (.v (mD m))) (nx k) x8 x9 (nx t) x11 x12 x14 x15 x16 x17) (f := cTup (cCons (cCallF f_l_bundle (cCons (cVar 1) (cCons (cBin dAdd (cK (.int 141)) (cBin dMul (cK (.int 12)) (cVarB 10))) (cCons (cVar 2) cNil)))) (cCons (cCallF f_l_mix (cCons (cVar 1) (cCons (cBin dAdd (cK (.int 149)) (cBin dMul (cK (.int 12)) (cVarB 10))) (cCons (cK (.int 60)) cNil)))) cNil))) (d := bidD (B0, w))
    (cTup2_of (cCallF_of (ds := [.list (ds.map nD), nD (141 + 12 * t), nD g]) (cCons_of rfl (cCons_of (at12 (a := 141) rfl (by omega)) rfl)) (by rw [hB0]; exact l_bundle_eq hd (by omega) h1 h5)) (cCallF_of (ds := [.list (ds.map nD), nD (149 + 12 * t), nD 60]) (cCons_of rfl (cCons_of (at12 (a := 149) rfl (by omega)) rfl)) (by rw [hw]; exact mix_eq hd (by omega) (by omega))))).trans
    (show _ = SR.nx (laE ns ds g bs kept (some (.v (mD m))) (nx k) x8 x9 (nx t) x11 x12 x14 (some (.v (bidD (B0, w)))) x16 x17) from rfl)
  have s3 : ∃ B, Bn g B ∧ sIf (cBinT dLt (cVarB 10) (cK (.int 2))) (sSet 15 (cTup (cCons (cBin dIx (cBin dIx (cVarB 3) (cVar 7)) (cK (.int 0))) (cCons (cBin dIx (cVarB 15) (cK (.int 1))) cNil)))) sNext (laE ns ds g bs kept (some (.v (mD m))) (nx k) x8 x9 (nx t) x11 x12 x14 (some (.v (bidD (B0, w)))) x16 x17) = .nx (laE ns ds g bs kept (some (.v (mD m))) (nx k) x8 x9 (nx t) x11 x12 x14 (some (.v (bidD (B, w)))) x16 x17) := by
    have c : cBinT dLt (cVarB 10) (cK (.int 2)) (laE ns ds g bs kept (some (.v (mD m))) (nx k) x8 x9 (nx t) x11 x12 x14 (some (.v (bidD (B0, w)))) x16 x17) = .ok (decide (t < 2)) := cBinT_of (a := nD t) (b := nD 2) rfl rfl (lt_nat t 2)
    by_cases h2 : t < 2
    · rw [decide_eq_true h2] at c
      exact ⟨(bd bs k).1, ok.bn _ (bd_mem hk), sIf_true c ((sSet_of (i := 15) (d := bidD ((bd bs k).1, w)) (cTup2_of (a := bsD (bd bs k).1) (b := nD w) (ix_goods (b := bd bs k) (ix_bid rfl rfl hk)) (ix_worth (b := (B0, w)) rfl))).trans rfl)⟩
    · rw [decide_eq_false h2] at c
      exact ⟨B0, b0, sIf_false c rfl⟩
  obtain ⟨B, hB, s3⟩ := s3
  have ng := no_lie (m := m) ok h5 hk hv' (b := (B, w)) hB
  have c4 : cBinT dGt (cCallF f_l_gain (cCons (cVar 3) (cCons (cVar 5) (cCons (cVar 7) (cCons (cVar 15) (cCons (cVar 2) cNil)))))) (cCallF f_l_gain (cCons (cVar 3) (cCons (cVar 5) (cCons (cVar 7) (cCons (cBin dIx (cVarB 3) (cVar 7)) (cCons (cVar 2) cNil)))))) (laE ns ds g bs kept (some (.v (mD m))) (nx k) x8 x9 (nx t) x11 x12 x14 (some (.v (bidD (B, w)))) x16 x17) = .ok false := by
    refine cBinT_of (cCallF_of (ds := [bidsD bs, mD m, nD k, bidD (B, w), nD g]) rfl (l_gain_eq ok h1 h5 hk hv' hB (show w ≤ 1000000 by omega))) (cCallF_of (ds := [bidsD bs, mD m, nD k, bidD (bd bs k), nD g]) (cCons_of rfl (cCons_of rfl (cCons_of rfl (cCons_of (ix_bid rfl rfl hk) rfl)))) (l_gain_eq ok h1 h5 hk hv' (ok.bn _ (bd_mem hk)) (ok.low _ (bd_mem hk)))) ?_
    show some (PyData.bool (decide (gainOf m bs k (bd bs k) < gainOf m bs k (B, w)))) = _
    rw [decide_eq_false (by omega)]
  exact ⟨_, _, sSeq_nx s1 (sSeq_nx s2 (sSeq_nx s3 (sIf_false c4 rfl)))⟩
/-! ### one measure -/
theorem sum_low {l : List Nat} {c : Nat} (h : ∀ x ∈ l, x ≤ c) : l.sum ≤ c * l.length := by
  induction l with
  | nil => simp
  | cons a r ih =>
    have h1 := h a List.mem_cons_self
    have h2 := ih fun x hx => h x (List.mem_cons_of_mem _ hx)
    rw [List.sum_cons, List.length_cons, Nat.mul_add]
    omega
theorem row_low (ok : BsOk g bs) (hv : ∀ b ∈ bs, b.2 ≤ 50) {A : List Nat} {s : Nat} (h : (A, s) ∈ rowsOf bs) : s ≤ 600 := by
  obtain ⟨A0, s0, S, h1, h2, h3, h4, h5⟩ := rows_sound (R := [([], 0)]) (fun b hb => (ok.bn b hb).nodup) (fun r hr => by cases List.mem_singleton.mp hr; exact .nil) h
  cases List.mem_singleton.mp h1
  rw [h4, Nat.zero_add]
  have := sum_low (l := S.map (·.2)) (c := 50) fun x hx => by
    obtain ⟨b, hb, rfl⟩ := List.mem_map.mp hx
    exact hv b (h2.subset hb)
  rw [List.length_map] at this
  have := h2.length_le
  have := ok.few
  omega
abbrev la_9 : En → R Bool := (cOr (cBinT dGt (cVarB 11) (cVarB 12)) (cOr (cAnd (cBinT dEq (cVarB 5) (cK (.str "root"))) (cBinT dGt (cBin dMul (cVarB 12) (cVarB 12)) (cBin dMul (cBin dMul (cVarB 2) (cVarB 11)) (cVarB 11)))) (cBinT dNe (cCallF f_best_sum (cCons (cVar 3) (cCons (cVar 2) cNil))) (cVarB 12))))
abbrev la_m : En → SR := (sSeq (sSet 8 (cCallF f_l_won (cCons (cVar 3) (cCons (cVar 5) cNil))))
    (sSeq (sIf (cBinT dNe (cCallF f_winners (cCons (cVar 3) (cCons (cVar 2) (cCons (cVar 5) cNil)))) (cVarB 8))
    (sRet (cK (.bool false)))
    sNext)
    (sSeq (sSetN 9 false (cList cNil))
    (sSeq (sFor (gN 7) (cIter dRange1 (cCons (cCall dLen (cCons (cVarB 3) cNil)) cNil)) la_k)
    (sSeq (sIf (cBinT dNe (cCallF f_paid (cCons (cVar 3) (cCons (cVar 2) (cCons (cVar 5) cNil)))) (cVarB 9))
    (sRet (cK (.bool false)))
    sNext)
    (sSeq (sFor (gN 10) (cIter dRange1 (cCons (cK (.int 4)) cNil)) la_t)
    (sSeq (sSet 11 (cCall dSum (cCons (cLc [7] (cItems (cVar 8)) (gN 7) cTrue (cBin dIx (cBin dIx (cVarB 3) (cVar 7)) (cK (.int 1)))) cNil)))
    (sSeq (sSet 12 (cCallF f_l_best (cCons (cVar 3) (cCons (cVar 2) cNil))))
    (sIf la_9
    (sRet (cK (.bool false)))
    sNext)))))))))
theorem fold_snoc {α β : Type} (f : α → β) : ∀ (l : List α) (acc : List β), l.foldl (fun a x => a ++ [f x]) acc = acc ++ l.map f
  | [], acc => by simp
  | x :: l, acc => by rw [List.foldl_cons, fold_snoc f l, List.map_cons, List.append_assoc]; rfl
theorem la_mstep (hd : Draws ds) (ok : BsOk g bs) (h1 : 1 ≤ g) (h5 : g ≤ 5) (hv : ∀ b ∈ bs, b.2 ≤ 50) (x7 x8 x9 x10 x11 x12 x14 x15 x16 x17 : Option Sl) : ∃ y7 y8 y9 y10 y11 y12 y14 y15 y16 y17,
    la_m (laE ns ds g bs kept (some (.v (mD m))) x7 x8 x9 x10 x11 x12 x14 x15 x16 x17) = .nx (laE ns ds g bs kept (some (.v (mD m))) y7 y8 y9 y10 y11 y12 y14 y15 y16 y17) := by
  have few := ok.few
  have s1 := (sSet_of (i := 8) (ρ := laE ns ds g bs kept (some (.v (mD m))) x7 x8 x9 x10 x11 x12 x14 x15 x16 x17) (f := cCallF f_l_won (cCons (cVar 3) (cCons (cVar 5) cNil))) (cCallF_of (ds := [bidsD bs, mD m]) rfl (l_won_eq (m := m) ok h5))).trans (show _ = SR.nx (laE ns ds g bs kept (some (.v (mD m))) x7 (some (.v (lsD (wonL m bs)))) x9 x10 x11 x12 x14 x15 x16 x17) from rfl)
  have s2 : sIf (cBinT dNe (cCallF f_winners (cCons (cVar 3) (cCons (cVar 2) (cCons (cVar 5) cNil)))) (cVarB 8)) (sRet (cK (.bool false))) sNext (laE ns ds g bs kept (some (.v (mD m))) x7 (some (.v (lsD (wonL m bs)))) x9 x10 x11 x12 x14 x15 x16 x17) = .nx (laE ns ds g bs kept (some (.v (mD m))) x7 (some (.v (lsD (wonL m bs)))) x9 x10 x11 x12 x14 x15 x16 x17) :=
    sIf_false (cBinT_of (a := lsD (wonL m bs)) (b := lsD (wonL m bs)) (cCallF_of (ds := [bidsD bs, nD g, mD m]) rfl (winners_eq ok h1 h5)) rfl (by rw [ne_ls, decide_eq_true rfl]; rfl)) rfl
  have s3 := (sSetN_of (i := 9) (t := false) (ρ := laE ns ds g bs kept (some (.v (mD m))) x7 (some (.v (lsD (wonL m bs)))) x9 x10 x11 x12 x14 x15 x16 x17) (f := cList cNil) (d := lsD []) rfl).trans (show _ = SR.nx (laE ns ds g bs kept (some (.v (mD m))) x7 (some (.v (lsD (wonL m bs)))) (some (.own false (lsD []))) x10 x11 x12 x14 x15 x16 x17) from rfl)
  obtain ⟨ρ4, e4, ⟨y7, y14, y16, y17, er⟩, _⟩ := loopL_foldI (P := fun i due ρ => (∃ y7 y14 y16 y17, ρ = laE ns ds g bs kept (some (.v (mD m))) y7 (some (.v (lsD (wonL m bs)))) (some (.own false (lsD due))) x10 x11 x12 y14 x15 y16 y17) ∧ due.length = i) (tgt := gN 7) (body := la_k) (enc := nD) (stp := fun due k => due ++ [if wins m bs k = true then least m bs k (bd bs k).1 else 0]) 50 (xs := List.range bs.length) (i := 0) (st := []) (ρ := laE ns ds g bs kept (some (.v (mD m))) x7 (some (.v (lsD (wonL m bs)))) (some (.own false (lsD []))) x10 x11 x12 x14 x15 x16 x17)
    (fun k hk i hi due ρ ⟨⟨y7, y14, y16, y17, er⟩, hl⟩ => by
      subst er
      obtain ⟨z14, z16, z17, e⟩ := la_kstep (ns := ns) (kept := kept) (m := m) hd ok h1 h5 hv (List.mem_range.mp hk) (due := due) (by omega) x10 x11 x12 y14 x15 y16 y17
      exact ⟨laE ns ds g bs kept (some (.v (mD m))) (nx k) (some (.v (lsD (wonL m bs)))) (some (.own false (lsD due))) x10 x11 x12 y14 x15 y16 y17, _, rfl, e, ⟨_, _, _, _, rfl⟩, by rw [List.length_append, hl]; rfl⟩) (by rw [List.length_range]; omega) ⟨⟨_, _, _, _, rfl⟩, rfl⟩
  rw [fold_snoc, List.nil_append] at er
  change ρ4 = laE ns ds g bs kept (some (.v (mD m))) y7 (some (.v (lsD (wonL m bs)))) (some (.own false (lsD (dues m bs)))) x10 x11 x12 y14 x15 y16 y17 at er
  subst er
  have s4 := sFor_of (l := cIter dRange1 (cCons (cCall dLen (cCons (cVarB 3) cNil)) cNil)) (ρ := laE ns ds g bs kept (some (.v (mD m))) x7 (some (.v (lsD (wonL m bs)))) (some (.own false (lsD []))) x10 x11 x12 x14 x15 x16 x17) (cIter1_of (len_bids rfl) (dRange1_nat (by omega))) e4
  have s5 : sIf (cBinT dNe (cCallF f_paid (cCons (cVar 3) (cCons (cVar 2) (cCons (cVar 5) cNil)))) (cVarB 9)) (sRet (cK (.bool false))) sNext (laE ns ds g bs kept (some (.v (mD m))) y7 (some (.v (lsD (wonL m bs)))) (some (.own false (lsD (dues m bs)))) x10 x11 x12 y14 x15 y16 y17) = .nx (laE ns ds g bs kept (some (.v (mD m))) y7 (some (.v (lsD (wonL m bs)))) (some (.own false (lsD (dues m bs)))) x10 x11 x12 y14 x15 y16 y17) :=
    sIf_false (cBinT_of (a := lsD (dues m bs)) (b := lsD (dues m bs)) (cCallF_of (ds := [bidsD bs, nD g, mD m]) rfl (paid_eq ok h1 h5 hv)) rfl (by rw [ne_ls, decide_eq_true rfl]; rfl)) rfl
  obtain ⟨ρ6, e6, z7, z10, z15, er⟩ := loopL_inv (P := fun ρ => ∃ z7 z10 z15, ρ = laE ns ds g bs kept (some (.v (mD m))) z7 (some (.v (lsD (wonL m bs)))) (some (.own false (lsD (dues m bs)))) z10 x11 x12 y14 z15 y16 y17) (tgt := gN 10) (body := la_t) (ds := (List.range 4).map nD) (ρ := laE ns ds g bs kept (some (.v (mD m))) y7 (some (.v (lsD (wonL m bs)))) (some (.own false (lsD (dues m bs)))) x10 x11 x12 y14 x15 y16 y17)
    (fun d hd2 ρ ⟨z7, z10, z15, er⟩ => by
      obtain ⟨t, ht, rfl⟩ := List.mem_map.mp hd2
      subst er
      obtain ⟨u7, u15, e⟩ := la_tstep (ns := ns) (kept := kept) (m := m) hd ok h1 h5 hv (List.mem_range.mp ht) z7 (some (.v (lsD (wonL m bs)))) (some (.own false (lsD (dues m bs)))) x11 x12 y14 z15 y16 y17
      exact ⟨laE ns ds g bs kept (some (.v (mD m))) z7 (some (.v (lsD (wonL m bs)))) (some (.own false (lsD (dues m bs)))) (nx t) x11 x12 y14 z15 y16 y17, _, rfl, e, _, _, _, rfl⟩) ⟨_, _, _, rfl⟩
  subst er
  have s6 := sFor_of (l := cIter dRange1 (cCons (cK (.int 4)) cNil)) (ρ := laE ns ds g bs kept (some (.v (mD m))) y7 (some (.v (lsD (wonL m bs)))) (some (.own false (lsD (dues m bs)))) x10 x11 x12 y14 x15 y16 y17) (cIter1_of (d := nD 4) rfl (dRange1_nat (by decide))) e6
  have e7 := lcL_map (tgt := gN 7) (f := cBin dIx (cBin dIx (cVarB 3) (cVar 7)) (cK (.int 1))) (ρ := wipeE (laE ns ds g bs kept (some (.v (mD m))) z7 (some (.v (lsD (wonL m bs)))) (some (.own false (lsD (dues m bs)))) z10 x11 x12 y14 z15 y16 y17) [7]) (enc := nD) (fun k => laE ns ds g bs kept (some (.v (mD m))) (nx k) (some (.v (lsD (wonL m bs)))) (some (.own false (lsD (dues m bs)))) z10 x11 x12 y14 z15 y16 y17) (fun k => nD (bd bs k).2) (xs := wonL m bs) fun k hk => ⟨rfl, ix_worth (ix_bid rfl rfl (List.mem_range.mp (List.mem_filter.mp hk).1))⟩
  have hwl : (wonL m bs).length ≤ 12 := by
    have : (wonL m bs).length ≤ (List.range bs.length).length := List.length_filter_le _ _
    rw [List.length_range] at this
    omega
  have q7 : cCall dSum (cCons (cLc [7] (cItems (cVar 8)) (gN 7) cTrue (cBin dIx (cBin dIx (cVarB 3) (cVar 7)) (cK (.int 1)))) cNil) (laE ns ds g bs kept (some (.v (mD m))) z7 (some (.v (lsD (wonL m bs)))) (some (.own false (lsD (dues m bs)))) z10 x11 x12 y14 z15 y16 y17) = .ok (nD (turns m bs)) := by
    refine cCall1_of (cLc_of (vs := [7]) (ρ := laE ns ds g bs kept (some (.v (mD m))) z7 (some (.v (lsD (wonL m bs)))) (some (.own false (lsD (dues m bs)))) z10 x11 x12 y14 z15 y16 y17) (cItems_of (ds := (wonL m bs).map nD) rfl) e7 (by rw [List.length_map]; exact sz (by omega))) ?_
    have q : (wonL m bs).map (fun k => nD (bd bs k).2) = ((wonL m bs).map fun k => (bd bs k).2).map nD := by rw [List.map_map]; rfl
    rw [q]
    exact sum_nats _
  have s7 := (sSet_of (i := 11) q7).trans (show _ = SR.nx (laE ns ds g bs kept (some (.v (mD m))) z7 (some (.v (lsD (wonL m bs)))) (some (.own false (lsD (dues m bs)))) z10 (nx (turns m bs)) x12 y14 z15 y16 y17) from rfl)
  obtain ⟨A, S, hS, eS⟩ := topOf_row bs
  have s8 := (sSet_of (i := 12) (ρ := laE ns ds g bs kept (some (.v (mD m))) z7 (some (.v (lsD (wonL m bs)))) (some (.own false (lsD (dues m bs)))) z10 (nx (turns m bs)) x12 y14 z15 y16 y17) (f := cCallF f_l_best (cCons (cVar 3) (cCons (cVar 2) cNil))) (d := nD S) (cCallF_of (ds := [bidsD bs, nD g]) rfl (by rw [l_best_eq ok h5, eS]))).trans (show _ = SR.nx (laE ns ds g bs kept (some (.v (mD m))) z7 (some (.v (lsD (wonL m bs)))) (some (.own false (lsD (dues m bs)))) z10 (nx (turns m bs)) (nx S) y14 z15 y16 y17) from rfl)
  obtain ⟨A2, hA2⟩ := turns_row (m := m) ok
  have hle := topOf_ge hA2
  rw [eS] at hle
  have hS6 := row_low ok hv hS
  have c9 : la_9 (laE ns ds g bs kept (some (.v (mD m))) z7 (some (.v (lsD (wonL m bs)))) (some (.own false (lsD (dues m bs)))) z10 (nx (turns m bs)) (nx S) y14 z15 y16 y17) = .ok false := by
    refine cOr_ff (cBinT_of (a := nD (turns m bs)) (b := nD S) rfl rfl (by rw [gt_nat, decide_eq_false (by omega)])) (cOr_ff ?_ (cBinT_of (a := nD S) (b := nD S) (cCallF_of (ds := [bidsD bs, nD g]) rfl (by rw [best_sum_eq ok h1 h5, eS])) rfl (by rw [ne_nat, decide_eq_false (by simp)])))
    cases m with
    | worth => exact cAnd_f (cBinT_of (a := .str "worth") (b := .str "root") rfl rfl (by kernel_rfl))
    | each => exact cAnd_f (cBinT_of (a := .str "each") (b := .str "root") rfl rfl (by kernel_rfl))
    | root =>
      have rl := root_law ok hS
      refine cAnd_t (cBinT_of (a := .str "root") (b := .str "root") rfl rfl (by kernel_rfl)) ?_
      have big : ∀ a : Nat, a ≤ 1000000 → a < 2 ^ 190 := fun a h => Nat.lt_of_le_of_lt h (by decide)
      have gt : g * turns .root bs ≤ 5 * 600 := Nat.mul_le_mul h5 (by omega)
      refine cBinT_of (cBin_of (a := nD S) (b := nD S) rfl rfl (mul_nat _ _ (big _ (by omega)) (big _ (by omega)))) (cBin_of (cBin_of (a := nD g) (b := nD (turns .root bs)) rfl rfl (mul_nat _ _ (big _ (by omega)) (big _ (by omega)))) (b := nD (turns .root bs)) rfl (mul_nat _ _ (big _ (by omega)) (big _ (by omega)))) ?_
      rw [gt_nat, decide_eq_false]
      rw [Nat.mul_assoc]
      omega
  exact ⟨_, _, _, _, _, _, _, _, _, _, sSeq_nx s1 (sSeq_nx s2 (sSeq_nx s3 (sSeq_nx s4 (sSeq_nx s5 (sSeq_nx s6 (sSeq_nx s7 (sSeq_nx s8 (sIf_false c9 rfl))))))))⟩
end
end K06

namespace K06
open PySem PySem.Spec PyProof.Rows L2 G
/-! ### the tables, and the whole -/
abbrev taD (g : Nat) (bs : List Bid) : D := .list (bs.map fun b => lsD (tabOf g b))
abbrev lfE2 (ns : List Int) (ds : List Nat) (g : Nat) (bs : List Bid) (kept : D) (x5 x7 x8 x9 x10 x11 x12 x13 x14 x15 x16 x17 : Option Sl) : En :=
  [some (.sc ns), some (.v (.list (ds.map nD))), nx g, some (.v (bidsD bs)), some (.v kept), x5, some (.v (taD g bs)), x7, x8, x9, x10, x11, x12, x13, x14, x15, x16, x17, none]
abbrev la_q : En → SR := (sSeq (sSet 13 (cCall dSum (cCons (cLc [18] (cItems (cBin dIx (cBin dIx (cVarB 3) (cVar 7)) (cK (.int 0)))) (gN 18) cTrue (cBin dIx (cList (cCons (cK (.int 1)) (cCons (cK (.int 2)) (cCons (cK (.int 4)) (cCons (cK (.int 8)) (cCons (cK (.int 16)) cNil)))))) (cVar 18))) cNil)))
    (sIf (cOr (cBinT dNe (cBin dIx (cBin dIx (cVarB 6) (cVar 7)) (cVar 13)) (cBin dIx (cBin dIx (cVarB 3) (cVar 7)) (cK (.int 1)))) (cOr (cBinT dNe (cBin dIx (cBin dIx (cVarB 6) (cVar 7)) (cK (.int 0))) (cK (.int 0))) (cOr (cBinT dNe (cBin dIx (cBin dIx (cVarB 6) (cVar 7)) (cUn dNeg (cK (.int 1)))) (cBin dIx (cBin dIx (cVarB 3) (cVar 7)) (cK (.int 1)))) (cBinT dNe (cCall dLen (cCons (cBin dIx (cVarB 6) (cVar 7)) cNil)) (cBin dIx (cList (cCons (cK (.int 2)) (cCons (cK (.int 4)) (cCons (cK (.int 8)) (cCons (cK (.int 16)) (cCons (cK (.int 32)) cNil)))))) (cBin dSub (cVarB 2) (cK (.int 1))))))))
    (sRet (cK (.bool false)))
    sNext))
section
variable {ns : List Int} {ds : List Nat} {g : Nat} {bs : List Bid} {kept : D}
theorem tables_ix {k : Nat} (hk : k < bs.length) : dIx (taD g bs) (nD k) = some (lsD (tabOf g (bd bs k))) := by
  rw [dIx_nat, List.getElem?_map, bd_at hk]
  rfl
theorem la_qstep (ok : BsOk g bs) (h1 : 1 ≤ g) (h5 : g ≤ 5) {k : Nat} (hk : k < bs.length) (x5 x8 x9 x10 x11 x12 x13 x14 x15 x16 x17 : Option Sl) : ∃ y13, la_q (lfE2 ns ds g bs kept x5 (nx k) x8 x9 x10 x11 x12 x13 x14 x15 x16 x17) = .nx (lfE2 ns ds g bs kept x5 (nx k) x8 x9 x10 x11 x12 y13 x14 x15 x16 x17) := by
  have hB := ok.bn _ (bd_mem hk)
  have nf := num_facts g (by omega) _ (hB.all5 h5) hB.ne hB.lt
  have hp : 0 < 2 ^ g := Nat.pow_pos (by omega)
  have e := lcL_map (tgt := gN 18) (f := cBin dIx (cList (cCons (cK (.int 1)) (cCons (cK (.int 2)) (cCons (cK (.int 4)) (cCons (cK (.int 8)) (cCons (cK (.int 16)) cNil)))))) (cVar 18)) (ρ := lfE2 ns ds g bs kept x5 (nx k) x8 x9 x10 x11 x12 x13 x14 x15 x16 x17) (enc := nD)
    (fun o => [some (.sc ns), some (.v (.list (ds.map nD))), nx g, some (.v (bidsD bs)), some (.v kept), x5, some (.v (taD g bs)), nx k, x8, x9, x10, x11, x12, x13, x14, x15, x16, x17, nx o]) (fun o => nD (2 ^ o)) (xs := (bd bs k).1) fun o ho => ⟨rfl, cBin_of (a := .list [.int 1, .int 2, .int 4, .int 8, .int 16]) (b := nD o) rfl rfl (pows_ix o (by have := hB.lt o ho; omega))⟩
  have q : (bd bs k).1.map (fun o => nD (2 ^ o)) = ((bd bs k).1.map fun o => 2 ^ o).map nD := by rw [List.map_map]; rfl
  rw [q] at e
  have hz := Nat.le_trans hB.len h5
  have s1 := (sSet_of (i := 13) (f := cCall dSum (cCons (cLc [18] (cItems (cBin dIx (cBin dIx (cVarB 3) (cVar 7)) (cK (.int 0)))) (gN 18) cTrue (cBin dIx (cList (cCons (cK (.int 1)) (cCons (cK (.int 2)) (cCons (cK (.int 4)) (cCons (cK (.int 8)) (cCons (cK (.int 16)) cNil)))))) (cVar 18))) cNil)) (ρ := lfE2 ns ds g bs kept x5 (nx k) x8 x9 x10 x11 x12 x13 x14 x15 x16 x17) (d := nD (num (bd bs k).1)) (cCall1_of (df := dSum) (cLc_of (vs := [18]) (ρ := lfE2 ns ds g bs kept x5 (nx k) x8 x9 x10 x11 x12 x13 x14 x15 x16 x17) (cItemsT_of (ds := (bd bs k).1.map nD) (ix_goods (ix_bid rfl rfl hk))) e (by rw [List.length_map, List.length_map]; exact sz (by omega))) (sum_nats _))).trans
    (show _ = SR.nx (lfE2 ns ds g bs kept x5 (nx k) x8 x9 x10 x11 x12 (nx (num (bd bs k).1)) x14 x15 x16 x17) from rfl)
  have tb : cBin dIx (cVarB 6) (cVar 7) (lfE2 ns ds g bs kept x5 (nx k) x8 x9 x10 x11 x12 (nx (num (bd bs k).1)) x14 x15 x16 x17) = .ok (lsD (tabOf g (bd bs k))) := cBin_of (a := taD g bs) (b := nD k) rfl rfl (tables_ix hk)
  have wk : cBin dIx (cBin dIx (cVarB 3) (cVar 7)) (cK (.int 1)) (lfE2 ns ds g bs kept x5 (nx k) x8 x9 x10 x11 x12 (nx (num (bd bs k).1)) x14 x15 x16 x17) = .ok (nD (bd bs k).2) := ix_worth (ix_bid rfl rfl hk)
  have same : ∀ a : Nat, dNe (nD a) (nD a) = some (.bool false) := fun a => by rw [ne_nat, decide_eq_false (by simp)]
  refine ⟨_, sSeq_nx s1 (sIf_false (cOr_ff ?_ (cOr_ff ?_ (cOr_ff ?_ ?_))) rfl)⟩
  · exact cBinT_of (a := nD (bd bs k).2) (cBin_of (b := nD (num (bd bs k).1)) tb rfl (by rw [tab_at nf.1, if_pos nf.2.1])) wk (same _)
  · exact cBinT_of (a := nD 0) (cBin_of (b := nD 0) tb rfl (by rw [tab_at hp, if_neg (by rw [nf.2.2.1]; decide)])) (b := nD 0) rfl (same 0)
  · exact cBinT_of (a := nD (bd bs k).2) (cBin_of (b := .int (-1)) tb rfl (by rw [tab_last, if_pos nf.2.2.2])) wk (same _)
  · refine cBinT_of (a := nD (2 ^ g)) ((len_ls tb).trans ?_) (cBin_of (a := .list [.int 2, .int 4, .int 8, .int 16, .int 32]) (b := .int ((g : Int) - 1)) rfl (cBin_of (a := nD g) (b := .int 1) rfl rfl rfl) (lens_ix g h1 h5)) (same _)
    unfold tabOf
    rw [List.length_map, List.length_range]
end
theorem cap_eq : ∀ i, i < 2 → dIx (.list [(.int 7), (.int 40)]) (nD i) = some (nD (if i = 0 then 7 else 40))
  | 0, _ => by kernel_rfl
  | 1, _ => by kernel_rfl
  | i + 2, h => absurd h (by omega)
theorem good (ns : List Int) (hn : ns.length ≤ 63) : f_law ns = .ok (.bool true) := by
  obtain ⟨ds, hd1, ed⟩ := draws_eq ns hn
  have hd : Draws ds := ⟨hd1.1, hd1.2⟩
  have g5 := mix_lt ds 0 (m := 5) (by omega)
  have n7 := mix_lt ds 2 (m := 7) (by omega)
  have c2 := mix_lt ds 1 (m := 2) (by omega)
  obtain ⟨g, hg⟩ : ∃ g, g = 1 + mixOf ds 0 5 := ⟨_, rfl⟩
  obtain ⟨n, hN⟩ : ∃ n, n = 1 + mixOf ds 2 7 := ⟨_, rfl⟩
  obtain ⟨cap, hc⟩ : ∃ cap, cap = if mixOf ds 1 2 = 0 then 7 else 40 := ⟨_, rfl⟩
  have cap1 : 0 < cap ∧ cap ≤ 40 := by rw [hc]; split <;> omega
  have h1 : 1 ≤ g := by omega
  have h5 : g ≤ 5 := by omega
  obtain ⟨bs, hb⟩ : ∃ bs, bs = (List.range n).map fun t => ((bndl ds (10 + 12 * t) g, mixOf ds (18 + 12 * t) cap) : Bid) := ⟨_, rfl⟩
  have lb : bs.length = n := by rw [hb, List.length_map, List.length_range]
  have ok : BsOk g bs := ⟨by omega, by omega, fun b h => by
    rw [hb] at h
    obtain ⟨t, _, rfl⟩ := List.mem_map.mp h
    exact bndl_bn ds _ h1, fun b h => by
    rw [hb] at h
    obtain ⟨t, _, rfl⟩ := List.mem_map.mp h
    have := mix_lt ds (18 + 12 * t) cap1.1
    show mixOf ds (18 + 12 * t) cap ≤ 1000000
    omega⟩
  have hv : ∀ b ∈ bs, b.2 ≤ 50 := fun b h => by
    rw [hb] at h
    obtain ⟨t, _, rfl⟩ := List.mem_map.mp h
    have := mix_lt ds (18 + 12 * t) cap1.1
    show mixOf ds (18 + 12 * t) cap ≤ 50
    omega
  have q1 : sSet 1 (cCallS 0 f_l_draws) (some (.sc ns) :: List.replicate 18 none) = .nx [some (.sc ns), some (.v (.list (ds.map nD))), none, none, none, none, none, none, none, none, none, none, none, none, none, none, none, none, none] := (sSet_of (cCallS_of (i := 0) (F := f_l_draws) rfl ed)).trans rfl
  have q2 : sSet 2 (cBin dAdd (cK (.int 1)) (cCallF f_l_mix (cCons (cVar 1) (cCons (cK (.int 0)) (cCons (cK (.int 5)) cNil))))) [some (.sc ns), some (.v (.list (ds.map nD))), none, none, none, none, none, none, none, none, none, none, none, none, none, none, none, none, none] = .nx [some (.sc ns), some (.v (.list (ds.map nD))), nx g, none, none, none, none, none, none, none, none, none, none, none, none, none, none, none, none] :=
    (sSet_of (d := nD g) (cBin_of (a := nD 1) rfl (cCallF_of (ds := [.list (ds.map nD), nD 0, nD 5]) rfl (mix_eq hd (by omega) (by omega))) (by rw [hg]; exact add_nat 1 _))).trans rfl
  have e3 := lcL_map (tgt := gN 10) (f := cTup (cCons (cCallF f_l_bundle (cCons (cVar 1) (cCons (cBin dAdd (cK (.int 10)) (cBin dMul (cK (.int 12)) (cVarB 10))) (cCons (cVar 2) cNil)))) (cCons (cCallF f_l_mix (cCons (cVar 1) (cCons (cBin dAdd (cK (.int 18)) (cBin dMul (cK (.int 12)) (cVarB 10))) (cCons (cBin dIx (cList (cCons (cK (.int 7)) (cCons (cK (.int 40)) cNil))) (cCallF f_l_mix (cCons (cVar 1) (cCons (cK (.int 1)) (cCons (cK (.int 2)) cNil))))) cNil)))) cNil)))
    (ρ := [some (.sc ns), some (.v (.list (ds.map nD))), nx g, none, none, none, none, none, none, none, none, none, none, none, none, none, none, none, none]) (enc := nD) (fun t => [some (.sc ns), some (.v (.list (ds.map nD))), nx g, none, none, none, none, none, none, none, nx t, none, none, none, none, none, none, none, none]) (fun t => bidD (bndl ds (10 + 12 * t) g, mixOf ds (18 + 12 * t) cap)) (xs := List.range n) fun t ht => ⟨rfl, by
      have ht := List.mem_range.mp ht
      exact cTup2_of (a := bsD (bndl ds (10 + 12 * t) g)) (b := nD (mixOf ds (18 + 12 * t) cap)) (cCallF_of (ds := [.list (ds.map nD), nD (10 + 12 * t), nD g]) (cCons_of rfl (cCons_of (at12 (a := 10) rfl (by omega)) rfl)) (l_bundle_eq hd (by omega) h1 h5))
        (cCallF_of (ds := [.list (ds.map nD), nD (18 + 12 * t), nD cap]) (cCons_of rfl (cCons_of (at12 (a := 18) rfl (by omega)) (cCons_of (cBin_of (a := .list [.int 7, .int 40]) (b := nD (mixOf ds 1 2)) rfl (cCallF_of (ds := [.list (ds.map nD), nD 1, nD 2]) rfl (mix_eq hd (by omega) (by omega))) (by rw [hc]; exact cap_eq _ c2)) rfl))) (mix_eq hd (by omega) cap1.1))⟩
  have e3' : (List.range n).map (fun t => bidD (bndl ds (10 + 12 * t) g, mixOf ds (18 + 12 * t) cap)) = bs.map bidD := by rw [hb, List.map_map]; rfl
  rw [e3'] at e3
  have q3 : sSet 3 (cLc [10] (cIter dRange1 (cCons (cBin dAdd (cK (.int 1)) (cCallF f_l_mix (cCons (cVar 1) (cCons (cK (.int 2)) (cCons (cK (.int 7)) cNil))))) cNil)) (gN 10) cTrue (cTup (cCons (cCallF f_l_bundle (cCons (cVar 1) (cCons (cBin dAdd (cK (.int 10)) (cBin dMul (cK (.int 12)) (cVarB 10))) (cCons (cVar 2) cNil)))) (cCons (cCallF f_l_mix (cCons (cVar 1) (cCons (cBin dAdd (cK (.int 18)) (cBin dMul (cK (.int 12)) (cVarB 10))) (cCons (cBin dIx (cList (cCons (cK (.int 7)) (cCons (cK (.int 40)) cNil))) (cCallF f_l_mix (cCons (cVar 1) (cCons (cK (.int 1)) (cCons (cK (.int 2)) cNil))))) cNil)))) cNil)))) [some (.sc ns), some (.v (.list (ds.map nD))), nx g, none, none, none, none, none, none, none, none, none, none, none, none, none, none, none, none] = .nx [some (.sc ns), some (.v (.list (ds.map nD))), nx g, some (.v (bidsD bs)), none, none, none, none, none, none, none, none, none, none, none, none, none, none, none] :=
    (sSet_of (d := bidsD bs) (cLc_of (vs := [10]) (ρ := [some (.sc ns), some (.v (.list (ds.map nD))), nx g, none, none, none, none, none, none, none, none, none, none, none, none, none, none, none, none]) (cIter1_of (d := nD n) (cBin_of (a := nD 1) rfl (cCallF_of (ds := [.list (ds.map nD), nD 2, nD 7]) rfl (mix_eq hd (by omega) (by omega))) (by rw [hN]; exact add_nat 1 _)) (dRange1_nat (by omega))) e3 (by rw [List.length_map]; exact sz (by omega)))).trans rfl
  have fine := fine_bids ok h5
  have q4 : sSet 4 (cUn dRepr (cVar 3)) [some (.sc ns), some (.v (.list (ds.map nD))), nx g, some (.v (bidsD bs)), none, none, none, none, none, none, none, none, none, none, none, none, none, none, none] = .nx (laE ns ds g bs (.str (bidsD bs).shown) none none none none none none none none none none none) :=
    (sSet_of (d := .str (bidsD bs).shown) (cUn_of (a := bidsD bs) rfl (fine.repr (by omega) (by omega)))).trans rfl
  obtain ⟨ρ5, e5, x5, x7, x8, x9, x10, x11, x12, x14, x15, x16, x17, er⟩ := loopL_inv (P := fun ρ => ∃ x5 x7 x8 x9 x10 x11 x12 x14 x15 x16 x17, ρ = laE ns ds g bs (.str (bidsD bs).shown) x5 x7 x8 x9 x10 x11 x12 x14 x15 x16 x17) (tgt := gN 5) (body := la_m) (ds := [Ms.worth, Ms.each, Ms.root].map mD) (ρ := laE ns ds g bs (.str (bidsD bs).shown) none none none none none none none none none none none)
    (fun d hdm ρ ⟨x5, x7, x8, x9, x10, x11, x12, x14, x15, x16, x17, er⟩ => by
      obtain ⟨m, hm, rfl⟩ := List.mem_map.mp hdm
      subst er
      obtain ⟨y7, y8, y9, y10, y11, y12, y14, y15, y16, y17, e⟩ := la_mstep (ns := ns) (kept := .str (bidsD bs).shown) (m := m) hd ok h1 h5 hv x7 x8 x9 x10 x11 x12 x14 x15 x16 x17
      exact ⟨laE ns ds g bs (.str (bidsD bs).shown) (some (.v (mD m))) x7 x8 x9 x10 x11 x12 x14 x15 x16 x17, _, rfl, e, _, _, _, _, _, _, _, _, _, _, _, rfl⟩) ⟨_, _, _, _, _, _, _, _, _, _, _, rfl⟩
  subst er
  have q5 := sFor_of (cItems_of (f := cList (cCons (cK (.str "worth")) (cCons (cK (.str "each")) (cCons (cK (.str "root")) cNil)))) (ρ := laE ns ds g bs (.str (bidsD bs).shown) none none none none none none none none none none none) (ds := [Ms.worth, Ms.each, Ms.root].map mD) rfl) e5
  have q6 := (sSet_of (i := 6) (ρ := laE ns ds g bs (.str (bidsD bs).shown) x5 x7 x8 x9 x10 x11 x12 x14 x15 x16 x17) (f := cCallF f_book_of (cCons (cVar 3) (cCons (cVar 2) cNil))) (d := taD g bs) (cCallF_of (ds := [bidsD bs, nD g]) rfl (book_of_eq ok h1 h5))).trans
    (show _ = SR.nx (lfE2 ns ds g bs (.str (bidsD bs).shown) x5 x7 x8 x9 x10 x11 x12 none x14 x15 x16 x17) from rfl)
  obtain ⟨ρ7, e7, y7, y13, er⟩ := loopL_inv (P := fun ρ => ∃ y7 y13, ρ = lfE2 ns ds g bs (.str (bidsD bs).shown) x5 y7 x8 x9 x10 x11 x12 y13 x14 x15 x16 x17) (tgt := gN 7) (body := la_q) (ds := (List.range bs.length).map nD) (ρ := lfE2 ns ds g bs (.str (bidsD bs).shown) x5 x7 x8 x9 x10 x11 x12 none x14 x15 x16 x17)
    (fun d hdk ρ ⟨y7, y13, er⟩ => by
      obtain ⟨k, hk, rfl⟩ := List.mem_map.mp hdk
      subst er
      obtain ⟨z13, e⟩ := la_qstep (ns := ns) (ds := ds) (kept := .str (bidsD bs).shown) ok h1 h5 (List.mem_range.mp hk) x5 x8 x9 x10 x11 x12 y13 x14 x15 x16 x17
      exact ⟨lfE2 ns ds g bs (.str (bidsD bs).shown) x5 (nx k) x8 x9 x10 x11 x12 y13 x14 x15 x16 x17, _, rfl, e, _, _, rfl⟩) ⟨_, _, rfl⟩
  subst er
  have q7 := sFor_of (l := cIter dRange1 (cCons (cCall dLen (cCons (cVarB 3) cNil)) cNil)) (ρ := lfE2 ns ds g bs (.str (bidsD bs).shown) x5 x7 x8 x9 x10 x11 x12 none x14 x15 x16 x17) (cIter1_of (len_bids rfl) (dRange1_nat (by omega))) e7
  have q8 : cAndV (cBin dEq (cUn dRepr (cVar 3)) (cVarB 4)) (cCallF f_l_faults fun _ => .ok []) (disown (lfE2 ns ds g bs (.str (bidsD bs).shown) x5 y7 x8 x9 x10 x11 x12 y13 x14 x15 x16 x17)) = .ok (.bool true) := by
    show cAndV (cBin dEq (cUn dRepr (cVar 3)) (cVarB 4)) (cCallF f_l_faults fun _ => .ok []) (lfE2 ns ds g bs (.str (bidsD bs).shown) (letGo x5) (letGo y7) (letGo x8) (letGo x9) (letGo x10) (letGo x11) (letGo x12) (letGo y13) (letGo x14) (letGo x15) (letGo x16) (letGo x17)) = _
    exact cAndV_tt (cBin_of (cUn_of (a := bidsD bs) rfl (fine.repr (by omega) (by omega))) (b := .str (bidsD bs).shown) rfl (eq_self fine.text.1 fine.text.2)) (cCallF_of (ds := []) rfl faults_eq)
  unfold f_law g_law runS
  exact (congrArg SR.out (sSeq_nx q1 (sSeq_nx q2 (sSeq_nx q3 (sSeq_nx q4 (sSeq_nx q5 (sSeq_nx q6 (sSeq_nx q7 rfl)))))))).trans (sRet_of q8)
end K06

namespace K06
open PySem PySem.Spec PyProof.Rows L2 G
set_option maxHeartbeats 4000000
def top (i : Nat) : Stmt := PySem.Challenge.pw_truebidsbest_k06_whole_shares_by_turns.main.body.getD i (.Pass ⟨0, 0, 0, 0⟩)
abbrev s_is_bundle : Stmt := top 10
theorem sc_is_bundle : FnScope ["bundle", "goods"] ["bundle", "goods"] (defScope s_is_bundle) := ⟨rfl, rfl, rfl, by decide +kernel, rfl, by decide +kernel, by decide +kernel⟩
abbrev s_inner : Stmt := top 11
theorem sc_inner : FnScope ["tree"] ["tree"] (defScope s_inner) := ⟨rfl, rfl, rfl, by decide +kernel, rfl, by decide +kernel, by decide +kernel⟩
abbrev s_check_goods : Stmt := top 12
theorem sc_check_goods : FnScope ["goods"] ["goods"] (defScope s_check_goods) := ⟨rfl, rfl, rfl, by decide +kernel, rfl, by decide +kernel, by decide +kernel⟩
abbrev s_number_of : Stmt := top 15
theorem sc_number_of : FnScope ["bundle", "good"] ["bundle"] (defScope s_number_of) := ⟨rfl, rfl, rfl, by decide +kernel, rfl, by decide +kernel, by decide +kernel⟩
abbrev s_within : Stmt := top 16
theorem sc_within : FnScope ["one", "two", "a", "b"] ["one", "two"] (defScope s_within) := ⟨rfl, rfl, rfl, by decide +kernel, rfl, by decide +kernel, by decide +kernel⟩
abbrev s_parts_of : Stmt := top 17
theorem sc_parts_of : FnScope ["number", "part"] ["number"] (defScope s_parts_of) := ⟨rfl, rfl, rfl, by decide +kernel, rfl, by decide +kernel, by decide +kernel⟩
abbrev s_together : Stmt := top 18
theorem sc_together : FnScope ["one", "two", "whole", "part"] ["one", "two"] (defScope s_together) := ⟨rfl, rfl, rfl, by decide +kernel, rfl, by decide +kernel, by decide +kernel⟩
abbrev s_most_of : Stmt := top 19
theorem sc_most_of : FnScope ["tables", "number", "told"] ["tables"] (defScope s_most_of) := ⟨rfl, rfl, rfl, by decide +kernel, rfl, by decide +kernel, by decide +kernel⟩
abbrev s_up_to : Stmt := top 20
theorem sc_up_to : FnScope ["tables", "many", "rows", "told", "more", "k", "joined"] ["tables", "many"] (defScope s_up_to) := ⟨rfl, rfl, rfl, by decide +kernel, rfl, by decide +kernel, by decide +kernel⟩
abbrev s_worths : Stmt := top 21
theorem sc_worths : FnScope ["tree", "goods", "tables", "number", "told", "whole"] ["tree", "goods"] (defScope s_worths) := ⟨rfl, rfl, rfl, by decide +kernel, rfl, by decide +kernel, by decide +kernel⟩
abbrev s_check_bids : Stmt := top 25
theorem sc_check_bids : FnScope ["bids", "goods", "k", "bundle", "worth"] ["bids", "goods"] (defScope s_check_bids) := ⟨rfl, rfl, rfl, by decide +kernel, rfl, by decide +kernel, by decide +kernel⟩
abbrev s_check_all : Stmt := top 26
theorem sc_check_all : FnScope ["bids", "goods", "measure"] ["bids", "goods", "measure"] (defScope s_check_all) := ⟨rfl, rfl, rfl, by decide +kernel, rfl, by decide +kernel, by decide +kernel⟩
abbrev s_weight_of : Stmt := top 27
theorem sc_weight_of : FnScope ["bid", "measure", "bundle", "worth"] ["bid", "measure"] (defScope s_weight_of) := ⟨rfl, rfl, rfl, by decide +kernel, rfl, by decide +kernel, by decide +kernel⟩
abbrev s_is_ahead : Stmt := top 28
theorem sc_is_ahead : FnScope ["bids", "measure", "one", "two", "a", "b", "c", "d"] ["bids", "measure", "one", "two"] (defScope s_is_ahead) := ⟨rfl, rfl, rfl, by decide +kernel, rfl, by decide +kernel, by decide +kernel⟩
abbrev s_order_of : Stmt := top 29
theorem sc_order_of : FnScope ["bids", "measure", "found", "k", "place", "one"] ["bids", "measure"] (defScope s_order_of) := ⟨rfl, rfl, rfl, by decide +kernel, rfl, by decide +kernel, by decide +kernel⟩
abbrev s_won : Stmt := top 30
theorem sc_won : FnScope ["bids", "measure", "left", "found", "k", "good"] ["bids", "measure"] (defScope s_won) := ⟨rfl, rfl, rfl, by decide +kernel, rfl, by decide +kernel, by decide +kernel⟩
abbrev s_winners : Stmt := top 31
theorem sc_winners : FnScope ["bids", "goods", "measure"] ["bids", "goods", "measure"] (defScope s_winners) := ⟨rfl, rfl, rfl, by decide +kernel, rfl, by decide +kernel, by decide +kernel⟩
abbrev s_wins_with : Stmt := top 32
theorem sc_wins_with : FnScope ["bids", "measure", "k", "worth"] ["bids", "measure", "k", "worth"] (defScope s_wins_with) := ⟨rfl, rfl, rfl, by decide +kernel, rfl, by decide +kernel, by decide +kernel⟩
abbrev s_least_for : Stmt := top 33
theorem sc_least_for : FnScope ["bids", "measure", "k", "low", "high", "middle"] ["bids", "measure", "k"] (defScope s_least_for) := ⟨rfl, rfl, rfl, by decide +kernel, rfl, by decide +kernel, by decide +kernel⟩
abbrev s_least_winning : Stmt := top 34
theorem sc_least_winning : FnScope ["bids", "goods", "measure", "k"] ["bids", "goods", "measure", "k"] (defScope s_least_winning) := ⟨rfl, rfl, rfl, by decide +kernel, rfl, by decide +kernel, by decide +kernel⟩
abbrev s_paid : Stmt := top 35
theorem sc_paid : FnScope ["bids", "goods", "measure", "winning", "k"] ["bids", "goods", "measure"] (defScope s_paid) := ⟨rfl, rfl, rfl, by decide +kernel, rfl, by decide +kernel, by decide +kernel⟩
abbrev s_book_of : Stmt := top 36
theorem sc_book_of : FnScope ["bids", "goods", "bundle", "worth"] ["bids", "goods"] (defScope s_book_of) := ⟨rfl, rfl, rfl, by decide +kernel, rfl, by decide +kernel, by decide +kernel⟩
abbrev s_best_sum : Stmt := top 37
theorem sc_best_sum : FnScope ["bids", "goods", "found", "bundle", "worth", "more", "taken", "whole", "good"] ["bids", "goods"] (defScope s_best_sum) := ⟨rfl, rfl, rfl, by decide +kernel, rfl, by decide +kernel, by decide +kernel⟩
abbrev s_l_draws : Stmt := top 39
theorem sc_l_draws : FnScope ["script", "draws", "k", "rest", "turn", "stirred"] ["script"] (defScope s_l_draws) := ⟨rfl, rfl, rfl, by decide +kernel, rfl, by decide +kernel, by decide +kernel⟩
abbrev s_l_mix : Stmt := top 40
theorem sc_l_mix : FnScope ["draws", "k", "many", "cell"] ["draws", "k", "many"] (defScope s_l_mix) := ⟨rfl, rfl, rfl, by decide +kernel, rfl, by decide +kernel, by decide +kernel⟩
abbrev s_l_order : Stmt := top 41
theorem sc_l_order : FnScope ["bids", "measure", "left", "found", "k", "ahead", "j", "bundle", "worth", "other", "more", "a", "b", "c", "d", "one"] ["bids", "measure"] (defScope s_l_order) := ⟨rfl, rfl, rfl, by decide +kernel, rfl, by decide +kernel, by decide +kernel⟩
abbrev s_l_won : Stmt := top 42
theorem sc_l_won : FnScope ["bids", "measure", "taken", "found", "k", "good"] ["bids", "measure"] (defScope s_l_won) := ⟨rfl, rfl, rfl, by decide +kernel, rfl, by decide +kernel, by decide +kernel⟩
abbrev s_l_with : Stmt := top 43
theorem sc_l_with : FnScope ["bids", "k", "bid"] ["bids", "k", "bid"] (defScope s_l_with) := ⟨rfl, rfl, rfl, by decide +kernel, rfl, by decide +kernel, by decide +kernel⟩
abbrev s_l_best : Stmt := top 44
theorem sc_l_best : FnScope ["bids", "goods", "best_there", "rows", "bundle", "worth", "more", "taken", "whole", "good"] ["bids", "goods"] (defScope s_l_best) := ⟨rfl, rfl, rfl, by decide +kernel, rfl, by decide +kernel, by decide +kernel⟩
abbrev s_l_gain : Stmt := top 45
theorem sc_l_gain : FnScope ["bids", "measure", "k", "bid", "goods", "told", "worth", "good"] ["bids", "measure", "k", "bid", "goods"] (defScope s_l_gain) := ⟨rfl, rfl, rfl, by decide +kernel, rfl, by decide +kernel, by decide +kernel⟩
abbrev s_l_least : Stmt := top 46
theorem sc_l_least : FnScope ["bids", "measure", "k", "worth"] ["bids", "measure", "k"] (defScope s_l_least) := ⟨rfl, rfl, rfl, by decide +kernel, rfl, by decide +kernel, by decide +kernel⟩
abbrev s_l_fault : Stmt := top 47
theorem sc_l_fault : FnScope ["way", "bids", "goods", "measure", "k", "e"] ["way", "bids", "goods", "measure", "k"] (defScope s_l_fault) := ⟨rfl, rfl, rfl, by decide +kernel, rfl, by decide +kernel, by decide +kernel⟩
abbrev s_l_faults : Stmt := top 48
theorem sc_l_faults : FnScope ["good", "way", "bad"] [] (defScope s_l_faults) := ⟨rfl, rfl, rfl, by decide +kernel, rfl, by decide +kernel, by decide +kernel⟩
abbrev s_l_bundle : Stmt := top 49
theorem sc_l_bundle : FnScope ["draws", "k", "goods", "found", "good"] ["draws", "k", "goods"] (defScope s_l_bundle) := ⟨rfl, rfl, rfl, by decide +kernel, rfl, by decide +kernel, by decide +kernel⟩
abbrev s_law : Stmt := top 50
theorem sc_law : FnScope ["script", "draws", "goods", "bids", "kept", "measure", "tables", "k", "won_there", "due", "t", "turns_sum", "top", "number", "told", "lie", "more", "fewer", "good"] ["script"] (defScope s_law) := ⟨rfl, rfl, rfl, by decide +kernel, rfl, by decide +kernel, by decide +kernel⟩
structure Txt (P : Program) (K : Frg) (mg : MgT) : Prop where
  d_is_bundle : DefG K mg "is_bundle" s_is_bundle ["bundle", "goods"]
  d_inner : DefG K mg "inner" s_inner ["tree"]
  d_check_goods : DefG K mg "check_goods" s_check_goods ["goods"]
  d_number_of : DefG K mg "number_of" s_number_of ["bundle"]
  d_within : DefG K mg "within" s_within ["one", "two"]
  d_parts_of : DefG K mg "parts_of" s_parts_of ["number"]
  d_together : DefG K mg "together" s_together ["one", "two"]
  d_most_of : DefG K mg "most_of" s_most_of ["tables"]
  d_up_to : DefG K mg "up_to" s_up_to ["tables", "many"]
  d_worths : DefG K mg "worths" s_worths ["tree", "goods"]
  d_check_bids : DefG K mg "check_bids" s_check_bids ["bids", "goods"]
  d_check_all : DefG K mg "check_all" s_check_all ["bids", "goods", "measure"]
  d_weight_of : DefG K mg "weight_of" s_weight_of ["bid", "measure"]
  d_is_ahead : DefG K mg "is_ahead" s_is_ahead ["bids", "measure", "one", "two"]
  d_order_of : DefG K mg "order_of" s_order_of ["bids", "measure"]
  d_won : DefG K mg "won" s_won ["bids", "measure"]
  d_winners : DefG K mg "winners" s_winners ["bids", "goods", "measure"]
  d_wins_with : DefG K mg "wins_with" s_wins_with ["bids", "measure", "k", "worth"]
  d_least_for : DefG K mg "least_for" s_least_for ["bids", "measure", "k"]
  d_least_winning : DefG K mg "least_winning" s_least_winning ["bids", "goods", "measure", "k"]
  d_paid : DefG K mg "paid" s_paid ["bids", "goods", "measure"]
  d_book_of : DefG K mg "book_of" s_book_of ["bids", "goods"]
  d_best_sum : DefG K mg "best_sum" s_best_sum ["bids", "goods"]
  d_l_draws : DefG K mg "_law_draws" s_l_draws ["script"]
  d_l_mix : DefG K mg "_law_mix" s_l_mix ["draws", "k", "many"]
  d_l_order : DefG K mg "_law_order" s_l_order ["bids", "measure"]
  d_l_won : DefG K mg "_law_won" s_l_won ["bids", "measure"]
  d_l_with : DefG K mg "_law_with" s_l_with ["bids", "k", "bid"]
  d_l_best : DefG K mg "_law_best" s_l_best ["bids", "goods"]
  d_l_gain : DefG K mg "_law_gain" s_l_gain ["bids", "measure", "k", "bid", "goods"]
  d_l_least : DefG K mg "_law_least" s_l_least ["bids", "measure", "k"]
  d_l_fault : DefG K mg "_law_fault" s_l_fault ["way", "bids", "goods", "measure", "k"]
  d_l_faults : DefG K mg "_law_faults" s_l_faults []
  d_l_bundle : DefG K mg "_law_bundle" s_l_bundle ["draws", "k", "goods"]
  d_law : DefG K mg "law" s_law ["script"]
  n_len : mg "len" = none
  n_list : mg "list" = none
  n_sorted : mg "sorted" = none
  n_set : mg "set" = none
  n_sum : mg "sum" = none
  n_range : mg "range" = none
  n_max : mg "max" = none
  n_min : mg "min" = none
  n_enumerate : mg "enumerate" = none
  n_any : mg "any" = none
  n_dict : mg "dict" = none
  n_tuple : mg "tuple" = none
  n_abs : mg "abs" = none
  n_int : mg "int" = none
  n_repr : mg "repr" = none
  c_MOST_GOODS : GInt mg "MOST_GOODS" 6
  c_POWERS : GTup K mg "POWERS" [(.int 1), (.int 2), (.int 4), (.int 8), (.int 16), (.int 32), (.int 64)]
  c_MOST_BIDS : GInt mg "MOST_BIDS" 12
  c_MOST_WORTH : GInt mg "MOST_WORTH" 1000000
  c_MEASURES : GTup K mg "MEASURES" [(.str "worth"), (.str "each"), (.str "root")]
  x_OutOfRange : ErrG P K mg "OutOfRange"
  x_BadBids : ErrG P K mg "BadBids"
  x_BadBid : ErrG P K mg "BadBid"
  x_BadWord : ErrG P K mg "BadWord"
  x_BadBidder : ErrG P K mg "BadBidder"
  m_BadBid_BadBidder : ExM P K mg "BadBid" "BadBidder" false
  m_BadBids_BadBidder : ExM P K mg "BadBids" "BadBidder" false
  m_BadWord_BadBidder : ExM P K mg "BadWord" "BadBidder" false
  m_BadBidder_BadBidder : ExM P K mg "BadBidder" "BadBidder" true
  m_OutOfRange_BadBidder : ExM P K mg "OutOfRange" "BadBidder" false
  m_BadBid_BadWord : ExM P K mg "BadBid" "BadWord" false
  m_BadBids_BadWord : ExM P K mg "BadBids" "BadWord" false
  m_BadWord_BadWord : ExM P K mg "BadWord" "BadWord" true
  m_BadBidder_BadWord : ExM P K mg "BadBidder" "BadWord" false
  m_OutOfRange_BadWord : ExM P K mg "OutOfRange" "BadWord" false
  m_BadBid_BadBid : ExM P K mg "BadBid" "BadBid" true
  m_BadBids_BadBid : ExM P K mg "BadBids" "BadBid" false
  m_BadWord_BadBid : ExM P K mg "BadWord" "BadBid" false
  m_BadBidder_BadBid : ExM P K mg "BadBidder" "BadBid" false
  m_OutOfRange_BadBid : ExM P K mg "OutOfRange" "BadBid" false
  m_BadBid_BadBids : ExM P K mg "BadBid" "BadBids" false
  m_BadBids_BadBids : ExM P K mg "BadBids" "BadBids" true
  m_BadWord_BadBids : ExM P K mg "BadWord" "BadBids" false
  m_BadBidder_BadBids : ExM P K mg "BadBidder" "BadBids" false
  m_OutOfRange_BadBids : ExM P K mg "OutOfRange" "BadBids" false
  m_BadBid_OutOfRange : ExM P K mg "BadBid" "OutOfRange" false
  m_BadBids_OutOfRange : ExM P K mg "BadBids" "OutOfRange" false
  m_BadWord_OutOfRange : ExM P K mg "BadWord" "OutOfRange" false
  m_BadBidder_OutOfRange : ExM P K mg "BadBidder" "OutOfRange" false
  m_OutOfRange_OutOfRange : ExM P K mg "OutOfRange" "OutOfRange" true
section
variable {P : Program} {w : World} {K : Frg} {mg : MgT} {base : Heap}
theorem ok_is_bundle (T : Txt P K mg) : CallG P w K mg base 1 "is_bundle" (runF 2 2 g_is_bundle) := T.d_is_bundle.call sc_is_bundle rfl rfl fun f cdv A outer s H E hr hg =>
  (fss_one (fs_ret (fe_and (fe_cmp do_gt (fb_of (fe_callB (dc_len) rfl T.n_len (by rfl) (fab_cons (fb_var (pv 0)) fab_nil))) (fb_of fe_int) (by rfl)) (fe_and (fe_cmp (do_eq hr.units) (fb_of (fe_of_fn (t := false) (fn_callTy dc_list rfl T.n_list (by rfl) (fab_cons (fb_var (pv 0)) fab_nil)))) (fb_of (fe_of_fn (t := false) (fn_sortset (t := false) rfl rfl T.n_sorted rfl T.n_set (fb_var (pv 0))))) (by rfl)) (fe_and (fe_cmp do_ge (fb_of (fe_ix (hu_of hr) (fb_var (pv 0)) fe_int (fun _ _ => rfl))) (fb_of fe_int) (by rfl)) (fe_one (fe_cmp (do_lt hr.units) (fb_of (fe_ix (hu_of hr) (fb_var (pv 0)) (fe_un du_neg (fb_of fe_int)) (fun _ _ => rfl))) (fb_var (pv 1)) (by rfl))))))))
theorem ok_inner (T : Txt P K mg) : CallG P w K mg base 1 "inner" (runF 1 1 g_inner) := T.d_inner.call sc_inner rfl rfl fun f cdv A outer s H E hr hg =>
  (fss_cons (fs_if (ft_cmp (do_eq hr.units) (fb_of (fe_ix (hu_of hr) (fb_var (pv 0)) fe_int (fun _ _ => rfl))) (fb_of fe_str) (by rfl))
    (fss_one (fs_ret (fe_tup fa_nil)))
    fss_nil)
    (fss_one (fs_ret (fe_if (ft_cmp (do_eq hr.units) (fb_of (fe_ix (hu_of hr) (fb_var (pv 0)) fe_int (fun _ _ => rfl))) (fb_of fe_str) (by rfl)) (fe_ix (hu_of hr) (fb_var (pv 0)) fe_int (fun _ _ => rfl)) (fe_ix (hu_of hr) (fb_var (pv 0)) fe_int (fun _ _ => rfl))))))
theorem ok_check_goods (T : Txt P K mg) : CallG P w K mg base 1 "check_goods" (runF 1 1 g_check_goods) := T.d_check_goods.call sc_check_goods rfl rfl fun f cdv A outer s H E hr hg =>
  (fss_one (fs_if (ft_not (ft_chain do_le do_le (fb_of fe_int) (fb_var (pv 0)) (fb_of (fe_gint T.c_MOST_GOODS rfl)) (by rfl)))
    (fss_one (fs_raise (c := "OutOfRange") rfl T.x_OutOfRange rfl hr bx_takes rfl (fe_var (pv 0))))
    fss_nil))
theorem ok_number_of (T : Txt P K mg) : CallG P w K mg base 1 "number_of" (runF 2 1 g_number_of) := T.d_number_of.call sc_number_of rfl rfl fun f cdv A outer s H E hr hg =>
  (fss_one (fs_ret (fe_callB (dc_sum rfl) rfl T.n_sum (by rfl) (fab_cons (fb_of (fe_of_fn (t := false) (fn_lc (t := false) (own := [("good", 1)]) (ix := [1]) rfl sc_number_of.nd (fi_items (fe_var (pv 0))) (blkOk_by (by kernel_rfl)) (fun _ _ _ _ _ => (fg_name (i := 1) sc_number_of.nd rfl (by first | exact Or.inl rfl | exact Or.inr rfl))) (by decide) (fun _ _ _ _ _ => fts_nil) (fun _ _ _ _ _ => (fe_ix (hu_of hr) (fb_gtup T.c_POWERS rfl) (fe_var (pv 1)) (fun _ _ => rfl)))))) fab_nil))))
theorem ok_within (T : Txt P K mg) : CallG P w K mg base 1 "within" (runF 4 2 g_within) := T.d_within.call sc_within rfl rfl fun f cdv A outer s H E hr hg =>
  (fss_cons (fs_par (i := 2) (j := 3) rfl sc_within.nd rfl rfl (by decide) rfl rfl (fa_cons (fe_var (pv 0)) (fa_cons (fe_var (pv 1)) fa_nil)) (by first | rfl | kernel_rfl))
    (fss_cons (fs_while (n := 100) bx_owns (ft_cmp do_gt (fb_var (pv 2)) (fb_of fe_int) (by rfl))
    (fss_cons (fs_if (ft_cmp do_gt (fb_of (fe_op do_mod (fb_var (pv 2)) (fb_of fe_int))) (fb_of (fe_op do_mod (fb_var (pv 3)) (fb_of fe_int))) (by rfl))
    (fss_one (fs_ret fe_bl))
    fss_nil)
    (fss_one (fs_par (i := 2) (j := 3) rfl sc_within.nd rfl rfl (by decide) rfl rfl (fa_cons (fe_op do_div (fb_var (pv 2)) (fb_of fe_int)) (fa_cons (fe_op do_div (fb_var (pv 3)) (fb_of fe_int)) fa_nil)) (by first | rfl | kernel_rfl)))))
    (fss_one (fs_ret fe_bl))))
theorem ok_parts_of (T : Txt P K mg) {F_within : List D → R D} (C_within : CallG P w K mg base 1 "within" F_within) : CallG P w K mg base 2 "parts_of" (runF 2 1 (g_parts_of F_within)) := T.d_parts_of.call sc_parts_of rfl rfl fun f cdv A outer s H E hr hg =>
  (fss_one (fs_ret (fe_of_fn (t := false) (fn_lc (t := false) (own := [("part", 1)]) (ix := [1]) rfl sc_parts_of.nd (fi_range1 rfl T.n_range (fab_cons (fb_of (fe_opE do_add (fe_var (pv 0)) fe_int)) fab_nil)) (blkOk_by (by kernel_rfl)) (fun _ _ _ _ _ => (fg_name (i := 1) sc_parts_of.nd rfl (by first | exact Or.inl rfl | exact Or.inr rfl))) (by decide) (fun _ _ _ _ _ => (fts_one (ft_val (fe_cl C_within (hr.mono (by decide)) hg takesN0 rfl (fa_cons (fe_var (pv 1)) (fa_cons (fe_var (pv 0)) fa_nil)))))) (fun _ _ _ _ _ => (fe_var (pv 1)))))))
theorem ok_together (T : Txt P K mg) {F_parts_of : List D → R D} (C_parts_of : CallG P w K mg base 2 "parts_of" F_parts_of) : CallG P w K mg base 3 "together" (runF 4 2 (g_together F_parts_of)) := T.d_together.call sc_together rfl rfl fun f cdv A outer s H E hr hg =>
  (fss_one (fs_ret (fe_of_fn (t := false) (fn_lc (t := false) (own := [("whole", 2)]) (ix := [2]) rfl sc_together.nd (fi_range1 rfl T.n_range (fab_cons (fb_of (fe_callB (dc_len) rfl T.n_len (by rfl) (fab_cons (fb_var (pv 0)) fab_nil))) fab_nil)) (blkOk_by (by kernel_rfl)) (fun _ _ _ _ _ => (fg_name (i := 2) sc_together.nd rfl (by first | exact Or.inl rfl | exact Or.inr rfl))) (by decide) (fun _ _ _ _ _ => fts_nil) (fun _ _ _ _ _ => (fe_callB (dc_max rfl) rfl T.n_max (by rfl) (fab_cons (fb_of (fe_of_fn (t := false) (fn_lc (t := false) (own := [("part", 3)]) (ix := [3]) rfl sc_together.nd (fi_items (fe_cl C_parts_of (hr.mono (by decide)) hg takesN0 rfl (fa_cons (fe_var (pv 2)) fa_nil))) (blkOk_by (by kernel_rfl)) (fun _ _ _ _ _ => (fg_name (i := 3) sc_together.nd rfl (by first | exact Or.inl rfl | exact Or.inr rfl))) (by decide) (fun _ _ _ _ _ => fts_nil) (fun _ _ _ _ _ => (fe_opE do_add (fe_ix (hu_of hr) (fb_var (pv 0)) (fe_var (pv 3)) (fun _ _ => rfl)) (fe_ix (hu_of hr) (fb_var (pv 1)) (fe_op do_sub (fb_var (pv 2)) (fb_var (pv 3))) (fun _ _ => rfl))))))) fab_nil)))))))
theorem ok_most_of (T : Txt P K mg) : CallG P w K mg base 1 "most_of" (runF 3 1 g_most_of) := T.d_most_of.call sc_most_of rfl rfl fun f cdv A outer s H E hr hg =>
  (fss_one (fs_ret (fe_of_fn (t := false) (fn_lc (t := false) (own := [("number", 1)]) (ix := [1]) rfl sc_most_of.nd (fi_range1 rfl T.n_range (fab_cons (fb_of (fe_callB (dc_len) rfl T.n_len (by rfl) (fab_cons (fb_of (fe_ix (hu_of hr) (fb_var (pv 0)) fe_int (fun _ _ => rfl))) fab_nil))) fab_nil)) (blkOk_by (by kernel_rfl)) (fun _ _ _ _ _ => (fg_name (i := 1) sc_most_of.nd rfl (by first | exact Or.inl rfl | exact Or.inr rfl))) (by decide) (fun _ _ _ _ _ => fts_nil) (fun _ _ _ _ _ => (fe_callB (dc_max rfl) rfl T.n_max (by rfl) (fab_cons (fb_of (fe_of_fn (t := false) (fn_lc (t := false) (own := [("told", 2)]) (ix := [2]) rfl sc_most_of.nd (fi_items (fe_var (pv 0))) (blkOk_by (by kernel_rfl)) (fun _ _ _ _ _ => (fg_name (i := 2) sc_most_of.nd rfl (by first | exact Or.inl rfl | exact Or.inr rfl))) (by decide) (fun _ _ _ _ _ => fts_nil) (fun _ _ _ _ _ => (fe_ix (hu_of hr) (fb_var (pv 2)) (fe_var (pv 1)) (fun _ _ => rfl)))))) fab_nil)))))))
theorem ok_up_to (T : Txt P K mg) {F_together : List D → R D} {F_most_of : List D → R D} (C_together : CallG P w K mg base 3 "together" F_together) (C_most_of : CallG P w K mg base 1 "most_of" F_most_of) : CallG P w K mg base 4 "up_to" (runF 7 2 (g_up_to F_together F_most_of)) := T.d_up_to.call sc_up_to rfl rfl fun f cdv A outer s H E hr hg =>
  (fss_cons (fs_set (i := 2) sc_up_to.nd rfl (by first | exact Or.inl rfl | exact Or.inr rfl) (fe_of_fn (t := false) (fn_list (t := false) (fa_cons (fe_op do_mul (fb_of (fe_of_fn (t := false) (fn_list (t := false) (fa_cons fe_int fa_nil)))) (fb_of (fe_callB (dc_len) rfl T.n_len (by rfl) (fab_cons (fb_of (fe_ix (hu_of hr) (fb_var (pv 0)) fe_int (fun _ _ => rfl))) fab_nil)))) fa_nil))))
    (fss_cons (fs_for bx_owns rfl (fi_items (fe_var (pv 0))) (fg_name (i := 3) sc_up_to.nd rfl (by first | exact Or.inl rfl | exact Or.inr rfl))
    (fss_cons (fs_setN (i := 4) sc_up_to.nd rfl (by first | exact Or.inl rfl | exact Or.inr rfl) (fn_list (t := false) (fa_cons (fe_of_fn (t := false) (fn_callTy dc_list rfl T.n_list (by rfl) (fab_cons (fb_of (fe_ix (hu_of hr) (fb_var (pv 2)) fe_int (fun _ _ => rfl))) fab_nil))) fa_nil)))
    (fss_cons (fs_for bx_owns rfl (fi_range2 rfl T.n_range (fab_cons (fb_of fe_int) (fab_cons (fb_of (fe_opE do_add (fe_callB (dc_min2 rfl) rfl T.n_min (by rfl) (fab_cons (fb_var (pv 1)) (fab_cons (fb_of (fe_callB (dc_len) rfl T.n_len (by rfl) (fab_cons (fb_var (pv 2)) fab_nil))) fab_nil))) fe_int)) fab_nil))) (fg_name (i := 5) sc_up_to.nd rfl (by first | exact Or.inl rfl | exact Or.inr rfl))
    (fss_cons (fs_set (i := 6) sc_up_to.nd rfl (by first | exact Or.inl rfl | exact Or.inr rfl) (fe_cl C_together (hr.mono (by decide)) hg bx_takes rfl (fa_cons (fe_ix (hu_of hr) (fb_var (pv 2)) (fe_op do_sub (fb_var (pv 5)) (fb_of fe_int)) (fun _ _ => rfl)) (fa_cons (fe_var (pv 3)) fa_nil))))
    (fss_one (fs_append (pv 4) (fe_if (ft_cmp (do_lt hr.units) (fb_var (pv 5)) (fb_of (fe_callB (dc_len) rfl T.n_len (by rfl) (fab_cons (fb_var (pv 2)) fab_nil))) (by rfl)) (fe_cl C_most_of (hr.mono (by decide)) hg bx_takes rfl (fa_cons (fe_of_fn (t := false) (fn_list (t := false) (fa_cons (fe_ix (hu_of hr) (fb_var (pv 2)) (fe_var (pv 5)) (fun _ _ => rfl)) (fa_cons (fe_var (pv 6)) fa_nil)))) fa_nil)) (fe_var (pv 6)))))))
    (fss_one (fs_frz 4 (fs_set (i := 2) sc_up_to.nd rfl (by first | exact Or.inl rfl | exact Or.inr rfl) (fe_var (pv 4))))))))
    (fss_one (fs_ret (fe_cl C_most_of (hr.mono (by decide)) hg bx_takes rfl (fa_cons (fe_var (pv 2)) fa_nil))))))
theorem ok_worths (T : Txt P K mg) {F_number_of : List D → R D} {F_within : List D → R D} {F_inner : List D → R D} {F_worths : List D → R D} {F_most_of : List D → R D} {F_up_to : List D → R D} {j : Nat} (C_number_of : CallG P w K mg base 1 "number_of" F_number_of) (C_within : CallG P w K mg base 1 "within" F_within) (C_inner : CallG P w K mg base 1 "inner" F_inner) (C_worths : CallG P w K mg base (5 + j) "worths" F_worths) (C_most_of : CallG P w K mg base 1 "most_of" F_most_of) (C_up_to : CallG P w K mg base 4 "up_to" F_up_to) : CallG P w K mg base (5 + j + 1) "worths" (runF 6 2 (g_worths F_number_of F_within F_inner F_worths F_most_of F_up_to)) := T.d_worths.call sc_worths rfl rfl fun f cdv A outer s H E hr hg =>
  (fss_cons (fs_if (ft_cmp (do_eq hr.units) (fb_of (fe_ix (hu_of hr) (fb_var (pv 0)) fe_int (fun _ _ => rfl))) (fb_of fe_str) (by rfl))
    (fss_cons (fs_set (i := 3) sc_worths.nd rfl (by first | exact Or.inl rfl | exact Or.inr rfl) (fe_cl C_number_of (hr.mono (by omega)) hg bx_takes rfl (fa_cons (fe_ix (hu_of hr) (fb_var (pv 0)) fe_int (fun _ _ => rfl)) fa_nil)))
    (fss_one (fs_ret (fe_of_fn (t := false) (fn_lc (t := false) (own := [("whole", 5)]) (ix := [5]) rfl sc_worths.nd (fi_range1 rfl T.n_range (fab_cons (fb_of (fe_ix (hu_of hr) (fb_gtup T.c_POWERS rfl) (fe_var (pv 1)) (fun _ _ => rfl))) fab_nil)) (blkOk_by (by kernel_rfl)) (fun _ _ _ _ _ => (fg_name (i := 5) sc_worths.nd rfl (by first | exact Or.inl rfl | exact Or.inr rfl))) (by decide) (fun _ _ _ _ _ => fts_nil) (fun _ _ _ _ _ => (fe_if (ft_val (fe_cl C_within (hr.mono (by omega)) hg takesN0 rfl (fa_cons (fe_var (pv 3)) (fa_cons (fe_var (pv 5)) fa_nil)))) (fe_ix (hu_of hr) (fb_var (pv 0)) fe_int (fun _ _ => rfl)) fe_int)))))))
    fss_nil)
    (fss_cons (fs_setLcV (i := 2) (own := [("told", 4)]) (ix := [4]) rfl sc_worths.nd rfl rfl (by rfl) (fi_items (fe_cl C_inner (hr.mono (by omega)) hg bx_takes rfl (fa_cons (fe_var (pv 0)) fa_nil))) (blkOk_by (by kernel_rfl)) (fun _ _ _ _ _ => (fg_name (i := 4) sc_worths.nd rfl (by first | exact Or.inl rfl | exact Or.inr rfl))) (by decide) (fun _ _ _ _ _ => fts_nil) (fun _ _ _ _ _ => (fe_cl C_worths (hr.mono (by omega)) hg takesN0 rfl (fa_cons (fe_var (pv 4)) (fa_cons (fe_var (pv 1)) fa_nil)))))
    (fss_cons (fs_if (ft_cmp (do_eq hr.units) (fb_of (fe_ix (hu_of hr) (fb_var (pv 0)) fe_int (fun _ _ => rfl))) (fb_of fe_str) (by rfl))
    (fss_one (fs_ret (fe_cl C_most_of (hr.mono (by omega)) hg bx_takes rfl (fa_cons (fe_var (pv 2)) fa_nil))))
    fss_nil)
    (fss_one (fs_ret (fe_cl C_up_to (hr.mono (by omega)) hg bx_takes rfl (fa_cons (fe_var (pv 2)) (fa_cons (fe_if (ft_cmp (do_eq hr.units) (fb_of (fe_ix (hu_of hr) (fb_var (pv 0)) fe_int (fun _ _ => rfl))) (fb_of fe_str) (by rfl)) (fe_ix (hu_of hr) (fb_var (pv 0)) fe_int (fun _ _ => rfl)) (fe_callB (dc_len) rfl T.n_len (by rfl) (fab_cons (fb_var (pv 2)) fab_nil))) fa_nil))))))))
theorem ok_check_bids (T : Txt P K mg) {F_check_goods : List D → R D} {F_is_bundle : List D → R D} (C_check_goods : CallG P w K mg base 1 "check_goods" F_check_goods) (C_is_bundle : CallG P w K mg base 1 "is_bundle" F_is_bundle) : CallG P w K mg base 2 "check_bids" (runF 5 2 (g_check_bids F_check_goods F_is_bundle)) := T.d_check_bids.call sc_check_bids rfl rfl fun f cdv A outer s H E hr hg =>
  (fss_cons (fs_expr (fe_cl C_check_goods (hr.mono (by decide)) hg bx_takes rfl (fa_cons (fe_var (pv 1)) fa_nil)))
    (fss_cons (fs_if (ft_not (ft_chain do_le do_le (fb_of fe_int) (fb_of (fe_callB (dc_len) rfl T.n_len (by rfl) (fab_cons (fb_var (pv 0)) fab_nil))) (fb_of (fe_gint T.c_MOST_BIDS rfl)) (by rfl)))
    (fss_one (fs_raise (c := "BadBids") rfl T.x_BadBids rfl hr bx_takes rfl (fe_callB (dc_len) rfl T.n_len (by rfl) (fab_cons (fb_var (pv 0)) fab_nil))))
    fss_nil)
    (fss_one (fs_for bx_owns rfl (fi_enum rfl T.n_enumerate (fa_cons (fe_var (pv 0)) fa_nil)) (fg_tup rfl (fgs_cons (fg_name (i := 2) sc_check_bids.nd rfl (by first | exact Or.inl rfl | exact Or.inr rfl)) (fgs_cons (fg_tup rfl (fgs_cons (fg_name (i := 3) sc_check_bids.nd rfl (by first | exact Or.inl rfl | exact Or.inr rfl)) (fgs_cons (fg_name (i := 4) sc_check_bids.nd rfl (by first | exact Or.inl rfl | exact Or.inr rfl)) fgs_nil)) (fun _ _ _ => gC_len (fun _ _ _ => gC_len (fun _ _ _ => gE_len)))) fgs_nil)) (fun _ _ _ => gC_len (fun _ _ _ => gC_len (fun _ _ _ => gE_len))))
    (fss_one (fs_if (ft_w (fw_or (ft_not (ft_val (fe_cl C_is_bundle (hr.mono (by decide)) hg bx_takes rfl (fa_cons (fe_var (pv 3)) (fa_cons (fe_var (pv 1)) fa_nil))))) (fw_or1 (ft_not (ft_chain do_le do_le (fb_of fe_int) (fb_var (pv 4)) (fb_of (fe_gint T.c_MOST_WORTH rfl)) (by rfl))))))
    (fss_one (fs_raise (c := "BadBid") rfl T.x_BadBid rfl hr bx_takes rfl (fe_var (pv 2))))
    fss_nil))))))
theorem ok_check_all (T : Txt P K mg) {F_check_bids : List D → R D} (C_check_bids : CallG P w K mg base 2 "check_bids" F_check_bids) : CallG P w K mg base 3 "check_all" (runF 3 3 (g_check_all F_check_bids)) := T.d_check_all.call sc_check_all rfl rfl fun f cdv A outer s H E hr hg =>
  (fss_cons (fs_expr (fe_cl C_check_bids (hr.mono (by decide)) hg bx_takes rfl (fa_cons (fe_var (pv 0)) (fa_cons (fe_var (pv 1)) fa_nil))))
    (fss_one (fs_if (ft_inD (do_notin (units65 hr)) (fe_var (pv 2)) (fb_gtup T.c_MEASURES rfl) (by rfl))
    (fss_one (fs_raise (c := "BadWord") rfl T.x_BadWord rfl hr bx_takes rfl fe_int))
    fss_nil)))
theorem ok_weight_of (T : Txt P K mg) : CallG P w K mg base 1 "weight_of" (runF 4 2 g_weight_of) := T.d_weight_of.call sc_weight_of rfl rfl fun f cdv A outer s H E hr hg =>
  (fss_cons (fs_asg (fe_var (pv 0)) (fg_tup rfl (fgs_cons (fg_name (i := 2) sc_weight_of.nd rfl (by first | exact Or.inl rfl | exact Or.inr rfl)) (fgs_cons (fg_name (i := 3) sc_weight_of.nd rfl (by first | exact Or.inl rfl | exact Or.inr rfl)) fgs_nil)) (fun _ _ _ => gC_len (fun _ _ _ => gC_len (fun _ _ _ => gE_len)))))
    (fss_cons (fs_if (ft_cmp (do_eq hr.units) (fb_var (pv 1)) (fb_of fe_str) (by rfl))
    (fss_one (fs_ret (fe_tup (fa_cons (fe_var (pv 3)) (fa_cons fe_int fa_nil)))))
    fss_nil)
    (fss_one (fs_ret (fe_if (ft_cmp (do_eq hr.units) (fb_var (pv 1)) (fb_of fe_str) (by rfl)) (fe_tup (fa_cons (fe_var (pv 3)) (fa_cons (fe_callB (dc_len) rfl T.n_len (by rfl) (fab_cons (fb_var (pv 2)) fab_nil)) fa_nil))) (fe_tup (fa_cons (fe_op do_mul (fb_var (pv 3)) (fb_var (pv 3))) (fa_cons (fe_callB (dc_len) rfl T.n_len (by rfl) (fab_cons (fb_var (pv 2)) fab_nil)) fa_nil))))))))
theorem ok_is_ahead (T : Txt P K mg) {F_weight_of : List D → R D} (C_weight_of : CallG P w K mg base 1 "weight_of" F_weight_of) : CallG P w K mg base 2 "is_ahead" (runF 8 4 (g_is_ahead F_weight_of)) := T.d_is_ahead.call sc_is_ahead rfl rfl fun f cdv A outer s H E hr hg =>
  (fss_cons (fs_asg (fe_cl C_weight_of (hr.mono (by decide)) hg bx_takes rfl (fa_cons (fe_ix (hu_of hr) (fb_var (pv 0)) (fe_var (pv 2)) (fun _ _ => rfl)) (fa_cons (fe_var (pv 1)) fa_nil))) (fg_tup rfl (fgs_cons (fg_name (i := 4) sc_is_ahead.nd rfl (by first | exact Or.inl rfl | exact Or.inr rfl)) (fgs_cons (fg_name (i := 5) sc_is_ahead.nd rfl (by first | exact Or.inl rfl | exact Or.inr rfl)) fgs_nil)) (fun _ _ _ => gC_len (fun _ _ _ => gC_len (fun _ _ _ => gE_len)))))
    (fss_cons (fs_asg (fe_cl C_weight_of (hr.mono (by decide)) hg bx_takes rfl (fa_cons (fe_ix (hu_of hr) (fb_var (pv 0)) (fe_var (pv 3)) (fun _ _ => rfl)) (fa_cons (fe_var (pv 1)) fa_nil))) (fg_tup rfl (fgs_cons (fg_name (i := 6) sc_is_ahead.nd rfl (by first | exact Or.inl rfl | exact Or.inr rfl)) (fgs_cons (fg_name (i := 7) sc_is_ahead.nd rfl (by first | exact Or.inl rfl | exact Or.inr rfl)) fgs_nil)) (fun _ _ _ => gC_len (fun _ _ _ => gC_len (fun _ _ _ => gE_len)))))
    (fss_one (fs_ret (fe_or (fe_cmp do_gt (fb_of (fe_op do_mul (fb_var (pv 4)) (fb_var (pv 7)))) (fb_of (fe_op do_mul (fb_var (pv 6)) (fb_var (pv 5)))) (by rfl)) (fe_one (fe_and (fe_cmp (do_eq hr.units) (fb_of (fe_op do_mul (fb_var (pv 4)) (fb_var (pv 7)))) (fb_of (fe_op do_mul (fb_var (pv 6)) (fb_var (pv 5)))) (by rfl)) (fe_one (fe_cmp (do_lt hr.units) (fb_var (pv 2)) (fb_var (pv 3)) (by rfl))))))))))
theorem ok_order_of (T : Txt P K mg) {F_is_ahead : List D → R D} (C_is_ahead : CallG P w K mg base 2 "is_ahead" F_is_ahead) : CallG P w K mg base 3 "order_of" (runF 6 2 (g_order_of F_is_ahead)) := T.d_order_of.call sc_order_of rfl rfl fun f cdv A outer s H E hr hg =>
  (fss_cons (fs_set (i := 2) sc_order_of.nd rfl (by first | exact Or.inl rfl | exact Or.inr rfl) (fe_of_fn (t := false) (fn_list (t := false) fa_nil)))
    (fss_cons (fs_for bx_owns rfl (fi_range1 rfl T.n_range (fab_cons (fb_of (fe_callB (dc_len) rfl T.n_len (by rfl) (fab_cons (fb_var (pv 0)) fab_nil))) fab_nil)) (fg_name (i := 3) sc_order_of.nd rfl (by first | exact Or.inl rfl | exact Or.inr rfl))
    (fss_cons (fs_set (i := 4) sc_order_of.nd rfl (by first | exact Or.inl rfl | exact Or.inr rfl) (fe_callB (dc_len) rfl T.n_len (by rfl) (fab_cons (fb_of (fe_of_fn (t := false) (fn_lc (t := false) (own := [("one", 5)]) (ix := [5]) rfl sc_order_of.nd (fi_items (fe_var (pv 2))) (blkOk_by (by kernel_rfl)) (fun _ _ _ _ _ => (fg_name (i := 5) sc_order_of.nd rfl (by first | exact Or.inl rfl | exact Or.inr rfl))) (by decide) (fun _ _ _ _ _ => (fts_one (ft_val (fe_cl C_is_ahead (hr.mono (by decide)) hg takesN0 rfl (fa_cons (fe_var (pv 0)) (fa_cons (fe_var (pv 1)) (fa_cons (fe_var (pv 5)) (fa_cons (fe_var (pv 3)) fa_nil)))))))) (fun _ _ _ _ _ => (fe_var (pv 5)))))) fab_nil)))
    (fss_one (fs_set (i := 2) sc_order_of.nd rfl (by first | exact Or.inl rfl | exact Or.inr rfl) (fe_of_fn (t := false) (fn_list (t := false) (fa_star (fb_of (fe_slice (fe_var (pv 2)) fo_none (fo_some (fe_var (pv 4))))) (fa_cons (fe_var (pv 3)) (fa_star (fb_of (fe_slice (fe_var (pv 2)) (fo_some (fe_var (pv 4))) fo_none)) fa_nil)))))))))
    (fss_one (fs_ret (fe_var (pv 2))))))
theorem ok_won (T : Txt P K mg) {F_order_of : List D → R D} (C_order_of : CallG P w K mg base 3 "order_of" F_order_of) : CallG P w K mg base 4 "won" (runF 6 2 (g_won F_order_of)) := T.d_won.call sc_won rfl rfl fun f cdv A outer s H E hr hg =>
  (fss_cons (fs_setN (i := 2) sc_won.nd rfl (by first | exact Or.inl rfl | exact Or.inr rfl) fn_dnewK)
    (fss_cons (fs_setN (i := 3) sc_won.nd rfl (by first | exact Or.inl rfl | exact Or.inr rfl) (fn_list (t := false) fa_nil))
    (fss_cons (fs_for bx_owns rfl (fi_items (fe_cl C_order_of (hr.mono (by decide)) hg bx_takes rfl (fa_cons (fe_var (pv 0)) (fa_cons (fe_var (pv 1)) fa_nil)))) (fg_name (i := 4) sc_won.nd rfl (by first | exact Or.inl rfl | exact Or.inr rfl))
    (fss_one (fs_if (ft_not (ft_val (fe_callB (dc_any rfl) rfl T.n_any (by rfl) (fab_cons (fb_of (fe_of_fn (t := false) (fn_lc (t := false) (own := [("good", 5)]) (ix := [5]) rfl sc_won.nd (fi_items (fe_ix (hu_of hr) (fb_of (fe_ix (hu_of hr) (fb_var (pv 0)) (fe_var (pv 4)) (fun _ _ => rfl))) fe_int (fun _ _ => rfl))) (blkOk_by (by kernel_rfl)) (fun _ _ _ _ _ => (fg_name (i := 5) sc_won.nd rfl (by first | exact Or.inl rfl | exact Or.inr rfl))) (by decide) (fun _ _ _ _ _ => fts_nil) (fun _ _ _ _ _ => (fe_inD (do_in (units65 hr)) (fe_var (pv 5)) (fb_var (pv 2)) (by rfl)))))) fab_nil))))
    (fss_cons (fs_append (pv 3) (fe_var (pv 4)))
    (fss_one (fs_for bx_owns rfl (fi_items (fe_ix (hu_of hr) (fb_of (fe_ix (hu_of hr) (fb_var (pv 0)) (fe_var (pv 4)) (fun _ _ => rfl))) fe_int (fun _ _ => rfl))) (fg_name (i := 5) sc_won.nd rfl (by first | exact Or.inl rfl | exact Or.inr rfl))
    (fss_one (fs_setD (hu_of hr) (pv 2) (fe_var (pv 5)) fe_bl)))))
    fss_nil)))
    (fss_one (fs_ret (fe_of_fn (t := false) (fn_callB dc_sorted rfl T.n_sorted (by rfl) (fab_cons (fb_var (pv 3)) fab_nil))))))))
theorem ok_winners (T : Txt P K mg) {F_check_all : List D → R D} {F_won : List D → R D} (C_check_all : CallG P w K mg base 3 "check_all" F_check_all) (C_won : CallG P w K mg base 4 "won" F_won) : CallG P w K mg base 5 "winners" (runF 3 3 (g_winners F_check_all F_won)) := T.d_winners.call sc_winners rfl rfl fun f cdv A outer s H E hr hg =>
  (fss_cons (fs_expr (fe_cl C_check_all (hr.mono (by decide)) hg bx_takes rfl (fa_cons (fe_var (pv 0)) (fa_cons (fe_var (pv 1)) (fa_cons (fe_var (pv 2)) fa_nil)))))
    (fss_one (fs_ret (fe_cl C_won (hr.mono (by decide)) hg bx_takes rfl (fa_cons (fe_var (pv 0)) (fa_cons (fe_var (pv 2)) fa_nil))))))
theorem ok_wins_with (T : Txt P K mg) {F_won : List D → R D} (C_won : CallG P w K mg base 4 "won" F_won) : CallG P w K mg base 5 "wins_with" (runF 4 4 (g_wins_with F_won)) := T.d_wins_with.call sc_wins_with rfl rfl fun f cdv A outer s H E hr hg =>
  (fss_one (fs_ret (fe_inD (do_in (units65 hr)) (fe_var (pv 2)) (fb_of (fe_cl C_won (hr.mono (by decide)) hg bx_takes rfl (fa_cons (fe_of_fn (t := false) (fn_list (t := false) (fa_star (fb_of (fe_slice (fe_var (pv 0)) fo_none (fo_some (fe_var (pv 2))))) (fa_cons (fe_tup (fa_cons (fe_ix (hu_of hr) (fb_of (fe_ix (hu_of hr) (fb_var (pv 0)) (fe_var (pv 2)) (fun _ _ => rfl))) fe_int (fun _ _ => rfl)) (fa_cons (fe_var (pv 3)) fa_nil))) (fa_star (fb_of (fe_slice (fe_var (pv 0)) (fo_some (fe_opE do_add (fe_var (pv 2)) fe_int)) fo_none)) fa_nil))))) (fa_cons (fe_var (pv 1)) fa_nil)))) (by rfl))))
theorem ok_least_for (T : Txt P K mg) {F_wins_with : List D → R D} (C_wins_with : CallG P w K mg base 5 "wins_with" F_wins_with) : CallG P w K mg base 6 "least_for" (runF 6 3 (g_least_for F_wins_with)) := T.d_least_for.call sc_least_for rfl rfl fun f cdv A outer s H E hr hg =>
  (fss_cons (fs_if (ft_not (ft_val (fe_cl C_wins_with (hr.mono (by decide)) hg bx_takes rfl (fa_cons (fe_var (pv 0)) (fa_cons (fe_var (pv 1)) (fa_cons (fe_var (pv 2)) (fa_cons (fe_gint T.c_MOST_WORTH rfl) fa_nil)))))))
    (fss_one (fs_ret fe_non))
    fss_nil)
    (fss_cons (fs_par (i := 3) (j := 4) rfl sc_least_for.nd rfl rfl (by decide) rfl rfl (fa_cons (fe_un du_neg (fb_of fe_int)) (fa_cons (fe_gint T.c_MOST_WORTH rfl) fa_nil)) (by first | rfl | kernel_rfl))
    (fss_cons (fs_while (n := 100) bx_owns (ft_cmp do_gt (fb_of (fe_op do_sub (fb_var (pv 4)) (fb_var (pv 3)))) (fb_of fe_int) (by rfl))
    (fss_cons (fs_set (i := 5) sc_least_for.nd rfl (by first | exact Or.inl rfl | exact Or.inr rfl) (fe_op do_div (fb_of (fe_opE do_add (fe_var (pv 3)) (fe_var (pv 4)))) (fb_of fe_int)))
    (fss_one (fs_if (ft_val (fe_cl C_wins_with (hr.mono (by decide)) hg bx_takes rfl (fa_cons (fe_var (pv 0)) (fa_cons (fe_var (pv 1)) (fa_cons (fe_var (pv 2)) (fa_cons (fe_var (pv 5)) fa_nil))))))
    (fss_one (fs_set (i := 4) sc_least_for.nd rfl (by first | exact Or.inl rfl | exact Or.inr rfl) (fe_var (pv 5))))
    (fss_one (fs_set (i := 3) sc_least_for.nd rfl (by first | exact Or.inl rfl | exact Or.inr rfl) (fe_var (pv 5))))))))
    (fss_one (fs_ret (fe_var (pv 4)))))))
theorem ok_least_winning (T : Txt P K mg) {F_check_all : List D → R D} {F_least_for : List D → R D} (C_check_all : CallG P w K mg base 3 "check_all" F_check_all) (C_least_for : CallG P w K mg base 6 "least_for" F_least_for) : CallG P w K mg base 7 "least_winning" (runF 4 4 (g_least_winning F_check_all F_least_for)) := T.d_least_winning.call sc_least_winning rfl rfl fun f cdv A outer s H E hr hg =>
  (fss_cons (fs_expr (fe_cl C_check_all (hr.mono (by decide)) hg bx_takes rfl (fa_cons (fe_var (pv 0)) (fa_cons (fe_var (pv 1)) (fa_cons (fe_var (pv 2)) fa_nil)))))
    (fss_cons (fs_if (ft_not (ft_chain do_le (do_lt hr.units) (fb_of fe_int) (fb_var (pv 3)) (fb_of (fe_callB (dc_len) rfl T.n_len (by rfl) (fab_cons (fb_var (pv 0)) fab_nil))) (by rfl)))
    (fss_one (fs_raise (c := "BadBidder") rfl T.x_BadBidder rfl hr bx_takes rfl (fe_var (pv 3))))
    fss_nil)
    (fss_one (fs_ret (fe_cl C_least_for (hr.mono (by decide)) hg bx_takes rfl (fa_cons (fe_var (pv 0)) (fa_cons (fe_var (pv 2)) (fa_cons (fe_var (pv 3)) fa_nil))))))))
theorem ok_paid (T : Txt P K mg) {F_check_all : List D → R D} {F_won : List D → R D} {F_least_for : List D → R D} (C_check_all : CallG P w K mg base 3 "check_all" F_check_all) (C_won : CallG P w K mg base 4 "won" F_won) (C_least_for : CallG P w K mg base 6 "least_for" F_least_for) : CallG P w K mg base 7 "paid" (runF 5 3 (g_paid F_check_all F_won F_least_for)) := T.d_paid.call sc_paid rfl rfl fun f cdv A outer s H E hr hg =>
  (fss_cons (fs_expr (fe_cl C_check_all (hr.mono (by decide)) hg bx_takes rfl (fa_cons (fe_var (pv 0)) (fa_cons (fe_var (pv 1)) (fa_cons (fe_var (pv 2)) fa_nil)))))
    (fss_cons (fs_set (i := 3) sc_paid.nd rfl (by first | exact Or.inl rfl | exact Or.inr rfl) (fe_cl C_won (hr.mono (by decide)) hg bx_takes rfl (fa_cons (fe_var (pv 0)) (fa_cons (fe_var (pv 2)) fa_nil))))
    (fss_one (fs_ret (fe_of_fn (t := false) (fn_lc (t := false) (own := [("k", 4)]) (ix := [4]) rfl sc_paid.nd (fi_range1 rfl T.n_range (fab_cons (fb_of (fe_callB (dc_len) rfl T.n_len (by rfl) (fab_cons (fb_var (pv 0)) fab_nil))) fab_nil)) (blkOk_by (by kernel_rfl)) (fun _ _ _ _ _ => (fg_name (i := 4) sc_paid.nd rfl (by first | exact Or.inl rfl | exact Or.inr rfl))) (by decide) (fun _ _ _ _ _ => fts_nil) (fun _ _ _ _ _ => (fe_if (ft_inD (do_in (units65 hr)) (fe_var (pv 4)) (fb_var (pv 3)) (by rfl)) (fe_cl C_least_for (hr.mono (by decide)) hg takesN0 rfl (fa_cons (fe_var (pv 0)) (fa_cons (fe_var (pv 2)) (fa_cons (fe_var (pv 4)) fa_nil)))) fe_int))))))))
theorem ok_book_of (T : Txt P K mg) {F_check_bids : List D → R D} {F_worths : List D → R D} (C_check_bids : CallG P w K mg base 2 "check_bids" F_check_bids) (C_worths : CallG P w K mg base 13 "worths" F_worths) : CallG P w K mg base 14 "book_of" (runF 4 2 (g_book_of F_check_bids F_worths)) := T.d_book_of.call sc_book_of rfl rfl fun f cdv A outer s H E hr hg =>
  (fss_cons (fs_expr (fe_cl C_check_bids (hr.mono (by decide)) hg bx_takes rfl (fa_cons (fe_var (pv 0)) (fa_cons (fe_var (pv 1)) fa_nil))))
    (fss_one (fs_ret (fe_of_fn (t := false) (fn_lc (t := false) (own := [("bundle", 2), ("worth", 3)]) (ix := [2, 3]) rfl sc_book_of.nd (fi_items (fe_var (pv 0))) (blkOk_by (by kernel_rfl)) (fun _ _ _ _ _ => (fg_tup rfl (fgs_cons (fg_name (i := 2) sc_book_of.nd rfl (by first | exact Or.inl rfl | exact Or.inr rfl)) (fgs_cons (fg_name (i := 3) sc_book_of.nd rfl (by first | exact Or.inl rfl | exact Or.inr rfl)) fgs_nil)) (fun _ _ _ => gC_len (fun _ _ _ => gC_len (fun _ _ _ => gE_len))))) (by decide) (fun _ _ _ _ _ => fts_nil) (fun _ _ _ _ _ => (fe_cl C_worths (hr.mono (by decide)) hg takesN0 rfl (fa_cons (fe_tup (fa_cons fe_str (fa_cons (fe_var (pv 2)) (fa_cons (fe_var (pv 3)) fa_nil)))) (fa_cons (fe_var (pv 1)) fa_nil)))))))))
theorem ok_best_sum (T : Txt P K mg) {F_check_bids : List D → R D} (C_check_bids : CallG P w K mg base 2 "check_bids" F_check_bids) : CallG P w K mg base 3 "best_sum" (runF 9 2 (g_best_sum F_check_bids)) := T.d_best_sum.call sc_best_sum rfl rfl fun f cdv A outer s H E hr hg =>
  (fss_cons (fs_expr (fe_cl C_check_bids (hr.mono (by decide)) hg bx_takes rfl (fa_cons (fe_var (pv 0)) (fa_cons (fe_var (pv 1)) fa_nil))))
    (fss_cons (fs_set (i := 2) sc_best_sum.nd rfl (by first | exact Or.inl rfl | exact Or.inr rfl) (fe_of_fn (t := true) (fn_oneT (units0 hr) (fe_tup fa_nil) fe_int)))
    (fss_cons (fs_for bx_owns rfl (fi_items (fe_var (pv 0))) (fg_tup rfl (fgs_cons (fg_name (i := 3) sc_best_sum.nd rfl (by first | exact Or.inl rfl | exact Or.inr rfl)) (fgs_cons (fg_name (i := 4) sc_best_sum.nd rfl (by first | exact Or.inl rfl | exact Or.inr rfl)) fgs_nil)) (fun _ _ _ => gC_len (fun _ _ _ => gC_len (fun _ _ _ => gE_len))))
    (fss_cons (fs_setN (i := 5) sc_best_sum.nd rfl (by first | exact Or.inl rfl | exact Or.inr rfl) (fn_callTyT (dc_copyT (units2 hr)) rfl T.n_dict (by rfl) (fab_cons (fb_var (pv 2)) fab_nil)))
    (fss_cons (fs_forK (i := 2) bx_owns rfl (pv 2) (fg_name (i := 6) sc_best_sum.nd rfl (by first | exact Or.inl rfl | exact Or.inr rfl))
    (fss_one (fs_if (ft_not (ft_val (fe_callB (dc_any rfl) rfl T.n_any (by rfl) (fab_cons (fb_of (fe_of_fn (t := false) (fn_lc (t := false) (own := [("good", 8)]) (ix := [8]) rfl sc_best_sum.nd (fi_items (fe_var (pv 3))) (blkOk_by (by kernel_rfl)) (fun _ _ _ _ _ => (fg_name (i := 8) sc_best_sum.nd rfl (by first | exact Or.inl rfl | exact Or.inr rfl))) (by decide) (fun _ _ _ _ _ => fts_nil) (fun _ _ _ _ _ => (fe_inD (do_in (units65 hr)) (fe_var (pv 8)) (fb_var (pv 6)) (by rfl)))))) fab_nil))))
    (fss_cons (fs_set (i := 7) sc_best_sum.nd rfl (by first | exact Or.inl rfl | exact Or.inr rfl) (fe_callTyE dc_tuple rfl T.n_tuple (by rfl) (fa_cons (fe_of_fn (t := false) (fn_callB dc_sorted rfl T.n_sorted (by rfl) (fab_cons (fb_of (fe_of_fn (t := false) (fn_list (t := false) (fa_star (fb_var (pv 6)) (fa_star (fb_var (pv 3)) fa_nil))))) fab_nil))) fa_nil)))
    (fss_one (fs_setD (hu_of hr) (pv 5) (fe_var (pv 7)) (fe_callB (dc_max2 rfl) rfl T.n_max (by rfl) (fab_cons (fb_of (fe_get2 (hu_of hr) (fb_var (pv 5)) (fe_var (pv 7)) fe_int)) (fab_cons (fb_of (fe_opE do_add (fe_ix (hu_of hr) (fb_var (pv 2)) (fe_var (pv 6)) (fun _ _ => rfl)) (fe_var (pv 4)))) fab_nil))))))
    fss_nil)))
    (fss_one (fs_frz 5 (fs_set (i := 2) sc_best_sum.nd rfl (by first | exact Or.inl rfl | exact Or.inr rfl) (fe_var (pv 5))))))))
    (fss_one (fs_ret (fe_callB (dc_max rfl) rfl T.n_max (by rfl) (fab_cons (fb_of (fe_of_fn (t := false) (fn_lcKt (t := false) (own := [("taken", 6)]) (ix := [6]) rfl sc_best_sum.nd (pv 2) (blkOk_by (by kernel_rfl)) (fun _ _ _ _ _ => (fg_name (i := 6) sc_best_sum.nd rfl (by first | exact Or.inl rfl | exact Or.inr rfl))) (by decide) (fun _ _ _ _ _ => fts_nil) (fun _ _ _ _ _ => (fe_ix (hu_of hr) (fb_var (pv 2)) (fe_var (pv 6)) (fun _ _ => rfl)))))) fab_nil)))))))
theorem ok_l_draws (T : Txt P K mg) : CallS P w K mg base 1 "_law_draws" (runS 6 g_l_draws) := T.d_l_draws.callS sc_l_draws rfl fun f cdv A outer s H E hr hg =>
  (fss_cons (fs_setN (i := 1) sc_l_draws.nd rfl (by first | exact Or.inl rfl | exact Or.inr rfl) (fn_list (t := false) fa_nil))
    (fss_cons (fs_for bx_owns rfl (fi_range1 rfl T.n_range (fab_cons (fb_of (fe_callB (dc_min2 rfl) rfl T.n_min (by rfl) (fab_cons (fb_of fe_int) (fab_cons (fb_of (fe_lenS (pv 0) rfl T.n_len)) fab_nil)))) fab_nil)) (fg_name (i := 2) sc_l_draws.nd rfl (by first | exact Or.inl rfl | exact Or.inr rfl))
    (fss_cons (fs_set (i := 3) sc_l_draws.nd rfl (by first | exact Or.inl rfl | exact Or.inr rfl) (fe_callB (dc_abs) rfl T.n_abs (by rfl) (fab_cons (fb_of (fe_ixS (pv 0) (fe_var (pv 2)) (fun _ _ => rfl))) fab_nil)))
    (fss_one (fs_if (ft_cmp do_ge (fb_var (pv 3)) (fb_of (fe_op do_pow (fb_of fe_int) (fb_of fe_int))) (by rfl))
    (fss_one (fs_for bx_owns rfl (fi_range1 rfl T.n_range (fab_cons (fb_of fe_int) fab_nil)) (fg_name (i := 4) sc_l_draws.nd rfl (by first | exact Or.inl rfl | exact Or.inr rfl))
    (fss_one (fs_if (ft_cmp do_gt (fb_var (pv 3)) (fb_of fe_int) (by rfl))
    (fss_cons (fs_append (pv 1) (fe_op do_mod (fb_of (fe_callTy dc_int rfl T.n_int (by rfl) (fab_cons (fb_var (pv 3)) fab_nil))) (fb_of fe_int)))
    (fss_one (fs_set (i := 3) sc_l_draws.nd rfl (by first | exact Or.inl rfl | exact Or.inr rfl) (fe_op do_div (fb_var (pv 3)) (fb_of fe_int)))))
    fss_nil))))
    (fss_cons (fs_set (i := 5) sc_l_draws.nd rfl (by first | exact Or.inl rfl | exact Or.inr rfl) (fe_op do_mod (fb_of (fe_callTy dc_int rfl T.n_int (by rfl) (fab_cons (fb_of (fe_opE do_add (fe_op do_mul (fb_var (pv 3)) (fb_of fe_int)) (fe_op do_mul (fb_of (fe_opE do_add (fe_var (pv 2)) fe_int)) (fb_of fe_int)))) fab_nil))) (fb_of fe_int)))
    (fss_cons (fs_set (i := 5) sc_l_draws.nd rfl (by first | exact Or.inl rfl | exact Or.inr rfl) (fe_op do_mod (fb_of (fe_callTy dc_int rfl T.n_int (by rfl) (fab_cons (fb_of (fe_opE do_add (fe_opE do_add (fe_op do_mul (fb_var (pv 5)) (fb_of fe_int)) (fe_op do_mul (fb_of fe_int) (fb_var (pv 2)))) fe_int)) fab_nil))) (fb_of fe_int)))
    (fss_cons (fs_append (pv 1) (fe_op do_mod (fb_of (fe_callTy dc_int rfl T.n_int (by rfl) (fab_cons (fb_var (pv 5)) fab_nil))) (fb_of fe_int)))
    (fss_one (fs_append (pv 1) (fe_op do_mod (fb_of (fe_callTy dc_int rfl T.n_int (by rfl) (fab_cons (fb_of (fe_op do_div (fb_var (pv 5)) (fb_of fe_int))) fab_nil))) (fb_of fe_int)))))))))))
    (fss_one (fs_ret (fe_var (pv 1))))))
theorem ok_l_mix (T : Txt P K mg) : CallG P w K mg base 1 "_law_mix" (runF 4 3 g_l_mix) := T.d_l_mix.call sc_l_mix rfl rfl fun f cdv A outer s H E hr hg =>
  (fss_cons (fs_set (i := 3) sc_l_mix.nd rfl (by first | exact Or.inl rfl | exact Or.inr rfl) fe_int)
    (fss_cons (fs_if (ft_cmp do_gt (fb_of (fe_callB (dc_len) rfl T.n_len (by rfl) (fab_cons (fb_var (pv 0)) fab_nil))) (fb_of fe_int) (by rfl))
    (fss_one (fs_set (i := 3) sc_l_mix.nd rfl (by first | exact Or.inl rfl | exact Or.inr rfl) (fe_ix (hu_of hr) (fb_var (pv 0)) (fe_op do_mod (fb_of (fe_callTy dc_int rfl T.n_int (by rfl) (fab_cons (fb_var (pv 1)) fab_nil))) (fb_of (fe_callB (dc_len) rfl T.n_len (by rfl) (fab_cons (fb_var (pv 0)) fab_nil)))) (fun _ _ => rfl))))
    fss_nil)
    (fss_cons (fs_if (ft_cmp (do_lt hr.units) (fb_var (pv 1)) (fb_of (fe_callB (dc_len) rfl T.n_len (by rfl) (fab_cons (fb_var (pv 0)) fab_nil))) (by rfl))
    (fss_one (fs_ret (fe_op do_mod (fb_of (fe_callTy dc_int rfl T.n_int (by rfl) (fab_cons (fb_var (pv 3)) fab_nil))) (fb_var (pv 2)))))
    fss_nil)
    (fss_one (fs_ret (fe_op do_mod (fb_of (fe_callTy dc_int rfl T.n_int (by rfl) (fab_cons (fb_of (fe_op do_div (fb_of (fe_callTy dc_int rfl T.n_int (by rfl) (fab_cons (fb_of (fe_opE do_add (fe_op do_mul (fb_var (pv 3)) (fb_of fe_int)) (fe_op do_mul (fb_var (pv 1)) (fb_of fe_int)))) fab_nil))) (fb_of fe_int))) fab_nil))) (fb_var (pv 2))))))))
theorem ok_l_order (T : Txt P K mg) : CallG P w K mg base 1 "_law_order" (runF 16 2 g_l_order) := T.d_l_order.call sc_l_order rfl rfl fun f cdv A outer s H E hr hg =>
  (fss_cons (fs_set (i := 2) sc_l_order.nd rfl (by first | exact Or.inl rfl | exact Or.inr rfl) (fe_of_fn (t := false) (fn_listrange rfl rfl T.n_list rfl T.n_range (fe_callB (dc_len) rfl T.n_len (by rfl) (fab_cons (fb_var (pv 0)) fab_nil)))))
    (fss_cons (fs_setN (i := 3) sc_l_order.nd rfl (by first | exact Or.inl rfl | exact Or.inr rfl) (fn_list (t := false) fa_nil))
    (fss_cons (fs_while (n := 100) bx_owns (ft_cmp (do_ne hr.units) (fb_var (pv 2)) (fb_of (fe_of_fn (t := false) (fn_list (t := false) fa_nil))) (by rfl))
    (fss_one (fs_for bx_owns rfl (fi_items (fe_of_fn (t := false) (fn_callTy dc_list rfl T.n_list (by rfl) (fab_cons (fb_var (pv 2)) fab_nil)))) (fg_name (i := 4) sc_l_order.nd rfl (by first | exact Or.inl rfl | exact Or.inr rfl))
    (fss_cons (fs_asg (fe_ix (hu_of hr) (fb_var (pv 0)) (fe_var (pv 4)) (fun _ _ => rfl)) (fg_tup rfl (fgs_cons (fg_name (i := 7) sc_l_order.nd rfl (by first | exact Or.inl rfl | exact Or.inr rfl)) (fgs_cons (fg_name (i := 8) sc_l_order.nd rfl (by first | exact Or.inl rfl | exact Or.inr rfl)) fgs_nil)) (fun _ _ _ => gC_len (fun _ _ _ => gC_len (fun _ _ _ => gE_len)))))
    (fss_cons (fs_set (i := 5) sc_l_order.nd rfl (by first | exact Or.inl rfl | exact Or.inr rfl) fe_bl)
    (fss_cons (fs_for bx_owns rfl (fi_items (fe_var (pv 2))) (fg_name (i := 6) sc_l_order.nd rfl (by first | exact Or.inl rfl | exact Or.inr rfl))
    (fss_cons (fs_asg (fe_ix (hu_of hr) (fb_var (pv 0)) (fe_var (pv 6)) (fun _ _ => rfl)) (fg_tup rfl (fgs_cons (fg_name (i := 9) sc_l_order.nd rfl (by first | exact Or.inl rfl | exact Or.inr rfl)) (fgs_cons (fg_name (i := 10) sc_l_order.nd rfl (by first | exact Or.inl rfl | exact Or.inr rfl)) fgs_nil)) (fun _ _ _ => gC_len (fun _ _ _ => gC_len (fun _ _ _ => gE_len)))))
    (fss_cons (fs_asg (fe_ix (hu_of hr) (fb_of (fe_of_fn (t := false) (fn_disp (fds_cons (key := (.inr "worth")) pe_str (fe_tup (fa_cons (fe_var (pv 8)) (fa_cons fe_int fa_nil))) (fds_cons (key := (.inr "each")) pe_str (fe_tup (fa_cons (fe_var (pv 8)) (fa_cons (fe_callB (dc_len) rfl T.n_len (by rfl) (fab_cons (fb_var (pv 7)) fab_nil)) fa_nil))) (fds_cons (key := (.inr "root")) pe_str (fe_tup (fa_cons (fe_op do_mul (fb_var (pv 8)) (fb_var (pv 8))) (fa_cons (fe_callB (dc_len) rfl T.n_len (by rfl) (fab_cons (fb_var (pv 7)) fab_nil)) fa_nil))) fds_nil)))))) (fe_var (pv 1)) (fun _ _ => rfl)) (fg_tup rfl (fgs_cons (fg_name (i := 11) sc_l_order.nd rfl (by first | exact Or.inl rfl | exact Or.inr rfl)) (fgs_cons (fg_name (i := 12) sc_l_order.nd rfl (by first | exact Or.inl rfl | exact Or.inr rfl)) fgs_nil)) (fun _ _ _ => gC_len (fun _ _ _ => gC_len (fun _ _ _ => gE_len)))))
    (fss_cons (fs_asg (fe_ix (hu_of hr) (fb_of (fe_of_fn (t := false) (fn_disp (fds_cons (key := (.inr "worth")) pe_str (fe_tup (fa_cons (fe_var (pv 10)) (fa_cons fe_int fa_nil))) (fds_cons (key := (.inr "each")) pe_str (fe_tup (fa_cons (fe_var (pv 10)) (fa_cons (fe_callB (dc_len) rfl T.n_len (by rfl) (fab_cons (fb_var (pv 9)) fab_nil)) fa_nil))) (fds_cons (key := (.inr "root")) pe_str (fe_tup (fa_cons (fe_op do_mul (fb_var (pv 10)) (fb_var (pv 10))) (fa_cons (fe_callB (dc_len) rfl T.n_len (by rfl) (fab_cons (fb_var (pv 9)) fab_nil)) fa_nil))) fds_nil)))))) (fe_var (pv 1)) (fun _ _ => rfl)) (fg_tup rfl (fgs_cons (fg_name (i := 13) sc_l_order.nd rfl (by first | exact Or.inl rfl | exact Or.inr rfl)) (fgs_cons (fg_name (i := 14) sc_l_order.nd rfl (by first | exact Or.inl rfl | exact Or.inr rfl)) fgs_nil)) (fun _ _ _ => gC_len (fun _ _ _ => gC_len (fun _ _ _ => gE_len)))))
    (fss_one (fs_set (i := 5) sc_l_order.nd rfl (by first | exact Or.inl rfl | exact Or.inr rfl) (fe_or (fe_var (pv 5)) (fe_or (fe_cmp do_gt (fb_of (fe_op do_mul (fb_var (pv 13)) (fb_var (pv 12)))) (fb_of (fe_op do_mul (fb_var (pv 11)) (fb_var (pv 14)))) (by rfl)) (fe_one (fe_and (fe_cmp (do_eq hr.units) (fb_of (fe_op do_mul (fb_var (pv 13)) (fb_var (pv 12)))) (fb_of (fe_op do_mul (fb_var (pv 11)) (fb_var (pv 14)))) (by rfl)) (fe_one (fe_cmp (do_lt hr.units) (fb_var (pv 6)) (fb_var (pv 4)) (by rfl)))))))))))))
    (fss_one (fs_if (ft_w (fw_and (ft_not (ft_val (fe_var (pv 5)))) (fw_and1 (ft_inD (do_in (units65 hr)) (fe_var (pv 4)) (fb_var (pv 2)) (by rfl)))))
    (fss_cons (fs_append (pv 3) (fe_var (pv 4)))
    (fss_one (fs_setLcV (i := 2) (own := [("one", 15)]) (ix := [15]) rfl sc_l_order.nd rfl rfl (by rfl) (fi_items (fe_var (pv 2))) (blkOk_by (by kernel_rfl)) (fun _ _ _ _ _ => (fg_name (i := 15) sc_l_order.nd rfl (by first | exact Or.inl rfl | exact Or.inr rfl))) (by decide) (fun _ _ _ _ _ => (fts_one (ft_cmp (do_ne hr.units) (fb_var (pv 15)) (fb_var (pv 4)) (by rfl)))) (fun _ _ _ _ _ => (fe_var (pv 15))))))
    fss_nil))))))))
    (fss_one (fs_ret (fe_var (pv 3)))))))
theorem ok_l_won (T : Txt P K mg) {F_l_order : List D → R D} (C_l_order : CallG P w K mg base 1 "_law_order" F_l_order) : CallG P w K mg base 2 "_law_won" (runF 6 2 (g_l_won F_l_order)) := T.d_l_won.call sc_l_won rfl rfl fun f cdv A outer s H E hr hg =>
  (fss_cons (fs_set (i := 2) sc_l_won.nd rfl (by first | exact Or.inl rfl | exact Or.inr rfl) (fe_of_fn (t := false) (fn_list (t := false) fa_nil)))
    (fss_cons (fs_setN (i := 3) sc_l_won.nd rfl (by first | exact Or.inl rfl | exact Or.inr rfl) (fn_list (t := false) fa_nil))
    (fss_cons (fs_for bx_owns rfl (fi_items (fe_cl C_l_order (hr.mono (by decide)) hg bx_takes rfl (fa_cons (fe_var (pv 0)) (fa_cons (fe_var (pv 1)) fa_nil)))) (fg_name (i := 4) sc_l_won.nd rfl (by first | exact Or.inl rfl | exact Or.inr rfl))
    (fss_one (fs_if (ft_cmp (do_eq hr.units) (fb_of (fe_of_fn (t := false) (fn_lc (t := false) (own := [("good", 5)]) (ix := [5]) rfl sc_l_won.nd (fi_items (fe_ix (hu_of hr) (fb_of (fe_ix (hu_of hr) (fb_var (pv 0)) (fe_var (pv 4)) (fun _ _ => rfl))) fe_int (fun _ _ => rfl))) (blkOk_by (by kernel_rfl)) (fun _ _ _ _ _ => (fg_name (i := 5) sc_l_won.nd rfl (by first | exact Or.inl rfl | exact Or.inr rfl))) (by decide) (fun _ _ _ _ _ => (fts_one (ft_inD (do_in (units65 hr)) (fe_var (pv 5)) (fb_var (pv 2)) (by rfl)))) (fun _ _ _ _ _ => (fe_var (pv 5)))))) (fb_of (fe_of_fn (t := false) (fn_list (t := false) fa_nil))) (by rfl))
    (fss_cons (fs_set (i := 2) sc_l_won.nd rfl (by first | exact Or.inl rfl | exact Or.inr rfl) (fe_opE do_add (fe_var (pv 2)) (fe_of_fn (t := false) (fn_callTy dc_list rfl T.n_list (by rfl) (fab_cons (fb_of (fe_ix (hu_of hr) (fb_of (fe_ix (hu_of hr) (fb_var (pv 0)) (fe_var (pv 4)) (fun _ _ => rfl))) fe_int (fun _ _ => rfl))) fab_nil)))))
    (fss_one (fs_append (pv 3) (fe_var (pv 4)))))
    fss_nil)))
    (fss_one (fs_ret (fe_of_fn (t := false) (fn_callB dc_sorted rfl T.n_sorted (by rfl) (fab_cons (fb_var (pv 3)) fab_nil))))))))
theorem ok_l_with (T : Txt P K mg) : CallG P w K mg base 1 "_law_with" (runF 3 3 g_l_with) := T.d_l_with.call sc_l_with rfl rfl fun f cdv A outer s H E hr hg =>
  (fss_one (fs_ret (fe_opE do_add (fe_opE do_add (fe_slice (fe_var (pv 0)) fo_none (fo_some (fe_var (pv 1)))) (fe_of_fn (t := false) (fn_list (t := false) (fa_cons (fe_var (pv 2)) fa_nil)))) (fe_slice (fe_var (pv 0)) (fo_some (fe_opE do_add (fe_var (pv 1)) fe_int)) fo_none))))
theorem ok_l_best (T : Txt P K mg) : CallG P w K mg base 1 "_law_best" (runF 10 2 g_l_best) := T.d_l_best.call sc_l_best rfl rfl fun f cdv A outer s H E hr hg =>
  (fss_cons (fs_set (i := 2) sc_l_best.nd rfl (by first | exact Or.inl rfl | exact Or.inr rfl) fe_int)
    (fss_cons (fs_set (i := 3) sc_l_best.nd rfl (by first | exact Or.inl rfl | exact Or.inr rfl) (fe_of_fn (t := false) (fn_list (t := false) (fa_cons (fe_tup (fa_cons (fe_of_fn (t := false) (fn_list (t := false) fa_nil)) (fa_cons fe_int fa_nil))) fa_nil))))
    (fss_cons (fs_for bx_owns rfl (fi_items (fe_var (pv 0))) (fg_tup rfl (fgs_cons (fg_name (i := 4) sc_l_best.nd rfl (by first | exact Or.inl rfl | exact Or.inr rfl)) (fgs_cons (fg_name (i := 5) sc_l_best.nd rfl (by first | exact Or.inl rfl | exact Or.inr rfl)) fgs_nil)) (fun _ _ _ => gC_len (fun _ _ _ => gC_len (fun _ _ _ => gE_len))))
    (fss_cons (fs_setN (i := 6) sc_l_best.nd rfl (by first | exact Or.inl rfl | exact Or.inr rfl) (fn_callTy dc_list rfl T.n_list (by rfl) (fab_cons (fb_var (pv 3)) fab_nil)))
    (fss_cons (fs_for bx_owns rfl (fi_items (fe_var (pv 3))) (fg_tup rfl (fgs_cons (fg_name (i := 7) sc_l_best.nd rfl (by first | exact Or.inl rfl | exact Or.inr rfl)) (fgs_cons (fg_name (i := 8) sc_l_best.nd rfl (by first | exact Or.inl rfl | exact Or.inr rfl)) fgs_nil)) (fun _ _ _ => gC_len (fun _ _ _ => gC_len (fun _ _ _ => gE_len))))
    (fss_one (fs_if (ft_cmp (do_eq hr.units) (fb_of (fe_of_fn (t := false) (fn_lc (t := false) (own := [("good", 9)]) (ix := [9]) rfl sc_l_best.nd (fi_items (fe_var (pv 4))) (blkOk_by (by kernel_rfl)) (fun _ _ _ _ _ => (fg_name (i := 9) sc_l_best.nd rfl (by first | exact Or.inl rfl | exact Or.inr rfl))) (by decide) (fun _ _ _ _ _ => (fts_one (ft_inD (do_in (units65 hr)) (fe_var (pv 9)) (fb_var (pv 7)) (by rfl)))) (fun _ _ _ _ _ => (fe_var (pv 9)))))) (fb_of (fe_of_fn (t := false) (fn_list (t := false) fa_nil))) (by rfl))
    (fss_one (fs_append (pv 6) (fe_tup (fa_cons (fe_opE do_add (fe_var (pv 7)) (fe_of_fn (t := false) (fn_callTy dc_list rfl T.n_list (by rfl) (fab_cons (fb_var (pv 4)) fab_nil)))) (fa_cons (fe_opE do_add (fe_var (pv 8)) (fe_var (pv 5))) fa_nil)))))
    fss_nil)))
    (fss_one (fs_frz 6 (fs_set (i := 3) sc_l_best.nd rfl (by first | exact Or.inl rfl | exact Or.inr rfl) (fe_var (pv 6))))))))
    (fss_one (fs_ret (fe_callB (dc_max rfl) rfl T.n_max (by rfl) (fab_cons (fb_of (fe_opE do_add (fe_of_fn (t := false) (fn_list (t := false) (fa_cons (fe_var (pv 2)) fa_nil))) (fe_of_fn (t := false) (fn_lc (t := false) (own := [("taken", 7), ("whole", 8)]) (ix := [7, 8]) rfl sc_l_best.nd (fi_items (fe_var (pv 3))) (blkOk_by (by kernel_rfl)) (fun _ _ _ _ _ => (fg_tup rfl (fgs_cons (fg_name (i := 7) sc_l_best.nd rfl (by first | exact Or.inl rfl | exact Or.inr rfl)) (fgs_cons (fg_name (i := 8) sc_l_best.nd rfl (by first | exact Or.inl rfl | exact Or.inr rfl)) fgs_nil)) (fun _ _ _ => gC_len (fun _ _ _ => gC_len (fun _ _ _ => gE_len))))) (by decide) (fun _ _ _ _ _ => fts_nil) (fun _ _ _ _ _ => (fe_var (pv 8))))))) fab_nil)))))))
theorem ok_l_gain (T : Txt P K mg) {F_l_with : List D → R D} {F_l_won : List D → R D} {F_least_winning : List D → R D} (C_l_with : CallG P w K mg base 1 "_law_with" F_l_with) (C_l_won : CallG P w K mg base 2 "_law_won" F_l_won) (C_least_winning : CallG P w K mg base 7 "least_winning" F_least_winning) : CallG P w K mg base 8 "_law_gain" (runF 8 5 (g_l_gain F_l_with F_l_won F_least_winning)) := T.d_l_gain.call sc_l_gain rfl rfl fun f cdv A outer s H E hr hg =>
  (fss_cons (fs_set (i := 5) sc_l_gain.nd rfl (by first | exact Or.inl rfl | exact Or.inr rfl) (fe_cl C_l_with (hr.mono (by decide)) hg bx_takes rfl (fa_cons (fe_var (pv 0)) (fa_cons (fe_var (pv 2)) (fa_cons (fe_var (pv 3)) fa_nil)))))
    (fss_cons (fs_if (ft_inD (do_notin (units65 hr)) (fe_var (pv 2)) (fb_of (fe_cl C_l_won (hr.mono (by decide)) hg bx_takes rfl (fa_cons (fe_var (pv 5)) (fa_cons (fe_var (pv 1)) fa_nil)))) (by rfl))
    (fss_one (fs_ret fe_int))
    fss_nil)
    (fss_cons (fs_set (i := 6) sc_l_gain.nd rfl (by first | exact Or.inl rfl | exact Or.inr rfl) (fe_op do_mul (fb_of (fe_ix (hu_of hr) (fb_of (fe_ix (hu_of hr) (fb_var (pv 0)) (fe_var (pv 2)) (fun _ _ => rfl))) fe_int (fun _ _ => rfl))) (fb_of (fe_callTy dc_int rfl T.n_int (by rfl) (fab_cons (fb_of (fe_cmp (do_eq hr.units) (fb_of (fe_of_fn (t := false) (fn_lc (t := false) (own := [("good", 7)]) (ix := [7]) rfl sc_l_gain.nd (fi_items (fe_ix (hu_of hr) (fb_of (fe_ix (hu_of hr) (fb_var (pv 0)) (fe_var (pv 2)) (fun _ _ => rfl))) fe_int (fun _ _ => rfl))) (blkOk_by (by kernel_rfl)) (fun _ _ _ _ _ => (fg_name (i := 7) sc_l_gain.nd rfl (by first | exact Or.inl rfl | exact Or.inr rfl))) (by decide) (fun _ _ _ _ _ => (fts_one (ft_inD (do_notin (units65 hr)) (fe_var (pv 7)) (fb_of (fe_ix (hu_of hr) (fb_var (pv 3)) fe_int (fun _ _ => rfl))) (by rfl)))) (fun _ _ _ _ _ => (fe_var (pv 7)))))) (fb_of (fe_of_fn (t := false) (fn_list (t := false) fa_nil))) (by rfl))) fab_nil)))))
    (fss_one (fs_ret (fe_op do_sub (fb_var (pv 6)) (fb_of (fe_cl C_least_winning (hr.mono (by decide)) hg bx_takes rfl (fa_cons (fe_var (pv 5)) (fa_cons (fe_var (pv 4)) (fa_cons (fe_var (pv 1)) (fa_cons (fe_var (pv 2)) fa_nil))))))))))))
theorem ok_l_least (T : Txt P K mg) {F_l_won : List D → R D} {F_l_with : List D → R D} (C_l_won : CallG P w K mg base 2 "_law_won" F_l_won) (C_l_with : CallG P w K mg base 1 "_law_with" F_l_with) : CallG P w K mg base 3 "_law_least" (runF 4 3 (g_l_least F_l_won F_l_with)) := T.d_l_least.call sc_l_least rfl rfl fun f cdv A outer s H E hr hg =>
  (fss_cons (fs_for bx_owns rfl (fi_range1 rfl T.n_range (fab_cons (fb_of fe_int) fab_nil)) (fg_name (i := 3) sc_l_least.nd rfl (by first | exact Or.inl rfl | exact Or.inr rfl))
    (fss_one (fs_if (ft_inD (do_in (units65 hr)) (fe_var (pv 2)) (fb_of (fe_cl C_l_won (hr.mono (by decide)) hg bx_takes rfl (fa_cons (fe_cl C_l_with (hr.mono (by decide)) hg bx_takes rfl (fa_cons (fe_var (pv 0)) (fa_cons (fe_var (pv 2)) (fa_cons (fe_tup (fa_cons (fe_ix (hu_of hr) (fb_of (fe_ix (hu_of hr) (fb_var (pv 0)) (fe_var (pv 2)) (fun _ _ => rfl))) fe_int (fun _ _ => rfl)) (fa_cons (fe_var (pv 3)) fa_nil))) fa_nil)))) (fa_cons (fe_var (pv 1)) fa_nil)))) (by rfl))
    (fss_one (fs_ret (fe_var (pv 3))))
    fss_nil)))
    (fss_one (fs_ret fe_non)))
theorem ok_l_fault (T : Txt P K mg) {F_book_of : List D → R D} {F_best_sum : List D → R D} {F_least_winning : List D → R D} {F_winners : List D → R D} {F_paid : List D → R D} (C_book_of : CallG P w K mg base 14 "book_of" F_book_of) (C_best_sum : CallG P w K mg base 3 "best_sum" F_best_sum) (C_least_winning : CallG P w K mg base 7 "least_winning" F_least_winning) (C_winners : CallG P w K mg base 5 "winners" F_winners) (C_paid : CallG P w K mg base 7 "paid" F_paid) : CallG P w K mg base 15 "_law_fault" (runF 6 5 (g_l_fault F_book_of F_best_sum F_least_winning F_winners F_paid)) := T.d_l_fault.call sc_l_fault rfl rfl fun f cdv A outer s H E hr hg =>
  (fss_cons (fs_tryAt rfl rfl sc_l_fault.nd (i := 5) rfl rfl bx_takes (.inl rfl) (by decide) (by decide) (fun _ => rfl) (fun _ _ _ _ _ => rfl) (fun _ _ => rfl) (fun W1 pn1 xe1 tk1 own1 => (fss_one (fs_if (ft_cmp (do_eq hr.units) (fb_var (pv 0)) (fb_of fe_int) (by rfl))
    (fss_one (fs_expr (fe_cl C_book_of (hr.mono (by decide)) hg tk1 rfl (fa_cons (fe_var (pv 1)) (fa_cons (fe_var (pv 2)) fa_nil)))))
    (fss_one (fs_if (ft_cmp (do_eq hr.units) (fb_var (pv 0)) (fb_of fe_int) (by rfl))
    (fss_one (fs_expr (fe_cl C_best_sum (hr.mono (by decide)) hg tk1 rfl (fa_cons (fe_var (pv 1)) (fa_cons (fe_var (pv 2)) fa_nil)))))
    (fss_one (fs_if (ft_cmp (do_eq hr.units) (fb_var (pv 0)) (fb_of fe_int) (by rfl))
    (fss_one (fs_expr (fe_cl C_least_winning (hr.mono (by decide)) hg tk1 rfl (fa_cons (fe_var (pv 1)) (fa_cons (fe_var (pv 2)) (fa_cons (fe_var (pv 3)) (fa_cons (fe_var (pv 4)) fa_nil)))))))
    (fss_one (fs_expr (fe_pick (k := 7) (.cons (C_winners.mono (by decide)) rfl (by decide) rfl (.cons (C_paid.mono (by decide)) rfl (by decide) rfl .nil)) (hr.mono (by decide)) hg tk1 (fe_op do_sub (fb_var (pv 0)) (fb_of fe_int)) (fa_cons (fe_var (pv 1)) (fa_cons (fe_var (pv 2)) (fa_cons (fe_var (pv 3)) fa_nil))) (show (2 : Nat) ≤ sizeLine by decide) (fun _ _ => rfl))))))))))) (.cons rfl (by decide) T.x_OutOfRange.named (fa1 T.m_OutOfRange_OutOfRange (fa1 T.m_BadBidder_OutOfRange (fa1 T.m_BadWord_OutOfRange (fa1 T.m_BadBids_OutOfRange (fa1 T.m_BadBid_OutOfRange fa0))))) (.cons rfl (by decide) T.x_BadBids.named (fa1 T.m_OutOfRange_BadBids (fa1 T.m_BadBidder_BadBids (fa1 T.m_BadWord_BadBids (fa1 T.m_BadBids_BadBids (fa1 T.m_BadBid_BadBids fa0))))) (.cons rfl (by decide) T.x_BadBid.named (fa1 T.m_OutOfRange_BadBid (fa1 T.m_BadBidder_BadBid (fa1 T.m_BadWord_BadBid (fa1 T.m_BadBids_BadBid (fa1 T.m_BadBid_BadBid fa0))))) (.cons rfl (by decide) T.x_BadWord.named (fa1 T.m_OutOfRange_BadWord (fa1 T.m_BadBidder_BadWord (fa1 T.m_BadWord_BadWord (fa1 T.m_BadBids_BadWord (fa1 T.m_BadBid_BadWord fa0))))) (.cons rfl (by decide) T.x_BadBidder.named (fa1 T.m_OutOfRange_BadBidder (fa1 T.m_BadBidder_BadBidder (fa1 T.m_BadWord_BadBidder (fa1 T.m_BadBids_BadBidder (fa1 T.m_BadBid_BadBidder fa0))))) .nil))))))
    (fss_one (fs_ret (fe_tup (fa_cons fe_str (fa_cons fe_int fa_nil))))))
theorem ok_l_faults (T : Txt P K mg) {F_l_fault : List D → R D} (C_l_fault : CallG P w K mg base 15 "_law_fault" F_l_fault) : CallG P w K mg base 16 "_law_faults" (runF 3 0 (g_l_faults F_l_fault)) := T.d_l_faults.call sc_l_faults rfl rfl fun f cdv A outer s H E hr hg =>
  (fss_cons (fs_set (i := 0) sc_l_faults.nd rfl (by first | exact Or.inl rfl | exact Or.inr rfl) (fe_tup (fa_cons (fe_tup (fa_cons fe_int fa_nil)) (fa_cons fe_int fa_nil))))
    (fss_cons (fs_for bx_owns rfl (fi_range1 rfl T.n_range (fab_cons (fb_of fe_int) fab_nil)) (fg_name (i := 1) sc_l_faults.nd rfl (by first | exact Or.inl rfl | exact Or.inr rfl))
    (fss_cons (fs_if (ft_w (fw_or (ft_cmp (do_ne hr.units) (fb_of (fe_cl C_l_fault (hr.mono (by decide)) hg bx_takes rfl (fa_cons (fe_var (pv 1)) (fa_cons (fe_of_fn (t := false) (fn_list (t := false) fa_nil)) (fa_cons fe_int (fa_cons fe_str (fa_cons fe_int fa_nil))))))) (fb_of (fe_tup (fa_cons fe_str (fa_cons fe_int fa_nil)))) (by rfl)) (fw_or (ft_cmp (do_ne hr.units) (fb_of (fe_cl C_l_fault (hr.mono (by decide)) hg bx_takes rfl (fa_cons (fe_var (pv 1)) (fa_cons (fe_of_fn (t := false) (fn_list (t := false) fa_nil)) (fa_cons fe_int (fa_cons fe_str (fa_cons fe_int fa_nil))))))) (fb_of (fe_tup (fa_cons fe_str (fa_cons fe_int fa_nil)))) (by rfl)) (fw_or1 (ft_cmp (do_ne hr.units) (fb_of (fe_cl C_l_fault (hr.mono (by decide)) hg bx_takes rfl (fa_cons (fe_var (pv 1)) (fa_cons (fe_of_fn (t := false) (fn_list (t := false) fa_nil)) (fa_cons fe_int (fa_cons fe_str (fa_cons fe_int fa_nil))))))) (fb_of (fe_tup (fa_cons fe_str (fa_cons fe_int fa_nil)))) (by rfl))))))
    (fss_one (fs_ret fe_bl))
    fss_nil)
    (fss_cons (fs_if (ft_cmp (do_ne hr.units) (fb_of (fe_cl C_l_fault (hr.mono (by decide)) hg bx_takes rfl (fa_cons (fe_var (pv 1)) (fa_cons (fe_op do_mul (fb_of (fe_of_fn (t := false) (fn_list (t := false) (fa_cons (fe_var (pv 0)) fa_nil)))) (fb_of fe_int)) (fa_cons fe_int (fa_cons fe_str (fa_cons fe_int fa_nil))))))) (fb_of (fe_tup (fa_cons fe_str (fa_cons fe_int fa_nil)))) (by rfl))
    (fss_one (fs_ret fe_bl))
    fss_nil)
    (fss_cons (fs_for bx_owns rfl (fi_items (fe_of_fn (t := false) (fn_list (t := false) (fa_cons (fe_tup (fa_cons (fe_tup fa_nil) (fa_cons fe_int fa_nil))) (fa_cons (fe_tup (fa_cons (fe_tup (fa_cons fe_int fa_nil)) (fa_cons fe_int fa_nil))) (fa_cons (fe_tup (fa_cons (fe_tup (fa_cons fe_int (fa_cons fe_int fa_nil))) (fa_cons fe_int fa_nil))) (fa_cons (fe_tup (fa_cons (fe_tup (fa_cons fe_int (fa_cons fe_int fa_nil))) (fa_cons fe_int fa_nil))) (fa_cons (fe_tup (fa_cons (fe_tup (fa_cons fe_int fa_nil)) (fa_cons (fe_un du_neg (fb_of fe_int)) fa_nil))) (fa_cons (fe_tup (fa_cons (fe_tup (fa_cons fe_int fa_nil)) (fa_cons fe_int fa_nil))) fa_nil))))))))) (fg_name (i := 2) sc_l_faults.nd rfl (by first | exact Or.inl rfl | exact Or.inr rfl))
    (fss_one (fs_if (ft_cmp (do_ne hr.units) (fb_of (fe_cl C_l_fault (hr.mono (by decide)) hg bx_takes rfl (fa_cons (fe_var (pv 1)) (fa_cons (fe_of_fn (t := false) (fn_list (t := false) (fa_cons (fe_var (pv 0)) (fa_cons (fe_var (pv 2)) fa_nil)))) (fa_cons fe_int (fa_cons fe_str (fa_cons fe_int fa_nil))))))) (fb_of (fe_tup (fa_cons fe_str (fa_cons fe_int fa_nil)))) (by rfl))
    (fss_one (fs_ret fe_bl))
    fss_nil)))
    (fss_one (fs_if (ft_w (fw_and (ft_cmp do_gt (fb_var (pv 1)) (fb_of fe_int) (by rfl)) (fw_and1 (ft_cmp (do_ne hr.units) (fb_of (fe_cl C_l_fault (hr.mono (by decide)) hg bx_takes rfl (fa_cons (fe_var (pv 1)) (fa_cons (fe_of_fn (t := false) (fn_list (t := false) (fa_cons (fe_var (pv 0)) fa_nil))) (fa_cons fe_int (fa_cons fe_str (fa_cons fe_int fa_nil))))))) (fb_of (fe_tup (fa_cons fe_str (fa_cons fe_int fa_nil)))) (by rfl)))))
    (fss_one (fs_ret fe_bl))
    fss_nil))))))
    (fss_one (fs_ret (fe_and (fe_cmp (do_eq hr.units) (fb_of (fe_cl C_l_fault (hr.mono (by decide)) hg bx_takes rfl (fa_cons fe_int (fa_cons (fe_of_fn (t := false) (fn_list (t := false) (fa_cons (fe_var (pv 0)) fa_nil))) (fa_cons fe_int (fa_cons fe_str (fa_cons fe_int fa_nil))))))) (fb_of (fe_tup (fa_cons fe_str (fa_cons fe_int fa_nil)))) (by rfl)) (fe_one (fe_cmp (do_eq hr.units) (fb_of (fe_cl C_l_fault (hr.mono (by decide)) hg bx_takes rfl (fa_cons fe_int (fa_cons (fe_of_fn (t := false) (fn_list (t := false) (fa_cons (fe_var (pv 0)) fa_nil))) (fa_cons fe_int (fa_cons fe_str (fa_cons (fe_un du_neg (fb_of fe_int)) fa_nil))))))) (fb_of (fe_tup (fa_cons fe_str (fa_cons (fe_un du_neg (fb_of fe_int)) fa_nil)))) (by rfl))))))))
theorem ok_l_bundle (T : Txt P K mg) {F_l_mix : List D → R D} (C_l_mix : CallG P w K mg base 1 "_law_mix" F_l_mix) : CallG P w K mg base 2 "_law_bundle" (runF 5 3 (g_l_bundle F_l_mix)) := T.d_l_bundle.call sc_l_bundle rfl rfl fun f cdv A outer s H E hr hg =>
  (fss_cons (fs_setLcV (i := 3) (own := [("good", 4)]) (ix := [4]) rfl sc_l_bundle.nd rfl rfl (by rfl) (fi_range1 rfl T.n_range (fab_cons (fb_var (pv 2)) fab_nil)) (blkOk_by (by kernel_rfl)) (fun _ _ _ _ _ => (fg_name (i := 4) sc_l_bundle.nd rfl (by first | exact Or.inl rfl | exact Or.inr rfl))) (by decide) (fun _ _ _ _ _ => (fts_one (ft_cmp (do_eq hr.units) (fb_of (fe_cl C_l_mix (hr.mono (by decide)) hg takesN0 rfl (fa_cons (fe_var (pv 0)) (fa_cons (fe_opE do_add (fe_var (pv 1)) (fe_var (pv 4))) (fa_cons fe_int fa_nil))))) (fb_of fe_int) (by rfl)))) (fun _ _ _ _ _ => (fe_var (pv 4))))
    (fss_cons (fs_if (ft_cmp (do_eq hr.units) (fb_var (pv 3)) (fb_of (fe_of_fn (t := false) (fn_list (t := false) fa_nil))) (by rfl))
    (fss_one (fs_set (i := 3) sc_l_bundle.nd rfl (by first | exact Or.inl rfl | exact Or.inr rfl) (fe_of_fn (t := false) (fn_list (t := false) (fa_cons (fe_cl C_l_mix (hr.mono (by decide)) hg bx_takes rfl (fa_cons (fe_var (pv 0)) (fa_cons (fe_opE do_add (fe_var (pv 1)) fe_int) (fa_cons (fe_var (pv 2)) fa_nil)))) fa_nil)))))
    fss_nil)
    (fss_one (fs_ret (fe_callTyE dc_tuple rfl T.n_tuple (by rfl) (fa_cons (fe_var (pv 3)) fa_nil))))))
theorem ok_law (T : Txt P K mg) {F_l_draws : List Int → R D} {F_l_mix : List D → R D} {F_l_bundle : List D → R D} {F_l_won : List D → R D} {F_winners : List D → R D} {F_least_winning : List D → R D} {F_l_least : List D → R D} {F_l_with : List D → R D} {F_paid : List D → R D} {F_l_gain : List D → R D} {F_l_best : List D → R D} {F_best_sum : List D → R D} {F_book_of : List D → R D} {F_l_faults : List D → R D} (C_l_draws : CallS P w K mg base 1 "_law_draws" F_l_draws) (C_l_mix : CallG P w K mg base 1 "_law_mix" F_l_mix) (C_l_bundle : CallG P w K mg base 2 "_law_bundle" F_l_bundle) (C_l_won : CallG P w K mg base 2 "_law_won" F_l_won) (C_winners : CallG P w K mg base 5 "winners" F_winners) (C_least_winning : CallG P w K mg base 7 "least_winning" F_least_winning) (C_l_least : CallG P w K mg base 3 "_law_least" F_l_least) (C_l_with : CallG P w K mg base 1 "_law_with" F_l_with) (C_paid : CallG P w K mg base 7 "paid" F_paid) (C_l_gain : CallG P w K mg base 8 "_law_gain" F_l_gain) (C_l_best : CallG P w K mg base 1 "_law_best" F_l_best) (C_best_sum : CallG P w K mg base 3 "best_sum" F_best_sum) (C_book_of : CallG P w K mg base 14 "book_of" F_book_of) (C_l_faults : CallG P w K mg base 16 "_law_faults" F_l_faults) : CallS P w K mg base 17 "law" (runS 19 (g_law F_l_draws F_l_mix F_l_bundle F_l_won F_winners F_least_winning F_l_least F_l_with F_paid F_l_gain F_l_best F_best_sum F_book_of F_l_faults)) := T.d_law.callS sc_law rfl fun f cdv A outer s H E hr hg =>
  (fss_cons (fs_set (i := 1) sc_law.nd rfl (by first | exact Or.inl rfl | exact Or.inr rfl) (fe_clS C_l_draws (hr.mono (by decide)) hg bx_takes rfl (pv 0)))
    (fss_cons (fs_set (i := 2) sc_law.nd rfl (by first | exact Or.inl rfl | exact Or.inr rfl) (fe_opE do_add fe_int (fe_cl C_l_mix (hr.mono (by decide)) hg bx_takes rfl (fa_cons (fe_var (pv 1)) (fa_cons fe_int (fa_cons fe_int fa_nil))))))
    (fss_cons (fs_set (i := 3) sc_law.nd rfl (by first | exact Or.inl rfl | exact Or.inr rfl) (fe_of_fn (t := false) (fn_lc (t := false) (own := [("t", 10)]) (ix := [10]) rfl sc_law.nd (fi_range1 rfl T.n_range (fab_cons (fb_of (fe_opE do_add fe_int (fe_cl C_l_mix (hr.mono (by decide)) hg bx_takes rfl (fa_cons (fe_var (pv 1)) (fa_cons fe_int (fa_cons fe_int fa_nil)))))) fab_nil)) (blkOk_by (by kernel_rfl)) (fun _ _ _ _ _ => (fg_name (i := 10) sc_law.nd rfl (by first | exact Or.inl rfl | exact Or.inr rfl))) (by decide) (fun _ _ _ _ _ => fts_nil) (fun _ _ _ _ _ => (fe_tup (fa_cons (fe_cl C_l_bundle (hr.mono (by decide)) hg takesN0 rfl (fa_cons (fe_var (pv 1)) (fa_cons (fe_opE do_add fe_int (fe_op do_mul (fb_of fe_int) (fb_var (pv 10)))) (fa_cons (fe_var (pv 2)) fa_nil)))) (fa_cons (fe_cl C_l_mix (hr.mono (by decide)) hg takesN0 rfl (fa_cons (fe_var (pv 1)) (fa_cons (fe_opE do_add fe_int (fe_op do_mul (fb_of fe_int) (fb_var (pv 10)))) (fa_cons (fe_ix (hu_of hr) (fb_of (fe_of_fn (t := false) (fn_list (t := false) (fa_cons fe_int (fa_cons fe_int fa_nil))))) (fe_cl C_l_mix (hr.mono (by decide)) hg takesN0 rfl (fa_cons (fe_var (pv 1)) (fa_cons fe_int (fa_cons fe_int fa_nil)))) (fun _ _ => rfl)) fa_nil)))) fa_nil)))))))
    (fss_cons (fs_set (i := 4) sc_law.nd rfl (by first | exact Or.inl rfl | exact Or.inr rfl) (fe_repr (units65 hr) hg rfl T.n_repr (fe_var (pv 3))))
    (fss_cons (fs_for bx_owns rfl (fi_items (fe_of_fn (t := false) (fn_list (t := false) (fa_cons fe_str (fa_cons fe_str (fa_cons fe_str fa_nil)))))) (fg_name (i := 5) sc_law.nd rfl (by first | exact Or.inl rfl | exact Or.inr rfl))
    (fss_cons (fs_set (i := 8) sc_law.nd rfl (by first | exact Or.inl rfl | exact Or.inr rfl) (fe_cl C_l_won (hr.mono (by decide)) hg bx_takes rfl (fa_cons (fe_var (pv 3)) (fa_cons (fe_var (pv 5)) fa_nil))))
    (fss_cons (fs_if (ft_cmp (do_ne hr.units) (fb_of (fe_cl C_winners (hr.mono (by decide)) hg bx_takes rfl (fa_cons (fe_var (pv 3)) (fa_cons (fe_var (pv 2)) (fa_cons (fe_var (pv 5)) fa_nil))))) (fb_var (pv 8)) (by rfl))
    (fss_one (fs_ret fe_bl))
    fss_nil)
    (fss_cons (fs_setN (i := 9) sc_law.nd rfl (by first | exact Or.inl rfl | exact Or.inr rfl) (fn_list (t := false) fa_nil))
    (fss_cons (fs_for bx_owns rfl (fi_range1 rfl T.n_range (fab_cons (fb_of (fe_callB (dc_len) rfl T.n_len (by rfl) (fab_cons (fb_var (pv 3)) fab_nil))) fab_nil)) (fg_name (i := 7) sc_law.nd rfl (by first | exact Or.inl rfl | exact Or.inr rfl))
    (fss_cons (fs_set (i := 14) sc_law.nd rfl (by first | exact Or.inl rfl | exact Or.inr rfl) (fe_cl C_least_winning (hr.mono (by decide)) hg bx_takes rfl (fa_cons (fe_var (pv 3)) (fa_cons (fe_var (pv 2)) (fa_cons (fe_var (pv 5)) (fa_cons (fe_var (pv 7)) fa_nil))))))
    (fss_cons (fs_if (ft_cmp (do_ne hr.units) (fb_var (pv 14)) (fb_of (fe_cl C_l_least (hr.mono (by decide)) hg bx_takes rfl (fa_cons (fe_var (pv 3)) (fa_cons (fe_var (pv 5)) (fa_cons (fe_var (pv 7)) fa_nil))))) (by rfl))
    (fss_one (fs_ret fe_bl))
    fss_nil)
    (fss_cons (fs_append (pv 9) (fe_ix (hu_of hr) (fb_of (fe_of_fn (t := false) (fn_list (t := false) (fa_cons fe_int (fa_cons (fe_var (pv 14)) fa_nil))))) (fe_callTy dc_int rfl T.n_int (by rfl) (fab_cons (fb_of (fe_inD (do_in (units65 hr)) (fe_var (pv 7)) (fb_var (pv 8)) (by rfl))) fab_nil)) (fun _ _ => rfl)))
    (fss_one (fs_if (ft_inD (do_in (units65 hr)) (fe_var (pv 7)) (fb_var (pv 8)) (by rfl))
    (fss_cons (fs_set (i := 16) sc_law.nd rfl (by first | exact Or.inl rfl | exact Or.inr rfl) (fe_cl C_l_with (hr.mono (by decide)) hg bx_takes rfl (fa_cons (fe_var (pv 3)) (fa_cons (fe_var (pv 7)) (fa_cons (fe_tup (fa_cons (fe_ix (hu_of hr) (fb_of (fe_ix (hu_of hr) (fb_var (pv 3)) (fe_var (pv 7)) (fun _ _ => rfl))) fe_int (fun _ _ => rfl)) (fa_cons (fe_opE do_add (fe_opE do_add (fe_ix (hu_of hr) (fb_of (fe_ix (hu_of hr) (fb_var (pv 3)) (fe_var (pv 7)) (fun _ _ => rfl))) fe_int (fun _ _ => rfl)) fe_int) (fe_cl C_l_mix (hr.mono (by decide)) hg bx_takes rfl (fa_cons (fe_var (pv 1)) (fa_cons (fe_opE do_add fe_int (fe_var (pv 7))) (fa_cons fe_int fa_nil))))) fa_nil))) fa_nil)))))
    (fss_cons (fs_set (i := 17) sc_law.nd rfl (by first | exact Or.inl rfl | exact Or.inr rfl) (fe_cl C_l_with (hr.mono (by decide)) hg bx_takes rfl (fa_cons (fe_var (pv 3)) (fa_cons (fe_var (pv 7)) (fa_cons (fe_tup (fa_cons (fe_slice (fe_ix (hu_of hr) (fb_of (fe_ix (hu_of hr) (fb_var (pv 3)) (fe_var (pv 7)) (fun _ _ => rfl))) fe_int (fun _ _ => rfl)) fo_none (fo_some (fe_opE do_add fe_int (fe_cl C_l_mix (hr.mono (by decide)) hg bx_takes rfl (fa_cons (fe_var (pv 1)) (fa_cons (fe_opE do_add fe_int (fe_var (pv 7))) (fa_cons (fe_callB (dc_len) rfl T.n_len (by rfl) (fab_cons (fb_of (fe_ix (hu_of hr) (fb_of (fe_ix (hu_of hr) (fb_var (pv 3)) (fe_var (pv 7)) (fun _ _ => rfl))) fe_int (fun _ _ => rfl))) fab_nil)) fa_nil))))))) (fa_cons (fe_ix (hu_of hr) (fb_of (fe_ix (hu_of hr) (fb_var (pv 3)) (fe_var (pv 7)) (fun _ _ => rfl))) fe_int (fun _ _ => rfl)) fa_nil))) fa_nil)))))
    (fss_one (fs_if (ft_w (fw_or (ft_inD (do_notin (units65 hr)) (fe_var (pv 7)) (fb_of (fe_cl C_winners (hr.mono (by decide)) hg bx_takes rfl (fa_cons (fe_var (pv 16)) (fa_cons (fe_var (pv 2)) (fa_cons (fe_var (pv 5)) fa_nil))))) (by rfl)) (fw_or (ft_inD (do_notin (units65 hr)) (fe_var (pv 7)) (fb_of (fe_cl C_winners (hr.mono (by decide)) hg bx_takes rfl (fa_cons (fe_var (pv 17)) (fa_cons (fe_var (pv 2)) (fa_cons (fe_var (pv 5)) fa_nil))))) (by rfl)) (fw_or1 (ft_cmp do_gt (fb_var (pv 14)) (fb_of (fe_ix (hu_of hr) (fb_of (fe_ix (hu_of hr) (fb_var (pv 3)) (fe_var (pv 7)) (fun _ _ => rfl))) fe_int (fun _ _ => rfl))) (by rfl))))))
    (fss_one (fs_ret fe_bl))
    fss_nil))))
    fss_nil))))))
    (fss_cons (fs_if (ft_cmp (do_ne hr.units) (fb_of (fe_cl C_paid (hr.mono (by decide)) hg bx_takes rfl (fa_cons (fe_var (pv 3)) (fa_cons (fe_var (pv 2)) (fa_cons (fe_var (pv 5)) fa_nil))))) (fb_var (pv 9)) (by rfl))
    (fss_one (fs_ret fe_bl))
    fss_nil)
    (fss_cons (fs_for bx_owns rfl (fi_range1 rfl T.n_range (fab_cons (fb_of fe_int) fab_nil)) (fg_name (i := 10) sc_law.nd rfl (by first | exact Or.inl rfl | exact Or.inr rfl))
    (fss_cons (fs_set (i := 7) sc_law.nd rfl (by first | exact Or.inl rfl | exact Or.inr rfl) (fe_cl C_l_mix (hr.mono (by decide)) hg bx_takes rfl (fa_cons (fe_var (pv 1)) (fa_cons (fe_opE do_add fe_int (fe_op do_mul (fb_of fe_int) (fb_var (pv 10)))) (fa_cons (fe_callB (dc_len) rfl T.n_len (by rfl) (fab_cons (fb_var (pv 3)) fab_nil)) fa_nil)))))
    (fss_cons (fs_set (i := 15) sc_law.nd rfl (by first | exact Or.inl rfl | exact Or.inr rfl) (fe_tup (fa_cons (fe_cl C_l_bundle (hr.mono (by decide)) hg bx_takes rfl (fa_cons (fe_var (pv 1)) (fa_cons (fe_opE do_add fe_int (fe_op do_mul (fb_of fe_int) (fb_var (pv 10)))) (fa_cons (fe_var (pv 2)) fa_nil)))) (fa_cons (fe_cl C_l_mix (hr.mono (by decide)) hg bx_takes rfl (fa_cons (fe_var (pv 1)) (fa_cons (fe_opE do_add fe_int (fe_op do_mul (fb_of fe_int) (fb_var (pv 10)))) (fa_cons fe_int fa_nil)))) fa_nil))))
    (fss_cons (fs_if (ft_cmp (do_lt hr.units) (fb_var (pv 10)) (fb_of fe_int) (by rfl))
    (fss_one (fs_set (i := 15) sc_law.nd rfl (by first | exact Or.inl rfl | exact Or.inr rfl) (fe_tup (fa_cons (fe_ix (hu_of hr) (fb_of (fe_ix (hu_of hr) (fb_var (pv 3)) (fe_var (pv 7)) (fun _ _ => rfl))) fe_int (fun _ _ => rfl)) (fa_cons (fe_ix (hu_of hr) (fb_var (pv 15)) fe_int (fun _ _ => rfl)) fa_nil)))))
    fss_nil)
    (fss_one (fs_if (ft_cmp do_gt (fb_of (fe_cl C_l_gain (hr.mono (by decide)) hg bx_takes rfl (fa_cons (fe_var (pv 3)) (fa_cons (fe_var (pv 5)) (fa_cons (fe_var (pv 7)) (fa_cons (fe_var (pv 15)) (fa_cons (fe_var (pv 2)) fa_nil))))))) (fb_of (fe_cl C_l_gain (hr.mono (by decide)) hg bx_takes rfl (fa_cons (fe_var (pv 3)) (fa_cons (fe_var (pv 5)) (fa_cons (fe_var (pv 7)) (fa_cons (fe_ix (hu_of hr) (fb_var (pv 3)) (fe_var (pv 7)) (fun _ _ => rfl)) (fa_cons (fe_var (pv 2)) fa_nil))))))) (by rfl))
    (fss_one (fs_ret fe_bl))
    fss_nil))))))
    (fss_cons (fs_set (i := 11) sc_law.nd rfl (by first | exact Or.inl rfl | exact Or.inr rfl) (fe_callB (dc_sum rfl) rfl T.n_sum (by rfl) (fab_cons (fb_of (fe_of_fn (t := false) (fn_lc (t := false) (own := [("k", 7)]) (ix := [7]) rfl sc_law.nd (fi_items (fe_var (pv 8))) (blkOk_by (by kernel_rfl)) (fun _ _ _ _ _ => (fg_name (i := 7) sc_law.nd rfl (by first | exact Or.inl rfl | exact Or.inr rfl))) (by decide) (fun _ _ _ _ _ => fts_nil) (fun _ _ _ _ _ => (fe_ix (hu_of hr) (fb_of (fe_ix (hu_of hr) (fb_var (pv 3)) (fe_var (pv 7)) (fun _ _ => rfl))) fe_int (fun _ _ => rfl)))))) fab_nil)))
    (fss_cons (fs_set (i := 12) sc_law.nd rfl (by first | exact Or.inl rfl | exact Or.inr rfl) (fe_cl C_l_best (hr.mono (by decide)) hg bx_takes rfl (fa_cons (fe_var (pv 3)) (fa_cons (fe_var (pv 2)) fa_nil))))
    (fss_one (fs_if (ft_w (fw_or (ft_cmp do_gt (fb_var (pv 11)) (fb_var (pv 12)) (by rfl)) (fw_or (ft_w (fw_and (ft_cmp (do_eq hr.units) (fb_var (pv 5)) (fb_of fe_str) (by rfl)) (fw_and1 (ft_cmp do_gt (fb_of (fe_op do_mul (fb_var (pv 12)) (fb_var (pv 12)))) (fb_of (fe_op do_mul (fb_of (fe_op do_mul (fb_var (pv 2)) (fb_var (pv 11)))) (fb_var (pv 11)))) (by rfl))))) (fw_or1 (ft_cmp (do_ne hr.units) (fb_of (fe_cl C_best_sum (hr.mono (by decide)) hg bx_takes rfl (fa_cons (fe_var (pv 3)) (fa_cons (fe_var (pv 2)) fa_nil)))) (fb_var (pv 12)) (by rfl))))))
    (fss_one (fs_ret fe_bl))
    fss_nil)))))))))))
    (fss_cons (fs_set (i := 6) sc_law.nd rfl (by first | exact Or.inl rfl | exact Or.inr rfl) (fe_cl C_book_of (hr.mono (by decide)) hg bx_takes rfl (fa_cons (fe_var (pv 3)) (fa_cons (fe_var (pv 2)) fa_nil))))
    (fss_cons (fs_for bx_owns rfl (fi_range1 rfl T.n_range (fab_cons (fb_of (fe_callB (dc_len) rfl T.n_len (by rfl) (fab_cons (fb_var (pv 3)) fab_nil))) fab_nil)) (fg_name (i := 7) sc_law.nd rfl (by first | exact Or.inl rfl | exact Or.inr rfl))
    (fss_cons (fs_set (i := 13) sc_law.nd rfl (by first | exact Or.inl rfl | exact Or.inr rfl) (fe_callB (dc_sum rfl) rfl T.n_sum (by rfl) (fab_cons (fb_of (fe_of_fn (t := false) (fn_lc (t := false) (own := [("good", 18)]) (ix := [18]) rfl sc_law.nd (fi_items (fe_ix (hu_of hr) (fb_of (fe_ix (hu_of hr) (fb_var (pv 3)) (fe_var (pv 7)) (fun _ _ => rfl))) fe_int (fun _ _ => rfl))) (blkOk_by (by kernel_rfl)) (fun _ _ _ _ _ => (fg_name (i := 18) sc_law.nd rfl (by first | exact Or.inl rfl | exact Or.inr rfl))) (by decide) (fun _ _ _ _ _ => fts_nil) (fun _ _ _ _ _ => (fe_ix (hu_of hr) (fb_of (fe_of_fn (t := false) (fn_list (t := false) (fa_cons fe_int (fa_cons fe_int (fa_cons fe_int (fa_cons fe_int (fa_cons fe_int fa_nil)))))))) (fe_var (pv 18)) (fun _ _ => rfl)))))) fab_nil)))
    (fss_one (fs_if (ft_w (fw_or (ft_cmp (do_ne hr.units) (fb_of (fe_ix (hu_of hr) (fb_of (fe_ix (hu_of hr) (fb_var (pv 6)) (fe_var (pv 7)) (fun _ _ => rfl))) (fe_var (pv 13)) (fun _ _ => rfl))) (fb_of (fe_ix (hu_of hr) (fb_of (fe_ix (hu_of hr) (fb_var (pv 3)) (fe_var (pv 7)) (fun _ _ => rfl))) fe_int (fun _ _ => rfl))) (by rfl)) (fw_or (ft_cmp (do_ne hr.units) (fb_of (fe_ix (hu_of hr) (fb_of (fe_ix (hu_of hr) (fb_var (pv 6)) (fe_var (pv 7)) (fun _ _ => rfl))) fe_int (fun _ _ => rfl))) (fb_of fe_int) (by rfl)) (fw_or (ft_cmp (do_ne hr.units) (fb_of (fe_ix (hu_of hr) (fb_of (fe_ix (hu_of hr) (fb_var (pv 6)) (fe_var (pv 7)) (fun _ _ => rfl))) (fe_un du_neg (fb_of fe_int)) (fun _ _ => rfl))) (fb_of (fe_ix (hu_of hr) (fb_of (fe_ix (hu_of hr) (fb_var (pv 3)) (fe_var (pv 7)) (fun _ _ => rfl))) fe_int (fun _ _ => rfl))) (by rfl)) (fw_or1 (ft_cmp (do_ne hr.units) (fb_of (fe_callB (dc_len) rfl T.n_len (by rfl) (fab_cons (fb_of (fe_ix (hu_of hr) (fb_var (pv 6)) (fe_var (pv 7)) (fun _ _ => rfl))) fab_nil))) (fb_of (fe_ix (hu_of hr) (fb_of (fe_of_fn (t := false) (fn_list (t := false) (fa_cons fe_int (fa_cons fe_int (fa_cons fe_int (fa_cons fe_int (fa_cons fe_int fa_nil)))))))) (fe_op do_sub (fb_var (pv 2)) (fb_of fe_int)) (fun _ _ => rfl))) (by rfl)))))))
    (fss_one (fs_ret fe_bl))
    fss_nil))))
    (fss_one (fs_ret (fe_and (fe_cmp (do_eq hr.units) (fb_of (fe_repr (units65 hr) hg rfl T.n_repr (fe_var (pv 3)))) (fb_var (pv 4)) (by rfl)) (fe_one (fe_cl0 C_l_faults (hr.mono (by decide)) hg bx_takes rfl))))))))))))
end
section
variable {P : Program} {w : World} {K : Frg} {mg : MgT} {base : Heap}
theorem c_is_bundle (T : Txt P K mg) : CallG P w K mg base 1 "is_bundle" f_is_bundle := ok_is_bundle T
theorem c_inner (T : Txt P K mg) : CallG P w K mg base 1 "inner" f_inner := ok_inner T
theorem c_check_goods (T : Txt P K mg) : CallG P w K mg base 1 "check_goods" f_check_goods := ok_check_goods T
theorem c_number_of (T : Txt P K mg) : CallG P w K mg base 1 "number_of" f_number_of := ok_number_of T
theorem c_within (T : Txt P K mg) : CallG P w K mg base 1 "within" f_within := ok_within T
theorem c_most_of (T : Txt P K mg) : CallG P w K mg base 1 "most_of" f_most_of := ok_most_of T
theorem c_weight_of (T : Txt P K mg) : CallG P w K mg base 1 "weight_of" f_weight_of := ok_weight_of T
theorem c_l_draws (T : Txt P K mg) : CallS P w K mg base 1 "_law_draws" f_l_draws := ok_l_draws T
theorem c_l_mix (T : Txt P K mg) : CallG P w K mg base 1 "_law_mix" f_l_mix := ok_l_mix T
theorem c_l_order (T : Txt P K mg) : CallG P w K mg base 1 "_law_order" f_l_order := ok_l_order T
theorem c_l_with (T : Txt P K mg) : CallG P w K mg base 1 "_law_with" f_l_with := ok_l_with T
theorem c_l_best (T : Txt P K mg) : CallG P w K mg base 1 "_law_best" f_l_best := ok_l_best T
theorem c_parts_of (T : Txt P K mg) : CallG P w K mg base 2 "parts_of" f_parts_of := ok_parts_of T (c_within T)
theorem c_check_bids (T : Txt P K mg) : CallG P w K mg base 2 "check_bids" f_check_bids := ok_check_bids T (c_check_goods T) (c_is_bundle T)
theorem c_is_ahead (T : Txt P K mg) : CallG P w K mg base 2 "is_ahead" f_is_ahead := ok_is_ahead T (c_weight_of T)
theorem c_l_won (T : Txt P K mg) : CallG P w K mg base 2 "_law_won" f_l_won := ok_l_won T (c_l_order T)
theorem c_l_bundle (T : Txt P K mg) : CallG P w K mg base 2 "_law_bundle" f_l_bundle := ok_l_bundle T (c_l_mix T)
theorem c_together (T : Txt P K mg) : CallG P w K mg base 3 "together" f_together := ok_together T (c_parts_of T)
theorem c_check_all (T : Txt P K mg) : CallG P w K mg base 3 "check_all" f_check_all := ok_check_all T (c_check_bids T)
theorem c_order_of (T : Txt P K mg) : CallG P w K mg base 3 "order_of" f_order_of := ok_order_of T (c_is_ahead T)
theorem c_best_sum (T : Txt P K mg) : CallG P w K mg base 3 "best_sum" f_best_sum := ok_best_sum T (c_check_bids T)
theorem c_l_least (T : Txt P K mg) : CallG P w K mg base 3 "_law_least" f_l_least := ok_l_least T (c_l_won T) (c_l_with T)
theorem c_up_to (T : Txt P K mg) : CallG P w K mg base 4 "up_to" f_up_to := ok_up_to T (c_together T) (c_most_of T)
theorem c_won (T : Txt P K mg) : CallG P w K mg base 4 "won" f_won := ok_won T (c_order_of T)
theorem c_winners (T : Txt P K mg) : CallG P w K mg base 5 "winners" f_winners := ok_winners T (c_check_all T) (c_won T)
theorem c_wins_with (T : Txt P K mg) : CallG P w K mg base 5 "wins_with" f_wins_with := ok_wins_with T (c_won T)
theorem c_least_for (T : Txt P K mg) : CallG P w K mg base 6 "least_for" f_least_for := ok_least_for T (c_wins_with T)
theorem c_least_winning (T : Txt P K mg) : CallG P w K mg base 7 "least_winning" f_least_winning := ok_least_winning T (c_check_all T) (c_least_for T)
theorem c_paid (T : Txt P K mg) : CallG P w K mg base 7 "paid" f_paid := ok_paid T (c_check_all T) (c_won T) (c_least_for T)
theorem c_l_gain (T : Txt P K mg) : CallG P w K mg base 8 "_law_gain" f_l_gain := ok_l_gain T (c_l_with T) (c_l_won T) (c_least_winning T)
theorem c_worths_n (T : Txt P K mg) : ∀ n : Nat, CallG P w K mg base (5 + n) "worths" (f_worths_n n)
  | 0 => T.d_worths.idle
  | n + 1 => ok_worths T (c_number_of T) (c_within T) (c_inner T) (c_worths_n T n) (c_most_of T) (c_up_to T)
theorem c_worths (T : Txt P K mg) : CallG P w K mg base 13 "worths" f_worths := c_worths_n T 8
theorem c_book_of (T : Txt P K mg) : CallG P w K mg base 14 "book_of" f_book_of := ok_book_of T (c_check_bids T) (c_worths T)
theorem c_l_fault (T : Txt P K mg) : CallG P w K mg base 15 "_law_fault" f_l_fault := ok_l_fault T (c_book_of T) (c_best_sum T) (c_least_winning T) (c_winners T) (c_paid T)
theorem c_l_faults (T : Txt P K mg) : CallG P w K mg base 16 "_law_faults" f_l_faults := ok_l_faults T (c_l_fault T)
theorem c_law (T : Txt P K mg) : CallS P w K mg base 17 "law" f_law := ok_law T (c_l_draws T) (c_l_mix T) (c_l_bundle T) (c_l_won T) (c_winners T) (c_least_winning T) (c_l_least T) (c_l_with T) (c_paid T) (c_l_gain T) (c_l_best T) (c_best_sum T) (c_book_of T) (c_l_faults T)
end
theorem mk_txt {P : Program} {K : Frg} {mg : MgT} {h : Heap} (X : K.In h) (G0 : h.Ns mainGlobals mg) {F_is_bundle : Addr} {oc_is_bundle : Value} {od_is_bundle an_is_bundle : Option Addr} {sl_is_bundle : Array (Option Value)} {kV_is_bundle dc_is_bundle pm_is_bundle cd_is_bundle ct_is_bundle : Value} {F_inner : Addr} {oc_inner : Value} {od_inner an_inner : Option Addr} {sl_inner : Array (Option Value)} {kV_inner dc_inner pm_inner cd_inner ct_inner : Value} {F_check_goods : Addr} {oc_check_goods : Value} {od_check_goods an_check_goods : Option Addr} {sl_check_goods : Array (Option Value)} {kV_check_goods dc_check_goods pm_check_goods cd_check_goods ct_check_goods : Value} {F_number_of : Addr} {oc_number_of : Value} {od_number_of an_number_of : Option Addr} {sl_number_of : Array (Option Value)} {kV_number_of dc_number_of pm_number_of cd_number_of ct_number_of : Value} {F_within : Addr} {oc_within : Value} {od_within an_within : Option Addr} {sl_within : Array (Option Value)} {kV_within dc_within pm_within cd_within ct_within : Value} {F_parts_of : Addr} {oc_parts_of : Value} {od_parts_of an_parts_of : Option Addr} {sl_parts_of : Array (Option Value)} {kV_parts_of dc_parts_of pm_parts_of cd_parts_of ct_parts_of : Value} {F_together : Addr} {oc_together : Value} {od_together an_together : Option Addr} {sl_together : Array (Option Value)} {kV_together dc_together pm_together cd_together ct_together : Value} {F_most_of : Addr} {oc_most_of : Value} {od_most_of an_most_of : Option Addr} {sl_most_of : Array (Option Value)} {kV_most_of dc_most_of pm_most_of cd_most_of ct_most_of : Value} {F_up_to : Addr} {oc_up_to : Value} {od_up_to an_up_to : Option Addr} {sl_up_to : Array (Option Value)} {kV_up_to dc_up_to pm_up_to cd_up_to ct_up_to : Value} {F_worths : Addr} {oc_worths : Value} {od_worths an_worths : Option Addr} {sl_worths : Array (Option Value)} {kV_worths dc_worths pm_worths cd_worths ct_worths : Value} {F_check_bids : Addr} {oc_check_bids : Value} {od_check_bids an_check_bids : Option Addr} {sl_check_bids : Array (Option Value)} {kV_check_bids dc_check_bids pm_check_bids cd_check_bids ct_check_bids : Value} {F_check_all : Addr} {oc_check_all : Value} {od_check_all an_check_all : Option Addr} {sl_check_all : Array (Option Value)} {kV_check_all dc_check_all pm_check_all cd_check_all ct_check_all : Value} {F_weight_of : Addr} {oc_weight_of : Value} {od_weight_of an_weight_of : Option Addr} {sl_weight_of : Array (Option Value)} {kV_weight_of dc_weight_of pm_weight_of cd_weight_of ct_weight_of : Value} {F_is_ahead : Addr} {oc_is_ahead : Value} {od_is_ahead an_is_ahead : Option Addr} {sl_is_ahead : Array (Option Value)} {kV_is_ahead dc_is_ahead pm_is_ahead cd_is_ahead ct_is_ahead : Value} {F_order_of : Addr} {oc_order_of : Value} {od_order_of an_order_of : Option Addr} {sl_order_of : Array (Option Value)} {kV_order_of dc_order_of pm_order_of cd_order_of ct_order_of : Value} {F_won : Addr} {oc_won : Value} {od_won an_won : Option Addr} {sl_won : Array (Option Value)} {kV_won dc_won pm_won cd_won ct_won : Value} {F_winners : Addr} {oc_winners : Value} {od_winners an_winners : Option Addr} {sl_winners : Array (Option Value)} {kV_winners dc_winners pm_winners cd_winners ct_winners : Value} {F_wins_with : Addr} {oc_wins_with : Value} {od_wins_with an_wins_with : Option Addr} {sl_wins_with : Array (Option Value)} {kV_wins_with dc_wins_with pm_wins_with cd_wins_with ct_wins_with : Value} {F_least_for : Addr} {oc_least_for : Value} {od_least_for an_least_for : Option Addr} {sl_least_for : Array (Option Value)} {kV_least_for dc_least_for pm_least_for cd_least_for ct_least_for : Value} {F_least_winning : Addr} {oc_least_winning : Value} {od_least_winning an_least_winning : Option Addr} {sl_least_winning : Array (Option Value)} {kV_least_winning dc_least_winning pm_least_winning cd_least_winning ct_least_winning : Value} {F_paid : Addr} {oc_paid : Value} {od_paid an_paid : Option Addr} {sl_paid : Array (Option Value)} {kV_paid dc_paid pm_paid cd_paid ct_paid : Value} {F_book_of : Addr} {oc_book_of : Value} {od_book_of an_book_of : Option Addr} {sl_book_of : Array (Option Value)} {kV_book_of dc_book_of pm_book_of cd_book_of ct_book_of : Value} {F_best_sum : Addr} {oc_best_sum : Value} {od_best_sum an_best_sum : Option Addr} {sl_best_sum : Array (Option Value)} {kV_best_sum dc_best_sum pm_best_sum cd_best_sum ct_best_sum : Value} {F_l_draws : Addr} {oc_l_draws : Value} {od_l_draws an_l_draws : Option Addr} {sl_l_draws : Array (Option Value)} {kV_l_draws dc_l_draws pm_l_draws cd_l_draws ct_l_draws : Value} {F_l_mix : Addr} {oc_l_mix : Value} {od_l_mix an_l_mix : Option Addr} {sl_l_mix : Array (Option Value)} {kV_l_mix dc_l_mix pm_l_mix cd_l_mix ct_l_mix : Value} {F_l_order : Addr} {oc_l_order : Value} {od_l_order an_l_order : Option Addr} {sl_l_order : Array (Option Value)} {kV_l_order dc_l_order pm_l_order cd_l_order ct_l_order : Value} {F_l_won : Addr} {oc_l_won : Value} {od_l_won an_l_won : Option Addr} {sl_l_won : Array (Option Value)} {kV_l_won dc_l_won pm_l_won cd_l_won ct_l_won : Value} {F_l_with : Addr} {oc_l_with : Value} {od_l_with an_l_with : Option Addr} {sl_l_with : Array (Option Value)} {kV_l_with dc_l_with pm_l_with cd_l_with ct_l_with : Value} {F_l_best : Addr} {oc_l_best : Value} {od_l_best an_l_best : Option Addr} {sl_l_best : Array (Option Value)} {kV_l_best dc_l_best pm_l_best cd_l_best ct_l_best : Value} {F_l_gain : Addr} {oc_l_gain : Value} {od_l_gain an_l_gain : Option Addr} {sl_l_gain : Array (Option Value)} {kV_l_gain dc_l_gain pm_l_gain cd_l_gain ct_l_gain : Value} {F_l_least : Addr} {oc_l_least : Value} {od_l_least an_l_least : Option Addr} {sl_l_least : Array (Option Value)} {kV_l_least dc_l_least pm_l_least cd_l_least ct_l_least : Value} {F_l_fault : Addr} {oc_l_fault : Value} {od_l_fault an_l_fault : Option Addr} {sl_l_fault : Array (Option Value)} {kV_l_fault dc_l_fault pm_l_fault cd_l_fault ct_l_fault : Value} {F_l_faults : Addr} {oc_l_faults : Value} {od_l_faults an_l_faults : Option Addr} {sl_l_faults : Array (Option Value)} {kV_l_faults dc_l_faults pm_l_faults cd_l_faults ct_l_faults : Value} {F_l_bundle : Addr} {oc_l_bundle : Value} {od_l_bundle an_l_bundle : Option Addr} {sl_l_bundle : Array (Option Value)} {kV_l_bundle dc_l_bundle pm_l_bundle cd_l_bundle ct_l_bundle : Value} {F_law : Addr} {oc_law : Value} {od_law an_law : Option Addr} {sl_law : Array (Option Value)} {kV_law dc_law pm_law cd_law ct_law : Value} {t_MOST_GOODS : Tok} {A_POWERS : Addr} {n_POWERS : Nat} {od_POWERS : Option Addr} {sl_POWERS : Array (Option Value)} {t_POWERS_0 t_POWERS_1 t_POWERS_2 t_POWERS_3 t_POWERS_4 t_POWERS_5 t_POWERS_6 : Tok} {t_MOST_BIDS : Tok} {t_MOST_WORTH : Tok} {A_MEASURES : Addr} {n_MEASURES : Nat} {od_MEASURES : Option Addr} {sl_MEASURES : Array (Option Value)} {t_MEASURES_0 t_MEASURES_1 t_MEASURES_2 : Tok} {C_BadBid_BadBidder D_BadBid_BadBidder : Addr} {C_BadBids_BadBidder D_BadBids_BadBidder : Addr} {C_BadWord_BadBidder D_BadWord_BadBidder : Addr} {C_BadBidder_BadBidder D_BadBidder_BadBidder : Addr} {C_OutOfRange_BadBidder D_OutOfRange_BadBidder : Addr} {C_BadBid_BadWord D_BadBid_BadWord : Addr} {C_BadBids_BadWord D_BadBids_BadWord : Addr} {C_BadWord_BadWord D_BadWord_BadWord : Addr} {C_BadBidder_BadWord D_BadBidder_BadWord : Addr} {C_OutOfRange_BadWord D_OutOfRange_BadWord : Addr} {C_BadBid_BadBid D_BadBid_BadBid : Addr} {C_BadBids_BadBid D_BadBids_BadBid : Addr} {C_BadWord_BadBid D_BadWord_BadBid : Addr} {C_BadBidder_BadBid D_BadBidder_BadBid : Addr} {C_OutOfRange_BadBid D_OutOfRange_BadBid : Addr} {C_BadBid_BadBids D_BadBid_BadBids : Addr} {C_BadBids_BadBids D_BadBids_BadBids : Addr} {C_BadWord_BadBids D_BadWord_BadBids : Addr} {C_BadBidder_BadBids D_BadBidder_BadBids : Addr} {C_OutOfRange_BadBids D_OutOfRange_BadBids : Addr} {C_BadBid_OutOfRange D_BadBid_OutOfRange : Addr} {C_BadBids_OutOfRange D_BadBids_OutOfRange : Addr} {C_BadWord_OutOfRange D_BadWord_OutOfRange : Addr} {C_BadBidder_OutOfRange D_BadBidder_OutOfRange : Addr} {C_OutOfRange_OutOfRange D_OutOfRange_OutOfRange : Addr}
    (a_is_bundle : PySem.W.nsIn K mainGlobals "is_bundle" = some (some (.ref F_is_bundle)))
    (l_is_bundle : K.lookup F_is_bundle = some ⟨oc_is_bundle, od_is_bundle, .func (PySem.W.fnOf "is_bundle" "is_bundle" (defArgs s_is_bundle) (defBody s_is_bundle) (defScope s_is_bundle) .none kV_is_bundle dc_is_bundle pm_is_bundle an_is_bundle cd_is_bundle ct_is_bundle), sl_is_bundle⟩)
    (k_is_bundle : PySem.W.codeIn K cd_is_bundle "is_bundle" = true)
    (p_is_bundle : PySem.W.keepIn K (.ref F_is_bundle) = true)
    (a_inner : PySem.W.nsIn K mainGlobals "inner" = some (some (.ref F_inner)))
    (l_inner : K.lookup F_inner = some ⟨oc_inner, od_inner, .func (PySem.W.fnOf "inner" "inner" (defArgs s_inner) (defBody s_inner) (defScope s_inner) .none kV_inner dc_inner pm_inner an_inner cd_inner ct_inner), sl_inner⟩)
    (k_inner : PySem.W.codeIn K cd_inner "inner" = true)
    (p_inner : PySem.W.keepIn K (.ref F_inner) = true)
    (a_check_goods : PySem.W.nsIn K mainGlobals "check_goods" = some (some (.ref F_check_goods)))
    (l_check_goods : K.lookup F_check_goods = some ⟨oc_check_goods, od_check_goods, .func (PySem.W.fnOf "check_goods" "check_goods" (defArgs s_check_goods) (defBody s_check_goods) (defScope s_check_goods) .none kV_check_goods dc_check_goods pm_check_goods an_check_goods cd_check_goods ct_check_goods), sl_check_goods⟩)
    (k_check_goods : PySem.W.codeIn K cd_check_goods "check_goods" = true)
    (p_check_goods : PySem.W.keepIn K (.ref F_check_goods) = true)
    (a_number_of : PySem.W.nsIn K mainGlobals "number_of" = some (some (.ref F_number_of)))
    (l_number_of : K.lookup F_number_of = some ⟨oc_number_of, od_number_of, .func (PySem.W.fnOf "number_of" "number_of" (defArgs s_number_of) (defBody s_number_of) (defScope s_number_of) .none kV_number_of dc_number_of pm_number_of an_number_of cd_number_of ct_number_of), sl_number_of⟩)
    (k_number_of : PySem.W.codeIn K cd_number_of "number_of" = true)
    (p_number_of : PySem.W.keepIn K (.ref F_number_of) = true)
    (a_within : PySem.W.nsIn K mainGlobals "within" = some (some (.ref F_within)))
    (l_within : K.lookup F_within = some ⟨oc_within, od_within, .func (PySem.W.fnOf "within" "within" (defArgs s_within) (defBody s_within) (defScope s_within) .none kV_within dc_within pm_within an_within cd_within ct_within), sl_within⟩)
    (k_within : PySem.W.codeIn K cd_within "within" = true)
    (p_within : PySem.W.keepIn K (.ref F_within) = true)
    (a_parts_of : PySem.W.nsIn K mainGlobals "parts_of" = some (some (.ref F_parts_of)))
    (l_parts_of : K.lookup F_parts_of = some ⟨oc_parts_of, od_parts_of, .func (PySem.W.fnOf "parts_of" "parts_of" (defArgs s_parts_of) (defBody s_parts_of) (defScope s_parts_of) .none kV_parts_of dc_parts_of pm_parts_of an_parts_of cd_parts_of ct_parts_of), sl_parts_of⟩)
    (k_parts_of : PySem.W.codeIn K cd_parts_of "parts_of" = true)
    (p_parts_of : PySem.W.keepIn K (.ref F_parts_of) = true)
    (a_together : PySem.W.nsIn K mainGlobals "together" = some (some (.ref F_together)))
    (l_together : K.lookup F_together = some ⟨oc_together, od_together, .func (PySem.W.fnOf "together" "together" (defArgs s_together) (defBody s_together) (defScope s_together) .none kV_together dc_together pm_together an_together cd_together ct_together), sl_together⟩)
    (k_together : PySem.W.codeIn K cd_together "together" = true)
    (p_together : PySem.W.keepIn K (.ref F_together) = true)
    (a_most_of : PySem.W.nsIn K mainGlobals "most_of" = some (some (.ref F_most_of)))
    (l_most_of : K.lookup F_most_of = some ⟨oc_most_of, od_most_of, .func (PySem.W.fnOf "most_of" "most_of" (defArgs s_most_of) (defBody s_most_of) (defScope s_most_of) .none kV_most_of dc_most_of pm_most_of an_most_of cd_most_of ct_most_of), sl_most_of⟩)
    (k_most_of : PySem.W.codeIn K cd_most_of "most_of" = true)
    (p_most_of : PySem.W.keepIn K (.ref F_most_of) = true)
    (a_up_to : PySem.W.nsIn K mainGlobals "up_to" = some (some (.ref F_up_to)))
    (l_up_to : K.lookup F_up_to = some ⟨oc_up_to, od_up_to, .func (PySem.W.fnOf "up_to" "up_to" (defArgs s_up_to) (defBody s_up_to) (defScope s_up_to) .none kV_up_to dc_up_to pm_up_to an_up_to cd_up_to ct_up_to), sl_up_to⟩)
    (k_up_to : PySem.W.codeIn K cd_up_to "up_to" = true)
    (p_up_to : PySem.W.keepIn K (.ref F_up_to) = true)
    (a_worths : PySem.W.nsIn K mainGlobals "worths" = some (some (.ref F_worths)))
    (l_worths : K.lookup F_worths = some ⟨oc_worths, od_worths, .func (PySem.W.fnOf "worths" "worths" (defArgs s_worths) (defBody s_worths) (defScope s_worths) .none kV_worths dc_worths pm_worths an_worths cd_worths ct_worths), sl_worths⟩)
    (k_worths : PySem.W.codeIn K cd_worths "worths" = true)
    (p_worths : PySem.W.keepIn K (.ref F_worths) = true)
    (a_check_bids : PySem.W.nsIn K mainGlobals "check_bids" = some (some (.ref F_check_bids)))
    (l_check_bids : K.lookup F_check_bids = some ⟨oc_check_bids, od_check_bids, .func (PySem.W.fnOf "check_bids" "check_bids" (defArgs s_check_bids) (defBody s_check_bids) (defScope s_check_bids) .none kV_check_bids dc_check_bids pm_check_bids an_check_bids cd_check_bids ct_check_bids), sl_check_bids⟩)
    (k_check_bids : PySem.W.codeIn K cd_check_bids "check_bids" = true)
    (p_check_bids : PySem.W.keepIn K (.ref F_check_bids) = true)
    (a_check_all : PySem.W.nsIn K mainGlobals "check_all" = some (some (.ref F_check_all)))
    (l_check_all : K.lookup F_check_all = some ⟨oc_check_all, od_check_all, .func (PySem.W.fnOf "check_all" "check_all" (defArgs s_check_all) (defBody s_check_all) (defScope s_check_all) .none kV_check_all dc_check_all pm_check_all an_check_all cd_check_all ct_check_all), sl_check_all⟩)
    (k_check_all : PySem.W.codeIn K cd_check_all "check_all" = true)
    (p_check_all : PySem.W.keepIn K (.ref F_check_all) = true)
    (a_weight_of : PySem.W.nsIn K mainGlobals "weight_of" = some (some (.ref F_weight_of)))
    (l_weight_of : K.lookup F_weight_of = some ⟨oc_weight_of, od_weight_of, .func (PySem.W.fnOf "weight_of" "weight_of" (defArgs s_weight_of) (defBody s_weight_of) (defScope s_weight_of) .none kV_weight_of dc_weight_of pm_weight_of an_weight_of cd_weight_of ct_weight_of), sl_weight_of⟩)
    (k_weight_of : PySem.W.codeIn K cd_weight_of "weight_of" = true)
    (p_weight_of : PySem.W.keepIn K (.ref F_weight_of) = true)
    (a_is_ahead : PySem.W.nsIn K mainGlobals "is_ahead" = some (some (.ref F_is_ahead)))
    (l_is_ahead : K.lookup F_is_ahead = some ⟨oc_is_ahead, od_is_ahead, .func (PySem.W.fnOf "is_ahead" "is_ahead" (defArgs s_is_ahead) (defBody s_is_ahead) (defScope s_is_ahead) .none kV_is_ahead dc_is_ahead pm_is_ahead an_is_ahead cd_is_ahead ct_is_ahead), sl_is_ahead⟩)
    (k_is_ahead : PySem.W.codeIn K cd_is_ahead "is_ahead" = true)
    (p_is_ahead : PySem.W.keepIn K (.ref F_is_ahead) = true)
    (a_order_of : PySem.W.nsIn K mainGlobals "order_of" = some (some (.ref F_order_of)))
    (l_order_of : K.lookup F_order_of = some ⟨oc_order_of, od_order_of, .func (PySem.W.fnOf "order_of" "order_of" (defArgs s_order_of) (defBody s_order_of) (defScope s_order_of) .none kV_order_of dc_order_of pm_order_of an_order_of cd_order_of ct_order_of), sl_order_of⟩)
    (k_order_of : PySem.W.codeIn K cd_order_of "order_of" = true)
    (p_order_of : PySem.W.keepIn K (.ref F_order_of) = true)
    (a_won : PySem.W.nsIn K mainGlobals "won" = some (some (.ref F_won)))
    (l_won : K.lookup F_won = some ⟨oc_won, od_won, .func (PySem.W.fnOf "won" "won" (defArgs s_won) (defBody s_won) (defScope s_won) .none kV_won dc_won pm_won an_won cd_won ct_won), sl_won⟩)
    (k_won : PySem.W.codeIn K cd_won "won" = true)
    (p_won : PySem.W.keepIn K (.ref F_won) = true)
    (a_winners : PySem.W.nsIn K mainGlobals "winners" = some (some (.ref F_winners)))
    (l_winners : K.lookup F_winners = some ⟨oc_winners, od_winners, .func (PySem.W.fnOf "winners" "winners" (defArgs s_winners) (defBody s_winners) (defScope s_winners) .none kV_winners dc_winners pm_winners an_winners cd_winners ct_winners), sl_winners⟩)
    (k_winners : PySem.W.codeIn K cd_winners "winners" = true)
    (p_winners : PySem.W.keepIn K (.ref F_winners) = true)
    (a_wins_with : PySem.W.nsIn K mainGlobals "wins_with" = some (some (.ref F_wins_with)))
    (l_wins_with : K.lookup F_wins_with = some ⟨oc_wins_with, od_wins_with, .func (PySem.W.fnOf "wins_with" "wins_with" (defArgs s_wins_with) (defBody s_wins_with) (defScope s_wins_with) .none kV_wins_with dc_wins_with pm_wins_with an_wins_with cd_wins_with ct_wins_with), sl_wins_with⟩)
    (k_wins_with : PySem.W.codeIn K cd_wins_with "wins_with" = true)
    (p_wins_with : PySem.W.keepIn K (.ref F_wins_with) = true)
    (a_least_for : PySem.W.nsIn K mainGlobals "least_for" = some (some (.ref F_least_for)))
    (l_least_for : K.lookup F_least_for = some ⟨oc_least_for, od_least_for, .func (PySem.W.fnOf "least_for" "least_for" (defArgs s_least_for) (defBody s_least_for) (defScope s_least_for) .none kV_least_for dc_least_for pm_least_for an_least_for cd_least_for ct_least_for), sl_least_for⟩)
    (k_least_for : PySem.W.codeIn K cd_least_for "least_for" = true)
    (p_least_for : PySem.W.keepIn K (.ref F_least_for) = true)
    (a_least_winning : PySem.W.nsIn K mainGlobals "least_winning" = some (some (.ref F_least_winning)))
    (l_least_winning : K.lookup F_least_winning = some ⟨oc_least_winning, od_least_winning, .func (PySem.W.fnOf "least_winning" "least_winning" (defArgs s_least_winning) (defBody s_least_winning) (defScope s_least_winning) .none kV_least_winning dc_least_winning pm_least_winning an_least_winning cd_least_winning ct_least_winning), sl_least_winning⟩)
    (k_least_winning : PySem.W.codeIn K cd_least_winning "least_winning" = true)
    (p_least_winning : PySem.W.keepIn K (.ref F_least_winning) = true)
    (a_paid : PySem.W.nsIn K mainGlobals "paid" = some (some (.ref F_paid)))
    (l_paid : K.lookup F_paid = some ⟨oc_paid, od_paid, .func (PySem.W.fnOf "paid" "paid" (defArgs s_paid) (defBody s_paid) (defScope s_paid) .none kV_paid dc_paid pm_paid an_paid cd_paid ct_paid), sl_paid⟩)
    (k_paid : PySem.W.codeIn K cd_paid "paid" = true)
    (p_paid : PySem.W.keepIn K (.ref F_paid) = true)
    (a_book_of : PySem.W.nsIn K mainGlobals "book_of" = some (some (.ref F_book_of)))
    (l_book_of : K.lookup F_book_of = some ⟨oc_book_of, od_book_of, .func (PySem.W.fnOf "book_of" "book_of" (defArgs s_book_of) (defBody s_book_of) (defScope s_book_of) .none kV_book_of dc_book_of pm_book_of an_book_of cd_book_of ct_book_of), sl_book_of⟩)
    (k_book_of : PySem.W.codeIn K cd_book_of "book_of" = true)
    (p_book_of : PySem.W.keepIn K (.ref F_book_of) = true)
    (a_best_sum : PySem.W.nsIn K mainGlobals "best_sum" = some (some (.ref F_best_sum)))
    (l_best_sum : K.lookup F_best_sum = some ⟨oc_best_sum, od_best_sum, .func (PySem.W.fnOf "best_sum" "best_sum" (defArgs s_best_sum) (defBody s_best_sum) (defScope s_best_sum) .none kV_best_sum dc_best_sum pm_best_sum an_best_sum cd_best_sum ct_best_sum), sl_best_sum⟩)
    (k_best_sum : PySem.W.codeIn K cd_best_sum "best_sum" = true)
    (p_best_sum : PySem.W.keepIn K (.ref F_best_sum) = true)
    (a_l_draws : PySem.W.nsIn K mainGlobals "_law_draws" = some (some (.ref F_l_draws)))
    (l_l_draws : K.lookup F_l_draws = some ⟨oc_l_draws, od_l_draws, .func (PySem.W.fnOf "_law_draws" "_law_draws" (defArgs s_l_draws) (defBody s_l_draws) (defScope s_l_draws) .none kV_l_draws dc_l_draws pm_l_draws an_l_draws cd_l_draws ct_l_draws), sl_l_draws⟩)
    (k_l_draws : PySem.W.codeIn K cd_l_draws "_law_draws" = true)
    (p_l_draws : PySem.W.keepIn K (.ref F_l_draws) = true)
    (a_l_mix : PySem.W.nsIn K mainGlobals "_law_mix" = some (some (.ref F_l_mix)))
    (l_l_mix : K.lookup F_l_mix = some ⟨oc_l_mix, od_l_mix, .func (PySem.W.fnOf "_law_mix" "_law_mix" (defArgs s_l_mix) (defBody s_l_mix) (defScope s_l_mix) .none kV_l_mix dc_l_mix pm_l_mix an_l_mix cd_l_mix ct_l_mix), sl_l_mix⟩)
    (k_l_mix : PySem.W.codeIn K cd_l_mix "_law_mix" = true)
    (p_l_mix : PySem.W.keepIn K (.ref F_l_mix) = true)
    (a_l_order : PySem.W.nsIn K mainGlobals "_law_order" = some (some (.ref F_l_order)))
    (l_l_order : K.lookup F_l_order = some ⟨oc_l_order, od_l_order, .func (PySem.W.fnOf "_law_order" "_law_order" (defArgs s_l_order) (defBody s_l_order) (defScope s_l_order) .none kV_l_order dc_l_order pm_l_order an_l_order cd_l_order ct_l_order), sl_l_order⟩)
    (k_l_order : PySem.W.codeIn K cd_l_order "_law_order" = true)
    (p_l_order : PySem.W.keepIn K (.ref F_l_order) = true)
    (a_l_won : PySem.W.nsIn K mainGlobals "_law_won" = some (some (.ref F_l_won)))
    (l_l_won : K.lookup F_l_won = some ⟨oc_l_won, od_l_won, .func (PySem.W.fnOf "_law_won" "_law_won" (defArgs s_l_won) (defBody s_l_won) (defScope s_l_won) .none kV_l_won dc_l_won pm_l_won an_l_won cd_l_won ct_l_won), sl_l_won⟩)
    (k_l_won : PySem.W.codeIn K cd_l_won "_law_won" = true)
    (p_l_won : PySem.W.keepIn K (.ref F_l_won) = true)
    (a_l_with : PySem.W.nsIn K mainGlobals "_law_with" = some (some (.ref F_l_with)))
    (l_l_with : K.lookup F_l_with = some ⟨oc_l_with, od_l_with, .func (PySem.W.fnOf "_law_with" "_law_with" (defArgs s_l_with) (defBody s_l_with) (defScope s_l_with) .none kV_l_with dc_l_with pm_l_with an_l_with cd_l_with ct_l_with), sl_l_with⟩)
    (k_l_with : PySem.W.codeIn K cd_l_with "_law_with" = true)
    (p_l_with : PySem.W.keepIn K (.ref F_l_with) = true)
    (a_l_best : PySem.W.nsIn K mainGlobals "_law_best" = some (some (.ref F_l_best)))
    (l_l_best : K.lookup F_l_best = some ⟨oc_l_best, od_l_best, .func (PySem.W.fnOf "_law_best" "_law_best" (defArgs s_l_best) (defBody s_l_best) (defScope s_l_best) .none kV_l_best dc_l_best pm_l_best an_l_best cd_l_best ct_l_best), sl_l_best⟩)
    (k_l_best : PySem.W.codeIn K cd_l_best "_law_best" = true)
    (p_l_best : PySem.W.keepIn K (.ref F_l_best) = true)
    (a_l_gain : PySem.W.nsIn K mainGlobals "_law_gain" = some (some (.ref F_l_gain)))
    (l_l_gain : K.lookup F_l_gain = some ⟨oc_l_gain, od_l_gain, .func (PySem.W.fnOf "_law_gain" "_law_gain" (defArgs s_l_gain) (defBody s_l_gain) (defScope s_l_gain) .none kV_l_gain dc_l_gain pm_l_gain an_l_gain cd_l_gain ct_l_gain), sl_l_gain⟩)
    (k_l_gain : PySem.W.codeIn K cd_l_gain "_law_gain" = true)
    (p_l_gain : PySem.W.keepIn K (.ref F_l_gain) = true)
    (a_l_least : PySem.W.nsIn K mainGlobals "_law_least" = some (some (.ref F_l_least)))
    (l_l_least : K.lookup F_l_least = some ⟨oc_l_least, od_l_least, .func (PySem.W.fnOf "_law_least" "_law_least" (defArgs s_l_least) (defBody s_l_least) (defScope s_l_least) .none kV_l_least dc_l_least pm_l_least an_l_least cd_l_least ct_l_least), sl_l_least⟩)
    (k_l_least : PySem.W.codeIn K cd_l_least "_law_least" = true)
    (p_l_least : PySem.W.keepIn K (.ref F_l_least) = true)
    (a_l_fault : PySem.W.nsIn K mainGlobals "_law_fault" = some (some (.ref F_l_fault)))
    (l_l_fault : K.lookup F_l_fault = some ⟨oc_l_fault, od_l_fault, .func (PySem.W.fnOf "_law_fault" "_law_fault" (defArgs s_l_fault) (defBody s_l_fault) (defScope s_l_fault) .none kV_l_fault dc_l_fault pm_l_fault an_l_fault cd_l_fault ct_l_fault), sl_l_fault⟩)
    (k_l_fault : PySem.W.codeIn K cd_l_fault "_law_fault" = true)
    (p_l_fault : PySem.W.keepIn K (.ref F_l_fault) = true)
    (a_l_faults : PySem.W.nsIn K mainGlobals "_law_faults" = some (some (.ref F_l_faults)))
    (l_l_faults : K.lookup F_l_faults = some ⟨oc_l_faults, od_l_faults, .func (PySem.W.fnOf "_law_faults" "_law_faults" (defArgs s_l_faults) (defBody s_l_faults) (defScope s_l_faults) .none kV_l_faults dc_l_faults pm_l_faults an_l_faults cd_l_faults ct_l_faults), sl_l_faults⟩)
    (k_l_faults : PySem.W.codeIn K cd_l_faults "_law_faults" = true)
    (p_l_faults : PySem.W.keepIn K (.ref F_l_faults) = true)
    (a_l_bundle : PySem.W.nsIn K mainGlobals "_law_bundle" = some (some (.ref F_l_bundle)))
    (l_l_bundle : K.lookup F_l_bundle = some ⟨oc_l_bundle, od_l_bundle, .func (PySem.W.fnOf "_law_bundle" "_law_bundle" (defArgs s_l_bundle) (defBody s_l_bundle) (defScope s_l_bundle) .none kV_l_bundle dc_l_bundle pm_l_bundle an_l_bundle cd_l_bundle ct_l_bundle), sl_l_bundle⟩)
    (k_l_bundle : PySem.W.codeIn K cd_l_bundle "_law_bundle" = true)
    (p_l_bundle : PySem.W.keepIn K (.ref F_l_bundle) = true)
    (a_law : PySem.W.nsIn K mainGlobals "law" = some (some (.ref F_law)))
    (l_law : K.lookup F_law = some ⟨oc_law, od_law, .func (PySem.W.fnOf "law" "law" (defArgs s_law) (defBody s_law) (defScope s_law) .none kV_law dc_law pm_law an_law cd_law ct_law), sl_law⟩)
    (k_law : PySem.W.codeIn K cd_law "law" = true)
    (p_law : PySem.W.keepIn K (.ref F_law) = true)
    (z_len : PySem.W.nsIn K mainGlobals "len" = some none)
    (z_list : PySem.W.nsIn K mainGlobals "list" = some none)
    (z_sorted : PySem.W.nsIn K mainGlobals "sorted" = some none)
    (z_set : PySem.W.nsIn K mainGlobals "set" = some none)
    (z_sum : PySem.W.nsIn K mainGlobals "sum" = some none)
    (z_range : PySem.W.nsIn K mainGlobals "range" = some none)
    (z_max : PySem.W.nsIn K mainGlobals "max" = some none)
    (z_min : PySem.W.nsIn K mainGlobals "min" = some none)
    (z_enumerate : PySem.W.nsIn K mainGlobals "enumerate" = some none)
    (z_any : PySem.W.nsIn K mainGlobals "any" = some none)
    (z_dict : PySem.W.nsIn K mainGlobals "dict" = some none)
    (z_tuple : PySem.W.nsIn K mainGlobals "tuple" = some none)
    (z_abs : PySem.W.nsIn K mainGlobals "abs" = some none)
    (z_int : PySem.W.nsIn K mainGlobals "int" = some none)
    (z_repr : PySem.W.nsIn K mainGlobals "repr" = some none)
    (i_MOST_GOODS : PySem.W.nsIn K mainGlobals "MOST_GOODS" = some (some (.int 6 t_MOST_GOODS)))
    (u_POWERS : PySem.W.nsIn K mainGlobals "POWERS" = some (some (.ref A_POWERS)))
    (v_POWERS : K.lookup A_POWERS = some ⟨.type "tuple", od_POWERS, .seq #[.int 1 t_POWERS_0, .int 2 t_POWERS_1, .int 4 t_POWERS_2, .int 8 t_POWERS_3, .int 16 t_POWERS_4, .int 32 t_POWERS_5, .int 64 t_POWERS_6] n_POWERS, sl_POWERS⟩)
    (i_MOST_BIDS : PySem.W.nsIn K mainGlobals "MOST_BIDS" = some (some (.int 12 t_MOST_BIDS)))
    (i_MOST_WORTH : PySem.W.nsIn K mainGlobals "MOST_WORTH" = some (some (.int 1000000 t_MOST_WORTH)))
    (u_MEASURES : PySem.W.nsIn K mainGlobals "MEASURES" = some (some (.ref A_MEASURES)))
    (v_MEASURES : K.lookup A_MEASURES = some ⟨.type "tuple", od_MEASURES, .seq #[.str "worth" t_MEASURES_0, .str "each" t_MEASURES_1, .str "root" t_MEASURES_2] n_MEASURES, sl_MEASURES⟩)
    (e_OutOfRange : ErrG P K mg "OutOfRange")
    (e_BadBids : ErrG P K mg "BadBids")
    (e_BadBid : ErrG P K mg "BadBid")
    (e_BadWord : ErrG P K mg "BadWord")
    (e_BadBidder : ErrG P K mg "BadBidder")
    (ea_BadBid_BadBidder : PySem.W.nsIn K mainGlobals (Str.ofString "BadBid") = some (some (.ref C_BadBid_BadBidder)))
    (eb_BadBid_BadBidder : PySem.W.nsIn K mainGlobals (Str.ofString "BadBidder") = some (some (.ref D_BadBid_BadBidder)))
    (ec_BadBid_BadBidder : PySem.W.exmOne K (.ref C_BadBid_BadBidder) (.ref D_BadBid_BadBidder) = some false)
    (ea_BadBids_BadBidder : PySem.W.nsIn K mainGlobals (Str.ofString "BadBids") = some (some (.ref C_BadBids_BadBidder)))
    (eb_BadBids_BadBidder : PySem.W.nsIn K mainGlobals (Str.ofString "BadBidder") = some (some (.ref D_BadBids_BadBidder)))
    (ec_BadBids_BadBidder : PySem.W.exmOne K (.ref C_BadBids_BadBidder) (.ref D_BadBids_BadBidder) = some false)
    (ea_BadWord_BadBidder : PySem.W.nsIn K mainGlobals (Str.ofString "BadWord") = some (some (.ref C_BadWord_BadBidder)))
    (eb_BadWord_BadBidder : PySem.W.nsIn K mainGlobals (Str.ofString "BadBidder") = some (some (.ref D_BadWord_BadBidder)))
    (ec_BadWord_BadBidder : PySem.W.exmOne K (.ref C_BadWord_BadBidder) (.ref D_BadWord_BadBidder) = some false)
    (ea_BadBidder_BadBidder : PySem.W.nsIn K mainGlobals (Str.ofString "BadBidder") = some (some (.ref C_BadBidder_BadBidder)))
    (eb_BadBidder_BadBidder : PySem.W.nsIn K mainGlobals (Str.ofString "BadBidder") = some (some (.ref D_BadBidder_BadBidder)))
    (ec_BadBidder_BadBidder : PySem.W.exmOne K (.ref C_BadBidder_BadBidder) (.ref D_BadBidder_BadBidder) = some true)
    (ea_OutOfRange_BadBidder : PySem.W.nsIn K mainGlobals (Str.ofString "OutOfRange") = some (some (.ref C_OutOfRange_BadBidder)))
    (eb_OutOfRange_BadBidder : PySem.W.nsIn K mainGlobals (Str.ofString "BadBidder") = some (some (.ref D_OutOfRange_BadBidder)))
    (ec_OutOfRange_BadBidder : PySem.W.exmOne K (.ref C_OutOfRange_BadBidder) (.ref D_OutOfRange_BadBidder) = some false)
    (ea_BadBid_BadWord : PySem.W.nsIn K mainGlobals (Str.ofString "BadBid") = some (some (.ref C_BadBid_BadWord)))
    (eb_BadBid_BadWord : PySem.W.nsIn K mainGlobals (Str.ofString "BadWord") = some (some (.ref D_BadBid_BadWord)))
    (ec_BadBid_BadWord : PySem.W.exmOne K (.ref C_BadBid_BadWord) (.ref D_BadBid_BadWord) = some false)
    (ea_BadBids_BadWord : PySem.W.nsIn K mainGlobals (Str.ofString "BadBids") = some (some (.ref C_BadBids_BadWord)))
    (eb_BadBids_BadWord : PySem.W.nsIn K mainGlobals (Str.ofString "BadWord") = some (some (.ref D_BadBids_BadWord)))
    (ec_BadBids_BadWord : PySem.W.exmOne K (.ref C_BadBids_BadWord) (.ref D_BadBids_BadWord) = some false)
    (ea_BadWord_BadWord : PySem.W.nsIn K mainGlobals (Str.ofString "BadWord") = some (some (.ref C_BadWord_BadWord)))
    (eb_BadWord_BadWord : PySem.W.nsIn K mainGlobals (Str.ofString "BadWord") = some (some (.ref D_BadWord_BadWord)))
    (ec_BadWord_BadWord : PySem.W.exmOne K (.ref C_BadWord_BadWord) (.ref D_BadWord_BadWord) = some true)
    (ea_BadBidder_BadWord : PySem.W.nsIn K mainGlobals (Str.ofString "BadBidder") = some (some (.ref C_BadBidder_BadWord)))
    (eb_BadBidder_BadWord : PySem.W.nsIn K mainGlobals (Str.ofString "BadWord") = some (some (.ref D_BadBidder_BadWord)))
    (ec_BadBidder_BadWord : PySem.W.exmOne K (.ref C_BadBidder_BadWord) (.ref D_BadBidder_BadWord) = some false)
    (ea_OutOfRange_BadWord : PySem.W.nsIn K mainGlobals (Str.ofString "OutOfRange") = some (some (.ref C_OutOfRange_BadWord)))
    (eb_OutOfRange_BadWord : PySem.W.nsIn K mainGlobals (Str.ofString "BadWord") = some (some (.ref D_OutOfRange_BadWord)))
    (ec_OutOfRange_BadWord : PySem.W.exmOne K (.ref C_OutOfRange_BadWord) (.ref D_OutOfRange_BadWord) = some false)
    (ea_BadBid_BadBid : PySem.W.nsIn K mainGlobals (Str.ofString "BadBid") = some (some (.ref C_BadBid_BadBid)))
    (eb_BadBid_BadBid : PySem.W.nsIn K mainGlobals (Str.ofString "BadBid") = some (some (.ref D_BadBid_BadBid)))
    (ec_BadBid_BadBid : PySem.W.exmOne K (.ref C_BadBid_BadBid) (.ref D_BadBid_BadBid) = some true)
    (ea_BadBids_BadBid : PySem.W.nsIn K mainGlobals (Str.ofString "BadBids") = some (some (.ref C_BadBids_BadBid)))
    (eb_BadBids_BadBid : PySem.W.nsIn K mainGlobals (Str.ofString "BadBid") = some (some (.ref D_BadBids_BadBid)))
    (ec_BadBids_BadBid : PySem.W.exmOne K (.ref C_BadBids_BadBid) (.ref D_BadBids_BadBid) = some false)
    (ea_BadWord_BadBid : PySem.W.nsIn K mainGlobals (Str.ofString "BadWord") = some (some (.ref C_BadWord_BadBid)))
    (eb_BadWord_BadBid : PySem.W.nsIn K mainGlobals (Str.ofString "BadBid") = some (some (.ref D_BadWord_BadBid)))
    (ec_BadWord_BadBid : PySem.W.exmOne K (.ref C_BadWord_BadBid) (.ref D_BadWord_BadBid) = some false)
    (ea_BadBidder_BadBid : PySem.W.nsIn K mainGlobals (Str.ofString "BadBidder") = some (some (.ref C_BadBidder_BadBid)))
    (eb_BadBidder_BadBid : PySem.W.nsIn K mainGlobals (Str.ofString "BadBid") = some (some (.ref D_BadBidder_BadBid)))
    (ec_BadBidder_BadBid : PySem.W.exmOne K (.ref C_BadBidder_BadBid) (.ref D_BadBidder_BadBid) = some false)
    (ea_OutOfRange_BadBid : PySem.W.nsIn K mainGlobals (Str.ofString "OutOfRange") = some (some (.ref C_OutOfRange_BadBid)))
    (eb_OutOfRange_BadBid : PySem.W.nsIn K mainGlobals (Str.ofString "BadBid") = some (some (.ref D_OutOfRange_BadBid)))
    (ec_OutOfRange_BadBid : PySem.W.exmOne K (.ref C_OutOfRange_BadBid) (.ref D_OutOfRange_BadBid) = some false)
    (ea_BadBid_BadBids : PySem.W.nsIn K mainGlobals (Str.ofString "BadBid") = some (some (.ref C_BadBid_BadBids)))
    (eb_BadBid_BadBids : PySem.W.nsIn K mainGlobals (Str.ofString "BadBids") = some (some (.ref D_BadBid_BadBids)))
    (ec_BadBid_BadBids : PySem.W.exmOne K (.ref C_BadBid_BadBids) (.ref D_BadBid_BadBids) = some false)
    (ea_BadBids_BadBids : PySem.W.nsIn K mainGlobals (Str.ofString "BadBids") = some (some (.ref C_BadBids_BadBids)))
    (eb_BadBids_BadBids : PySem.W.nsIn K mainGlobals (Str.ofString "BadBids") = some (some (.ref D_BadBids_BadBids)))
    (ec_BadBids_BadBids : PySem.W.exmOne K (.ref C_BadBids_BadBids) (.ref D_BadBids_BadBids) = some true)
    (ea_BadWord_BadBids : PySem.W.nsIn K mainGlobals (Str.ofString "BadWord") = some (some (.ref C_BadWord_BadBids)))
    (eb_BadWord_BadBids : PySem.W.nsIn K mainGlobals (Str.ofString "BadBids") = some (some (.ref D_BadWord_BadBids)))
    (ec_BadWord_BadBids : PySem.W.exmOne K (.ref C_BadWord_BadBids) (.ref D_BadWord_BadBids) = some false)
    (ea_BadBidder_BadBids : PySem.W.nsIn K mainGlobals (Str.ofString "BadBidder") = some (some (.ref C_BadBidder_BadBids)))
    (eb_BadBidder_BadBids : PySem.W.nsIn K mainGlobals (Str.ofString "BadBids") = some (some (.ref D_BadBidder_BadBids)))
    (ec_BadBidder_BadBids : PySem.W.exmOne K (.ref C_BadBidder_BadBids) (.ref D_BadBidder_BadBids) = some false)
    (ea_OutOfRange_BadBids : PySem.W.nsIn K mainGlobals (Str.ofString "OutOfRange") = some (some (.ref C_OutOfRange_BadBids)))
    (eb_OutOfRange_BadBids : PySem.W.nsIn K mainGlobals (Str.ofString "BadBids") = some (some (.ref D_OutOfRange_BadBids)))
    (ec_OutOfRange_BadBids : PySem.W.exmOne K (.ref C_OutOfRange_BadBids) (.ref D_OutOfRange_BadBids) = some false)
    (ea_BadBid_OutOfRange : PySem.W.nsIn K mainGlobals (Str.ofString "BadBid") = some (some (.ref C_BadBid_OutOfRange)))
    (eb_BadBid_OutOfRange : PySem.W.nsIn K mainGlobals (Str.ofString "OutOfRange") = some (some (.ref D_BadBid_OutOfRange)))
    (ec_BadBid_OutOfRange : PySem.W.exmOne K (.ref C_BadBid_OutOfRange) (.ref D_BadBid_OutOfRange) = some false)
    (ea_BadBids_OutOfRange : PySem.W.nsIn K mainGlobals (Str.ofString "BadBids") = some (some (.ref C_BadBids_OutOfRange)))
    (eb_BadBids_OutOfRange : PySem.W.nsIn K mainGlobals (Str.ofString "OutOfRange") = some (some (.ref D_BadBids_OutOfRange)))
    (ec_BadBids_OutOfRange : PySem.W.exmOne K (.ref C_BadBids_OutOfRange) (.ref D_BadBids_OutOfRange) = some false)
    (ea_BadWord_OutOfRange : PySem.W.nsIn K mainGlobals (Str.ofString "BadWord") = some (some (.ref C_BadWord_OutOfRange)))
    (eb_BadWord_OutOfRange : PySem.W.nsIn K mainGlobals (Str.ofString "OutOfRange") = some (some (.ref D_BadWord_OutOfRange)))
    (ec_BadWord_OutOfRange : PySem.W.exmOne K (.ref C_BadWord_OutOfRange) (.ref D_BadWord_OutOfRange) = some false)
    (ea_BadBidder_OutOfRange : PySem.W.nsIn K mainGlobals (Str.ofString "BadBidder") = some (some (.ref C_BadBidder_OutOfRange)))
    (eb_BadBidder_OutOfRange : PySem.W.nsIn K mainGlobals (Str.ofString "OutOfRange") = some (some (.ref D_BadBidder_OutOfRange)))
    (ec_BadBidder_OutOfRange : PySem.W.exmOne K (.ref C_BadBidder_OutOfRange) (.ref D_BadBidder_OutOfRange) = some false)
    (ea_OutOfRange_OutOfRange : PySem.W.nsIn K mainGlobals (Str.ofString "OutOfRange") = some (some (.ref C_OutOfRange_OutOfRange)))
    (eb_OutOfRange_OutOfRange : PySem.W.nsIn K mainGlobals (Str.ofString "OutOfRange") = some (some (.ref D_OutOfRange_OutOfRange)))
    (ec_OutOfRange_OutOfRange : PySem.W.exmOne K (.ref C_OutOfRange_OutOfRange) (.ref D_OutOfRange_OutOfRange) = some true) : Txt P K mg :=
  ⟨mk_def X G0 a_is_bundle l_is_bundle k_is_bundle p_is_bundle (fun _ _ _ _ _ _ us hl => match us, hl with | [_, _], _ => rfl),
   mk_def X G0 a_inner l_inner k_inner p_inner (fun _ _ _ _ _ _ us hl => match us, hl with | [_], _ => rfl),
   mk_def X G0 a_check_goods l_check_goods k_check_goods p_check_goods (fun _ _ _ _ _ _ us hl => match us, hl with | [_], _ => rfl),
   mk_def X G0 a_number_of l_number_of k_number_of p_number_of (fun _ _ _ _ _ _ us hl => match us, hl with | [_], _ => rfl),
   mk_def X G0 a_within l_within k_within p_within (fun _ _ _ _ _ _ us hl => match us, hl with | [_, _], _ => rfl),
   mk_def X G0 a_parts_of l_parts_of k_parts_of p_parts_of (fun _ _ _ _ _ _ us hl => match us, hl with | [_], _ => rfl),
   mk_def X G0 a_together l_together k_together p_together (fun _ _ _ _ _ _ us hl => match us, hl with | [_, _], _ => rfl),
   mk_def X G0 a_most_of l_most_of k_most_of p_most_of (fun _ _ _ _ _ _ us hl => match us, hl with | [_], _ => rfl),
   mk_def X G0 a_up_to l_up_to k_up_to p_up_to (fun _ _ _ _ _ _ us hl => match us, hl with | [_, _], _ => rfl),
   mk_def X G0 a_worths l_worths k_worths p_worths (fun _ _ _ _ _ _ us hl => match us, hl with | [_, _], _ => rfl),
   mk_def X G0 a_check_bids l_check_bids k_check_bids p_check_bids (fun _ _ _ _ _ _ us hl => match us, hl with | [_, _], _ => rfl),
   mk_def X G0 a_check_all l_check_all k_check_all p_check_all (fun _ _ _ _ _ _ us hl => match us, hl with | [_, _, _], _ => rfl),
   mk_def X G0 a_weight_of l_weight_of k_weight_of p_weight_of (fun _ _ _ _ _ _ us hl => match us, hl with | [_, _], _ => rfl),
   mk_def X G0 a_is_ahead l_is_ahead k_is_ahead p_is_ahead (fun _ _ _ _ _ _ us hl => match us, hl with | [_, _, _, _], _ => rfl),
   mk_def X G0 a_order_of l_order_of k_order_of p_order_of (fun _ _ _ _ _ _ us hl => match us, hl with | [_, _], _ => rfl),
   mk_def X G0 a_won l_won k_won p_won (fun _ _ _ _ _ _ us hl => match us, hl with | [_, _], _ => rfl),
   mk_def X G0 a_winners l_winners k_winners p_winners (fun _ _ _ _ _ _ us hl => match us, hl with | [_, _, _], _ => rfl),
   mk_def X G0 a_wins_with l_wins_with k_wins_with p_wins_with (fun _ _ _ _ _ _ us hl => match us, hl with | [_, _, _, _], _ => rfl),
   mk_def X G0 a_least_for l_least_for k_least_for p_least_for (fun _ _ _ _ _ _ us hl => match us, hl with | [_, _, _], _ => rfl),
   mk_def X G0 a_least_winning l_least_winning k_least_winning p_least_winning (fun _ _ _ _ _ _ us hl => match us, hl with | [_, _, _, _], _ => rfl),
   mk_def X G0 a_paid l_paid k_paid p_paid (fun _ _ _ _ _ _ us hl => match us, hl with | [_, _, _], _ => rfl),
   mk_def X G0 a_book_of l_book_of k_book_of p_book_of (fun _ _ _ _ _ _ us hl => match us, hl with | [_, _], _ => rfl),
   mk_def X G0 a_best_sum l_best_sum k_best_sum p_best_sum (fun _ _ _ _ _ _ us hl => match us, hl with | [_, _], _ => rfl),
   mk_def X G0 a_l_draws l_l_draws k_l_draws p_l_draws (fun _ _ _ _ _ _ us hl => match us, hl with | [_], _ => rfl),
   mk_def X G0 a_l_mix l_l_mix k_l_mix p_l_mix (fun _ _ _ _ _ _ us hl => match us, hl with | [_, _, _], _ => rfl),
   mk_def X G0 a_l_order l_l_order k_l_order p_l_order (fun _ _ _ _ _ _ us hl => match us, hl with | [_, _], _ => rfl),
   mk_def X G0 a_l_won l_l_won k_l_won p_l_won (fun _ _ _ _ _ _ us hl => match us, hl with | [_, _], _ => rfl),
   mk_def X G0 a_l_with l_l_with k_l_with p_l_with (fun _ _ _ _ _ _ us hl => match us, hl with | [_, _, _], _ => rfl),
   mk_def X G0 a_l_best l_l_best k_l_best p_l_best (fun _ _ _ _ _ _ us hl => match us, hl with | [_, _], _ => rfl),
   mk_def X G0 a_l_gain l_l_gain k_l_gain p_l_gain (fun _ _ _ _ _ _ us hl => match us, hl with | [_, _, _, _, _], _ => rfl),
   mk_def X G0 a_l_least l_l_least k_l_least p_l_least (fun _ _ _ _ _ _ us hl => match us, hl with | [_, _, _], _ => rfl),
   mk_def X G0 a_l_fault l_l_fault k_l_fault p_l_fault (fun _ _ _ _ _ _ us hl => match us, hl with | [_, _, _, _, _], _ => rfl),
   mk_def X G0 a_l_faults l_l_faults k_l_faults p_l_faults (fun _ _ _ _ _ _ us hl => match us, hl with | [], _ => rfl),
   mk_def X G0 a_l_bundle l_l_bundle k_l_bundle p_l_bundle (fun _ _ _ _ _ _ us hl => match us, hl with | [_, _, _], _ => rfl),
   mk_def X G0 a_law l_law k_law p_law (fun _ _ _ _ _ _ us hl => match us, hl with | [_], _ => rfl),
   mk_none X G0 z_len,
   mk_none X G0 z_list,
   mk_none X G0 z_sorted,
   mk_none X G0 z_set,
   mk_none X G0 z_sum,
   mk_none X G0 z_range,
   mk_none X G0 z_max,
   mk_none X G0 z_min,
   mk_none X G0 z_enumerate,
   mk_none X G0 z_any,
   mk_none X G0 z_dict,
   mk_none X G0 z_tuple,
   mk_none X G0 z_abs,
   mk_none X G0 z_int,
   mk_none X G0 z_repr,
   mk_int X G0 i_MOST_GOODS,
   mk_tup X G0 u_POWERS v_POWERS (.int (.int (.int (.int (.int (.int (.int .nil))))))) (show (7 : Nat) ≤ sizeLine by decide),
   mk_int X G0 i_MOST_BIDS,
   mk_int X G0 i_MOST_WORTH,
   mk_tup X G0 u_MEASURES v_MEASURES (.str (.str (.str .nil))) (show (3 : Nat) ≤ sizeLine by decide),
   e_OutOfRange,
   e_BadBids,
   e_BadBid,
   e_BadWord,
   e_BadBidder,
   mk_exm X G0 ea_BadBid_BadBidder eb_BadBid_BadBidder ec_BadBid_BadBidder e_BadBid,
   mk_exm X G0 ea_BadBids_BadBidder eb_BadBids_BadBidder ec_BadBids_BadBidder e_BadBids,
   mk_exm X G0 ea_BadWord_BadBidder eb_BadWord_BadBidder ec_BadWord_BadBidder e_BadWord,
   mk_exm X G0 ea_BadBidder_BadBidder eb_BadBidder_BadBidder ec_BadBidder_BadBidder e_BadBidder,
   mk_exm X G0 ea_OutOfRange_BadBidder eb_OutOfRange_BadBidder ec_OutOfRange_BadBidder e_OutOfRange,
   mk_exm X G0 ea_BadBid_BadWord eb_BadBid_BadWord ec_BadBid_BadWord e_BadBid,
   mk_exm X G0 ea_BadBids_BadWord eb_BadBids_BadWord ec_BadBids_BadWord e_BadBids,
   mk_exm X G0 ea_BadWord_BadWord eb_BadWord_BadWord ec_BadWord_BadWord e_BadWord,
   mk_exm X G0 ea_BadBidder_BadWord eb_BadBidder_BadWord ec_BadBidder_BadWord e_BadBidder,
   mk_exm X G0 ea_OutOfRange_BadWord eb_OutOfRange_BadWord ec_OutOfRange_BadWord e_OutOfRange,
   mk_exm X G0 ea_BadBid_BadBid eb_BadBid_BadBid ec_BadBid_BadBid e_BadBid,
   mk_exm X G0 ea_BadBids_BadBid eb_BadBids_BadBid ec_BadBids_BadBid e_BadBids,
   mk_exm X G0 ea_BadWord_BadBid eb_BadWord_BadBid ec_BadWord_BadBid e_BadWord,
   mk_exm X G0 ea_BadBidder_BadBid eb_BadBidder_BadBid ec_BadBidder_BadBid e_BadBidder,
   mk_exm X G0 ea_OutOfRange_BadBid eb_OutOfRange_BadBid ec_OutOfRange_BadBid e_OutOfRange,
   mk_exm X G0 ea_BadBid_BadBids eb_BadBid_BadBids ec_BadBid_BadBids e_BadBid,
   mk_exm X G0 ea_BadBids_BadBids eb_BadBids_BadBids ec_BadBids_BadBids e_BadBids,
   mk_exm X G0 ea_BadWord_BadBids eb_BadWord_BadBids ec_BadWord_BadBids e_BadWord,
   mk_exm X G0 ea_BadBidder_BadBids eb_BadBidder_BadBids ec_BadBidder_BadBids e_BadBidder,
   mk_exm X G0 ea_OutOfRange_BadBids eb_OutOfRange_BadBids ec_OutOfRange_BadBids e_OutOfRange,
   mk_exm X G0 ea_BadBid_OutOfRange eb_BadBid_OutOfRange ec_BadBid_OutOfRange e_BadBid,
   mk_exm X G0 ea_BadBids_OutOfRange eb_BadBids_OutOfRange ec_BadBids_OutOfRange e_BadBids,
   mk_exm X G0 ea_BadWord_OutOfRange eb_BadWord_OutOfRange ec_BadWord_OutOfRange e_BadWord,
   mk_exm X G0 ea_BadBidder_OutOfRange eb_BadBidder_OutOfRange ec_BadBidder_OutOfRange e_BadBidder,
   mk_exm X G0 ea_OutOfRange_OutOfRange eb_OutOfRange_OutOfRange ec_OutOfRange_OutOfRange e_OutOfRange⟩
end K06

open PySem PySem.W PyProof.Rows
set_option maxHeartbeats 0 in
theorem PySem.Challenge.cw_truebidsbest_k06_whole_shares_by_turns_holds : PySem.Challenge.rw_truebidsbest_k06_whole_shares_by_turns.Holds := by
  w_on; o_law; k_head; (case hw => w_witness2)
  k_fill
  refine G.walk_g (l := PySem.Challenge.rw_truebidsbest_k06_whole_shares_by_turns) (n := 63) (k := 17) (F := K06.f_law) rfl (by decide) rfl ⟨rfl, by decide, by decide⟩ (fun w h Y => PySem.W.kIn_of Y) ?C K06.good
  case C =>
    intro w mg h KX G0 base KB GB
    refine K06.c_law ?T
    refine' K06.mk_txt KX G0 ?a_is_bundle ?l_is_bundle ?k_is_bundle ?p_is_bundle ?a_inner ?l_inner ?k_inner ?p_inner ?a_check_goods ?l_check_goods ?k_check_goods ?p_check_goods ?a_number_of ?l_number_of ?k_number_of ?p_number_of ?a_within ?l_within ?k_within ?p_within ?a_parts_of ?l_parts_of ?k_parts_of ?p_parts_of ?a_together ?l_together ?k_together ?p_together ?a_most_of ?l_most_of ?k_most_of ?p_most_of ?a_up_to ?l_up_to ?k_up_to ?p_up_to ?a_worths ?l_worths ?k_worths ?p_worths ?a_check_bids ?l_check_bids ?k_check_bids ?p_check_bids ?a_check_all ?l_check_all ?k_check_all ?p_check_all ?a_weight_of ?l_weight_of ?k_weight_of ?p_weight_of ?a_is_ahead ?l_is_ahead ?k_is_ahead ?p_is_ahead ?a_order_of ?l_order_of ?k_order_of ?p_order_of ?a_won ?l_won ?k_won ?p_won ?a_winners ?l_winners ?k_winners ?p_winners ?a_wins_with ?l_wins_with ?k_wins_with ?p_wins_with ?a_least_for ?l_least_for ?k_least_for ?p_least_for ?a_least_winning ?l_least_winning ?k_least_winning ?p_least_winning ?a_paid ?l_paid ?k_paid ?p_paid ?a_book_of ?l_book_of ?k_book_of ?p_book_of ?a_best_sum ?l_best_sum ?k_best_sum ?p_best_sum ?a_l_draws ?l_l_draws ?k_l_draws ?p_l_draws ?a_l_mix ?l_l_mix ?k_l_mix ?p_l_mix ?a_l_order ?l_l_order ?k_l_order ?p_l_order ?a_l_won ?l_l_won ?k_l_won ?p_l_won ?a_l_with ?l_l_with ?k_l_with ?p_l_with ?a_l_best ?l_l_best ?k_l_best ?p_l_best ?a_l_gain ?l_l_gain ?k_l_gain ?p_l_gain ?a_l_least ?l_l_least ?k_l_least ?p_l_least ?a_l_fault ?l_l_fault ?k_l_fault ?p_l_fault ?a_l_faults ?l_l_faults ?k_l_faults ?p_l_faults ?a_l_bundle ?l_l_bundle ?k_l_bundle ?p_l_bundle ?a_law ?l_law ?k_law ?p_law ?z_len ?z_list ?z_sorted ?z_set ?z_sum ?z_range ?z_max ?z_min ?z_enumerate ?z_any ?z_dict ?z_tuple ?z_abs ?z_int ?z_repr ?i_MOST_GOODS ?u_POWERS ?v_POWERS ?i_MOST_BIDS ?i_MOST_WORTH ?u_MEASURES ?v_MEASURES ?e_OutOfRange ?e_BadBids ?e_BadBid ?e_BadWord ?e_BadBidder ?ea_BadBid_BadBidder ?eb_BadBid_BadBidder ?ec_BadBid_BadBidder ?ea_BadBids_BadBidder ?eb_BadBids_BadBidder ?ec_BadBids_BadBidder ?ea_BadWord_BadBidder ?eb_BadWord_BadBidder ?ec_BadWord_BadBidder ?ea_BadBidder_BadBidder ?eb_BadBidder_BadBidder ?ec_BadBidder_BadBidder ?ea_OutOfRange_BadBidder ?eb_OutOfRange_BadBidder ?ec_OutOfRange_BadBidder ?ea_BadBid_BadWord ?eb_BadBid_BadWord ?ec_BadBid_BadWord ?ea_BadBids_BadWord ?eb_BadBids_BadWord ?ec_BadBids_BadWord ?ea_BadWord_BadWord ?eb_BadWord_BadWord ?ec_BadWord_BadWord ?ea_BadBidder_BadWord ?eb_BadBidder_BadWord ?ec_BadBidder_BadWord ?ea_OutOfRange_BadWord ?eb_OutOfRange_BadWord ?ec_OutOfRange_BadWord ?ea_BadBid_BadBid ?eb_BadBid_BadBid ?ec_BadBid_BadBid ?ea_BadBids_BadBid ?eb_BadBids_BadBid ?ec_BadBids_BadBid ?ea_BadWord_BadBid ?eb_BadWord_BadBid ?ec_BadWord_BadBid ?ea_BadBidder_BadBid ?eb_BadBidder_BadBid ?ec_BadBidder_BadBid ?ea_OutOfRange_BadBid ?eb_OutOfRange_BadBid ?ec_OutOfRange_BadBid ?ea_BadBid_BadBids ?eb_BadBid_BadBids ?ec_BadBid_BadBids ?ea_BadBids_BadBids ?eb_BadBids_BadBids ?ec_BadBids_BadBids ?ea_BadWord_BadBids ?eb_BadWord_BadBids ?ec_BadWord_BadBids ?ea_BadBidder_BadBids ?eb_BadBidder_BadBids ?ec_BadBidder_BadBids ?ea_OutOfRange_BadBids ?eb_OutOfRange_BadBids ?ec_OutOfRange_BadBids ?ea_BadBid_OutOfRange ?eb_BadBid_OutOfRange ?ec_BadBid_OutOfRange ?ea_BadBids_OutOfRange ?eb_BadBids_OutOfRange ?ec_BadBids_OutOfRange ?ea_BadWord_OutOfRange ?eb_BadWord_OutOfRange ?ec_BadWord_OutOfRange ?ea_BadBidder_OutOfRange ?eb_BadBidder_OutOfRange ?ec_BadBidder_OutOfRange ?ea_OutOfRange_OutOfRange ?eb_OutOfRange_OutOfRange ?ec_OutOfRange_OutOfRange
    (case a_is_bundle => k_is)
    (case l_is_bundle => k_is)
    (case k_is_bundle => k_is)
    (case p_is_bundle => k_is)
    (case a_inner => k_is)
    (case l_inner => k_is)
    (case k_inner => k_is)
    (case p_inner => k_is)
    (case a_check_goods => k_is)
    (case l_check_goods => k_is)
    (case k_check_goods => k_is)
    (case p_check_goods => k_is)
    (case a_number_of => k_is)
    (case l_number_of => k_is)
    (case k_number_of => k_is)
    (case p_number_of => k_is)
    (case a_within => k_is)
    (case l_within => k_is)
    (case k_within => k_is)
    (case p_within => k_is)
    (case a_parts_of => k_is)
    (case l_parts_of => k_is)
    (case k_parts_of => k_is)
    (case p_parts_of => k_is)
    (case a_together => k_is)
    (case l_together => k_is)
    (case k_together => k_is)
    (case p_together => k_is)
    (case a_most_of => k_is)
    (case l_most_of => k_is)
    (case k_most_of => k_is)
    (case p_most_of => k_is)
    (case a_up_to => k_is)
    (case l_up_to => k_is)
    (case k_up_to => k_is)
    (case p_up_to => k_is)
    (case a_worths => k_is)
    (case l_worths => k_is)
    (case k_worths => k_is)
    (case p_worths => k_is)
    (case a_check_bids => k_is)
    (case l_check_bids => k_is)
    (case k_check_bids => k_is)
    (case p_check_bids => k_is)
    (case a_check_all => k_is)
    (case l_check_all => k_is)
    (case k_check_all => k_is)
    (case p_check_all => k_is)
    (case a_weight_of => k_is)
    (case l_weight_of => k_is)
    (case k_weight_of => k_is)
    (case p_weight_of => k_is)
    (case a_is_ahead => k_is)
    (case l_is_ahead => k_is)
    (case k_is_ahead => k_is)
    (case p_is_ahead => k_is)
    (case a_order_of => k_is)
    (case l_order_of => k_is)
    (case k_order_of => k_is)
    (case p_order_of => k_is)
    (case a_won => k_is)
    (case l_won => k_is)
    (case k_won => k_is)
    (case p_won => k_is)
    (case a_winners => k_is)
    (case l_winners => k_is)
    (case k_winners => k_is)
    (case p_winners => k_is)
    (case a_wins_with => k_is)
    (case l_wins_with => k_is)
    (case k_wins_with => k_is)
    (case p_wins_with => k_is)
    (case a_least_for => k_is)
    (case l_least_for => k_is)
    (case k_least_for => k_is)
    (case p_least_for => k_is)
    (case a_least_winning => k_is)
    (case l_least_winning => k_is)
    (case k_least_winning => k_is)
    (case p_least_winning => k_is)
    (case a_paid => k_is)
    (case l_paid => k_is)
    (case k_paid => k_is)
    (case p_paid => k_is)
    (case a_book_of => k_is)
    (case l_book_of => k_is)
    (case k_book_of => k_is)
    (case p_book_of => k_is)
    (case a_best_sum => k_is)
    (case l_best_sum => k_is)
    (case k_best_sum => k_is)
    (case p_best_sum => k_is)
    (case a_l_draws => k_is)
    (case l_l_draws => k_is)
    (case k_l_draws => k_is)
    (case p_l_draws => k_is)
    (case a_l_mix => k_is)
    (case l_l_mix => k_is)
    (case k_l_mix => k_is)
    (case p_l_mix => k_is)
    (case a_l_order => k_is)
    (case l_l_order => k_is)
    (case k_l_order => k_is)
    (case p_l_order => k_is)
    (case a_l_won => k_is)
    (case l_l_won => k_is)
    (case k_l_won => k_is)
    (case p_l_won => k_is)
    (case a_l_with => k_is)
    (case l_l_with => k_is)
    (case k_l_with => k_is)
    (case p_l_with => k_is)
    (case a_l_best => k_is)
    (case l_l_best => k_is)
    (case k_l_best => k_is)
    (case p_l_best => k_is)
    (case a_l_gain => k_is)
    (case l_l_gain => k_is)
    (case k_l_gain => k_is)
    (case p_l_gain => k_is)
    (case a_l_least => k_is)
    (case l_l_least => k_is)
    (case k_l_least => k_is)
    (case p_l_least => k_is)
    (case a_l_fault => k_is)
    (case l_l_fault => k_is)
    (case k_l_fault => k_is)
    (case p_l_fault => k_is)
    (case a_l_faults => k_is)
    (case l_l_faults => k_is)
    (case k_l_faults => k_is)
    (case p_l_faults => k_is)
    (case a_l_bundle => k_is)
    (case l_l_bundle => k_is)
    (case k_l_bundle => k_is)
    (case p_l_bundle => k_is)
    (case a_law => k_is)
    (case l_law => k_is)
    (case k_law => k_is)
    (case p_law => k_is)
    (case z_len => k_is)
    (case z_list => k_is)
    (case z_sorted => k_is)
    (case z_set => k_is)
    (case z_sum => k_is)
    (case z_range => k_is)
    (case z_max => k_is)
    (case z_min => k_is)
    (case z_enumerate => k_is)
    (case z_any => k_is)
    (case z_dict => k_is)
    (case z_tuple => k_is)
    (case z_abs => k_is)
    (case z_int => k_is)
    (case z_repr => k_is)
    (case i_MOST_GOODS => k_is)
    (case u_POWERS => k_is)
    (case v_POWERS => k_is)
    (case i_MOST_BIDS => k_is)
    (case i_MOST_WORTH => k_is)
    (case u_MEASURES => k_is)
    (case v_MEASURES => k_is)
    (case e_OutOfRange => refine' PySem.AeX.mk_err KX G0 ?gC ?cls ?hbm ?sa ?ga ?gg ?noN ?iC ?tC ?kC ?exC ?tyC ?hdC ?sup ?isD ?veC ?opq ?clD ?nsu ?top ?fn ?hcd ?hev ?code ?hvs ?hfile ?cell; (case gC => k_is); (case cls => k_is); (case hbm => rfl); (case sa => k_is); (case ga => k_is); (case gg => k_is); (case noN => k_is); (case iC => k_is); (case tC => k_is); (case kC => k_is); (case exC => k_is); (case tyC => k_is); (case hdC => k_is); (case veC => k_is); (case opq => k_is); (case nsu => k_is); (case top => rfl); (case fn => k_is); (case hcd => k_is); (case hev => exact fun _ => ⟨_, rfl⟩); (case code => k_is); (case hvs => rfl); (case hfile => rfl); (case cell => k_is); (case sup => ks_is); (case isD => k_is); (case clD => k_is))
    (case e_BadBids => refine' PySem.AeX.mk_err KX G0 ?gC ?cls ?hbm ?sa ?ga ?gg ?noN ?iC ?tC ?kC ?exC ?tyC ?hdC ?sup ?isD ?veC ?opq ?clD ?nsu ?top ?fn ?hcd ?hev ?code ?hvs ?hfile ?cell; (case gC => k_is); (case cls => k_is); (case hbm => rfl); (case sa => k_is); (case ga => k_is); (case gg => k_is); (case noN => k_is); (case iC => k_is); (case tC => k_is); (case kC => k_is); (case exC => k_is); (case tyC => k_is); (case hdC => k_is); (case veC => k_is); (case opq => k_is); (case nsu => k_is); (case top => rfl); (case fn => k_is); (case hcd => k_is); (case hev => exact fun _ => ⟨_, rfl⟩); (case code => k_is); (case hvs => rfl); (case hfile => rfl); (case cell => k_is); (case sup => ks_is); (case isD => k_is); (case clD => k_is))
    (case e_BadBid => refine' PySem.AeX.mk_err KX G0 ?gC ?cls ?hbm ?sa ?ga ?gg ?noN ?iC ?tC ?kC ?exC ?tyC ?hdC ?sup ?isD ?veC ?opq ?clD ?nsu ?top ?fn ?hcd ?hev ?code ?hvs ?hfile ?cell; (case gC => k_is); (case cls => k_is); (case hbm => rfl); (case sa => k_is); (case ga => k_is); (case gg => k_is); (case noN => k_is); (case iC => k_is); (case tC => k_is); (case kC => k_is); (case exC => k_is); (case tyC => k_is); (case hdC => k_is); (case veC => k_is); (case opq => k_is); (case nsu => k_is); (case top => rfl); (case fn => k_is); (case hcd => k_is); (case hev => exact fun _ => ⟨_, rfl⟩); (case code => k_is); (case hvs => rfl); (case hfile => rfl); (case cell => k_is); (case sup => ks_is); (case isD => k_is); (case clD => k_is))
    (case e_BadWord => refine' PySem.AeX.mk_err KX G0 ?gC ?cls ?hbm ?sa ?ga ?gg ?noN ?iC ?tC ?kC ?exC ?tyC ?hdC ?sup ?isD ?veC ?opq ?clD ?nsu ?top ?fn ?hcd ?hev ?code ?hvs ?hfile ?cell; (case gC => k_is); (case cls => k_is); (case hbm => rfl); (case sa => k_is); (case ga => k_is); (case gg => k_is); (case noN => k_is); (case iC => k_is); (case tC => k_is); (case kC => k_is); (case exC => k_is); (case tyC => k_is); (case hdC => k_is); (case veC => k_is); (case opq => k_is); (case nsu => k_is); (case top => rfl); (case fn => k_is); (case hcd => k_is); (case hev => exact fun _ => ⟨_, rfl⟩); (case code => k_is); (case hvs => rfl); (case hfile => rfl); (case cell => k_is); (case sup => ks_is); (case isD => k_is); (case clD => k_is))
    (case e_BadBidder => refine' PySem.AeX.mk_err KX G0 ?gC ?cls ?hbm ?sa ?ga ?gg ?noN ?iC ?tC ?kC ?exC ?tyC ?hdC ?sup ?isD ?veC ?opq ?clD ?nsu ?top ?fn ?hcd ?hev ?code ?hvs ?hfile ?cell; (case gC => k_is); (case cls => k_is); (case hbm => rfl); (case sa => k_is); (case ga => k_is); (case gg => k_is); (case noN => k_is); (case iC => k_is); (case tC => k_is); (case kC => k_is); (case exC => k_is); (case tyC => k_is); (case hdC => k_is); (case veC => k_is); (case opq => k_is); (case nsu => k_is); (case top => rfl); (case fn => k_is); (case hcd => k_is); (case hev => exact fun _ => ⟨_, rfl⟩); (case code => k_is); (case hvs => rfl); (case hfile => rfl); (case cell => k_is); (case sup => ks_is); (case isD => k_is); (case clD => k_is))
    (case ea_BadBid_BadBidder => k_is)
    (case eb_BadBid_BadBidder => k_is)
    (case ec_BadBid_BadBidder => kts_exm)
    (case ea_BadBids_BadBidder => k_is)
    (case eb_BadBids_BadBidder => k_is)
    (case ec_BadBids_BadBidder => kts_exm)
    (case ea_BadWord_BadBidder => k_is)
    (case eb_BadWord_BadBidder => k_is)
    (case ec_BadWord_BadBidder => kts_exm)
    (case ea_BadBidder_BadBidder => k_is)
    (case eb_BadBidder_BadBidder => k_is)
    (case ec_BadBidder_BadBidder => kts_exm)
    (case ea_OutOfRange_BadBidder => k_is)
    (case eb_OutOfRange_BadBidder => k_is)
    (case ec_OutOfRange_BadBidder => kts_exm)
    (case ea_BadBid_BadWord => k_is)
    (case eb_BadBid_BadWord => k_is)
    (case ec_BadBid_BadWord => kts_exm)
    (case ea_BadBids_BadWord => k_is)
    (case eb_BadBids_BadWord => k_is)
    (case ec_BadBids_BadWord => kts_exm)
    (case ea_BadWord_BadWord => k_is)
    (case eb_BadWord_BadWord => k_is)
    (case ec_BadWord_BadWord => kts_exm)
    (case ea_BadBidder_BadWord => k_is)
    (case eb_BadBidder_BadWord => k_is)
    (case ec_BadBidder_BadWord => kts_exm)
    (case ea_OutOfRange_BadWord => k_is)
    (case eb_OutOfRange_BadWord => k_is)
    (case ec_OutOfRange_BadWord => kts_exm)
    (case ea_BadBid_BadBid => k_is)
    (case eb_BadBid_BadBid => k_is)
    (case ec_BadBid_BadBid => kts_exm)
    (case ea_BadBids_BadBid => k_is)
    (case eb_BadBids_BadBid => k_is)
    (case ec_BadBids_BadBid => kts_exm)
    (case ea_BadWord_BadBid => k_is)
    (case eb_BadWord_BadBid => k_is)
    (case ec_BadWord_BadBid => kts_exm)
    (case ea_BadBidder_BadBid => k_is)
    (case eb_BadBidder_BadBid => k_is)
    (case ec_BadBidder_BadBid => kts_exm)
    (case ea_OutOfRange_BadBid => k_is)
    (case eb_OutOfRange_BadBid => k_is)
    (case ec_OutOfRange_BadBid => kts_exm)
    (case ea_BadBid_BadBids => k_is)
    (case eb_BadBid_BadBids => k_is)
    (case ec_BadBid_BadBids => kts_exm)
    (case ea_BadBids_BadBids => k_is)
    (case eb_BadBids_BadBids => k_is)
    (case ec_BadBids_BadBids => kts_exm)
    (case ea_BadWord_BadBids => k_is)
    (case eb_BadWord_BadBids => k_is)
    (case ec_BadWord_BadBids => kts_exm)
    (case ea_BadBidder_BadBids => k_is)
    (case eb_BadBidder_BadBids => k_is)
    (case ec_BadBidder_BadBids => kts_exm)
    (case ea_OutOfRange_BadBids => k_is)
    (case eb_OutOfRange_BadBids => k_is)
    (case ec_OutOfRange_BadBids => kts_exm)
    (case ea_BadBid_OutOfRange => k_is)
    (case eb_BadBid_OutOfRange => k_is)
    (case ec_BadBid_OutOfRange => kts_exm)
    (case ea_BadBids_OutOfRange => k_is)
    (case eb_BadBids_OutOfRange => k_is)
    (case ec_BadBids_OutOfRange => kts_exm)
    (case ea_BadWord_OutOfRange => k_is)
    (case eb_BadWord_OutOfRange => k_is)
    (case ec_BadWord_OutOfRange => kts_exm)
    (case ea_BadBidder_OutOfRange => k_is)
    (case eb_BadBidder_OutOfRange => k_is)
    (case ec_BadBidder_OutOfRange => kts_exm)
    (case ea_OutOfRange_OutOfRange => k_is)
    (case eb_OutOfRange_OutOfRange => k_is)
    (case ec_OutOfRange_OutOfRange => kts_exm)

