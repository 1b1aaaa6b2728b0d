import PyProof.Rows.All
import Wide.All
import OpenK.AllK
import Wide.FinOn
import KE.KStateDown
import HandS.ForMost
import HandS.ForExc
import HandS.Walk
import HandS.Defaults
import HandS.Exc
import HandS.HeadHook1
import HandS.IsInst
import HandS.TupAny
import HandS.Deep
import HandS.Wide
import HandS.SortKw
import HandS.CallSlots
import HandS.More
import HandS.SetFor
import HandS.Style
import HandS.RaiseMore
import HandS.SortInts
import Lean
import HandS.Head0
import HandS.Head1
import HandS.Head2
import HandS.HeadEnd
import HandS.HeadHook2
import HandS.Iter
import HandS.Zip
import HandS.ExcOwn
import HandS.ExcInit
import HandS.ExcIs
import HandS.ExcField
import KE.KExcIs
import HandS.HeadHook4
import HandS.Conv
import PyProof.ReprBulk
import PyProof.FitsInt
import PySem.Challenge.RW_kindtrails_k13_wrong_goings
set_option Elab.async false
set_option linter.all false
section T_KD1
set_option maxRecDepth 100000
/-! KD1: values as trees: how they lie in the heap (Rp), what grows (Grow, Mono), the slots (RE), the readings tD, tT, tS. -/
namespace Kd
open PySem PySem.Spec PyProof.Rows L2

/-- an exception's object at a: of the class at C, its own dict at d -/
def exq (a C : Addr) (d : Option Addr) : HO := .ext fun h => ∃ oe vs, h.get? a = some oe ∧ Zc (.ref C) d oe ∧ oe.data = .fields vs
theorem exq_ok {P : Program} {w : World} {H : Hp} {h : Heap} {a C : Addr} {d : Option Addr} {oe : Obj} {vs : Array Value} (e : h.get? a = some oe) (z : Zc (.ref C) d oe) (hd : oe.data = .fields vs) : ObjOk P w H h a (exq a C d) :=
  ⟨⟨oe, vs, e, z, hd⟩, ⟨oe, e⟩, fun _ _ ⟨o, us, q1, q2, q3⟩ k => ⟨o, us, k _ q1, q2, q3⟩⟩
theorem exq_at {P : Program} {w : World} {H : Hp} {h : Heap} {a C : Addr} {d : Option Addr} (hok : HOk P w H h) (e : H a = some (exq a C d)) : ∃ oe vs, h.get? a = some oe ∧ Zc (.ref C) d oe ∧ oe.data = .fields vs := (hok _ _ e).1
/-- the name of an exception's one field -/
def fldN (c : Str) : Str := if c = ("Barred" : Str) then "reason" else "line"
/-- an exception as data: its class's name, its field -/
def excD (c : Str) : Option PyData → PyData
  | none => .dict [(.none, .str c)]
  | some d => .dict [(.none, .str c), (.none, d)]
def kD : Key → PyData
  | .inl i => .int i
  | .inr x => .str x

/-- a list that stays: one of F's, or of the written part -/
def LsA (K : PySem.W.Frag) (F : Addr → Prop) (H : Hp) (a : Addr) (vs : List V) : Prop :=
  (F a ∧ Rd H a (.lst vs)) ∨ ∃ (o : Obj) (its : Array Value) (n : Nat), K.lookup a = some o ∧ o.cls = .type "list" ∧ o.dict = none ∧ o.data = .seq its n ∧ its.size ≤ sizeLine ∧ Vals vs its.toList
theorem LsA.sq {K : PySem.W.Frag} {F : Addr → Prop} {H : Hp} {a : Addr} {vs : List V} (h : LsA K F H a vs) : SqL K H a vs := h.imp (fun x => x.2) id
mutual
/-- the value v lies in H as the tree d; F: what stays as it is -/
inductive Rp (K : PySem.W.Frag) (F : Addr → Prop) (H : Hp) : V → PyData → Prop
  | non : Rp K F H .non .none
  | bl (b : Bool) : Rp K F H (.bl b) (.bool b)
  | int (i : Int) : Rp K F H (.int i) (.int i)
  | str (x : Str) : Rp K F H (.str x) (.str x)
  | lst {a : Addr} {vs : List V} {ds : List PyData} : LsA K F H a vs → Rps K F H vs ds → Rp K F H (.ref a) (.list ds)
  | tup {a : Addr} {vs : List V} {ds : List PyData} : SqT K H a vs → Rps K F H vs ds → Rp K F H (.ref a) (.tuple ds)
  | dK {a : Addr} {ws : List (Key × V)} {kvs : List (PyData × PyData)} : F a → Rd H a (.dK ws) → RpK K F H ws kvs → Rp K F H (.ref a) (.dict kvs)
  | dT {a : Addr} {ws : List (List Key × V)} {kvs : List (PyData × PyData)} : F a → Rd H a (.dT ws) → RpT K F H ws kvs → Rp K F H (.ref a) (.dict kvs)
  | exN {a : Addr} {c : Str} : F a → Rd H a (exq a (He.ga K c) none) → Rp K F H (.ref a) (.dict [(.none, .str c)])
  | exS {a dd : Addr} {c : Str} {v : V} {d : PyData} : F a → F dd → Rd H a (exq a (He.ga K c) (some dd)) → Rd H dd (.xd [(fldN c, v)]) → Rp K F H v d → Rp K F H (.ref a) (.dict [(.none, .str c), (.none, d)])
inductive Rps (K : PySem.W.Frag) (F : Addr → Prop) (H : Hp) : List V → List PyData → Prop
  | nil : Rps K F H [] []
  | cons {v : V} {vs : List V} {d : PyData} {ds : List PyData} : Rp K F H v d → Rps K F H vs ds → Rps K F H (v :: vs) (d :: ds)
inductive RpK (K : PySem.W.Frag) (F : Addr → Prop) (H : Hp) : List (Key × V) → List (PyData × PyData) → Prop
  | nil : RpK K F H [] []
  | cons {k : Key} {v : V} {ws : List (Key × V)} {d : PyData} {kvs : List (PyData × PyData)} : Rp K F H v d → RpK K F H ws kvs → RpK K F H ((k, v) :: ws) ((kD k, d) :: kvs)
inductive RpT (K : PySem.W.Frag) (F : Addr → Prop) (H : Hp) : List (List Key × V) → List (PyData × PyData) → Prop
  | nil : RpT K F H [] []
  | cons {k : List Key} {v : V} {ws : List (List Key × V)} {d : PyData} {kvs : List (PyData × PyData)} : Rp K F H v d → RpT K F H ws kvs → RpT K F H ((k, v) :: ws) ((.tuple (k.map kD), d) :: kvs)
end

/-- what stays: F's objects, the tuples -/
structure Mono (K : PySem.W.Frag) (F : Addr → Prop) (H : Hp) (F' : Addr → Prop) (H' : Hp) : Prop where
  sub : ∀ a, F a → F' a
  ex : ∀ a o, F a → H a = some o → H' a = some o
  tup : ∀ a xs, SqT K H a xs → SqT K H' a xs
/-- .. and what else stays is new; nothing is forgotten -/
structure Mn (K : PySem.W.Frag) (F : Addr → Prop) (H : Hp) (F' : Addr → Prop) (H' : Hp) : Prop extends Mono K F H F' H' where
  new : ∀ a, F' a → F a ∨ H a = none
  keep : ∀ a, H a ≠ none → H' a ≠ none
/-- new objects alone -/
structure Grow (F : Addr → Prop) (H : Hp) (F' : Addr → Prop) (H' : Hp) : Prop where
  same : Same H H'
  sub : ∀ a, F a → F' a
  new : ∀ a, F' a → F a ∨ H a = none
  dom : ∀ a, F' a → H' a ≠ none
section
variable {K : PySem.W.Frag} {F F' F'' : Addr → Prop} {H H' H'' : Hp}
theorem Mono.rd (m : Mono K F H F' H') (a : Addr) (u : HO) (hF : F a) (h : Rd H a u) : Rd H' a u := by
  rcases h with h | ⟨o, h⟩
  · exact .inl (m.ex _ _ hF h)
  · exact .inr ⟨o, m.ex _ _ hF h⟩
theorem Same.rd (e : Same H H') {a : Addr} {u : HO} (h : Rd H a u) : Rd H' a u := by
  rcases h with h | ⟨o, h⟩
  · exact .inl (e _ _ h)
  · exact .inr ⟨o, e _ _ h⟩
theorem Same.sqT (e : Same H H') {a : Addr} {xs : List V} (h : SqT K H a xs) : SqT K H' a xs := by
  rcases h with h | h
  · exact .inl (Kd.Same.rd e h)
  · exact .inr h
theorem Grow.mono (g : Grow F H F' H') : Mono K F H F' H' := ⟨g.sub, fun _ _ _ h => g.same _ _ h, fun _ _ h => Kd.Same.sqT g.same h⟩
theorem Grow.refl (dom : ∀ a, F a → H a ≠ none) : Grow F H F H := ⟨L2.Same.refl H, fun _ h => h, fun _ h => .inl h, dom⟩
theorem Grow.trans (a : Grow F H F' H') (b : Grow F' H' F'' H'') : Grow F H F'' H'' := by
  refine ⟨a.same.trans b.same, fun x h => b.sub x (a.sub x h), fun x h => ?_, b.dom⟩
  rcases b.new x h with h | h
  · exact a.new x h
  · exact .inr (a.same.free h)
theorem Mono.refl : Mono K F H F H := ⟨fun _ h => h, fun _ _ _ h => h, fun _ _ h => h⟩
theorem Mono.trans (a : Mono K F H F' H') (b : Mono K F' H' F'' H'') : Mono K F H F'' H'' :=
  ⟨fun x h => b.sub x (a.sub x h), fun x u h r => b.ex x u (a.sub x h) (a.ex x u h r), fun x xs h => b.tup x xs (a.tup x xs h)⟩
theorem Same.ne (e : Same H H') {a : Addr} (h : H a ≠ none) : H' a ≠ none := by
  cases q : H a with
  | none => exact absurd q h
  | some o => rw [e _ _ q]; simp
theorem Grow.mn (g : Grow F H F' H') : Mn K F H F' H' := ⟨g.mono, g.new, fun _ h => Kd.Same.ne g.same h⟩
theorem Mn.refl : Mn K F H F H := ⟨Mono.refl, fun _ h => .inl h, fun _ h => h⟩
theorem Mn.trans (a : Mn K F H F' H') (b : Mn K F' H' F'' H'') : Mn K F H F'' H'' := by
  refine ⟨a.toMono.trans b.toMono, fun x h => ?_, fun x h => b.keep x (a.keep x h)⟩
  rcases b.new x h with h | h
  · exact a.new x h
  · by_cases q : H x = none
    · exact .inr q
    · exact absurd h (a.keep x q)
/-- a new object at p -/
theorem Grow.atp (dom : ∀ a, F a → H a ≠ none) {p : Addr} {o : HO} (np : H p = none) : Grow F H (fun a => F a ∨ a = p) (upd H p o) := by
  refine ⟨fun b u h => ?_, fun _ h => .inl h, fun a h => ?_, fun a h => ?_⟩
  · rw [upd_ne (ne_of_none h np)]; exact h
  · rcases h with h | rfl
    · exact .inl h
    · exact .inr np
  · rcases h with h | rfl
    · by_cases e : a = p
      · subst e; rw [upd_same]; simp
      · rw [upd_ne e]; exact dom a h
    · rw [upd_same]; simp
theorem Grow.att (dom : ∀ a, F a → H a ≠ none) {p : Addr} {o : HO} (np : H p = none) : Grow F H F (upd H p o) := by
  refine ⟨fun b u h => ?_, fun _ h => h, fun a h => .inl h, fun a h => ?_⟩
  · rw [upd_ne (ne_of_none h np)]; exact h
  · by_cases e : a = p
    · subst e; rw [upd_same]; simp
    · rw [upd_ne e]; exact dom a h
mutual
theorem Rp.mono (m : Mono K F H F' H') : ∀ {v : V} {d : PyData}, Rp K F H v d → Rp K F' H' v d
  | _, _, .non => .non
  | _, _, .bl b => .bl b
  | _, _, .int i => .int i
  | _, _, .str x => .str x
  | _, _, .lst h q => .lst (h.imp (fun x => ⟨m.sub _ x.1, m.rd _ _ x.1 x.2⟩) id) (Rps.mono m q)
  | _, _, .tup r q => .tup (m.tup _ _ r) (Rps.mono m q)
  | _, _, .dK h r q => .dK (m.sub _ h) (m.rd _ _ h r) (RpK.mono m q)
  | _, _, .dT h r q => .dT (m.sub _ h) (m.rd _ _ h r) (RpT.mono m q)
  | _, _, .exN h r => .exN (m.sub _ h) (m.rd _ _ h r)
  | _, _, .exS h h2 r r2 q => .exS (m.sub _ h) (m.sub _ h2) (m.rd _ _ h r) (m.rd _ _ h2 r2) (Rp.mono m q)
theorem Rps.mono (m : Mono K F H F' H') : ∀ {vs : List V} {ds : List PyData}, Rps K F H vs ds → Rps K F' H' vs ds
  | _, _, .nil => .nil
  | _, _, .cons h t => .cons (Rp.mono m h) (Rps.mono m t)
theorem RpK.mono (m : Mono K F H F' H') : ∀ {vs : List (Key × V)} {ds : List (PyData × PyData)}, RpK K F H vs ds → RpK K F' H' vs ds
  | _, _, .nil => .nil
  | _, _, .cons h t => .cons (Rp.mono m h) (RpK.mono m t)
theorem RpT.mono (m : Mono K F H F' H') : ∀ {vs : List (List Key × V)} {ds : List (PyData × PyData)}, RpT K F H vs ds → RpT K F' H' vs ds
  | _, _, .nil => .nil
  | _, _, .cons h t => .cons (Rp.mono m h) (RpT.mono m t)
end
theorem Rps.length : ∀ {vs : List V} {ds : List PyData}, Rps K F H vs ds → vs.length = ds.length
  | _, _, .nil => rfl
  | _, _, .cons _ t => congrArg (· + 1) (Rps.length t)
theorem Rps.get : ∀ {vs : List V} {ds : List PyData} {i : Nat} {d : PyData}, Rps K F H vs ds → ds[i]? = some d → ∃ v, vs[i]? = some v ∧ Rp K F H v d
  | _, _, _, _, .nil, e => by simp at e
  | _, _, 0, _, .cons r _, e => by simp at e; subst e; exact ⟨_, rfl, r⟩
  | _, _, i + 1, _, .cons _ t, e => by
    obtain ⟨v, h1, h2⟩ := Rps.get (i := i) t (by simpa using e)
    exact ⟨v, by simpa using h1, h2⟩
theorem Rps.append : ∀ {vs us : List V} {ds es : List PyData}, Rps K F H vs ds → Rps K F H us es → Rps K F H (vs ++ us) (ds ++ es)
  | _, _, _, _, .nil, h => h
  | _, _, _, _, .cons r t, h => .cons r (Rps.append t h)
theorem Rps.one {v : V} {d : PyData} (h : Rp K F H v d) : Rps K F H [v] [d] := .cons h .nil
end

/-! ### what runs: Rs, environments -/
inductive Rs (α : Type) where
  | ok (a : α)
  | exc (c : Str) (d : Option PyData)
  | bad
def Rs.bind {α β : Type} (x : Rs α) (f : α → Rs β) : Rs β :=
  match x with
  | .ok a => f a
  | .exc c d => .exc c d
  | .bad => .bad
theorem Rs.bind_ok {α β : Type} {x : Rs α} {f : α → Rs β} {b : β} (h : x.bind f = .ok b) : ∃ a, x = .ok a ∧ f a = .ok b := by
  cases x with
  | ok a => exact ⟨a, rfl, h⟩
  | exc c d => cases h
  | bad => cases h
/-- a value that may not be there -/
def Rs.opt {α β : Type} (x : Option α) (f : α → Rs β) : Rs β :=
  match x with
  | some a => f a
  | none => .bad
/-- a value under a condition -/
def iff' {α : Type} (c : Bool) (x : α) : Option α := if c then some x else none
theorem iff_some {α : Type} {c : Bool} {x a : α} (h : iff' c x = some a) : c = true ∧ x = a := by
  cases c with
  | true => exact ⟨rfl, Option.some.inj h⟩
  | false => cases h

abbrev Sl := L2.St
abbrev Ev := List (Option PyData)
abbrev EM := Ev → Rs (Ev × PyData)
abbrev TM := Ev → Rs (Ev × Bool)
inductive Fl where
  | nx (ρ : Ev)
  | rt (ρ : Ev) (d : PyData)
  | bk (ρ : Ev)
  | ct (ρ : Ev)
abbrev SM := Ev → Rs Fl
def gt (ρ : Ev) (i : Nat) : Option PyData := (ρ[i]?).getD none
theorem gt_ok {ρ : Ev} {i : Nat} {d : PyData} (h : gt ρ i = some d) : ρ[i]? = some (some d) := by
  unfold gt at h
  cases e : ρ[i]? with
  | none => rw [e] at h; cases h
  | some o => rw [e] at h; exact congrArg some h

/-! ### the slots -/
/-- the entry of a def: its heap, what stays, the slots of what it may change with their addresses, what is wanted of an exception -/
structure Bs (io : List Nat) where
  H0 : Hp
  F0 : Addr → Prop
  IO : List (Nat × Addr)
  mg : Str → Option Value
  W : WX
  fr : Bool
  hio : IO.map (·.1) = io
abbrev Bs.A0 {io : List Nat} (B : Bs io) : List Addr := B.IO.map (·.2)
inductive OwnV (K : PySem.W.Frag) (F : Addr → Prop) (H : Hp) (a : Addr) : PyData → Prop
  | lst {vs : List V} {ds : List PyData} : H a = some (HO.lst vs) → Rps K F H vs ds → OwnV K F H a (.list ds)
  | dK {ws : List (Key × V)} {kvs : List (PyData × PyData)} : H a = some (HO.dK ws) → RpK K F H ws kvs → OwnV K F H a (.dict kvs)
  | dT {ws : List (List Key × V)} {kvs : List (PyData × PyData)} : H a = some (HO.dT ws) → RpT K F H ws kvs → OwnV K F H a (.dict kvs)
structure RE (K : PySem.W.Frag) {io : List Nat} (B : Bs io) (own : List Nat) (F : Addr → Prop) (ρ : Ev) (σ : Sl) (H : Hp) : Prop where
  len : ρ.length = σ.length
  fz : ∀ i d, i ∉ own → ρ[i]? = some (some d) → ∃ v, σ[i]? = some (some v) ∧ Rp K F H v d
  ow : ∀ i d, i ∈ own → ρ[i]? = some (some d) → ∃ a, σ[i]? = some (some (V.ref a)) ∧ ¬ F a ∧ (B.H0 a = none ∨ a ∈ B.A0) ∧ OwnV K F H a d
  ne : ∀ i j d e, i ∈ own → j ∈ own → i ≠ j → ρ[i]? = some (some d) → ρ[j]? = some (some e) → σ[i]? ≠ σ[j]?
  dom : ∀ a, F a → H a ≠ none
  old : ∀ b o, B.H0 b = some o → b ∉ B.A0 → H b = some o
  fold : ∀ a, B.F0 a → F a
  fnew : ∀ a, F a → B.F0 a ∨ B.H0 a = none
  io : ∀ p ∈ B.IO, σ[p.1]? = some (some (V.ref p.2)) ∧ p.1 ∈ own ∧ ∃ d, ρ[p.1]? = some (some d)
  un : ∀ i : Nat, ρ[i]? = some none → σ[i]? = some none
section
variable {K : PySem.W.Frag} {io : List Nat} {B : Bs io} {own own' : List Nat} {F F' F'' : Addr → Prop} {H H' H'' : Hp} {ρ : Ev} {σ : Sl}
theorem OwnV.mono {a : Addr} {d : PyData} (m : Mono K F H F' H') (e : H' a = H a) (h : OwnV K F H a d) : OwnV K F' H' a d := by
  cases h with
  | lst h r => exact .lst (e.trans h) (r.mono m)
  | dK h r => exact .dK (e.trans h) (r.mono m)
  | dT h r => exact .dT (e.trans h) (r.mono m)
theorem OwnV.grow {a : Addr} {d : PyData} (g : Grow F H F' H') (h : OwnV K F H a d) : OwnV K F' H' a d := by
  cases h with
  | lst h r => exact .lst (g.same _ _ h) (r.mono g.mono)
  | dK h r => exact .dK (g.same _ _ h) (r.mono g.mono)
  | dT h r => exact .dT (g.same _ _ h) (r.mono g.mono)
theorem OwnV.there {a : Addr} {d : PyData} (h : OwnV K F H a d) : H a ≠ none := by
  cases h with
  | lst h r => rw [h]; simp
  | dK h r => rw [h]; simp
  | dT h r => rw [h]; simp
theorem OwnV.rp {a : Addr} {d : PyData} (h : OwnV K F H a d) (hF : F a) : Rp K F H (.ref a) d := by
  cases h with
  | lst h r => exact .lst (.inl ⟨hF, .inl h⟩) r
  | dK h r => exact .dK hF (.inl h) r
  | dT h r => exact .dT hF (.inl h) r
theorem RE.a0 (r : RE K B own F ρ σ H) : ∀ a ∈ B.A0, H a ≠ none := fun a h => by
  obtain ⟨p, hp, rfl⟩ := List.mem_map.mp h
  obtain ⟨h1, h2, d, h3⟩ := r.io p hp
  obtain ⟨b, e, _, _, q⟩ := r.ow _ d h2 h3
  rw [h1] at e; cases e
  exact q.there
theorem RE.h0 (r : RE K B own F ρ σ H) {a : Addr} (z : H a = none) : B.H0 a = none := by
  cases e : B.H0 a with
  | none => rfl
  | some o =>
    have hA : a ∉ B.A0 := fun q => r.a0 a q z
    have := r.old a o e hA
    rw [z] at this; cases this
theorem RE.notIn (r : RE K B own F ρ σ H) {a : Addr} (z : H a = none) : ∀ j ∈ own, σ[j]? ≠ some (some (V.ref a)) := fun j hj q => by
  cases e : ρ[j]? with
  | none =>
    have h1 : ρ.length ≤ j := List.getElem?_eq_none_iff.mp e
    have h2 := (List.getElem?_eq_some_iff.mp q).1
    rw [← r.len] at h2
    omega
  | some o =>
    cases o with
    | none => rw [r.un j e] at q; cases q
    | some d =>
      obtain ⟨b, h1, _, _, h4⟩ := r.ow j d hj e
      rw [q] at h1; cases h1
      exact h4.there z
theorem RE.grow (r : RE K B own F ρ σ H) (g : Grow F H F' H') : RE K B own F' ρ σ H' := by
  refine ⟨r.len, fun i d hi e => ?_, fun i d hi e => ?_, r.ne, g.dom, fun b o h h' => g.same _ _ (r.old b o h h'), fun a h => g.sub a (r.fold a h), fun a h => ?_, r.io, r.un⟩
  · obtain ⟨v, h1, h2⟩ := r.fz i d hi e
    exact ⟨v, h1, h2.mono g.mono⟩
  · obtain ⟨a, h1, h2, h3, h4⟩ := r.ow i d hi e
    refine ⟨a, h1, fun q => ?_, h3, h4.grow g⟩
    rcases g.new a q with z | z
    · exact h2 z
    · exact h4.there z
  · rcases g.new a h with z | z
    · exact r.fnew a z
    · exact .inr (r.h0 z)
/-- what stays, and what the slots hold that are no longer owned -/
def frzF (own own' : List Nat) (F : Addr → Prop) (ρ : Ev) (σ : Sl) : Addr → Prop := fun a => F a ∨ ∃ i d, i ∈ own ∧ i ∉ own' ∧ ρ[i]? = some (some d) ∧ σ[i]? = some (some (V.ref a))
/-- fewer slots are owned: the others stay as they are from here on -/
theorem RE.freezeX (r : RE K B own F ρ σ H) (sub : ∀ i ∈ own', i ∈ own) (hio : ∀ i ∈ io, i ∈ own') :
    RE K B own' (frzF own own' F ρ σ) ρ σ H ∧ Mono K F H (frzF own own' F ρ σ) H ∧ ∀ a, frzF own own' F ρ σ a → F a ∨ ∃ i ∈ own, σ[i]? = some (some (V.ref a)) ∧ i ∉ own' := by
  have hio' : ∀ p ∈ B.IO, p.1 ∈ own' := fun p hp => hio _ (by rw [← B.hio]; exact List.mem_map.mpr ⟨p, hp, rfl⟩)
  refine ⟨?_, ?_, ?_⟩
  · have mo : Mono K F H (frzF own own' F ρ σ) H := ⟨fun _ h => .inl h, fun _ _ _ h => h, fun _ _ h => h⟩
    refine ⟨r.len, fun i d hi e => ?_, fun i d hi e => ?_, fun i j d e hi hj => r.ne i j d e (sub i hi) (sub j hj), fun a h => ?_, r.old, fun a h => .inl (r.fold a h), fun a h => ?_, fun p hp => ⟨(r.io p hp).1, hio' p hp, (r.io p hp).2.2⟩, r.un⟩
    · by_cases ho : i ∈ own
      · obtain ⟨a, h1, h2, h3, h4⟩ := r.ow i d ho e
        exact ⟨_, h1, (h4.mono mo rfl).rp (.inr ⟨i, d, ho, hi, e, h1⟩)⟩
      · obtain ⟨v, h1, h2⟩ := r.fz i d ho e
        exact ⟨v, h1, h2.mono mo⟩
    · obtain ⟨a, h1, h2, h3, h4⟩ := r.ow i d (sub i hi) e
      refine ⟨a, h1, fun q => ?_, h3, h4.mono mo rfl⟩
      rcases q with q | ⟨j, d', hj, hj', e', q⟩
      · exact h2 q
      · exact r.ne i j d d' (sub i hi) hj (fun z => hj' (z ▸ hi)) e e' (h1.trans q.symm)
    · rcases h with h | ⟨j, d', hj, hj', e', q⟩
      · exact r.dom a h
      · obtain ⟨b, h1, h2, h3, h4⟩ := r.ow j d' hj e'
        rw [q] at h1; cases h1
        exact h4.there
    · rcases h with h | ⟨j, d', hj, hj', e', q⟩
      · exact r.fnew a h
      · obtain ⟨b, h1, h2, h3, h4⟩ := r.ow j d' hj e'
        rw [q] at h1; cases h1
        rcases h3 with h3 | h3
        · exact .inr h3
        · obtain ⟨p, hp, e2⟩ := List.mem_map.mp h3
          obtain ⟨q1, q2, d2, q3⟩ := r.io p hp
          refine absurd (q1.trans ?_) (r.ne p.1 j d2 d' q2 hj (fun z => hj' (z ▸ hio' p hp)) q3 e')
          rw [e2]; exact q.symm
  · exact ⟨fun _ h => .inl h, fun _ _ _ h => h, fun _ _ h => h⟩
  · intro a h
    rcases h with h | ⟨i, d, h1, h2, _, h4⟩
    · exact .inl h
    · exact .inr ⟨i, h1, h4, h2⟩
theorem RE.freeze' (r : RE K B own F ρ σ H) (sub : ∀ i ∈ own', i ∈ own) (hio : ∀ i ∈ io, i ∈ own') :
    ∃ F', RE K B own' F' ρ σ H ∧ Mono K F H F' H ∧ ∀ a, F' a → F a ∨ ∃ i ∈ own, σ[i]? = some (some (V.ref a)) ∧ i ∉ own' := ⟨_, r.freezeX sub hio⟩
/-- fewer slots are owned: the others stay as they are from here on -/
theorem RE.freeze (r : RE K B own F ρ σ H) (sub : ∀ i ∈ own', i ∈ own) (hio : ∀ i ∈ io, i ∈ own') :
    ∃ F', RE K B own' F' ρ σ H ∧ Mono K F H F' H := let ⟨F', r1, r2, _⟩ := r.freeze' sub hio; ⟨F', r1, r2⟩
theorem RE.unSet (r : RE K B own F ρ σ H) {i : Nat} {v : V} {d : PyData} : ∀ j : Nat, (ρ.set i (some d))[j]? = some none → (σ.set i (some v))[j]? = some none := fun j q => by
  by_cases hji : j = i
  · subst hji
    have hl : j < ρ.length := by
      have := (List.getElem?_eq_some_iff.mp q).1
      simpa using this
    rw [List.getElem?_set_self hl] at q; cases q
  · rw [List.getElem?_set_ne (Ne.symm hji)] at q ⊢
    exact r.un j q
theorem RE.unSet' (r : RE K B own F ρ σ H) {i : Nat} {d : PyData} : ∀ j : Nat, (ρ.set i (some d))[j]? = some none → σ[j]? = some none := fun j q => by
  by_cases hji : j = i
  · subst hji
    have hl : j < ρ.length := by
      have := (List.getElem?_eq_some_iff.mp q).1
      simpa using this
    rw [List.getElem?_set_self hl] at q; cases q
  · rw [List.getElem?_set_ne (Ne.symm hji)] at q
    exact r.un j q
/-- a slot that stays is set -/
theorem RE.set (r : RE K B own F ρ σ H) {i : Nat} {v : V} {d : PyData} (rp : Rp K F H v d) (ho : i ∉ io) : RE K B (own.filter (· ≠ i)) F (ρ.set i (some d)) (σ.set i (some v)) H := by
  have ni : ∀ {j}, j ∈ own.filter (· ≠ i) → j ≠ i ∧ j ∈ own := fun {j} h => by
    have := List.mem_filter.mp h
    exact ⟨by simpa using this.2, this.1⟩
  have gne : ∀ {j}, j ≠ i → (ρ.set i (some d))[j]? = ρ[j]? := fun {j} h => List.getElem?_set_ne (Ne.symm h)
  have sne : ∀ {j}, j ≠ i → (σ.set i (some v))[j]? = σ[j]? := fun {j} h => List.getElem?_set_ne (Ne.symm h)
  refine ⟨by simp [r.len], fun j e hj q => ?_, fun j e hj q => ?_, fun j k e f hj hk hn q1 q2 => ?_, r.dom, r.old, r.fold, r.fnew, fun p hp => ?_, r.unSet⟩
  · by_cases hji : j = i
    · subst hji
      have hl : j < ρ.length := by
        have := (List.getElem?_eq_some_iff.mp q).1
        simpa using this
      rw [List.getElem?_set_self hl] at q
      cases q
      exact ⟨v, by rw [List.getElem?_set_self (by rw [← r.len]; exact hl)], rp⟩
    · rw [gne hji] at q
      rw [sne hji]
      exact r.fz j e (fun z => hj (List.mem_filter.mpr ⟨z, by simpa using hji⟩)) q
  · obtain ⟨hji, hj⟩ := ni hj
    rw [gne hji] at q
    rw [sne hji]
    exact r.ow j e hj q
  · obtain ⟨hji, hj⟩ := ni hj
    obtain ⟨hki, hk⟩ := ni hk
    rw [gne hji] at q1
    rw [gne hki] at q2
    rw [sne hji, sne hki]
    exact r.ne j k e f hj hk hn q1 q2
  · have hpi : p.1 ≠ i := fun z => ho (by rw [← B.hio, ← z]; exact List.mem_map.mpr ⟨p, hp, rfl⟩)
    obtain ⟨h1, h2, e, h3⟩ := r.io p hp
    exact ⟨by rw [sne hpi]; exact h1, List.mem_filter.mpr ⟨h2, by simpa using hpi⟩, e, by rw [gne hpi]; exact h3⟩
/-- a slot that is owned is set: a new object -/
theorem RE.setO (r : RE K B own F ρ σ H) {i : Nat} {a : Addr} {d : PyData} (hF : ¬ F a) (h0 : B.H0 a = none) (hv : OwnV K F H a d) (hn : ∀ j ∈ own, ∀ e, ρ[j]? = some (some e) → σ[j]? ≠ some (some (V.ref a))) (ho : i ∉ io) :
    RE K B (i :: own) F (ρ.set i (some d)) (σ.set i (some (V.ref a))) H := by
  have gne : ∀ {j}, j ≠ i → (ρ.set i (some d))[j]? = ρ[j]? := fun {j} h => List.getElem?_set_ne (Ne.symm h)
  have sne : ∀ {j}, j ≠ i → (σ.set i (some (V.ref a)))[j]? = σ[j]? := fun {j} h => List.getElem?_set_ne (Ne.symm h)
  have sat : ∀ {e}, (ρ.set i (some d))[i]? = some (some e) → (σ.set i (some (V.ref a)))[i]? = some (some (V.ref a)) ∧ e = d := fun {e} q => by
    have hl : i < ρ.length := by
      have := (List.getElem?_eq_some_iff.mp q).1
      simpa using this
    rw [List.getElem?_set_self hl] at q
    cases q
    exact ⟨by rw [List.getElem?_set_self (by rw [← r.len]; exact hl)], rfl⟩
  refine ⟨by simp [r.len], fun j e hj q => ?_, fun j e hj q => ?_, fun j k e f hj hk hne q1 q2 => ?_, r.dom, r.old, r.fold, r.fnew, fun p hp => ?_, r.unSet⟩
  · have hji : j ≠ i := fun z => hj (z ▸ List.mem_cons_self)
    rw [gne hji] at q
    rw [sne hji]
    exact r.fz j e (fun z => hj (List.mem_cons_of_mem _ z)) q
  · by_cases hji : j = i
    · subst hji
      obtain ⟨h1, rfl⟩ := sat q
      exact ⟨a, h1, hF, .inl h0, hv⟩
    · rw [gne hji] at q
      rw [sne hji]
      exact r.ow j e ((List.mem_cons.mp hj).resolve_left hji) q
  · by_cases hji : j = i
    · have hki : k ≠ i := fun z => hne (hji.trans z.symm)
      subst hji
      obtain ⟨h1, _⟩ := sat q1
      rw [h1, sne hki]
      rw [gne hki] at q2
      exact fun z => hn k ((List.mem_cons.mp hk).resolve_left hki) f q2 z.symm
    · by_cases hki : k = i
      · subst hki
        obtain ⟨h1, _⟩ := sat q2
        rw [h1, sne hji]
        rw [gne hji] at q1
        exact hn j ((List.mem_cons.mp hj).resolve_left hji) e q1
      · rw [gne hji] at q1
        rw [gne hki] at q2
        rw [sne hji, sne hki]
        exact r.ne j k e f ((List.mem_cons.mp hj).resolve_left hji) ((List.mem_cons.mp hk).resolve_left hki) hne q1 q2
  · have hpi : p.1 ≠ i := fun z => ho (by rw [← B.hio, ← z]; exact List.mem_map.mpr ⟨p, hp, rfl⟩)
    obtain ⟨h1, h2, e, h3⟩ := r.io p hp
    exact ⟨by rw [sne hpi]; exact h1, List.mem_cons_of_mem _ h2, e, by rw [gne hpi]; exact h3⟩
/-- a slot is forgotten -/
theorem RE.forget (r : RE K B own F ρ σ H) {i : Nat} (ho : i ∉ io) : RE K B own F (ρ.set i none) (σ.set i none) H := by
  have gne : ∀ {j d}, (ρ.set i none)[j]? = some (some d) → j ≠ i ∧ ρ[j]? = some (some d) := fun {j d} h => by
    by_cases e : j = i
    · subst e
      have hl : j < ρ.length := by
        have := (List.getElem?_eq_some_iff.mp h).1
        simpa using this
      rw [List.getElem?_set_self hl] at h; cases h
    · rw [List.getElem?_set_ne (Ne.symm e)] at h; exact ⟨e, h⟩
  have sne : ∀ {j}, j ≠ i → (σ.set i none)[j]? = σ[j]? := fun {j} h => List.getElem?_set_ne (Ne.symm h)
  refine ⟨by simp [r.len], fun j e hj q => ?_, fun j e hj q => ?_, fun j k e f hj hk hn q1 q2 => ?_, r.dom, r.old, r.fold, r.fnew, fun p hp => ?_, fun j q => ?_⟩
  · obtain ⟨h1, h2⟩ := gne q
    rw [sne h1]; exact r.fz j e hj h2
  · obtain ⟨h1, h2⟩ := gne q
    rw [sne h1]; exact r.ow j e hj h2
  · obtain ⟨h1, h2⟩ := gne q1
    obtain ⟨h3, h4⟩ := gne q2
    rw [sne h1, sne h3]; exact r.ne j k e f hj hk hn h2 h4
  · have hpi : p.1 ≠ i := fun z => ho (by rw [← B.hio, ← z]; exact List.mem_map.mpr ⟨p, hp, rfl⟩)
    obtain ⟨h1, h2, e, h3⟩ := r.io p hp
    exact ⟨by rw [sne hpi]; exact h1, h2, e, by rw [List.getElem?_set_ne (Ne.symm hpi)]; exact h3⟩
  · by_cases e : j = i
    · subst e
      have hl : j < ρ.length := by
        have := (List.getElem?_eq_some_iff.mp q).1
        simpa using this
      rw [List.getElem?_set_self (by rw [← r.len]; exact hl)]
    · rw [sne e]
      rw [List.getElem?_set_ne (Ne.symm e)] at q
      exact r.un j q
/-- what an owned slot holds is changed -/
theorem RE.write (r : RE K B own F ρ σ H) {i : Nat} {a : Addr} {d d' : PyData} {o : HO} (hi : i ∈ own) (e : ρ[i]? = some (some d)) (ea : σ[i]? = some (some (V.ref a)))
    (nt : ∀ xs, o ≠ .tup xs) (hv : OwnV K F (upd H a o) a d') : RE K B own F (ρ.set i (some d')) σ (upd H a o) ∧ Mn K F H F (upd H a o) := by
  obtain ⟨b, h1, hF, h0, h4⟩ := r.ow i d hi e
  rw [ea] at h1; cases h1
  have nT : ∀ xs, ¬ Rd H a (.tup xs) := fun xs z => by
    cases h4 with
    | lst h _ => rcases z with z | ⟨_, z⟩ <;> (rw [h] at z; cases z)
    | dK h _ => rcases z with z | ⟨_, z⟩ <;> (rw [h] at z; cases z)
    | dT h _ => rcases z with z | ⟨_, z⟩ <;> (rw [h] at z; cases z)
  have rdne : ∀ {c u}, c ≠ a → Rd H c u → Rd (upd H a o) c u := fun {c u} hc h => by
    rcases h with h | ⟨q, h⟩
    · exact .inl (by rw [upd_ne hc]; exact h)
    · exact .inr ⟨q, by rw [upd_ne hc]; exact h⟩
  have mo : Mono K F H F (upd H a o) := ⟨fun _ h => h, fun c u hc h => (upd_ne (fun z => hF (z ▸ hc : F _))).trans h, fun c xs h => by
    rcases h with h | h
    · exact .inl (rdne (fun z => nT xs (z ▸ h)) h)
    · exact .inr h⟩
  refine ⟨⟨by simp [r.len], fun j f hj q => ?_, fun j f hj q => ?_, fun j k f g hj hk hne q1 q2 => ?_, fun c hc => ?_, fun c u h hA => ?_, r.fold, r.fnew, fun p hp => ?_, r.unSet'⟩, mo, fun _ h => .inl h, fun c hc => ?_⟩
  · have hji : j ≠ i := fun z => hj (z ▸ hi)
    rw [List.getElem?_set_ne (Ne.symm hji)] at q
    obtain ⟨v, h1, h2⟩ := r.fz j f hj q
    exact ⟨v, h1, h2.mono mo⟩
  · by_cases hji : j = i
    · subst hji
      have hl : j < ρ.length := (List.getElem?_eq_some_iff.mp e).1
      rw [List.getElem?_set_self hl] at q
      cases q
      exact ⟨a, ea, hF, h0, hv⟩
    · rw [List.getElem?_set_ne (Ne.symm hji)] at q
      obtain ⟨c, h1, h2, h3, h5⟩ := r.ow j f hj q
      have hca : c ≠ a := fun z => r.ne j i f d hj hi hji q e (by rw [h1, ea, z])
      exact ⟨c, h1, h2, h3, h5.mono mo (upd_ne hca)⟩
  · have lift : ∀ {j f}, (ρ.set i (some d'))[j]? = some (some f) → ∃ f', ρ[j]? = some (some f') := fun {j f} q => by
      by_cases hji : j = i
      · subst hji; exact ⟨d, e⟩
      · rw [List.getElem?_set_ne (Ne.symm hji)] at q; exact ⟨f, q⟩
    obtain ⟨f', q1'⟩ := lift q1
    obtain ⟨g', q2'⟩ := lift q2
    exact r.ne j k f' g' hj hk hne q1' q2'
  · by_cases hca : c = a
    · subst hca; rw [upd_same]; simp
    · rw [upd_ne hca]; exact r.dom c hc
  · have hca : c ≠ a := fun z => by
      subst z
      rcases h0 with h0 | h0
      · rw [h0] at h; cases h
      · exact hA h0
    rw [upd_ne hca]; exact r.old c u h hA
  · obtain ⟨h1, h2, f, h3⟩ := r.io p hp
    refine ⟨h1, h2, ?_⟩
    by_cases hpi : p.1 = i
    · rw [hpi]
      exact ⟨d', by rw [List.getElem?_set_self (List.getElem?_eq_some_iff.mp e).1]⟩
    · exact ⟨f, by rw [List.getElem?_set_ne (Ne.symm hpi)]; exact h3⟩
  · by_cases hca : c = a
    · subst hca; rw [upd_same]; simp
    · rw [upd_ne hca]; exact hc
/-- what stays where an owned object is changed -/
theorem RE.updOwn (r : RE K B own F ρ σ H) {i : Nat} {a : Addr} {d d' : PyData} {o : HO} (hi : i ∈ own) (e : ρ[i]? = some (some d)) (ea : σ[i]? = some (some (V.ref a))) (nt : ∀ xs, o ≠ .tup xs) (hd : d' = d') : True ∧ Mn K F H F (upd H a o) := by
  obtain ⟨b, h1, hF, h0, h4⟩ := r.ow i d hi e
  rw [ea] at h1; cases h1
  have nT : ∀ xs, ¬ Rd H a (.tup xs) := fun xs z => by
    cases h4 with
    | lst h _ => rcases z with z | ⟨_, z⟩ <;> (rw [h] at z; cases z)
    | dK h _ => rcases z with z | ⟨_, z⟩ <;> (rw [h] at z; cases z)
    | dT h _ => rcases z with z | ⟨_, z⟩ <;> (rw [h] at z; cases z)
  have rdne : ∀ {c u}, c ≠ a → Rd H c u → Rd (upd H a o) c u := fun {c u} hc h => by
    rcases h with h | ⟨q, h⟩
    · exact .inl (by rw [upd_ne hc]; exact h)
    · exact .inr ⟨q, by rw [upd_ne hc]; exact h⟩
  refine ⟨trivial, ⟨fun _ h => h, fun c u hc h => (upd_ne (fun z => hF (z ▸ hc : F _))).trans h, fun c xs h => ?_⟩, fun _ h => .inl h, fun c hc => ?_⟩
  · rcases h with h | h
    · exact .inl (rdne (fun z => nT xs (z ▸ h)) h)
    · exact .inr h
  · by_cases hca : c = a
    · subst hca; rw [upd_same]; simp
    · rw [upd_ne hca]; exact hc
/-- an object that no slot holds is changed -/
theorem RE.updFree (r : RE K B own F ρ σ H) {p : Addr} {o o' : HO} (hF : ¬ F p) (h0 : B.H0 p = none) (hn : ∀ j ∈ own, σ[j]? ≠ some (some (V.ref p))) (hp : H p = some o) (nt : ∀ xs, o ≠ .tup xs ∧ ∀ q, o ≠ .frz q (.tup xs)) :
    RE K B own F ρ σ (upd H p o') ∧ Mn K F H F (upd H p o') := by
  have rdne : ∀ {c u}, c ≠ p → Rd H c u → Rd (upd H p o') c u := fun {c u} hc h => by
    rcases h with h | ⟨q, h⟩
    · exact .inl (by rw [upd_ne hc]; exact h)
    · exact .inr ⟨q, by rw [upd_ne hc]; exact h⟩
  have ke : ∀ c, H c ≠ none → upd H p o' c ≠ none := fun c hc => by
    by_cases hca : c = p
    · subst hca; rw [upd_same]; simp
    · rw [upd_ne hca]; exact hc
  have mo : Mono K F H F (upd H p o') := ⟨fun _ h => h, fun c u hc h => (upd_ne (fun z => hF (z ▸ hc : F _))).trans h, fun c xs h => by
    rcases h with h | h
    · refine .inl (rdne (fun z => ?_) h)
      subst z
      rcases h with h | ⟨q, h⟩
      · rw [hp] at h; exact (nt xs).1 (Option.some.inj h)
      · rw [hp] at h; exact (nt xs).2 q (Option.some.inj h)
    · exact .inr h⟩
  refine ⟨⟨r.len, fun j f hj q => ?_, fun j f hj q => ?_, r.ne, fun c hc => ke c (r.dom c hc), fun c u h hA => ?_, r.fold, r.fnew, r.io, r.un⟩, mo, fun _ h => .inl h, ke⟩
  · obtain ⟨v, h1, h2⟩ := r.fz j f hj q
    exact ⟨v, h1, h2.mono mo⟩
  · obtain ⟨c, h1, h2, h3, h5⟩ := r.ow j f hj q
    exact ⟨c, h1, h2, h3, h5.mono mo (upd_ne (fun z => hn j hj (z ▸ h1)))⟩
  · have hca : c ≠ p := fun z => by subst z; rw [h0] at h; cases h
    rw [upd_ne hca]; exact r.old c u h hA

end

/-! ### what is wanted of a run -/
/-- an exception's data: the class by its name, its one field -/
def XD (K : PySem.W.Frag) (mg : Str → Option Value) (F : Addr → Prop) (H : Hp) (c : Str) (x : Option PyData) (cls : Value) (dx : Option Addr) : Prop :=
  cls = .ref (He.ga K c) ∧ match x with
    | none => dx = none
    | some d => ∃ (dd : Addr) (v : V), dx = some dd ∧ F dd ∧ H dd = some (HO.xd [(fldN c, v)]) ∧ Rp K F H v d
def ExcW (K : PySem.W.Frag) {io : List Nat} (B : Bs io) (F : Addr → Prop) (H : Hp) (c : Str) (x : Option PyData) : Prop :=
  ∀ cls dx ρ' σ' H' F', RE K B io F' ρ' σ' H' → Mono K F H F' H' → XD K B.mg F' H' c x cls dx → B.W cls dx σ' H'
structure KF (K : PySem.W.Frag) (α : Type) where
  k : (Addr → Prop) → Hp → α → Prop
  mo : ∀ {F H F' H' a}, Mn K F H F' H' → k F H a → k F' H' a
def Wa {K : PySem.W.Frag} {io : List Nat} (B : Bs io) {α : Type} (κ : KF K α) (F : Addr → Prop) (H : Hp) : Rs α → Prop
  | .ok a => κ.k F H a
  | .exc c x => ExcW K B F H c x
  | .bad => False
section
variable {K : PySem.W.Frag} {io : List Nat} {B : Bs io} {α β : Type} {κ : KF K α} {F F' : Addr → Prop} {H H' : Hp}
theorem ExcW.mono {c : Str} {x : Option PyData} (w : ExcW K B F H c x) (m : Mono K F H F' H') : ExcW K B F' H' c x := fun cls dx ρ' σ' H'' F'' re mo q => w cls dx ρ' σ' H'' F'' re (m.trans mo) q
theorem Wa.mono {r : Rs α} (w : Wa B κ F H r) (m : Mn K F H F' H') : Wa B κ F' H' r := by
  cases r with
  | ok a => exact κ.mo m w
  | exc c x => exact ExcW.mono w m.toMono
  | bad => exact w
theorem Wa.bind {x : Rs β} {f : β → Rs α} {κ' : KF K β} (w : Wa B κ F H (x.bind f)) (h : ∀ b, Wa B κ F H (f b) → κ'.k F H b) : Wa B κ' F H x := by
  cases x with
  | ok b => exact h b w
  | exc c x => exact w
  | bad => exact w
theorem Wa.opt {x : Option β} {f : β → Rs α} (w : Wa B κ F H (Rs.opt x f)) : ∃ b, x = some b ∧ Wa B κ F H (f b) := by
  cases x with
  | some b => exact ⟨b, rfl, w⟩
  | none => exact w.elim
variable {own : List Nat} {σ : Sl}
def kE (B : Bs io) (own : List Nat) (σ : Sl) (Q : VK) : KF K (Ev × PyData) :=
  ⟨fun F H x => ∀ v H' F', RE K B own F' x.1 σ H' → Mn K F H F' H' → Rp K F' H' v x.2 → Q v H', fun m h v H' F' re mo rp => h v H' F' re (m.trans mo) rp⟩
def kT (B : Bs io) (own : List Nat) (σ : Sl) (Q : Bool → Hp → Prop) : KF K (Ev × Bool) :=
  ⟨fun F H x => ∀ H' F', RE K B own F' x.1 σ H' → Mn K F H F' H' → Q x.2 H', fun m h H' F' re mo => h H' F' re (m.trans mo)⟩
def kA (B : Bs io) (own : List Nat) (σ : Sl) (Q : List V → Hp → Prop) : KF K (Ev × List PyData) :=
  ⟨fun F H x => ∀ vs H' F', RE K B own F' x.1 σ H' → Mn K F H F' H' → Rps K F' H' vs x.2 → Q vs H', fun m h v H' F' re mo rp => h v H' F' re (m.trans mo) rp⟩
theorem thE {x : Rs (Ev × PyData)} {f : Ev × PyData → Rs α} {R : VK} (w : Wa B κ F H (x.bind f))
    (h : ∀ ρ1 d1 v1 H1 F1, RE K B own F1 ρ1 σ H1 → Mn K F H F1 H1 → Rp K F1 H1 v1 d1 → Wa B κ F1 H1 (f (ρ1, d1)) → R v1 H1) : Wa B (kE (K := K) B own σ R) F H x :=
  w.bind fun b wb v H' F' re mo rp => h b.1 b.2 v H' F' re mo rp (wb.mono mo)
theorem thT {x : Rs (Ev × Bool)} {f : Ev × Bool → Rs α} {R : Bool → Hp → Prop} (w : Wa B κ F H (x.bind f))
    (h : ∀ ρ1 b1 H1 F1, RE K B own F1 ρ1 σ H1 → Mn K F H F1 H1 → Wa B κ F1 H1 (f (ρ1, b1)) → R b1 H1) : Wa B (kT (K := K) B own σ R) F H x :=
  w.bind fun b wb H' F' re mo => h b.1 b.2 H' F' re mo (wb.mono mo)
theorem thA {x : Rs (Ev × List PyData)} {f : Ev × List PyData → Rs α} {R : List V → Hp → Prop} (w : Wa B κ F H (x.bind f))
    (h : ∀ ρ1 ds v1 H1 F1, RE K B own F1 ρ1 σ H1 → Mn K F H F1 H1 → Rps K F1 H1 v1 ds → Wa B κ F1 H1 (f (ρ1, ds)) → R v1 H1) : Wa B (kA (K := K) B own σ R) F H x :=
  w.bind fun b wb v H' F' re mo rp => h b.1 b.2 v H' F' re mo rp (wb.mono mo)
end
end Kd

end T_KD1
section T_KD2
set_option maxRecDepth 100000
/-! KD2: the readings, and a rule for each form of expression. -/
namespace Kd
open PySem PySem.Spec PyProof.Rows L2

/-- an expression does what m does -/
def tD (K : PySem.W.Frag) {io : List Nat} (B : Bs io) (own : List Nat) (m : EM) : TE := fun σ H Q => ∃ ρ F, RE K B own F ρ σ H ∧ Wa B (kE (K := K) B own σ Q) F H (m ρ)
def tDT (K : PySem.W.Frag) {io : List Nat} (B : Bs io) (own : List Nat) (m : TM) : TT := fun σ H Q => ∃ ρ F, RE K B own F ρ σ H ∧ Wa B (kT (K := K) B own σ Q) F H (m ρ)
abbrev De (X : Cx) {io : List Nat} (B : Bs io) (own : List Nat) (e : Expr) (m : EM) : Prop := PE X e (tD X.K B own m)
abbrev Dt (X : Cx) {io : List Nat} (B : Bs io) (own : List Nat) (e : Expr) (m : TM) : Prop := PT X e (tDT X.K B own m)
abbrev Dw (X : Cx) {io : List Nat} (B : Bs io) (own : List Nat) (e : Expr) (m : TM) : Prop := PW X e (tDT X.K B own m)

theorem pe_imp {X : Cx} {e : Expr} {t t' : TE} (h : PE X e t) (i : ∀ σ H Q, t' σ H Q → t σ H Q) : PE X e t' := ⟨fun pins s σ H Q I q => h.run pins s σ H Q I (i σ H Q q)⟩
theorem pt_imp {X : Cx} {e : Expr} {t t' : TT} (h : PT X e t) (i : ∀ σ H Q, t' σ H Q → t σ H Q) : PT X e t' := ⟨fun pins s σ H Q I q => h.run pins s σ H Q I (i σ H Q q)⟩
theorem pw_imp {X : Cx} {e : Expr} {t t' : TT} (h : PW X e t) (i : ∀ σ H Q, t' σ H Q → t σ H Q) : PW X e t' := ⟨fun w pins s σ H Q I q => h.run w pins s σ H Q I (i σ H Q q)⟩
theorem pa_imp {X : Cx} {es : List Expr} {t t' : TA} (h : PA X es t) (i : ∀ σ H Q, t' σ H Q → t σ H Q) : PA X es t' := ⟨fun p pins s σ H Q I q => h.run p pins s σ H Q I (i σ H Q q)⟩

/-! ### the combinators -/
def mV (i : Nat) : EM := fun ρ => Rs.opt (gt ρ i) fun d => .ok (ρ, d)
def mC (d : PyData) : EM := fun ρ => .ok (ρ, d)
def m1 (f : PyData → Option PyData) (a : EM) : EM := fun ρ => (a ρ).bind fun x => Rs.opt (f x.2) fun d => .ok (x.1, d)
def m2 (f : PyData → PyData → Option PyData) (a b : EM) : EM := fun ρ => (a ρ).bind fun x => (b x.1).bind fun y => Rs.opt (f x.2 y.2) fun d => .ok (y.1, d)
def asB : PyData → Option Bool
  | .bool b => some b
  | _ => none
def mAnd (a b : EM) : EM := fun ρ => (a ρ).bind fun x => Rs.opt (asB x.2) fun c => if c then b x.1 else .ok (x.1, .bool false)
def mOr (a b : EM) : EM := fun ρ => (a ρ).bind fun x => Rs.opt (asB x.2) fun c => if c then .ok (x.1, .bool true) else b x.1
def mNot (a : EM) : EM := fun ρ => (a ρ).bind fun x => Rs.opt (asB x.2) fun c => .ok (x.1, .bool (!c))
def mIf (t : TM) (a b : EM) : EM := fun ρ => (t ρ).bind fun x => if x.2 then a x.1 else b x.1
/-- a value's truth -/
def truD : PyData → Option Bool
  | .none => some false
  | .bool b => some b
  | .int i => some (i != 0)
  | .str x => iff' (decide (x.length ≤ sizeLine)) ((x.length : Int) != 0)
  | .list xs => some (!xs.isEmpty)
  | .tuple xs => some (!xs.isEmpty)
  | .dict _ => none
def tE (a : EM) : TM := fun ρ => (a ρ).bind fun x => Rs.opt (truD x.2) fun c => .ok (x.1, c)
def tB (a : EM) : TM := fun ρ => (a ρ).bind fun x => Rs.opt (asB x.2) fun c => .ok (x.1, c)
def tAnd (a b : TM) : TM := fun ρ => (a ρ).bind fun x => if x.2 then b x.1 else .ok (x.1, false)
def tOr (a b : TM) : TM := fun ρ => (a ρ).bind fun x => if x.2 then .ok (x.1, true) else b x.1
def tNot (a : TM) : TM := fun ρ => (a ρ).bind fun x => .ok (x.1, !x.2)
def mArgs : List EM → Ev → Rs (Ev × List PyData)
  | [], ρ => .ok (ρ, [])
  | m :: r, ρ => (m ρ).bind fun x => (mArgs r x.1).bind fun y => .ok (y.1, x.2 :: y.2)
def mN (f : List PyData → Option PyData) (as : List EM) : EM := fun ρ => (mArgs as ρ).bind fun x => Rs.opt (f x.2) fun d => .ok (x.1, d)
def fTup (xs : List PyData) : Option PyData := iff' (decide (xs.length ≤ sizeLine)) (.tuple xs)
def fLst (xs : List PyData) : Option PyData := iff' (decide (xs.length ≤ sizeLine)) (.list xs)

section
variable {X : Cx} {io : List Nat} {B : Bs io} {own : List Nat} {e a b c : Expr} {es rest : List Expr} {pos : Pos} {m ma mb : EM} {mt tm tn : TM}

/-! ### names, constants -/
theorem de_var (i : Nat) {x : Str} (ho : i ∉ own := by decide) (hN : X.N[i]? = some x := by rfl) (hv : Vis X.env.scope x := by first | exact Or.inl rfl | exact Or.inr (Or.inl rfl) | exact Or.inr (Or.inr rfl))
    (hd : (x == ("__debug__" : Str)) = false := by decide) (hcd : (x == ("__classdict__" : Str)) = false := by decide) : De X B own (.Name x pos) (mV i) := by
  refine pe_imp (pv i hN hv hd hcd) fun σ H Q ⟨ρ, F, r, w⟩ => ?_
  obtain ⟨d, h1, w⟩ := Wa.opt w
  obtain ⟨v, e1, rp⟩ := r.fz i d ho (gt_ok h1)
  exact ⟨v, e1, w v H F r Mn.refl rp⟩
/-- a written value -/
theorem de_c {v : V} {d : PyData} (h : PE X e (tC v)) (rp : ∀ F H, Rp X.K F H v d) : De X B own e (mC d) :=
  pe_imp h fun σ H Q ⟨ρ, F, r, w⟩ => w v H F r Mn.refl (rp F H)
theorem de_int {i : Int} {j : Nat} : De X B own (.Constant (.int i) j pos) (mC (.int i)) := de_c pe_int fun _ _ => .int i
theorem de_str {x : Str} {j : Nat} : De X B own (.Constant (.str x) j pos) (mC (.str x)) := de_c pe_str fun _ _ => .str x
theorem de_bl {x : Bool} {j : Nat} : De X B own (.Constant (.bool x) j pos) (mC (.bool x)) := de_c pe_bl fun _ _ => .bl x
theorem de_non {j : Nat} : De X B own (.Constant .none j pos) (mC .none) := de_c pe_non fun _ _ => .non

/-! ### operations by values -/
/-- r serves f -/
def OpD (K' : PySem.W.Frag) (r : R2) (f : PyData → PyData → Option PyData) : Prop := ∀ (F : Addr → Prop) (H : Hp) (x y : V) (d g z : PyData) (Q : VK), (∀ p, F p → H p ≠ none) → Rp K' F H x d → Rp K' F H y g → f d g = some z →
  (∀ v H' F', Grow F H F' H' → Rp K' F' H' v z → Q v H') → r x y H Q
def UnD (K' : PySem.W.Frag) (r : V → Hp → VK → Prop) (f : PyData → Option PyData) : Prop := ∀ (F : Addr → Prop) (H : Hp) (x : V) (d z : PyData) (Q : VK), (∀ p, F p → H p ≠ none) → Rp K' F H x d → f d = some z →
  (∀ v H' F', Grow F H F' H' → Rp K' F' H' v z → Q v H') → r x H Q
def FnD (K' : PySem.W.Frag) (r : List V → Hp → VK → Prop) (f : List PyData → Option PyData) : Prop := ∀ (F : Addr → Prop) (H : Hp) (xs : List V) (ds : List PyData) (z : PyData) (Q : VK), (∀ p, F p → H p ≠ none) → Rps K' F H xs ds → f ds = some z →
  (∀ v H' F', Grow F H F' H' → Rp K' F' H' v z → Q v H') → r xs H Q
theorem tD_op {r : R2} {f : PyData → PyData → Option PyData} (hf : OpD X.K r f) : ∀ σ H Q, tD X.K B own (m2 f ma mb) σ H Q → tOp r (tD X.K B own ma) (tD X.K B own mb) σ H Q := fun σ H Q ⟨ρ, F, re, w⟩ =>
  ⟨ρ, F, re, thE w fun ρ1 d1 v1 H1 F1 re1 mo1 rp1 w1 => ⟨ρ1, F1, re1, thE w1 fun ρ2 d2 v2 H2 F2 re2 mo2 rp2 w2 => by
    obtain ⟨z, hz, w3⟩ := Wa.opt w2
    exact hf F2 H2 v1 v2 d1 d2 z Q re2.dom (rp1.mono mo2.toMono) rp2 hz fun v H' F' g rp => w3 v H' F' (re2.grow g) g.mn rp⟩⟩
theorem de_op {op : Operator} {r : R2} {f : PyData → PyData → Option PyData} (ho : OpR X (binaryOp op) r) (hf : OpD X.K r f) (ha : De X B own a ma) (hb : De X B own b mb) : De X B own (.BinOp a op b pos) (m2 f ma mb) :=
  pe_imp (pe_op ho ha hb) (tD_op hf)
theorem de_cmp {op : CmpOp} {r : R2} {f : PyData → PyData → Option PyData} (ho : OpR X (compareOp op) r) (hf : OpD X.K r f) (ha : De X B own a ma) (hb : De X B own b mb)
    (hm : behindInMarks op b = false := by first | exact nomark _ | rfl) : De X B own (.Compare a [op] [b] pos) (m2 f ma mb) := pe_imp (pe_cmpR ho ha hb hm) (tD_op hf)
theorem de_ix {r : R2} {f : PyData → PyData → Option PyData} (ho : IxR X r) (hf : OpD X.K r f) (ha : De X B own a ma) (hb : De X B own b mb) (hs : PlainIx b := by exact fun _ _ => rfl) : De X B own (.Subscript a b pos) (m2 f ma mb) :=
  pe_imp (pe_ix ho ha hb hs) (tD_op hf)
theorem de_un {op : UnaryOp} {r : V → Hp → VK → Prop} {f : PyData → Option PyData} (ho : UnR X (unaryOp op) r) (hf : UnD X.K r f) (ha : De X B own a ma) : De X B own (.UnaryOp op a pos) (m1 f ma) :=
  pe_imp (pe_un ho ha) fun σ H Q ⟨ρ, F, re, w⟩ => ⟨ρ, F, re, thE w fun ρ1 d1 v1 H1 F1 re1 mo1 rp1 w1 => by
    obtain ⟨z, hz, w3⟩ := Wa.opt w1
    exact hf F1 H1 v1 d1 z Q re1.dom rp1 hz fun v H' F' g rp => w3 v H' F' (re1.grow g) g.mn rp⟩

/-! ### and, or, not, if -/
theorem asB_ok {d : PyData} {c : Bool} (h : asB d = some c) : d = .bool c := by
  cases d <;> first | (cases h; rfl) | cases h
theorem de_and (ha : De X B own a ma) (hb : De X B own (.BoolOp .And (b :: rest) pos) mb) : De X B own (.BoolOp .And (a :: b :: rest) pos) (mAnd ma mb) :=
  pe_imp (pe_and ha hb) fun σ H Q ⟨ρ, F, re, w⟩ => ⟨ρ, F, re, thE w fun ρ1 d1 v1 H1 F1 re1 mo1 rp1 w1 => by
    obtain ⟨c, hc, w2⟩ := Wa.opt w1
    obtain rfl := asB_ok hc
    cases rp1
    refine ⟨c, rfl, ?_⟩
    cases c with
    | true => exact ⟨ρ1, F1, re1, w2⟩
    | false => exact w2 _ H1 F1 re1 Mn.refl (.bl false)⟩
theorem de_or (ha : De X B own a ma) (hb : De X B own (.BoolOp .Or (b :: rest) pos) mb) : De X B own (.BoolOp .Or (a :: b :: rest) pos) (mOr ma mb) :=
  pe_imp (pe_or ha hb) fun σ H Q ⟨ρ, F, re, w⟩ => ⟨ρ, F, re, thE w fun ρ1 d1 v1 H1 F1 re1 mo1 rp1 w1 => by
    obtain ⟨c, hc, w2⟩ := Wa.opt w1
    obtain rfl := asB_ok hc
    cases rp1
    refine ⟨c, rfl, ?_⟩
    cases c with
    | false => exact ⟨ρ1, F1, re1, w2⟩
    | true => exact w2 _ H1 F1 re1 Mn.refl (.bl true)⟩
theorem de_one {op : BoolOp} (h : De X B own a m) : De X B own (.BoolOp op [a] pos) m := pe_one h
theorem de_not (ha : De X B own a ma) : De X B own (.UnaryOp .Not a pos) (mNot ma) :=
  pe_imp (pe_not ha) fun σ H Q ⟨ρ, F, re, w⟩ => ⟨ρ, F, re, thE w fun ρ1 d1 v1 H1 F1 re1 mo1 rp1 w1 => by
    obtain ⟨c, hc, w2⟩ := Wa.opt w1
    obtain rfl := asB_ok hc
    cases rp1
    exact ⟨c, rfl, w2 _ H1 F1 re1 Mn.refl (.bl _)⟩⟩
theorem de_if (hc : Dt X B own c mt) (ha : De X B own a ma) (hb : De X B own b mb) : De X B own (.IfExp c a b pos) (mIf mt ma mb) :=
  pe_imp (pe_ifExp hc ha hb) fun σ H Q ⟨ρ, F, re, w⟩ => ⟨ρ, F, re, thT w fun ρ1 c1 H1 F1 re1 mo1 w1 => by
    cases c1 with
    | true => exact ⟨ρ1, F1, re1, w1⟩
    | false => exact ⟨ρ1, F1, re1, w1⟩⟩

/-! ### tests -/
theorem dt_cmp {op : CmpOp} {r : R2} {f : PyData → PyData → Option PyData} (ho : OpR X (compareOp op) r) (hf : OpD X.K r f) (ha : De X B own a ma) (hb : De X B own b mb)
    (hm : behindInMarks op b = false := by first | exact nomark _ | rfl) : Dt X B own (.Compare a [op] [b] pos) (tB (m2 f ma mb)) :=
  pt_imp (pt_cmpR ho ha hb hm) fun σ H Q ⟨ρ, F, re, w⟩ => tD_op hf σ H _ ⟨ρ, F, re, thE w fun ρ1 d1 v1 H1 F1 re1 mo1 rp1 w1 => by
    obtain ⟨c, hc, w2⟩ := Wa.opt w1
    obtain rfl := asB_ok hc
    cases rp1
    exact ⟨_, rfl, w2 H1 F1 re1 Mn.refl⟩⟩
theorem tru_of {K' : PySem.W.Frag} {F : Addr → Prop} {H : Hp} {v : V} {d : PyData} {c : Bool} (rp : Rp K' F H v d) (h : truD d = some c) : TruV K' v H c := by
  cases rp with
  | non => cases h; rfl
  | bl b => cases h; rfl
  | int i => cases h; rfl
  | str x => obtain ⟨h1, h2⟩ := iff_some h; cases h2; exact ⟨of_decide_eq_true h1, rfl⟩
  | lst hl hs => cases h; exact .inl ⟨_, hl.sq, by cases hs <;> rfl⟩
  | tup hr hs => cases h; exact .inr (.inl ⟨_, hr, by cases hs <;> rfl⟩)
  | dK _ _ _ => cases h
  | dT _ _ _ => cases h
  | exN _ _ => cases h
  | exS _ _ _ _ _ => cases h
/-- any other expression as a test -/
theorem dt_e (ha : De X B own a ma) (he : ∀ whole, isTrue a X.env whole = (do let v ← whole; standAt a.pos; holding [v] (truthy v)) := by intro _; rfl) : Dt X B own a (tE ma) :=
  pt_imp (pt_truth ha he) fun σ H Q ⟨ρ, F, re, w⟩ => ⟨ρ, F, re, thE w fun ρ1 d1 v1 H1 F1 re1 mo1 rp1 w1 => by
    obtain ⟨c, hc, w2⟩ := Wa.opt w1
    exact ⟨_, tru_of rp1 hc, w2 H1 F1 re1 Mn.refl⟩⟩
theorem dw_and1 (ha : Dt X B own a tm) : Dw X B own (.BoolOp .And [a] pos) tm := pw_and1 ha
theorem dw_or1 (ha : Dt X B own a tm) : Dw X B own (.BoolOp .Or [a] pos) tm := pw_or1 ha
theorem dw_and (ha : Dt X B own a tm) (hb : Dw X B own (.BoolOp .And (b :: rest) pos) tn) : Dw X B own (.BoolOp .And (a :: b :: rest) pos) (tAnd tm tn) :=
  pw_imp (pw_and ha hb) fun σ H Q ⟨ρ, F, re, w⟩ => ⟨ρ, F, re, thT w fun ρ1 c1 H1 F1 re1 mo1 w1 => by
    cases c1 with
    | true => exact ⟨ρ1, F1, re1, w1⟩
    | false => exact w1 H1 F1 re1 Mn.refl⟩
theorem dw_or (ha : Dt X B own a tm) (hb : Dw X B own (.BoolOp .Or (b :: rest) pos) tn) : Dw X B own (.BoolOp .Or (a :: b :: rest) pos) (tOr tm tn) :=
  pw_imp (pw_or ha hb) fun σ H Q ⟨ρ, F, re, w⟩ => ⟨ρ, F, re, thT w fun ρ1 c1 H1 F1 re1 mo1 w1 => by
    cases c1 with
    | false => exact ⟨ρ1, F1, re1, w1⟩
    | true => exact w1 H1 F1 re1 Mn.refl⟩
theorem dt_w (h : Dw X B own e tm) : Dt X B own e tm := h.pt
theorem dt_not (ha : Dt X B own a tm) : Dt X B own (.UnaryOp .Not a pos) (tNot tm) :=
  pt_imp (pt_not ha) fun σ H Q ⟨ρ, F, re, w⟩ => ⟨ρ, F, re, thT w fun ρ1 c1 H1 F1 re1 mo1 w1 => w1 H1 F1 re1 Mn.refl⟩

/-! ### arguments, displays, calls of built-ins -/
def tDA (K' : PySem.W.Frag) {io : List Nat} (B : Bs io) (own : List Nat) (ms : List EM) : TA := fun σ H Q => ∃ ρ F, RE K' B own F ρ σ H ∧ Wa B (kA (K := K') B own σ Q) F H (mArgs ms ρ)
abbrev Da (X : Cx) {io : List Nat} (B : Bs io) (own : List Nat) (es : List Expr) (ms : List EM) : Prop := PA X es (tDA X.K B own ms)
theorem da_nil : Da X B own [] [] := pa_imp pa_nil fun σ H Q ⟨ρ, F, re, w⟩ => w [] H F re Mn.refl .nil
theorem da_cons {ms : List EM} (ha : De X B own e m) (hr : Da X B own es ms) (hs : starEach (e :: es) X.env = (false, eval e X.env) :: starEach es X.env := by rfl) : Da X B own (e :: es) (m :: ms) :=
  pa_imp (pa_cons ha hr hs) fun σ H Q ⟨ρ, F, re, w⟩ => ⟨ρ, F, re, thE w fun ρ1 d1 v1 H1 F1 re1 mo1 rp1 w1 => ⟨ρ1, F1, re1, thA w1 fun ρ2 ds vs H2 F2 re2 mo2 rp2 w2 =>
    w2 _ H2 F2 re2 Mn.refl (.cons (rp1.mono mo2.toMono) rp2)⟩⟩
theorem de_tup {ms : List EM} {k : Nat} (h : Da X B own es ms) : De X B own (.Tuple es k pos) (mN fTup ms) :=
  pe_imp (pe_tup h) fun σ H Q ⟨ρ, F, re, w⟩ => ⟨ρ, F, re, thA w fun ρ1 ds vs H1 F1 re1 mo1 rps w1 => by
    obtain ⟨z, hz, w2⟩ := Wa.opt w1
    obtain ⟨h3, rfl⟩ := iff_some hz
    refine ⟨by rw [rps.length]; exact of_decide_eq_true h3, fun p np => ?_⟩
    have g : Grow F1 H1 F1 (upd H1 p (.tup vs)) := Grow.att re1.dom np
    exact w2 _ _ F1 (re1.grow g) g.mn (.tup (SqT.of upd_same) (rps.mono g.mono))⟩
theorem de_lst {ms : List EM} (h : Da X B own es ms) : De X B own (.List es pos) (mN fLst ms) :=
  pe_imp (pe_lst h) fun σ H Q ⟨ρ, F, re, w⟩ => ⟨ρ, F, re, thA w fun ρ1 ds vs H1 F1 re1 mo1 rps w1 => by
    obtain ⟨z, hz, w2⟩ := Wa.opt w1
    obtain ⟨h3, rfl⟩ := iff_some hz
    refine ⟨by rw [rps.length]; exact of_decide_eq_true h3, fun p np => ?_⟩
    have g : Grow F1 H1 (fun a => F1 a ∨ a = p) (upd H1 p (.lst vs)) := Grow.atp re1.dom np
    exact w2 _ _ _ (re1.grow g) g.mn (.lst (.inl ⟨.inr rfl, .inl upd_same⟩) (rps.mono g.mono))⟩
theorem tD_cb {r : List V → Hp → VK → Prop} {f : List PyData → Option PyData} {ms : List EM} (hf : FnD X.K r f) : ∀ σ H Q, tD X.K B own (mN f ms) σ H Q → tCB r (tDA X.K B own ms) σ H Q := fun σ H Q ⟨ρ, F, re, w⟩ =>
  ⟨ρ, F, re, thA w fun ρ1 ds vs H1 F1 re1 mo1 rps w1 => by
    obtain ⟨z, hz, w2⟩ := Wa.opt w1
    exact hf F1 H1 vs ds z Q re1.dom rps hz fun v H' F' g rp => w2 v H' F' (re1.grow g) g.mn rp⟩
theorem de_callB {x : Str} {id : String} {p : Pos} {r : List V → Hp → VK → Prop} {f : List PyData → Option PyData} {ms : List EM} (hc : CallR X (.builtin id) r) (hf : FnD X.K r f) (hm : X.mg x = none) (ha : Da X B own (e :: es) ms) (hg : Gl X x := by rfl) (hv : bootBuiltins x = some (.builtin id) := by decide +kernel)
    (hn : x ≠ "__name__" := by decide) (hdb : (x == ("__debug__" : Str)) = false := by decide)
    (hs : starEach (e :: es) X.env = (false, eval e X.env) :: starEach es X.env := by rfl) (hpl : (backTo pos (starEach es X.env)).any (·.1) = false := by rfl) : De X B own (.Call (.Name x p) (e :: es) [] pos) (mN f ms) :=
  pe_imp (pe_callB hc hg hm hv ha hn hdb hs hpl) (tD_cb hf)
theorem de_callT {x : Str} {T : String} {p : Pos} {r : List V → Hp → VK → Prop} {f : List PyData → Option PyData} {ms : List EM} (hc : CallR X (.type T) r) (hf : FnD X.K r f) (hm : X.mg x = none) (ha : Da X B own (e :: es) ms) (hg : Gl X x := by rfl) (hv : bootBuiltins x = some (.type T) := by decide +kernel)
    (hn : x ≠ "__name__" := by decide) (hdb : (x == ("__debug__" : Str)) = false := by decide)
    (hs : starEach (e :: es) X.env = (false, eval e X.env) :: starEach es X.env := by rfl) (hpl : (backTo pos (starEach es X.env)).any (·.1) = false := by rfl) : De X B own (.Call (.Name x p) (e :: es) [] pos) (mN f ms) :=
  pe_imp (pe_callTy hc hg hm hv ha hn hdb hs hpl) (tD_cb hf)
end
end Kd

end T_KD2
section T_KD3
set_option maxRecDepth 100000
/-! KD3: statements, loops, comprehensions. -/
namespace Kd
open PySem PySem.Spec PyProof.Rows L2

/-! ### what a statement leads to -/
structure Ow where
  nx : List Nat
  bk : List Nat
  ct : List Nat
/-- what is handed back: a value, or a new object -/
def RetR (K : PySem.W.Frag) {io : List Nat} (B : Bs io) (F : Addr → Prop) (H : Hp) (v : V) (d : PyData) : Prop :=
  if B.fr then ∃ a, v = .ref a ∧ ¬ F a ∧ B.H0 a = none ∧ OwnV K F H a d else Rp K F H v d
def kS (K : PySem.W.Frag) {io : List Nat} (B : Bs io) (ow : Ow) (D : Ends) : KF K Fl where
  k := fun F H f => match f with
    | .nx ρ' => ∀ σ' H' F', RE K B ow.nx F' ρ' σ' H' → Mono K F H F' H' → D.nx σ' H'
    | .bk ρ' => ∀ σ' H' F', RE K B ow.bk F' ρ' σ' H' → Mono K F H F' H' → D.bk σ' H'
    | .ct ρ' => ∀ σ' H' F', RE K B ow.ct F' ρ' σ' H' → Mono K F H F' H' → D.ct σ' H'
    | .rt ρ' d => ∀ v σ' H' F', RE K B io F' ρ' σ' H' → Mono K F H F' H' → RetR K B F' H' v d → D.rt v H'
  mo := fun {F H F' H' f} m h => by
    cases f with
    | nx ρ => exact fun σ' H'' F'' re mo => h σ' H'' F'' re (m.toMono.trans mo)
    | bk ρ => exact fun σ' H'' F'' re mo => h σ' H'' F'' re (m.toMono.trans mo)
    | ct ρ => exact fun σ' H'' F'' re mo => h σ' H'' F'' re (m.toMono.trans mo)
    | rt ρ d => exact fun v σ' H'' F'' re mo rp => h v σ' H'' F'' re (m.toMono.trans mo) rp
abbrev WantS (K : PySem.W.Frag) {io : List Nat} (B : Bs io) (ow : Ow) (D : Ends) (F : Addr → Prop) (H : Hp) (r : Rs Fl) : Prop := Wa B (kS K B ow D) F H r
def tS (K : PySem.W.Frag) {io : List Nat} (B : Bs io) (pre : List Nat) (ow : Ow) (m : SM) : TS := fun D σ H => ∃ ρ F, RE K B pre F ρ σ H ∧ WantS K B ow D F H (m ρ)
abbrev Ds (X : Cx) {io : List Nat} (B : Bs io) (pre : List Nat) (ow : Ow) (st : Stmt) (m : SM) : Prop := PS X st (tS X.K B pre ow m)
abbrev Dss (X : Cx) {io : List Nat} (B : Bs io) (pre : List Nat) (ow : Ow) (st : List Stmt) (m : SM) : Prop := PSs X st (tS X.K B pre ow m)
theorem ps_imp {X : Cx} {s : Stmt} {t t' : TS} (h : PS X s t) (i : ∀ D σ H, t' D σ H → t D σ H) : PS X s t' := ⟨fun pins s σ H D I q => h.run pins s σ H D I (i D σ H q)⟩
theorem pss_imp {X : Cx} {s : List Stmt} {t t' : TS} (h : PSs X s t) (i : ∀ D σ H, t' D σ H → t D σ H) : PSs X s t' := ⟨fun pins s σ H D I q => h.run pins s σ H D I (i D σ H q)⟩

def sNx : SM := fun ρ => .ok (.nx ρ)
def sNo : SM := fun _ => .bad
def sBk : SM := fun ρ => .ok (.bk ρ)
def sCt : SM := fun ρ => .ok (.ct ρ)
def sSeq (a b : SM) : SM := fun ρ => (a ρ).bind fun f => match f with
  | .nx ρ' => b ρ'
  | f => .ok f
def sSet (i : Nat) (m : EM) : SM := fun ρ => (m ρ).bind fun x => .ok (.nx (x.1.set i (some x.2)))
def sE (m : EM) : SM := fun ρ => (m ρ).bind fun x => .ok (.nx x.1)
def sRt (m : EM) : SM := fun ρ => (m ρ).bind fun x => .ok (.rt x.1 x.2)
def sIf (t : TM) (a b : SM) : SM := fun ρ => (t ρ).bind fun x => if x.2 then a x.1 else b x.1
/-- stores -/
abbrev GM := PyData → Ev → Option Ev
def gN (i : Nat) : GM := fun d ρ => some (ρ.set i (some d))
def gAll : List GM → List PyData → Ev → Option Ev
  | [], [], ρ => some ρ
  | g :: gs, d :: ds, ρ => (g d ρ).bind fun ρ' => gAll gs ds ρ'
  | _, _, _ => none
def gT (gs : List GM) : GM := fun d ρ => match d with
  | .tuple ds => gAll gs ds ρ
  | _ => none
def sAs (g : GM) (m : EM) : SM := fun ρ => (m ρ).bind fun x => Rs.opt (g x.2 x.1) fun ρ' => .ok (.nx ρ')
abbrev IM := Ev → Rs (Ev × List PyData)
def forL (g : GM) (body : SM) : List PyData → Ev → Rs Fl
  | [], ρ => .ok (.nx ρ)
  | d :: ds, ρ => Rs.opt (g d ρ) fun ρ1 => (body ρ1).bind fun f => match f with
    | .nx ρ2 => forL g body ds ρ2
    | .ct ρ2 => forL g body ds ρ2
    | .bk ρ2 => .ok (.nx ρ2)
    | .rt ρ2 r => .ok (.rt ρ2 r)
def sFor (it : IM) (g : GM) (body : SM) : SM := fun ρ => (it ρ).bind fun x => forL g body x.2 x.1
def whL (t : TM) (body : SM) : Nat → Ev → Rs Fl
  | 0, _ => .bad
  | n + 1, ρ => (t ρ).bind fun x => if x.2 then (body x.1).bind fun f => match f with
      | .nx ρ2 => whL t body n ρ2
      | .ct ρ2 => whL t body n ρ2
      | .bk ρ2 => .ok (.nx ρ2)
      | .rt ρ2 r => .ok (.rt ρ2 r)
    else .ok (.nx x.1)
def sWh (fuel : Ev → Nat) (t : TM) (body : SM) : SM := fun ρ => whL t body (fuel ρ) ρ
def wipeE (ρ : Ev) : List Nat → Ev
  | [] => ρ
  | v :: vs => (wipeE ρ vs).set v none
def keepE (ρ1 : Ev) : List Nat → Ev → Ev
  | [], ρ => ρ
  | v :: vs, ρ => (keepE ρ1 vs ρ).set v ((ρ1[v]?).getD none)
def lcL (g : GM) (t : TM) (m : EM) (vs : List Nat) : List PyData → Ev → Rs (Ev × List PyData)
  | [], ρ => .ok (ρ, [])
  | d :: ds, ρ => Rs.opt (g d (wipeE ρ vs)) fun ρ1 => (t ρ1).bind fun x => if x.2 then (m x.1).bind fun y => (lcL g t m vs ds y.1).bind fun z => .ok (z.1, y.2 :: z.2)
    else lcL g t m vs ds x.1
def Rs.quiet {α : Type} : Rs α → Rs α
  | .ok a => .ok a
  | _ => .bad
theorem Rs.quiet_ok {α : Type} {x : Rs α} {a : α} (h : x.quiet = .ok a) : x = .ok a := by
  cases x with
  | ok b => exact h
  | exc c d => cases h
  | bad => cases h
/-- all these slots are set -/
def allSet (own : List Nat) (ρ : Ev) : Option Unit := iff' (own.all fun j => (gt ρ j).isSome) ()
def mLc (own : List Nat) (it : IM) (g : GM) (t : TM) (m : EM) (vs : List Nat) : EM := fun ρ => (it ρ).bind fun x => Rs.opt (allSet own x.1) fun _ => (lcL g t m vs x.2 x.1).quiet.bind fun y =>
  Rs.opt (fLst y.2) fun d => .ok (keepE x.1 vs y.1, d)
def tTrue : TM := fun ρ => .ok (ρ, true)

section
variable {K' : PySem.W.Frag} {io : List Nat} {B : Bs io} {ow ow' : Ow} {D : Ends} {F F' : Addr → Prop} {H H' : Hp} {r : Rs Fl}
theorem WantS.mono (w : WantS K' B ow D F H r) (m : Mono K' F H F' H') : WantS K' B ow D F' H' r := by
  cases r with
  | ok f => cases f with
    | nx ρ => exact fun σ' H'' F'' re mo => w σ' H'' F'' re (m.trans mo)
    | bk ρ => exact fun σ' H'' F'' re mo => w σ' H'' F'' re (m.trans mo)
    | ct ρ => exact fun σ' H'' F'' re mo => w σ' H'' F'' re (m.trans mo)
    | rt ρ d => exact fun v σ' H'' F'' re mo rp => w v σ' H'' F'' re (m.trans mo) rp
  | exc c x => exact ExcW.mono w m
  | bad => exact w
end

section
variable {X : Cx} {io : List Nat} {B : Bs io} {own pre pre' : List Nat} {ow ow' : Ow} {e a b c : Expr} {st : Stmt} {sts sa sb : List Stmt} {pos : Pos} {m ma mb : EM} {mt : TM} {s1 s2 : SM}

theorem ds_nil {bk ct : List Nat} : Dss X B own ⟨own, bk, ct⟩ [] sNx := pss_imp pss_nil fun D σ H ⟨ρ, F, re, w⟩ => w σ H F re Mono.refl
theorem ds_cons {mid : List Nat} (h1 : Ds X B pre ⟨mid, ow.bk, ow.ct⟩ st s1) (h2 : Dss X B mid ow sts s2) : Dss X B pre ow (st :: sts) (sSeq s1 s2) := by
  refine pss_imp (pss_cons h1 h2) fun D σ H ⟨ρ, F, re, w⟩ => ⟨ρ, F, re, ?_⟩
  unfold sSeq at w
  cases h : s1 ρ with
  | bad => rw [h] at w; exact w
  | exc c x => rw [h] at w; exact w
  | ok f =>
    rw [h] at w
    cases f with
    | nx ρ' => exact fun σ' H' F' re' mo => ⟨ρ', F', re', WantS.mono w mo⟩
    | bk ρ' => exact w
    | ct ρ' => exact w
    | rt ρ' d => exact w
theorem ds_one (h : Ds X B pre ow st s1) : Dss X B pre ow [st] s1 := pss_one h
/-- fewer slots owned ahead -/
theorem dss_frz (h : Dss X B pre' ow sts s1) (hs : ∀ i ∈ pre', i ∈ pre := by decide) (hio : ∀ i ∈ io, i ∈ pre' := by decide) : Dss X B pre ow sts s1 :=
  pss_imp h fun D σ H ⟨ρ, F, re, w⟩ => by
    obtain ⟨F', re', mo⟩ := re.freeze hs hio
    exact ⟨ρ, F', re', w.mono mo⟩
theorem ds_frz (h : Ds X B pre' ow st s1) (hs : ∀ i ∈ pre', i ∈ pre := by decide) (hio : ∀ i ∈ io, i ∈ pre' := by decide) : Ds X B pre ow st s1 :=
  ps_imp h fun D σ H ⟨ρ, F, re, w⟩ => by
    obtain ⟨F', re', mo⟩ := re.freeze hs hio
    exact ⟨ρ, F', re', w.mono mo⟩
theorem WantS.frzOut {K' : PySem.W.Frag} {D : Ends} {F : Addr → Prop} {H : Hp} {r : Rs Fl} {nx nx' bk ct : List Nat} (hn : ∀ i ∈ nx, i ∈ nx') (in1 : ∀ i ∈ io, i ∈ nx) (w : WantS K' B ⟨nx, bk, ct⟩ D F H r) : WantS K' B ⟨nx', bk, ct⟩ D F H r := by
  cases r with
  | bad => exact w
  | exc c x => exact w
  | ok f => cases f with
    | nx ρ => exact fun σ' H' F' re mo => let ⟨F2, re2, mo2⟩ := re.freeze hn in1; w σ' H' F2 re2 (mo.trans mo2)
    | _ => exact w
/-- fewer slots owned behind -/
theorem ds_out {nx bk ct : List Nat} (nx' : List Nat) (h : Ds X B pre ⟨nx', bk, ct⟩ st s1) (hn : ∀ i ∈ nx, i ∈ nx' := by decide) (in1 : ∀ i ∈ io, i ∈ nx := by decide) : Ds X B pre ⟨nx, bk, ct⟩ st s1 :=
  ps_imp h fun D σ H ⟨ρ, F, re, w⟩ => ⟨ρ, F, re, WantS.frzOut hn in1 w⟩
theorem ds_pass {bk ct : List Nat} : Ds X B own ⟨own, bk, ct⟩ (.Pass pos) sNx := ps_imp ps_pass fun D σ H ⟨ρ, F, re, w⟩ => w σ H F re Mono.refl
theorem ds_never : Ds X B own ow st sNo := ps_imp (t := tNever) ps_never fun D σ H ⟨ρ, F, re, w⟩ => w
theorem ds_break {nx ct : List Nat} : Ds X B own ⟨nx, own, ct⟩ (.Break pos) sBk := ps_imp ps_break fun D σ H ⟨ρ, F, re, w⟩ => w σ H F re Mono.refl
theorem ds_continue {nx bk : List Nat} : Ds X B own ⟨nx, bk, own⟩ (.Continue pos) sCt := ps_imp ps_continue fun D σ H ⟨ρ, F, re, w⟩ => w σ H F re Mono.refl

/-! ### stores -/
/-- a target takes what g says; ts: its slots -/
def tDG (K : PySem.W.Frag) {io : List Nat} (B : Bs io) (own own' : List Nat) (ts : List Nat) (g : GM) : TG := fun v σ H Q => ∃ ρ F d, RE K B own F ρ σ H ∧ Rp K F H v d ∧ ∃ ρ', g d ρ = some ρ' ∧
  ∀ σ' H' F', RE K B own' F' ρ' σ' H' → Mn K F H F' H' → σ'.length = σ.length → (∀ k : Nat, k ∉ ts → σ'[k]? = σ[k]?) → Q σ' H'
abbrev Dg (X : Cx) {io : List Nat} (B : Bs io) (own own' : List Nat) (ts : List Nat) (tg : Expr) (g : GM) : Prop := PG X tg (tDG X.K B own own' ts g)
def tDGs (K : PySem.W.Frag) {io : List Nat} (B : Bs io) (own own' : List Nat) (ts : List Nat) (gs : List GM) : TGs := fun vs σ H Q => ∃ ρ F ds, RE K B own F ρ σ H ∧ Rps K F H vs ds ∧ ∃ ρ', gAll gs ds ρ = some ρ' ∧
  ∀ σ' H' F', RE K B own' F' ρ' σ' H' → Mn K F H F' H' → σ'.length = σ.length → (∀ k : Nat, k ∉ ts → σ'[k]? = σ[k]?) → Q σ' H'
abbrev Dgs (X : Cx) {io : List Nat} (B : Bs io) (own own' : List Nat) (ts : List Nat) (tg : List Expr) (gs : List GM) : Prop := PGs X tg (tDGs X.K B own own' ts gs)
theorem pg_imp {e : Expr} {t t' : TG} (h : PG X e t) (i : ∀ v σ H Q, t' v σ H Q → t v σ H Q) : PG X e t' := ⟨fun pins s σ H v u Q I r q => h.run pins s σ H v u Q I r (i v σ H Q q)⟩
theorem pgs_imp {e : List Expr} {t t' : TGs} (h : PGs X e t) (i : ∀ v σ H Q, t' v σ H Q → t v σ H Q) : PGs X e t' := ⟨fun pins s σ H v u Q I r q => h.run pins s σ H v u Q I r (i v σ H Q q)⟩
theorem dg_name (i : Nat) {x : Str} (nd : X.N.Nodup) (hi : i ∉ io := by decide) (hN : X.N[i]? = some x := by rfl) (hx : Loc X.env.scope x := by first | exact Or.inl rfl | exact Or.inr rfl)
    (hf : X.fn x = true ∨ X.env.scope.names.lookup x = some .local := by first | exact .inl rfl | exact .inr rfl | assumption) : Dg X B own (own.filter (· ≠ i)) [i] (.Name x pos) (gN i) :=
  pg_imp (pg_name nd hN hx hf) fun v σ H Q ⟨ρ, F, d, re, rp, ρ', e, k⟩ => by
    cases e
    refine k _ H F (re.set rp hi) Mn.refl (by simp) fun j hj => ?_
    exact List.getElem?_set_ne (fun z => hj (by simp [z]))
theorem dgs_nil : Dgs X B own own [] [] [] := pgs_imp pgs_nil fun vs σ H Q ⟨ρ, F, ds, re, rp, ρ', e, k⟩ => by
  cases rp with
  | nil => cases e; exact ⟨rfl, k σ H F re Mn.refl rfl fun _ _ => rfl⟩
  | cons _ _ => cases e
theorem dgs_cons {mid own' ts us : List Nat} {g : GM} {gs : List GM} {es : List Expr} (h1 : Dg X B own mid ts e g) (h2 : Dgs X B mid own' us es gs) (hs : (assignEach (e :: es) X.env).map (·.2) = assign e X.env :: (assignEach es X.env).map (·.2) := by rfl) :
    Dgs X B own own' (ts ++ us) (e :: es) (g :: gs) := pgs_imp (pgs_cons h1 h2 hs) fun vs σ H Q ⟨ρ, F, ds, re, rp, ρ', q, k⟩ => by
  cases rp with
  | nil => cases q
  | cons r1 r2 =>
    obtain ⟨ρ1, e1, q⟩ := Option.bind_eq_some_iff.mp q
    refine ⟨_, _, rfl, ρ, F, _, re, r1, ρ1, e1, fun σ1 H1 F1 re1 mo1 l1 k1 => ⟨ρ1, F1, _, re1, r2.mono mo1.toMono, ρ', q, fun σ2 H2 F2 re2 mo2 l2 k2 => ?_⟩⟩
    refine k σ2 H2 F2 re2 (mo1.trans mo2) (l2.trans l1) fun j hj => ?_
    exact (k2 j fun z => hj (List.mem_append_right _ z)).trans (k1 j fun z => hj (List.mem_append_left _ z))
theorem dg_tup {own' ts : List Nat} {gs : List GM} {es : List Expr} {k0 n : Nat} (hc : X.calm = true) (h : Dgs X B own own' ts es gs) (hl : gs.length = n := by rfl) (hn : (assignEach es X.env).length = n := by rfl) (hst : (assignEach es X.env).findIdx? (·.1) = none := by rfl) :
    Dg X B own own' ts (.Tuple es k0 pos) (gT gs) := pg_imp (pg_tup hc h hn hst) fun v σ H Q ⟨ρ, F, d, re, rp, ρ', q, k⟩ => by
  cases rp with
  | tup hs hr =>
    refine ⟨_, _, rfl, hs, ?_, ρ, F, _, re, hr, ρ', q, k⟩
    have len : ∀ (gs : List GM) (ds : List PyData) (ρ ρ' : Ev), gAll gs ds ρ = some ρ' → ds.length = gs.length := by
      intro gs
      induction gs with
      | nil => intro ds ρ ρ' h; cases ds with
        | nil => rfl
        | cons _ _ => cases h
      | cons g gs ih => intro ds ρ ρ' h; cases ds with
        | nil => cases h
        | cons d ds =>
          obtain ⟨ρ1, _, h⟩ := Option.bind_eq_some_iff.mp h
          simp [ih ds ρ1 ρ' h]
    rw [hr.length, len _ _ _ _ q, hl]
  | _ => cases q
theorem ds_as {own' ts bk ct : List Nat} {g : GM} {tg : Expr} (he : De X B own e m) (hg : Dg X B own own' ts tg g) (hs : swapsWithSole [tg] e pos.line X.env = pure false := by rfl) (hw : swappedStores [tg] e X.env = pure none := by rfl)
    (h1 : (assignEach [tg] X.env).map (·.2) = [assign tg X.env] := by rfl) : Ds X B own ⟨own', bk, ct⟩ (.Assign [tg] e pos) (sAs g m) :=
  ps_imp (ps_asg he hg hs hw h1) fun D σ H ⟨ρ, F, re, w⟩ => ⟨ρ, F, re, thE w fun ρ1 d1 v1 H1 F1 re1 mo1 rp1 w1 => by
    obtain ⟨ρ', q, w2⟩ := Wa.opt w1
    exact ⟨ρ1, F1, d1, re1, rp1, ρ', q, fun σ' H' F' re' mo' _ _ => w2 σ' H' F' re' mo'.toMono⟩⟩

/-! ### plain statements -/
theorem ds_set (i : Nat) {x : Str} {pos' : Pos} {bk ct : List Nat} (nd : X.N.Nodup) (he : De X B own e m) (ho : i ∉ io := by decide) (hi : X.N[i]? = some x := by rfl) (hx : Loc X.env.scope x := by first | exact Or.inl rfl | exact Or.inr rfl)
    (hs : swapsWith e (some (.Name x pos')) pos.line X.env = pure false := by rfl) (hf : X.fn x = true ∨ X.env.scope.names.lookup x = some .local := by first | exact .inl rfl | exact .inr rfl | assumption) :
    Ds X B own ⟨own.filter (· ≠ i), bk, ct⟩ (.Assign [.Name x pos'] e pos) (sSet i m) :=
  ps_imp (L2.ps_set nd hi hx he hs hf) fun D σ H ⟨ρ, F, re, w⟩ => ⟨ρ, F, re, thE w fun ρ1 d1 v1 H1 F1 re1 mo1 rp1 w1 => w1 _ H1 F1 (re1.set rp1 ho) Mono.refl⟩
theorem ds_e {bk ct : List Nat} (he : De X B own e m) (hs : swapsWith e none pos.line X.env = pure false := by rfl) : Ds X B own ⟨own, bk, ct⟩ (.Expr e pos) (sE m) :=
  ps_imp (ps_expr he hs) fun D σ H ⟨ρ, F, re, w⟩ => ⟨ρ, F, re, thE w fun ρ1 d1 v1 H1 F1 re1 mo1 rp1 w1 => w1 σ H1 F1 re1 Mono.refl⟩
theorem ds_ret (hfr : B.fr = false) (he : De X B own e m) (hio : ∀ i ∈ io, i ∈ own := by decide) : Ds X B own ow (.Return (some e) pos) (sRt m) :=
  ps_imp (ps_ret he) fun D σ H ⟨ρ, F, re, w⟩ => ⟨ρ, F, re, thE w fun ρ1 d1 v1 H1 F1 re1 mo1 rp1 w1 => by
    obtain ⟨F2, re2, mo2⟩ := re1.freeze hio (fun i h => h)
    refine w1 v1 σ H1 F2 re2 mo2 ?_
    unfold RetR
    rw [hfr]
    exact rp1.mono mo2⟩
theorem ds_if (hc : Dt X B own c mt) (ha : Dss X B own ow sa s1) (hb : Dss X B own ow sb s2) : Ds X B own ow (.If c sa sb pos) (sIf mt s1 s2) :=
  ps_imp (ps_if hc ha hb) fun D σ H ⟨ρ, F, re, w⟩ => ⟨ρ, F, re, thT w fun ρ1 c1 H1 F1 re1 mo1 w1 => by
    cases c1 with
    | true => exact ⟨ρ1, F1, re1, w1⟩
    | false => exact ⟨ρ1, F1, re1, w1⟩⟩

/-! ### what is walked -/
def kI (K : PySem.W.Frag) {io : List Nat} (B : Bs io) (own : List Nat) (σ : Sl) (R : It → Hp → Prop) : KF K (Ev × List PyData) where
  k := fun F H x => ∀ J H' F', RE K B own F' x.1 σ H' → Mn K F H F' H' → (∃ G Y, Walk J x.2.length G Y ∧ (∀ F2 H2, Mono K F' H' F2 H2 → G H2) ∧
    (∀ F2 i H2 v H3, Mono K F' H' F2 H2 → (∀ a, F2 a → H2 a ≠ none) → Y i H2 v H3 → ∃ d, x.2[i]? = some d ∧ Grow F2 H2 F2 H3 ∧ Rp K F2 H3 v d)) → R J H'
  mo := fun m h J H' F' re mo z => h J H' F' re (m.trans mo) z
def tDI (K : PySem.W.Frag) {io : List Nat} (B : Bs io) (own : List Nat) (m : IM) : TI := fun σ H R => ∃ ρ F, RE K B own F ρ σ H ∧ Wa B (kI K B own σ R) F H (m ρ)
abbrev Di (X : Cx) {io : List Nat} (B : Bs io) (own : List Nat) (tg e : Expr) (m : IM) : Prop := PI X tg e (tDI X.K B own m)
theorem pi_imp {e tg : Expr} {t t' : TI} (h : PI X tg e t) (i : ∀ σ H R, t' σ H R → t σ H R) : PI X tg e t' := ⟨fun pins s σ H R I q => h.run pins s σ H R I (i σ H R q)⟩
/-- the items of a list, of a tuple, of a range -/
def asL : PyData → Option (List PyData)
  | .list xs => some xs
  | _ => none
def asT : PyData → Option (List PyData)
  | .tuple xs => some xs
  | _ => none
def iOf (f : PyData → Option (List PyData)) (m : EM) : IM := fun ρ => (m ρ).bind fun x => Rs.opt (f x.2) fun ds => .ok (x.1, ds)
theorem di_list {tg : Expr} (he : De X B own e m) : Di X B own tg e (iOf asL m) :=
  pi_imp (pi_list he) fun σ H R ⟨ρ, F, re, w⟩ => ⟨ρ, F, re, thE w fun ρ1 d1 v1 H1 F1 re1 mo1 rp1 w1 => by
    obtain ⟨ds, hd, w2⟩ := Wa.opt w1
    cases rp1 with
    | lst hl hs =>
      cases hd
      rename_i a vs
      refine ⟨_, rfl, ⟨_, hl.sq⟩, w2 _ H1 F1 re1 Mn.refl ⟨fun H => SqL X.K H a vs, YAt vs, by have := walk_list (K := X.K) (a := a) (xs := vs); rw [hs.length] at this; exact this, fun F2 H2 mo => hl.imp (fun x => mo.rd _ _ x.1 x.2) id, fun F2 i H2 v H3 mo dom y => ?_⟩⟩
      obtain ⟨rfl, e⟩ := y
      obtain ⟨hl, _⟩ := List.getElem?_eq_some_iff.mp e
      rw [hs.length] at hl
      obtain ⟨v', e', rp'⟩ := hs.get (List.getElem?_eq_getElem hl)
      rw [e] at e'; cases e'
      exact ⟨_, List.getElem?_eq_getElem hl, Grow.refl dom, rp'.mono mo⟩
    | _ => cases hd⟩
theorem di_tup {tg : Expr} (he : De X B own e m) : Di X B own tg e (iOf asT m) :=
  pi_imp (pi_tup he) fun σ H R ⟨ρ, F, re, w⟩ => ⟨ρ, F, re, thE w fun ρ1 d1 v1 H1 F1 re1 mo1 rp1 w1 => by
    obtain ⟨ds, hd, w2⟩ := Wa.opt w1
    cases rp1 with
    | tup hr hs =>
      cases hd
      rename_i a vs
      refine ⟨_, rfl, ⟨_, hr⟩, w2 _ H1 F1 re1 Mn.refl ⟨fun H => SqT X.K H a vs, YAt vs, by have := walk_tup (K := X.K) (a := a) (xs := vs); rw [hs.length] at this; exact this, fun F2 H2 mo => mo.tup _ _ hr, fun F2 i H2 v H3 mo dom y => ?_⟩⟩
      obtain ⟨rfl, e⟩ := y
      obtain ⟨hl, _⟩ := List.getElem?_eq_some_iff.mp e
      rw [hs.length] at hl
      obtain ⟨v', e', rp'⟩ := hs.get (List.getElem?_eq_getElem hl)
      rw [e] at e'; cases e'
      exact ⟨_, List.getElem?_eq_getElem hl, Grow.refl dom, rp'.mono mo⟩
    | _ => cases hd⟩
/-- the numbers from lo on -/
def numL (lo : Int) (n : Nat) : List PyData := (List.range n).map fun i : Nat => .int (lo + i)
def rng1 : List PyData → Option (List PyData)
  | [.int j] => iff' (decide (-(2 ^ 62) ≤ j ∧ j < 2 ^ 62)) (numL 0 j.toNat)
  | _ => none
def rng2 : List PyData → Option (List PyData)
  | [.int i, .int j] => iff' (decide (-(2 ^ 62) ≤ i ∧ i < 2 ^ 62 ∧ -(2 ^ 62) ≤ j ∧ j < 2 ^ 62)) (numL i (j - i).toNat)
  | _ => none
def iNg (f : List PyData → Option (List PyData)) (ms : List EM) : IM := fun ρ => (mArgs ms ρ).bind fun x => Rs.opt (f x.2) fun ds => .ok (x.1, ds)
theorem numL_len (lo : Int) (n : Nat) : (numL lo n).length = n := by unfold numL; simp
theorem walk_numL {K : PySem.W.Frag} {F : Addr → Prop} {H : Hp} (lo : Int) (n : Nat) : ∃ G Y, Walk (Itr lo n) (numL lo n).length G Y ∧ (∀ F2 H2, Mono K F H F2 H2 → G H2) ∧
    (∀ F2 i H2 v H3, Mono K F H F2 H2 → (∀ a, F2 a → H2 a ≠ none) → Y i H2 v H3 → ∃ d, (numL lo n)[i]? = some d ∧ Grow F2 H2 F2 H3 ∧ Rp K F2 H3 v d) := by
  refine ⟨fun _ => True, fun i H v H' => H' = H ∧ i < n ∧ v = .int (lo + i), ?_, fun _ _ _ => trivial, fun F2 i H2 v H3 mo dom y => ?_⟩
  · rw [numL_len]
    exact ⟨fun _ _ hi _ => hi, fun _ _ => Nat.le_refl _, fun i H x H' hi _ y => ⟨y.1, hi, y.2⟩⟩
  · obtain ⟨rfl, hi, rfl⟩ := y
    refine ⟨.int (lo + i), ?_, Grow.refl dom, .int _⟩
    unfold numL
    rw [List.getElem?_map, List.getElem?_range hi]
    rfl
theorem di_rng1 {tg a : Expr} {ms : List EM} {p : Pos} (hm : X.mg "range" = none) (ha : Da X B own [a] ms) (hg : Gl X "range" := by rfl) (hs : starEach [a] X.env = [(false, eval a X.env)] := by rfl) : Di X B own tg (.Call (.Name "range" p) [a] [] pos) (iNg rng1 ms) :=
  pi_imp (pi_range1 hg hm ha hs) fun σ H R ⟨ρ, F, re, w⟩ => ⟨ρ, F, re, thA w fun ρ1 ds vs H1 F1 re1 mo1 rp1 w1 => by
    obtain ⟨ds', hd, w2⟩ := Wa.opt w1
    unfold rng1 at hd
    split at hd
    · rename_i j he
      cases he
      obtain ⟨h, rfl⟩ := iff_some hd
      have h := of_decide_eq_true h
      cases rp1 with
      | cons r1 r2 =>
        cases r1
        cases r2
        exact ⟨j, rfl, h.1, h.2, w2 _ H1 F1 re1 Mn.refl (walk_numL 0 _)⟩
    · cases hd⟩
theorem di_rng2 {tg a b : Expr} {ms : List EM} {p : Pos} (hm : X.mg "range" = none) (ha : Da X B own [a, b] ms) (hg : Gl X "range" := by rfl) (hs : starEach [a, b] X.env = [(false, eval a X.env), (false, eval b X.env)] := by rfl) (hs2 : starEach [b] X.env = [(false, eval b X.env)] := by rfl) :
    Di X B own tg (.Call (.Name "range" p) [a, b] [] pos) (iNg rng2 ms) :=
  pi_imp (pi_range2 hg hm ha hs hs2) fun σ H R ⟨ρ, F, re, w⟩ => ⟨ρ, F, re, thA w fun ρ1 ds vs H1 F1 re1 mo1 rp1 w1 => by
    obtain ⟨ds', hd, w2⟩ := Wa.opt w1
    unfold rng2 at hd
    split at hd
    · rename_i i j he
      cases he
      obtain ⟨h, rfl⟩ := iff_some hd
      have h := of_decide_eq_true h
      cases rp1 with
      | cons r1 r2 =>
        cases r2 with
        | cons r2 r3 =>
          cases r1
          cases r2
          cases r3
          exact ⟨i, j, rfl, h, w2 _ H1 F1 re1 Mn.refl (walk_numL i _)⟩
    · cases hd⟩

/-! ### for, while -/
theorem ds_for {tg iter : Expr} {body : List Stmt} {it : IM} {g : GM} {ts L : List Nat} {s : SM} {bk ct : List Nat} (hp : PassesOwn (model X.prog X.w) X.A X.env X.xe) (hc : X.calm = true) (hi : Di X B L tg iter it) (hg : Dg X B L L ts tg g)
    (hb : Dss X B L ⟨L, L, L⟩ body s) (hio : ∀ i ∈ io, i ∈ L := by decide) (hs : ∀ x, foldedSetIterable iter X.env x = pure x := by intro _; rfl) : Ds X B L ⟨L, bk, ct⟩ (.For tg iter body [] pos) (sFor it g s) :=
  ps_imp (ps_for hp hc hi hg hb hs) fun D σ H ⟨ρ, F, re, w⟩ => ⟨ρ, F, re, w.bind fun x w0 J H1 F1 re1 mo1 ⟨G, Y, wk, hG, hY⟩ => by
    have w1 := WantS.mono w0 mo1.toMono
    refine for_it wk (fun i σ H => ∃ ρ F, RE X.K B L F ρ σ H ∧ Mono X.K F1 H1 F H ∧ WantS X.K B ⟨L, bk, ct⟩ D F H (forL g s (x.2.drop i) ρ)) ⟨x.1, F1, re1, Mono.refl, by simpa using w1⟩
      (fun i σ H hi ⟨ρ, F, re, mo, w⟩ => hG F H mo) (fun i v σ H H' hi ⟨ρ, F, re, mo, w⟩ y => ?_) (fun σ H ⟨ρ, F, re, mo, w⟩ => ?_)
    · obtain ⟨d, e, gr, rp⟩ := hY F i H v H' mo re.dom y
      have ed : x.2.drop i = d :: x.2.drop (i + 1) := by
        have hl := (List.getElem?_eq_some_iff.mp e)
        rw [List.drop_eq_getElem_cons hl.1, hl.2]
      rw [ed] at w
      obtain ⟨ρ1, e1, w2⟩ := Wa.opt w
      refine ⟨ρ, F, d, re.grow gr, rp, ρ1, e1, fun σ' H2 F2 re2 mo2 _ _ => ⟨ρ1, F2, re2, ?_⟩⟩
      have m2 : Mono X.K F1 H1 F2 H2 := mo.trans (gr.mono.trans mo2.toMono)
      refine (WantS.mono w2 (gr.mono.trans mo2.toMono)).bind fun f w3 => ?_
      cases f with
      | nx ρ2 => exact fun σ3 H3 F3 re3 mo3 => ⟨ρ2, F3, re3, m2.trans mo3, WantS.mono w3 mo3⟩
      | ct ρ2 => exact fun σ3 H3 F3 re3 mo3 => ⟨ρ2, F3, re3, m2.trans mo3, WantS.mono w3 mo3⟩
      | bk ρ2 => exact fun σ3 H3 F3 re3 mo3 => w3 σ3 H3 F3 re3 mo3
      | rt ρ2 r => exact w3
    · have e0 : x.2.drop x.2.length = [] := by simp
      rw [e0] at w
      exact w σ H F re Mono.refl⟩
theorem ds_while {body : List Stmt} {tm : TM} {L : List Nat} {s : SM} {bk ct : List Nat} (fuel : Ev → Nat) (hp : PassesOwn (model X.prog X.w) X.A X.env X.xe) (hc : Dt X B L c tm)
    (hb : Dss X B L ⟨L, L, L⟩ body s) : Ds X B L ⟨L, bk, ct⟩ (.While c body [] pos) (sWh fuel tm s) :=
  ps_imp (ps_while hp hc hb) fun D σ H ⟨ρ, F, re, w⟩ => by
    refine ⟨fun n σ H => ∃ ρ F, RE X.K B L F ρ σ H ∧ WantS X.K B ⟨L, bk, ct⟩ D F H (whL tm s n ρ), ⟨fuel ρ, ρ, F, re, w⟩, ?_⟩
    rintro n σ H ⟨ρ, F, re, w⟩
    cases n with
    | zero => exact w.elim
    | succ n =>
      refine ⟨ρ, F, re, thT w fun ρ1 c1 H1 F1 re1 mo1 w1 => ?_⟩
      cases c1 with
      | false => exact w1 σ H1 F1 re1 Mono.refl
      | true =>
        refine ⟨_, fun σ' H' z => ⟨n, Nat.lt_succ_self n, z⟩, ρ1, F1, re1, Wa.bind w1 fun f w3 => ?_⟩
        cases f with
        | nx ρ2 => exact fun σ3 H3 F3 re3 mo3 => ⟨ρ2, F3, re3, WantS.mono w3 mo3⟩
        | ct ρ2 => exact fun σ3 H3 F3 re3 mo3 => ⟨ρ2, F3, re3, WantS.mono w3 mo3⟩
        | bk ρ2 => exact fun σ3 H3 F3 re3 mo3 => w3 σ3 H3 F3 re3 mo3
        | rt ρ2 r => exact w3
end

/-! ### a new base -/
def adr : Option (Option V) → Addr
  | some (some (.ref a)) => a
  | _ => 0
section
variable {K : PySem.W.Frag} {io : List Nat} {B : Bs io} {own : List Nat} {F F' : Addr → Prop} {H H' : Hp} {ρ ρ' : Ev} {σ σ' : Sl}
theorem RE.rebase (r : RE K B own F ρ σ H) (hs : ∀ j ∈ own, ∃ d, ρ[j]? = some (some d)) : ∃ B' : Bs own, RE K B' own F ρ σ H ∧ B'.H0 = H ∧ (∀ b ∈ B'.A0, ∃ j ∈ own, σ[j]? = some (some (V.ref b))) ∧
    (∀ {F' ρ' σ' H'}, RE K B' own F' ρ' σ' H' → RE K B own F' ρ' σ' H') ∧ (B'.W = fun _ _ _ _ => False) ∧ B'.mg = B.mg := by
  have ha : ∀ j ∈ own, σ[j]? = some (some (V.ref (adr σ[j]?))) := fun j hj => by
    obtain ⟨d, e⟩ := hs j hj
    obtain ⟨a, h1, _⟩ := r.ow j d hj e
    rw [h1]; rfl
  have mem : ∀ b ∈ (own.map fun j => (j, adr σ[j]?)).map (·.2), ∃ j ∈ own, σ[j]? = some (some (V.ref b)) := fun b hb => by
    obtain ⟨p, hp, rfl⟩ := List.mem_map.mp hb
    obtain ⟨j, hj, rfl⟩ := List.mem_map.mp hp
    exact ⟨j, hj, ha j hj⟩
  refine ⟨⟨H, F, own.map fun j => (j, adr σ[j]?), B.mg, fun _ _ _ _ => False, false, by rw [List.map_map]; exact (List.map_congr_left fun _ _ => rfl).trans (List.map_id own)⟩, ?_, rfl, mem, ?_, rfl, rfl⟩
  · refine ⟨r.len, r.fz, fun i d hi e => ?_, r.ne, r.dom, fun b o h _ => h, fun a h => h, fun a h => .inl h, fun p hp => ?_, r.un⟩
    · obtain ⟨a, h1, h2, h3, h4⟩ := r.ow i d hi e
      refine ⟨a, h1, h2, .inr ?_, h4⟩
      refine List.mem_map.mpr ⟨(i, adr σ[i]?), List.mem_map.mpr ⟨i, hi, rfl⟩, ?_⟩
      rw [h1]; rfl
    · obtain ⟨j, hj, rfl⟩ := List.mem_map.mp hp
      exact ⟨ha j hj, hj, hs j hj⟩
  · intro F' ρ' σ' H' r'
    have fromA : ∀ a, a ∈ (own.map fun j => (j, adr σ[j]?)).map (·.2) → B.H0 a = none ∨ a ∈ B.A0 := fun a h => by
      obtain ⟨j, hj, e⟩ := mem a h
      obtain ⟨d, q⟩ := hs j hj
      obtain ⟨b, h1, _, h3, _⟩ := r.ow j d hj q
      rw [e] at h1; cases h1
      exact h3
    refine ⟨r'.len, r'.fz, fun i d hi e => ?_, r'.ne, r'.dom, fun b o h hA => ?_, fun a h => r'.fold a (r.fold a h), fun a h => ?_, fun p hp => ?_, r'.un⟩
    · obtain ⟨a, h1, h2, h3, h4⟩ := r'.ow i d hi e
      refine ⟨a, h1, h2, ?_, h4⟩
      rcases h3 with h3 | h3
      · exact .inl (r.h0 h3)
      · exact fromA a h3
    · refine r'.old b o (r.old b o h hA) fun z => ?_
      rcases fromA b z with q | q
      · rw [q] at h; cases h
      · exact hA q
    · rcases r'.fnew a h with h | h
      · exact r.fnew a h
      · exact .inr (r.h0 h)
    · obtain ⟨h1, h2, d, h3⟩ := r.io p hp
      have q := r'.io (p.1, adr σ[p.1]?) (List.mem_map.mpr ⟨p.1, h2, rfl⟩)
      rw [h1] at q
      exact ⟨q.1, h2, q.2.2⟩
/-- what no slot owns stays from here on -/
theorem RE.addF (r : RE K B own F ρ σ H) {p : Addr} (hp : H p ≠ none) (hn : ∀ j ∈ own, σ[j]? ≠ some (some (V.ref p))) (h0 : B.H0 p = none) : RE K B own (fun a => F a ∨ a = p) ρ σ H ∧ Mono K F H (fun a => F a ∨ a = p) H := by
  have mo : Mono K F H (fun a => F a ∨ a = p) H := ⟨fun _ h => .inl h, fun _ _ _ h => h, fun _ _ h => h⟩
  refine ⟨⟨r.len, fun i d hi e => ?_, fun i d hi e => ?_, r.ne, fun a h => ?_, r.old, fun a h => .inl (r.fold a h), fun a h => ?_, r.io, r.un⟩, mo⟩
  · obtain ⟨v, h1, h2⟩ := r.fz i d hi e
    exact ⟨v, h1, h2.mono mo⟩
  · obtain ⟨a, h1, h2, h3, h4⟩ := r.ow i d hi e
    refine ⟨a, h1, fun q => ?_, h3, h4.mono mo rfl⟩
    rcases q with q | q
    · exact h2 q
    · exact hn i hi (q ▸ h1)
  · rcases h with h | rfl
    · exact r.dom a h
    · exact hp
  · rcases h with h | rfl
    · exact r.fnew a h
    · exact .inr h0
theorem wipe_get {σ : Sl} {k : Nat} : ∀ {vs : List Nat}, k ∉ vs → (wipe σ vs)[k]? = σ[k]? := fun {vs} h => wipe_out h
theorem wipe_in {σ : Sl} {k : Nat} (hk : k < σ.length) : ∀ {vs : List Nat}, k ∈ vs → (wipe σ vs)[k]? = some none
  | [], h => by cases h
  | v :: vs, h => by
    unfold wipe
    by_cases e : k = v
    · subst e
      rw [List.getElem?_set_self (by rw [wipe_length]; exact hk)]
    · rw [List.getElem?_set_ne (Ne.symm e)]
      exact wipe_in hk ((List.mem_cons.mp h).resolve_left e)
theorem wipe_eq {σ τ : Sl} {vs : List Nat} (hl : σ.length = τ.length) (h : ∀ k : Nat, k ∉ vs → σ[k]? = τ[k]?) : wipe σ vs = wipe τ vs := by
  refine List.ext_getElem? fun k => ?_
  by_cases hk : k ∈ vs
  · by_cases hlt : k < σ.length
    · rw [wipe_in hlt hk, wipe_in (hl ▸ hlt) hk]
    · rw [List.getElem?_eq_none (by rw [wipe_length]; omega), List.getElem?_eq_none (by rw [wipe_length]; omega)]
  · rw [wipe_get hk, wipe_get hk, h k hk]
theorem wipeE_length (ρ : Ev) : ∀ vs : List Nat, (wipeE ρ vs).length = ρ.length
  | [] => rfl
  | v :: vs => by unfold wipeE; rw [List.length_set, wipeE_length ρ vs]
theorem wipeE_get {k : Nat} {ρ : Ev} : ∀ {vs : List Nat}, k ∉ vs → (wipeE ρ vs)[k]? = ρ[k]?
  | [], _ => rfl
  | v :: vs, h => by
    unfold wipeE
    rw [List.getElem?_set_ne (fun z => h (by simp [z]))]
    exact wipeE_get fun z => h (List.mem_cons_of_mem _ z)
theorem wipeE_in {k : Nat} {ρ : Ev} (hk : k < ρ.length) : ∀ {vs : List Nat}, k ∈ vs → (wipeE ρ vs)[k]? = some none
  | [], h => by cases h
  | v :: vs, h => by
    unfold wipeE
    by_cases e : k = v
    · subst e
      rw [List.getElem?_set_self (by rw [wipeE_length]; exact hk)]
    · rw [List.getElem?_set_ne (Ne.symm e)]
      exact wipeE_in hk ((List.mem_cons.mp h).resolve_left e)
theorem wipeE_some {k : Nat} {d : PyData} {vs : List Nat} (h : (wipeE ρ vs)[k]? = some (some d)) : k ∉ vs ∧ ρ[k]? = some (some d) := by
  have hk : k ∉ vs := fun z => by
    have hl := (List.getElem?_eq_some_iff.mp h).1
    rw [wipeE_length] at hl
    rw [wipeE_in hl z] at h; cases h
  exact ⟨hk, (wipeE_get hk).symm.trans h⟩
theorem RE.wipe (r : RE K B own F ρ σ H) {vs : List Nat} (hv : ∀ v ∈ vs, v ∉ own) : RE K B own F (wipeE ρ vs) (L2.wipe σ vs) H := by
  have no : ∀ {j}, j ∈ own → j ∉ vs := fun {j} h z => hv j z h
  refine ⟨by rw [wipeE_length, wipe_length]; exact r.len, fun i d hi e => ?_, fun i d hi e => ?_, fun i j d e hi hj hn h1 h2 => ?_, r.dom, r.old, r.fold, r.fnew, fun p hp => ?_, fun i e => ?_⟩
  · obtain ⟨hk, e⟩ := wipeE_some e
    rw [wipe_get hk]; exact r.fz i d hi e
  · rw [wipe_get (no hi)]; rw [wipeE_get (no hi)] at e; exact r.ow i d hi e
  · rw [wipe_get (no hi), wipe_get (no hj)]; rw [wipeE_get (no hi)] at h1; rw [wipeE_get (no hj)] at h2; exact r.ne i j d e hi hj hn h1 h2
  · obtain ⟨h1, h2, d, h3⟩ := r.io p hp
    exact ⟨by rw [wipe_get (no h2)]; exact h1, h2, d, by rw [wipeE_get (no h2)]; exact h3⟩
  · by_cases hk : i ∈ vs
    · have hl := (List.getElem?_eq_some_iff.mp e).1
      rw [wipeE_length, r.len] at hl
      exact wipe_in hl hk
    · rw [wipe_get hk]; rw [wipeE_get hk] at e; exact r.un i e
theorem keepE_length (ρ1 : Ev) : ∀ (vs : List Nat) (ρ : Ev), (keepE ρ1 vs ρ).length = ρ.length
  | [], _ => rfl
  | v :: vs, ρ => by unfold keepE; rw [List.length_set, keepE_length ρ1 vs]
theorem keepE_get {ρ1 : Ev} {k : Nat} : ∀ {vs : List Nat} {ρ : Ev}, k ∉ vs → (keepE ρ1 vs ρ)[k]? = ρ[k]?
  | [], _, _ => rfl
  | v :: vs, ρ, h => by
    unfold keepE
    rw [List.getElem?_set_ne (fun z => h (by simp [z]))]
    exact keepE_get fun z => h (List.mem_cons_of_mem _ z)
theorem keepE_in {ρ1 : Ev} {k : Nat} : ∀ {vs : List Nat} {ρ : Ev}, k < ρ.length → k < ρ1.length → k ∈ vs → (keepE ρ1 vs ρ)[k]? = ρ1[k]?
  | [], _, _, _, h => by cases h
  | v :: vs, ρ, hk, hk1, h => by
    unfold keepE
    by_cases e : k = v
    · subst e
      rw [List.getElem?_set_self (by rw [keepE_length]; exact hk), List.getElem?_eq_getElem hk1]; rfl
    · rw [List.getElem?_set_ne (Ne.symm e)]
      exact keepE_in hk hk1 ((List.mem_cons.mp h).resolve_left e)
/-- behind a comprehension: its own names are what they were -/
theorem RE.kept (r : RE K B own F ρ σ H) {vs : List Nat} (r' : RE K B own F' (wipeE ρ' vs) (L2.wipe σ vs) H') (m : Mono K F H F' H') (hv : ∀ v ∈ vs, v ∉ own) : RE K B own F' (keepE ρ vs ρ') σ H' := by
  have no : ∀ {j}, j ∈ own → j ∉ vs := fun {j} h z => hv j z h
  have hl : ρ'.length = σ.length := by have := r'.len; rw [wipeE_length, wipe_length] at this; exact this
  have at' : ∀ {i o}, (keepE ρ vs ρ')[i]? = some o → i ∈ vs → ρ[i]? = some o := fun {i o} e hk => by
    have h1 := (List.getElem?_eq_some_iff.mp e).1
    rw [keepE_length] at h1
    rw [keepE_in h1 (by rw [r.len]; omega) hk] at e; exact e
  refine ⟨by rw [keepE_length]; exact hl, fun i d hi e => ?_, fun i d hi e => ?_, fun i j d e hi hj hn h1 h2 => ?_, r'.dom, r'.old, r'.fold, r'.fnew, fun p hp => ?_, fun i e => ?_⟩
  · by_cases hk : i ∈ vs
    · obtain ⟨v, h1, h2⟩ := r.fz i d hi (at' e hk)
      exact ⟨v, h1, h2.mono m⟩
    · rw [keepE_get hk] at e
      have := r'.fz i d hi (by rw [wipeE_get hk]; exact e)
      rw [wipe_get hk] at this; exact this
  · rw [keepE_get (no hi)] at e
    have := r'.ow i d hi (by rw [wipeE_get (no hi)]; exact e)
    rw [wipe_get (no hi)] at this; exact this
  · rw [keepE_get (no hi)] at h1
    rw [keepE_get (no hj)] at h2
    have := r'.ne i j d e hi hj hn (by rw [wipeE_get (no hi)]; exact h1) (by rw [wipeE_get (no hj)]; exact h2)
    rw [wipe_get (no hi), wipe_get (no hj)] at this; exact this
  · obtain ⟨h1, h2, d, h3⟩ := r'.io p hp
    rw [wipe_get (no h2)] at h1
    rw [wipeE_get (no h2)] at h3
    exact ⟨h1, h2, d, by rw [keepE_get (no h2)]; exact h3⟩
  · by_cases hk : i ∈ vs
    · exact r.un i (at' e hk)
    · rw [keepE_get hk] at e
      have := r'.un i (by rw [wipeE_get hk]; exact e)
      rw [wipe_get hk] at this; exact this
end

/-! ### comprehensions -/
abbrev Bq (own : List Nat) (mg : Str → Option Value) := {b : Bs own // (b.W = fun _ _ _ _ => False) ∧ b.mg = mg}
theorem pe_ex {X : Cx} {β : Type} {e : Expr} {t : β → TE} (h : ∀ b, PE X e (t b)) : PE X e (fun σ H Q => ∃ b, t b σ H Q) := ⟨fun pins s σ H Q I ⟨b, q⟩ => (h b).run pins s σ H Q I q⟩
theorem pg_ex {X : Cx} {β : Type} {e : Expr} {t : β → TG} (h : ∀ b, PG X e (t b)) : PG X e (fun v σ H Q => ∃ b, t b v σ H Q) := ⟨fun pins s σ H v u Q I r ⟨b, q⟩ => (h b).run pins s σ H v u Q I r q⟩
theorem pts_ex {X : Cx} {β : Type} {e : List Expr} {t : β → TT} (h : ∀ b, PTs X e (t b)) : PTs X e (fun σ H Q => ∃ b, t b σ H Q) := ⟨fun pins s σ H Q I ⟨b, q⟩ => (h b).run pins s σ H Q I q⟩
abbrev Dts (X : Cx) {io : List Nat} (B : Bs io) (own : List Nat) (ifs : List Expr) (t : TM) : Prop := PTs X ifs (tDT X.K B own t)
section
variable {X : Cx} {io : List Nat} {B : Bs io} {own : List Nat}
theorem dts_nil : Dts X B own [] tTrue := ⟨fun pins s σ H Q I ⟨ρ, F, re, w⟩ => pts_nil.run pins s σ H Q I (w H F re Mn.refl)⟩
theorem dts_one {c : Expr} {t : TM} (h : Dt X B own c t) : Dts X B own [c] t := pts_one h
theorem tD_lc {wi : TI} {it : IM} {g : GM} {t : TM} {m : EM} {vs ts : List Nat} (hwi : ∀ σ H R, tDI X.K B own it σ H R → wi σ H R) (hmg : B.mg = X.mg) (hts : ∀ i ∈ ts, i ∈ vs) (hvo : ∀ v ∈ vs, v ∉ own) : ∀ σ H Q, tD X.K B own (mLc own it g t m vs) σ H Q →
    tLc wi (fun v σ H Q => ∃ b : Bq own X.mg, tDG X.K b.1 own own ts g v σ H Q) (fun σ H Q => ∃ b : Bq own X.mg, tDT X.K b.1 own t σ H Q) (fun σ H Q => ∃ b : Bq own X.mg, tD X.K b.1 own m σ H Q) vs σ H Q := fun σ H Q ⟨ρ, F, re, w⟩ => by
  refine hwi σ H _ ⟨ρ, F, re, w.bind fun x w0 J H1 F1 re1 mo1 ⟨G, Y, wk, hG, hY⟩ D nD => ?_⟩
  obtain ⟨_, hset, w1⟩ := Wa.opt w0
  obtain ⟨hset, _⟩ := iff_some hset
  cases hq : (lcL g t m vs x.2 x.1).quiet with
  | exc c y => rw [hq] at w1; cases hz : lcL g t m vs x.2 x.1 <;> (rw [hz] at hq; cases hq)
  | bad => rw [hq] at w1; exact w1.elim
  | ok y =>
    rw [hq] at w1
    obtain ⟨d, hd, w2⟩ := Wa.opt w1
    obtain ⟨hlen, rfl⟩ := iff_some hd
    have hlen := of_decide_eq_true hlen
    have hrun := Rs.quiet_ok hq
    obtain ⟨ρe, rs⟩ := y
    have no : ∀ {j}, j ∈ own → j ∉ vs := fun {j} h z => hvo j z h
    have hD0 := re1.h0 nD
    have hDn := re1.notIn nD
    have hDw : ∀ j ∈ own, (L2.wipe σ vs)[j]? ≠ some (some (V.ref D)) := fun j hj => by rw [wipe_get (no hj)]; exact hDn j hj
    refine lc_it (g := fun v σ H Q => ∃ b : Bq own X.mg, tDG X.K b.1 own own ts g v σ H Q) (tt := fun σ H Q => ∃ b : Bq own X.mg, tDT X.K b.1 own t σ H Q) (te := fun σ H Q => ∃ b : Bq own X.mg, tD X.K b.1 own m σ H Q) (vs := vs) (σ := σ) (H1 := H1) (D := D) (Qd := Q (.ref D)) wk (fun i H => ∃ ρ F, RE X.K B own F (wipeE ρ vs) (L2.wipe σ vs) H ∧ (∀ j ∈ own, ∃ d, (wipeE ρ vs)[j]? = some (some d)) ∧ Mn X.K F1 H1 F H ∧ ¬ F D ∧ ∃ acc da rest, H D = some (HO.lst acc) ∧ Rps X.K F H acc da ∧
      lcL g t m vs (x.2.drop i) ρ = .ok (ρe, rest) ∧ da ++ rest = rs) ?_ (fun i H hi ⟨ρ, F, re, hs, mo, _⟩ => hG F H mo.toMono) (fun i v H H' hi ⟨ρ, F, re, hs, mo, nF, acc, da, rest, hacc, racc, hl, hrs⟩ y => ?_) (fun H ⟨ρ, F, re, hs, mo, nF, acc, da, rest, hacc, racc, hl, hrs⟩ => ?_)
    · have g1 : Grow F1 H1 F1 (upd H1 D (HO.lst [])) := Grow.att re1.dom nD
      refine ⟨x.1, F1, (re1.wipe hvo).grow g1, fun j hj => ?_, g1.mn, fun z => re1.dom D z nD, [], [], rs, upd_same, .nil, by simpa using hrun, rfl⟩
      have := List.all_eq_true.mp hset j hj
      rw [wipeE_get (no hj)]
      cases e : gt x.1 j with
      | none => rw [e] at this; cases this
      | some d => exact ⟨d, gt_ok e⟩
    · obtain ⟨d, e, gr, rp⟩ := hY F i H v H' mo.toMono re.dom y
      have ed : x.2.drop i = d :: x.2.drop (i + 1) := by
        have hl := (List.getElem?_eq_some_iff.mp e)
        rw [List.drop_eq_getElem_cons hl.1, hl.2]
      rw [ed] at hl
      have re' := re.grow gr
      obtain ⟨B', reB, hB0, hBA, back, hBW⟩ := re'.rebase hs
      rw [hmg] at hBW
      have hDB : D ∉ B'.A0 := fun z => by
        obtain ⟨j, hj, q⟩ := hBA D z
        exact hDw j hj q
      have hD' : B'.H0 D = some (HO.lst acc) := by rw [hB0]; exact gr.same _ _ hacc
      have stay : ∀ {F' ρ' σ' H'}, RE X.K B' own F' ρ' σ' H' → H' D = some (HO.lst acc) := fun r => r.old D _ hD' hDB
      have setd : ∀ {F' ρ' σ' H'}, RE X.K B' own F' ρ' σ' H' → ∀ j ∈ own, ∃ d, ρ'[j]? = some (some d) := fun r j hj => by
        have : j ∈ B'.IO.map (·.1) := by rw [B'.hio]; exact hj
        obtain ⟨p, hp, rfl⟩ := List.mem_map.mp this
        exact (r.io p hp).2.2
      have h0 : lcL g t m vs (d :: x.2.drop (i + 1)) ρ = (Rs.opt (g d (wipeE ρ vs)) fun ρ1 => (t ρ1).bind fun x' => if x'.2 then (m x'.1).bind fun y => (lcL g t m vs (x.2.drop (i + 1)) y.1).bind fun z => .ok (z.1, y.2 :: z.2)
        else lcL g t m vs (x.2.drop (i + 1)) x'.1) := rfl
      rw [h0] at hl
      cases hg : g d (wipeE ρ vs) with
      | none => rw [hg] at hl; cases hl
      | some ρ1 =>
        rw [hg] at hl
        obtain ⟨⟨ρ2, c⟩, ht, hl⟩ := Rs.bind_ok hl
        refine ⟨⟨B', hBW⟩, wipeE ρ vs, F, d, reB, rp, ρ1, hg, fun σ2 H2 F2 re2 mo2 len2 out2 => ?_⟩
        have hw : L2.wipe σ2 vs = L2.wipe σ vs := by
          have h1 := wipe_eq (vs := vs) len2 (fun k hk => out2 k fun z => hk (hts k z))
          rw [h1]
          exact wipe_eq (by rw [wipe_length]) fun k hk => wipe_get hk
        have fin : ∀ {ρ4 F4 H4}, RE X.K B' own F4 ρ4 σ2 H4 → RE X.K B own F4 (wipeE ρ4 vs) (L2.wipe σ vs) H4 := fun r => by
          have := (back r).wipe hvo
          rw [hw] at this; exact this
        have nFD : ∀ {F4 H4}, Mn X.K F H' F4 H4 → ¬ F4 D := fun {F4 H4} mm z => by
          rcases mm.new D z with q | q
          · exact nF q
          · rw [gr.same _ _ hacc] at q; cases q
        refine ⟨hw, ⟨B', hBW⟩, ρ1, F2, re2, ?_⟩
        rw [ht]
        intro H3 F3 re3 mo3
        cases c with
        | false =>
          refine ⟨ρ2, F3, fin re3, fun j hj => ?_, mo.trans (gr.mn.trans (mo2.trans mo3)), nFD (mo2.trans mo3), acc, da, rest, stay re3, racc.mono (gr.mono.trans (mo2.trans mo3).toMono), hl, hrs⟩
          rw [wipeE_get (no hj)]
          exact setd re3 j hj
        | true =>
          obtain ⟨⟨ρ3, r⟩, hm, hl⟩ := Rs.bind_ok hl
          obtain ⟨⟨ρ4, rest'⟩, hl2, he2⟩ := Rs.bind_ok hl
          cases he2
          refine ⟨⟨B', hBW⟩, ρ2, F3, re3, ?_⟩
          rw [hm]
          intro u H4 F4 re4 mo4 rp4
          have hD4 := stay re4
          have mA : Mn X.K F H' F4 H4 := mo2.trans (mo3.trans mo4)
          have nF4 := nFD mA
          obtain ⟨re5, mo5⟩ := (fin re4).updFree (o' := HO.lst (acc ++ [u])) nF4 hD0 hDw hD4 (fun xs => ⟨(fun z => nomatch z), (fun q z => nomatch z)⟩)
          have la : acc.length = da.length := racc.length
          refine ⟨acc, hD4, ?_, ρ3, F4, re5, fun j hj => ?_, mo.trans (gr.mn.trans (mA.trans mo5)), nF4, acc ++ [u], da ++ [r], rest', upd_same, ?_, hl2, by rw [← hrs]; simp⟩
          · rw [← hrs] at hlen
            simp only [List.length_append, List.length_cons] at hlen
            omega
          · rw [wipeE_get (no hj)]
            exact setd re4 j hj
          · exact (racc.mono (gr.mono.trans (mA.toMono.trans mo5.toMono))).append (.one (rp4.mono mo5.toMono))
    · have e0 : x.2.drop x.2.length = [] := by simp
      rw [e0] at hl
      cases hl
      have la : da = rs := by simpa using hrs
      subst la
      obtain ⟨re6, mo6⟩ := re.addF (p := D) (by rw [hacc]; simp) hDw hD0
      have mn6 : Mn X.K F1 H1 (fun a => F a ∨ a = D) H := ⟨mo.toMono.trans mo6, fun a h => by
        rcases h with h | rfl
        · exact mo.new a h
        · exact .inr nD, mo.keep⟩
      exact w2 _ H _ (re1.kept re6 (mo.toMono.trans mo6) hvo) (mo1.trans mn6) (.lst (.inl ⟨.inr rfl, .inl hacc⟩) (racc.mono mo6))
theorem de_lc {elt tg iter : Expr} {ifs : List Expr} {scope : Scope} {ownp : List (Str × Nat)} {pos : Pos} {it : IM} {g : GM} {t : TM} {m : EM} {vs ts : List Nat} (hc : X.calm = true) (nd : X.N.Nodup) (hmg : B.mg = X.mg) (hi : Di X B own tg iter it) (ok : BlkOk X.N X.env.scope scope ownp)
    (hg : ∀ (s : Shared) (H : Hp) (C : Addr) (cl : List (Str × Addr)) (fp : List Addr) (b : Bs own), b.W = (fun _ _ _ _ => False) → b.mg = X.mg → Dg (X.blk s H scope (compEnvC scope cl C X.env) fp) b own own ts tg g)
    (ht : ∀ (s : Shared) (H : Hp) (C : Addr) (cl : List (Str × Addr)) (fp : List Addr) (b : Bs own), b.W = (fun _ _ _ _ => False) → b.mg = X.mg → Dts (X.blk s H scope (compEnvC scope cl C X.env) fp) b own ifs t)
    (he : ∀ (s : Shared) (H : Hp) (C : Addr) (cl : List (Str × Addr)) (fp : List Addr) (b : Bs own), b.W = (fun _ _ _ _ => False) → b.mg = X.mg → De (X.blk s H scope (compEnvC scope cl C X.env) fp) b own elt m)
    (hv : ownp.map (·.2) = vs := by rfl) (hts : ∀ i ∈ ts, i ∈ vs := by decide) (hvo : ∀ v ∈ vs, v ∉ own := by decide) (hs : ∀ x, foldedSetIterable iter X.env x = pure x := by intro _; rfl) : De X B own (.ListComp elt [⟨tg, iter, ifs, 0⟩] scope pos) (mLc own it g t m vs) := by
  subst hv
  exact pe_imp (pe_lc hc nd hi ok (fun s H C cl fp => pg_ex (t := fun b : Bq own X.mg => tDG X.K b.1 own own ts g) fun b => hg s H C cl fp b.1 b.2.1 b.2.2) (fun s H C cl fp => pts_ex (t := fun b : Bq own X.mg => tDT X.K b.1 own t) fun b => ht s H C cl fp b.1 b.2.1 b.2.2) (fun s H C cl fp => pe_ex (t := fun b : Bq own X.mg => tD X.K b.1 own m) fun b => he s H C cl fp b.1 b.2.1 b.2.2) hs) (tD_lc (fun _ _ _ h => h) hmg hts hvo)
/-- name = [..] on one line -/
theorem ds_setLc {i : Nat} {y : Str} {py spos : Pos} {bk ct : List Nat} {elt tg iter : Expr} {ifs : List Expr} {scope : Scope} {ownp : List (Str × Nat)} {pos : Pos} {it : IM} {g : GM} {t : TM} {m : EM} {vs ts : List Nat} (hc : X.calm = true) (nd : X.N.Nodup) (hmg : B.mg = X.mg) (hsw : swapsWith (.ListComp elt [⟨tg, iter, ifs, 0⟩] scope pos) (some (.Name y py)) spos.line X.env = pure true) (hi : Di X B own tg iter it) (ok : BlkOk X.N X.env.scope scope ownp)
    (hg : ∀ (s : Shared) (H : Hp) (C : Addr) (cl : List (Str × Addr)) (fp : List Addr) (b : Bs own), b.W = (fun _ _ _ _ => False) → b.mg = X.mg → Dg (X.blk s H scope (compEnvC scope cl C X.env) fp) b own own ts tg g)
    (ht : ∀ (s : Shared) (H : Hp) (C : Addr) (cl : List (Str × Addr)) (fp : List Addr) (b : Bs own), b.W = (fun _ _ _ _ => False) → b.mg = X.mg → Dts (X.blk s H scope (compEnvC scope cl C X.env) fp) b own ifs t)
    (he : ∀ (s : Shared) (H : Hp) (C : Addr) (cl : List (Str × Addr)) (fp : List Addr) (b : Bs own), b.W = (fun _ _ _ _ => False) → b.mg = X.mg → De (X.blk s H scope (compEnvC scope cl C X.env) fp) b own elt m)
    (ho : i ∉ io := by decide) (hy : X.N[i]? = some y := by rfl) (hyl : X.env.scope.names.lookup y = some .local := by rfl)
    (hv : ownp.map (·.2) = vs := by rfl) (hts : ∀ i ∈ ts, i ∈ vs := by decide) (hvo : ∀ v ∈ vs, v ∉ own := by decide) (hs : ∀ x, foldedSetIterable iter X.env x = pure x := by intro _; rfl) :
    Ds X B own ⟨own.filter (· ≠ i), bk, ct⟩ (.Assign [.Name y py] (.ListComp elt [⟨tg, iter, ifs, 0⟩] scope pos) spos) (sSet i (mLc own it g t m vs)) := by
  subst hv
  refine ps_imp (ps_setLc hc nd hy hyl hsw hi ok (fun s H C cl fp => pg_ex (t := fun b : Bq own X.mg => tDG X.K b.1 own own ts g) fun b => hg s H C cl fp b.1 b.2.1 b.2.2) (fun s H C cl fp => pts_ex (t := fun b : Bq own X.mg => tDT X.K b.1 own t) fun b => ht s H C cl fp b.1 b.2.1 b.2.2) (fun s H C cl fp => pe_ex (t := fun b : Bq own X.mg => tD X.K b.1 own m) fun b => he s H C cl fp b.1 b.2.1 b.2.2) hs) fun D σ H ⟨ρ, F, re, w⟩ => ?_
  exact tD_lc (fun _ _ _ h => h) hmg hts hvo σ H _ ⟨ρ, F, re, thE w fun ρ1 d1 v1 H1 F1 re1 mo1 rp1 w1 => w1 _ H1 F1 (re1.set rp1 ho) Mono.refl⟩
end
end Kd

end T_KD3
section T_KD4
set_option maxRecDepth 100000
/-! KD4: what a def promises, calls, lists that are changed. -/
namespace Kd
open PySem PySem.Spec PyProof.Rows L2

/-! ### slots handed in to be changed -/
def setL (ρ : Ev) : List Nat → List PyData → Ev
  | j :: js, d :: ds => (setL ρ js ds).set j (some d)
  | _, _ => ρ
theorem setL_length (ρ : Ev) : ∀ (js : List Nat) (ds : List PyData), (setL ρ js ds).length = ρ.length
  | [], _ => rfl
  | _ :: _, [] => rfl
  | j :: js, d :: ds => by unfold setL; rw [List.length_set, setL_length ρ js ds]
theorem setL_out {ρ : Ev} {i : Nat} : ∀ {js : List Nat} {ds : List PyData}, i ∉ js → (setL ρ js ds)[i]? = ρ[i]?
  | [], _, _ => rfl
  | _ :: _, [], _ => rfl
  | j :: js, d :: ds, h => by
    unfold setL
    rw [List.getElem?_set_ne (fun z => h (by simp [z]))]
    exact setL_out fun z => h (List.mem_cons_of_mem _ z)
theorem setL_at {ρ : Ev} : ∀ {js : List Nat} {ds : List PyData} {k j : Nat} {d : PyData}, js.Nodup → js[k]? = some j → ds[k]? = some d → j < ρ.length → (setL ρ js ds)[j]? = some (some d)
  | [], _, _, _, _, _, h, _, _ => by simp at h
  | _ :: _, [], _, _, _, _, _, h, _ => by simp at h
  | j' :: js, d' :: ds, k, j, d, nd, h1, h2, hl => by
    rw [List.nodup_cons] at nd
    cases k with
    | zero =>
      simp only [List.getElem?_cons_zero, Option.some.injEq] at h1 h2
      subst h1 h2
      unfold setL
      rw [List.getElem?_set_self (by rw [setL_length]; exact hl)]
    | succ k =>
      simp only [List.getElem?_cons_succ] at h1 h2
      have hne : j' ≠ j := fun z => nd.1 (z ▸ List.mem_of_getElem? h1)
      unfold setL
      rw [List.getElem?_set_ne hne]
      exact setL_at nd.2 h1 h2 hl
section
variable {K : PySem.W.Frag} {io : List Nat} {B : Bs io} {own : List Nat} {F F' : Addr → Prop} {H H' : Hp} {ρ : Ev} {σ : Sl}
/-- behind a call -/
theorem RE.call (r : RE K B own F ρ σ H) {js : List Nat} {os : List PyData} (hj : ∀ j ∈ js, j ∈ own) (nd : js.Nodup) (hs : ∀ j ∈ js, ∃ d, ρ[j]? = some (some d)) (sub : ∀ a, F a → F' a) (new : ∀ a, F' a → F a ∨ H a = none)
    (dom : ∀ a, F' a → H' a ≠ none) (keep : ∀ a, H a ≠ none → H' a ≠ none) (frame : ∀ b o, H b = some o → (∀ j ∈ js, σ[j]? ≠ some (some (V.ref b))) → H' b = some o)
    (outs : ∀ (k j : Nat), js[k]? = some j → ∃ a d, σ[j]? = some (some (V.ref a)) ∧ os[k]? = some d ∧ ¬ F' a ∧ OwnV K F' H' a d) : RE K B own F' (setL ρ js os) σ H' ∧ Mn K F H F' H' := by
  have adr : ∀ j ∈ js, ∃ a, σ[j]? = some (some (V.ref a)) ∧ ¬ F a ∧ (B.H0 a = none ∨ a ∈ B.A0) ∧ ∃ d, OwnV K F H a d := fun j h => by
    obtain ⟨d, e⟩ := hs j h
    obtain ⟨a, h1, h2, h3, h4⟩ := r.ow j d (hj j h) e
    exact ⟨a, h1, h2, h3, d, h4⟩
  have frF : ∀ {b o}, F b → H b = some o → H' b = some o := fun {b o} hF e => frame b o e fun j h z => by
    obtain ⟨a, h1, h2, _⟩ := adr j h
    rw [h1] at z; cases z; exact h2 hF
  have frT : ∀ {b xs}, Rd H b (.tup xs) → Rd H' b (.tup xs) := fun {b xs} h => by
    have ne : ∀ {o}, H b = some o → (o = .tup xs ∨ ∃ q, o = .frz q (.tup xs)) → H' b = some o := fun {o} e z => frame b o e fun j hj' w => by
      obtain ⟨a, h1, _, _, d, h4⟩ := adr j hj'
      rw [h1] at w; cases w
      cases h4 with
      | lst q _ => rw [e] at q; cases q; rcases z with z | ⟨_, z⟩ <;> cases z
      | dK q _ => rw [e] at q; cases q; rcases z with z | ⟨_, z⟩ <;> cases z
      | dT q _ => rw [e] at q; cases q; rcases z with z | ⟨_, z⟩ <;> cases z
    rcases h with h | ⟨q, h⟩
    · exact .inl (ne h (.inl rfl))
    · exact .inr ⟨q, ne h (.inr ⟨q, rfl⟩)⟩
  have mo : Mono K F H F' H' := ⟨sub, fun a u hF h => frF hF h, fun a xs h => by
    rcases h with h | h
    · exact .inl (frT h)
    · exact .inr h⟩
  have idx : ∀ {j}, j ∈ js → ∃ k, js[k]? = some j := fun {j} h => List.mem_iff_getElem?.mp h
  have hlt : ∀ {j}, j ∈ js → j < ρ.length := fun {j} h => by
    obtain ⟨d, e⟩ := hs j h
    exact (List.getElem?_eq_some_iff.mp e).1
  have asg : ∀ {i d}, (setL ρ js os)[i]? = some (some d) → ∃ d', ρ[i]? = some (some d') := fun {i d} e => by
    by_cases hi : i ∈ js
    · exact hs i hi
    · rw [setL_out hi] at e; exact ⟨d, e⟩
  refine ⟨⟨by rw [setL_length]; exact r.len, fun i d hi e => ?_, fun i d hi e => ?_, fun i j d e hi hj' hn h1 h2 => ?_, dom, fun b o h hA => ?_, fun a h => sub a (r.fold a h), fun a h => ?_, fun p hp => ?_, fun i e => ?_⟩, mo, new, keep⟩
  · have hn : i ∉ js := fun z => hi (hj i z)
    rw [setL_out hn] at e
    obtain ⟨v, h1, h2⟩ := r.fz i d hi e
    exact ⟨v, h1, h2.mono mo⟩
  · by_cases hn : i ∈ js
    · obtain ⟨k, hk⟩ := idx hn
      obtain ⟨a, d', h1, h2, h3, h4⟩ := outs k i hk
      rw [setL_at nd hk h2 (hlt hn)] at e
      cases e
      obtain ⟨b, q1, _, q3, _⟩ := adr i hn
      rw [h1] at q1; cases q1
      exact ⟨a, h1, h3, q3, h4⟩
    · rw [setL_out hn] at e
      obtain ⟨a, h1, h2, h3, h4⟩ := r.ow i d hi e
      have hne : ∀ j ∈ js, σ[j]? ≠ some (some (V.ref a)) := fun j hj' z => by
        obtain ⟨d', q⟩ := hs j hj'
        exact r.ne j i d' d (hj j hj') hi (fun y => hn (y ▸ hj')) q e (z.trans h1.symm)
      have nF : ¬ F' a := fun z => by
        rcases new a z with q | q
        · exact h2 q
        · exact h4.there q
      refine ⟨a, h1, nF, h3, ?_⟩
      cases h4 with
      | lst q w => exact .lst (frame a _ q hne) (w.mono mo)
      | dK q w => exact .dK (frame a _ q hne) (w.mono mo)
      | dT q w => exact .dT (frame a _ q hne) (w.mono mo)
  · obtain ⟨d1, q1⟩ := asg h1
    obtain ⟨d2, q2⟩ := asg h2
    exact r.ne i j d1 d2 hi hj' hn q1 q2
  · refine frame b o (r.old b o h hA) fun j hj' z => ?_
    obtain ⟨a, h1, _, h3, _⟩ := adr j hj'
    rw [h1] at z; cases z
    rcases h3 with h3 | h3
    · rw [h3] at h; cases h
    · exact hA h3
  · rcases new a h with z | z
    · exact r.fnew a z
    · exact .inr (r.h0 z)
  · obtain ⟨h1, h2, d, h3⟩ := r.io p hp
    refine ⟨h1, h2, ?_⟩
    by_cases hn : p.1 ∈ js
    · obtain ⟨k, hk⟩ := idx hn
      obtain ⟨a, d', _, q2, _⟩ := outs k _ hk
      exact ⟨d', setL_at nd hk q2 (hlt hn)⟩
    · exact ⟨d, by rw [setL_out hn]; exact h3⟩
  · by_cases hn : i ∈ js
    · obtain ⟨k, hk⟩ := idx hn
      obtain ⟨a, d', _, q2, _⟩ := outs k _ hk
      rw [setL_at nd hk q2 (hlt hn)] at e; cases e
    · rw [setL_out hn] at e; exact r.un i e
end

/-! ### a def's promise -/
/-- how the arguments lie -/
structure ArgR (K : PySem.W.Frag) (io : List Nat) (F : Addr → Prop) (H : Hp) (vs : List V) (ds : List PyData) : Prop where
  len : vs.length = ds.length
  fz : ∀ (i : Nat) v d, i ∉ io → vs[i]? = some v → ds[i]? = some d → Rp K F H v d
  ow : ∀ (i : Nat) v d, i ∈ io → vs[i]? = some v → ds[i]? = some d → ∃ a, v = .ref a ∧ ¬ F a ∧ OwnV K F H a d
  ne : ∀ i j : Nat, i ∈ io → j ∈ io → i ≠ j → i < vs.length → vs[i]? ≠ vs[j]?
  lt : ∀ i ∈ io, i < vs.length
/-- what stands behind a call -/
structure Aft (K : PySem.W.Frag) (io : List Nat) (vs : List V) (F : Addr → Prop) (H : Hp) (F' : Addr → Prop) (H' : Hp) : Prop where
  sub : ∀ a, F a → F' a
  new : ∀ a, F' a → F a ∨ H a = none
  dom : ∀ a, F' a → H' a ≠ none
  keep : ∀ a, H a ≠ none → H' a ≠ none
  frame : ∀ b o, H b = some o → (∀ i ∈ io, vs[i]? ≠ some (V.ref b)) → H' b = some o
abbrev FM := List PyData → Rs (List PyData × PyData)
/-- what a call hands back -/
def RetC (K : PySem.W.Frag) (fr : Bool) (H : Hp) (F' : Addr → Prop) (H' : Hp) (v : V) (d : PyData) : Prop :=
  if fr then ∃ a, v = .ref a ∧ ¬ F' a ∧ H a = none ∧ OwnV K F' H' a d else Rp K F' H' v d
def spD (K : PySem.W.Frag) (mg : Str → Option Value) (io : List Nat) (n : Nat) (fr : Bool) (f : FM) : Sp := fun vs H Q E => ∃ ds F, ds.length = n ∧ ArgR K io F H vs ds ∧ (∀ a, F a → H a ≠ none) ∧
  match f ds with
  | .ok (os, d) => ∀ v H' F', Aft K io vs F H F' H' → (∀ (k i : Nat), io[k]? = some i → ∃ a d', vs[i]? = some (V.ref a) ∧ os[k]? = some d' ∧ ¬ F' a ∧ OwnV K F' H' a d') → RetC K fr H F' H' v d → Q v H'
  | .exc c x => ∀ cls dx H' F', Aft K io vs F H F' H' → XD K mg F' H' c x cls dx → E cls dx H'
  | .bad => False
/-- a def that keeps its promise, called while nothing is shown -/
structure FnG (P : Program) (w : World) (K : PySem.W.Frag) (mg : Str → Option Value) (base : Heap) (k : Nat) (f : Addr) (fd : FuncData) (ps : List Str) (sp : Sp) : Prop where
  len : ∀ vs H Q E, sp vs H Q E → vs.length = ps.length
  run : ∀ (A : Around) (outer : List Env) (s : Shared) (H : Hp) (args : Args) (us : List Value) (vs : List V) (Q : VK) (E : XK), Room k A → A.guards = some [] → Env0 P w K mg base A outer s H →
    BindsTo s fd args (ps.zip us) → Vals vs us → sp vs H Q E → codeAny (model P w) A (.call (.ref f) args) (CR (L2.CX P w) outer P w H s Q E) s
def outs (ρ : Ev) : List Nat → Option (List PyData)
  | [] => some []
  | i :: r => (gt ρ i).bind fun d => (outs ρ r).map fun ds => d :: ds
theorem outs_at {ρ : Ev} : ∀ {io : List Nat} {os : List PyData}, outs ρ io = some os → ∀ (k i : Nat), io[k]? = some i → ∃ d, os[k]? = some d ∧ ρ[i]? = some (some d)
  | [], _, _, _, _, h => by simp at h
  | j :: r, os, h, k, i, e => by
    obtain ⟨d, h1, h⟩ := Option.bind_eq_some_iff.mp h
    obtain ⟨ds, h2, rfl⟩ := Option.map_eq_some_iff.mp h
    cases k with
    | zero => simp only [List.getElem?_cons_zero, Option.some.injEq] at e ⊢; subst e; exact ⟨d, rfl, gt_ok h1⟩
    | succ k => simp only [List.getElem?_cons_succ] at e ⊢; exact outs_at h2 k i e
def ini (N : Nat) (ds : List PyData) : Ev := ds.map some ++ List.replicate (N - ds.length) none
/-- a def's run -/
def fnM (N : Nat) (io : List Nat) (fr : Bool) (m : SM) : FM := fun ds => (m (ini N ds)).bind fun fl => match fl with
  | .rt ρ d => Rs.opt (outs ρ io) fun os => .ok (os, d)
  | .nx ρ => if fr then .bad else Rs.opt (outs ρ io) fun os => .ok (os, .none)
  | _ => .bad

section
variable {P : Program} {w : World} {K : PySem.W.Frag} {mg : Str → Option Value} {base : Heap}
/-- a def of the text: its body keeps the promise -/
theorem FunD.gk {x qual : Str} {params : Arguments} {body : List Stmt} {scope : Scope} {dvs : List V} {kws : List (Str × V)} {f : Addr} {fd : FuncData} {N ps : List Str} {k : Nat} {sp : Sp} (F : FunD K x qual params body scope dvs kws f fd) (S : FnScope N ps scope)
    (len : ∀ vs H Q E, sp vs H Q E → vs.length = ps.length)
    (hbody : ∀ (cdv : Value) (A : Around) (outer : List Env) (s : Shared) (H : Hp) (vs : List V) (Q : VK) (E : XK), Room k (A.deeper (envOfC qual scope s.heap.objs.size f cdv)) → A.guards = some [] → sp vs H Q E →
      ∃ t, PSs (cxOf (L2.CX P w) P w K mg base N qual scope f cdv A outer s H E) body t ∧ t { nx := fun _ H' => Q .non H', rt := Q } (L2.start N vs) H) : FnG P w K mg base (k + 1) f fd ps sp := by
  obtain ⟨oc, od, dV, kV, doc, pm, an, cdv, ct, osl, rfl, lk, hcd, _, _⟩ := F.ex
  refine ⟨len, fun A outer s H args us vs Q E room gd en0 bnd rv hsp => ?_⟩
  have hlen := len _ _ _ _ hsp
  have inK : K.In s.heap := en0.mod.kin.keeps fun b o e => (en0.bs b o e).1
  have noLim : s.heap.NoLimit := en0.mod.nolimit.keeps fun b o e => (en0.bs b o e).1
  have kinds : ∀ y ∈ ps.zip us, scope.names.lookup y.1 = some .local ∨ (scope.names.lookup y.1 = some .cell ∧ ((cellsFrom (s.heap.objs.size + 1) scope.names []).lookup y.1).isSome = true) := by
    intro y hy
    rcases S.par y.1 (List.of_mem_zip hy).1 with q | q
    · exact .inl q
    · exact .inr ⟨q, PySem.W.cellsFrom_some _ _ _ (.inl q)⟩
  refine codeAny_call_function room.depth (inK _ _ lk) rfl S.co S.gen rfl (PySem.W.codeRec_of inK hcd) (bnd _ _ _ _ (wpAny_newFunctionEnv_cells S.kind kinds fun env he st IC => ?_))
  subst he
  refine ⟨noLim.keeps IC.toInCall.keep, codeAny_func ?_⟩
  obtain ⟨t, ht, q⟩ := hbody cdv A outer s H vs Q E (room.deeper _) gd hsp
  have I0 := inv_start (CX := L2.CX P w) (P := P) (w := w) (K := K) (mg := mg) (base := base) (E := E) S room.hd en0 hlen rv IC
  refine wpAny_mono (ht.run [] st (L2.start N vs) H _ I0 q) (fun fl s' hs => ?_) (fun _ _ z => z)
  cases fl with
  | ret u => obtain ⟨v, σ', H', J, ru, qv⟩ := hs; exact ⟨v, H', J.os, J.bare, J.base, J.hok, ru, qv⟩
  | next => obtain ⟨σ', H', J, qv⟩ := hs; exact ⟨V.non, H', J.os, J.bare, J.base, J.hok, rfl, qv⟩
  | brk => obtain ⟨_, _, _, z⟩ := hs; exact False.elim z
  | cont => obtain ⟨_, _, _, z⟩ := hs; exact False.elim z
theorem ini_get {N : Nat} {ds : List PyData} {i : Nat} {d : PyData} (h : (ini N ds)[i]? = some (some d)) : ds[i]? = some d := by
  unfold ini at h
  by_cases hi : i < ds.length
  · rw [List.getElem?_append_left (by simpa using hi), List.getElem?_map] at h
    cases e : ds[i]? with
    | none => rw [e] at h; cases h
    | some d' => rw [e] at h; cases h; rfl
  · rw [List.getElem?_append_right (by simpa using hi), List.getElem?_replicate] at h
    split at h <;> cases h
theorem start_get {N : List Str} {vs : List V} {i : Nat} {v : V} (h : vs[i]? = some v) : (L2.start N vs)[i]? = some (some v) := by
  unfold L2.start
  have hi := (List.getElem?_eq_some_iff.mp h).1
  rw [List.getElem?_append_left (by simpa using hi), List.getElem?_map, h]; rfl
/-- a body that does what m does keeps the def's promise -/
theorem fun_ok {x qual : Str} {params : Arguments} {body : List Stmt} {scope : Scope} {dvs : List V} {kws : List (Str × V)} {f : Addr} {fd : FuncData} {N ps : List Str} {k : Nat} (io : List Nat) (fr : Bool) {m : SM} {nN np : Nat} (F : FunD K x qual params body scope dvs kws f fd) (S : FnScope N ps scope)
    (hN : N.length = nN := by rfl) (hp : ps.length = np := by rfl)
    (hb : ∀ (cdv : Value) (A : Around) (outer : List Env) (s : Shared) (H : Hp) (E : XK) (B : Bs io), Room k (A.deeper (envOfC qual scope s.heap.objs.size f cdv)) → A.guards = some [] → Takes (cxOf (L2.CX P w) P w K mg base N qual scope f cdv A outer s H E) B.W →
      PassesOwn (model P w) (A.deeper (envOfC qual scope s.heap.objs.size f cdv)) (envOfC qual scope s.heap.objs.size f cdv) (cxOf (L2.CX P w) P w K mg base N qual scope f cdv A outer s H E).xe → B.mg = mg → B.fr = fr →
      Dss (cxOf (L2.CX P w) P w K mg base N qual scope f cdv A outer s H E) B io ⟨io, [], []⟩ body m) :
    FnG P w K mg base (k + 1) f fd ps (spD K mg io np fr (fnM nN io fr m)) := by
  subst hN hp
  refine FunD.gk F S (fun vs H Q E ⟨ds, Fz, h1, h2, _⟩ => h2.len.trans h1) fun cdv A outer s H vs Q E room gd ⟨ds, Fz, h1, ar, dom, h3⟩ => ?_
  have hlv : vs.length = ps.length := ar.len.trans h1
  have hln : ps.length ≤ N.length := by
    have := congrArg List.length S.pre
    rw [List.length_take] at this
    omega
  have ioA : ∀ i ∈ io, ∃ a, vs[i]? = some (V.ref a) ∧ ¬ Fz a ∧ ∃ d, ds[i]? = some d ∧ OwnV K Fz H a d := fun i hi => by
    have hl := ar.lt i hi
    have e1 : vs[i]? = some vs[i] := List.getElem?_eq_getElem hl
    have e2 : ds[i]? = some (ds[i]'(ar.len ▸ hl)) := List.getElem?_eq_getElem _
    obtain ⟨a, q1, q2, q3⟩ := ar.ow i _ _ hi e1 e2
    exact ⟨a, by rw [e1, q1], q2, _, e2, q3⟩
  let B : Bs io := ⟨H, Fz, io.map fun i => (i, adr ((L2.start N vs)[i]?)), mg, fun cls d _ H => E cls d H, fr, by rw [List.map_map]; exact (List.map_congr_left fun _ _ => rfl).trans (List.map_id io)⟩
  have hA : ∀ i ∈ io, ∀ a, vs[i]? = some (V.ref a) → a ∈ B.A0 := fun i hi a e => by
    refine List.mem_map.mpr ⟨(i, adr ((L2.start N vs)[i]?)), List.mem_map.mpr ⟨i, hi, rfl⟩, ?_⟩
    rw [start_get e]; rfl
  have hA' : ∀ a ∈ B.A0, ∃ i ∈ io, vs[i]? = some (V.ref a) := fun a h => by
    obtain ⟨p, hp, rfl⟩ := List.mem_map.mp h
    obtain ⟨i, hi, rfl⟩ := List.mem_map.mp hp
    obtain ⟨a, e, _⟩ := ioA i hi
    refine ⟨i, hi, ?_⟩
    rw [e, start_get e]; rfl
  have re0 : RE K B io Fz (ini N.length ds) (L2.start N vs) H := by
    refine ⟨?_, fun i d hi e => ?_, fun i d hi e => ?_, fun i j d e hi hj hn q1 q2 => ?_, dom, fun b o h _ => h, fun a h => h, fun a h => .inl h, fun p hp => ?_, fun i e => ?_⟩
    · unfold ini L2.start
      simp only [List.length_append, List.length_map, List.length_replicate]
      rw [ar.len]
    · have e' := ini_get e
      have hl := (List.getElem?_eq_some_iff.mp e').1
      have e1 : vs[i]? = some (vs[i]'(by rw [ar.len]; exact hl)) := List.getElem?_eq_getElem _
      exact ⟨_, start_get e1, ar.fz i _ d hi e1 e'⟩
    · obtain ⟨a, q1, q2, d', q3, q4⟩ := ioA i hi
      rw [ini_get e] at q3; cases q3
      exact ⟨a, start_get q1, q2, .inr (hA i hi a q1), q4⟩
    · obtain ⟨a, w1, _⟩ := ioA i hi
      obtain ⟨b, w2, _⟩ := ioA j hj
      rw [start_get w1, start_get w2]
      intro z
      refine ar.ne i j hi hj hn (ar.lt i hi) ?_
      rw [w1, w2]
      exact Option.some.inj z
    · obtain ⟨i, hi, rfl⟩ := List.mem_map.mp hp
      obtain ⟨a, q1, _, d, q3, _⟩ := ioA i hi
      refine ⟨by rw [start_get q1]; rfl, hi, d, ?_⟩
      unfold ini
      have hl := (List.getElem?_eq_some_iff.mp q3).1
      rw [List.getElem?_append_left (by simpa using hl), List.getElem?_map, q3]; rfl
    · unfold ini at e
      unfold L2.start
      by_cases hi : i < ds.length
      · rw [List.getElem?_append_left (by simpa using hi), List.getElem?_map, List.getElem?_eq_getElem hi] at e; cases e
      · rw [List.getElem?_append_right (by simpa using hi)] at e
        rw [List.getElem?_append_right (by simp only [List.length_map]; rw [ar.len]; omega)]
        simp only [List.length_map] at e ⊢
        rw [ar.len]
        rw [List.getElem?_replicate] at e ⊢
        split at e
        · rename_i hlt; rw [if_pos hlt]
        · cases e
  have aft : ∀ {ρ' σ' H' F'}, RE K B io F' ρ' σ' H' → Aft K io vs Fz H F' H' := fun {ρ' σ' H' F'} r => by
    refine ⟨fun a h => r.fold a h, fun a h => r.fnew a h, r.dom, fun a h => ?_, fun b o h hn => r.old b o h fun z => ?_⟩
    · by_cases hz : a ∈ B.A0
      · exact r.a0 a hz
      · cases e : H a with
        | none => exact absurd e h
        | some o => rw [r.old a o e hz]; simp
    · obtain ⟨i, hi, e⟩ := hA' b z
      exact hn i hi e
  refine ⟨_, hb cdv A outer s H E B room gd (takes_of rfl rfl rfl rfl) (passes_of rfl) rfl rfl, ini N.length ds, Fz, re0, ?_⟩
  unfold fnM at h3
  cases q : m (ini N.length ds) with
  | bad => rw [q] at h3; exact h3.elim
  | exc c x =>
    rw [q] at h3
    exact fun cls dx ρ' σ' H' F' r mo xd => h3 cls dx H' F' (aft r) xd
  | ok fl =>
    rw [q] at h3
    have outsOk : ∀ {ρ' : Ev} {os : List PyData} {σ' H' F'}, outs ρ' io = some os → RE K B io F' ρ' σ' H' → ∀ (k i : Nat), io[k]? = some i → ∃ a d', vs[i]? = some (V.ref a) ∧ os[k]? = some d' ∧ ¬ F' a ∧ OwnV K F' H' a d' := fun {ρ' os σ' H' F'} ho r k i hk => by
      obtain ⟨d, e1, e2⟩ := outs_at ho k i hk
      have hi := List.mem_of_getElem? hk
      obtain ⟨a, q1, _⟩ := ioA i hi
      obtain ⟨b, w1, w2, _, w4⟩ := r.ow i d hi e2
      have q2 := (r.io (i, adr ((L2.start N vs)[i]?)) (List.mem_map.mpr ⟨i, hi, rfl⟩)).1
      have e3 : adr ((L2.start N vs)[i]?) = a := by rw [start_get q1]; rfl
      rw [e3] at q2
      rw [q2] at w1; cases w1
      exact ⟨a, d, q1, e1, w2, w4⟩
    cases fl with
    | rt ρ d =>
      cases ho : outs ρ io with
      | none => simp only [Rs.bind, ho, Rs.opt] at h3
      | some os =>
        simp only [Rs.bind, ho, Rs.opt] at h3
        exact fun v σ' H' F' r mo rp => h3 v H' F' (aft r) (outsOk ho r) rp
    | nx ρ =>
      cases fr with
      | true => simp only [Rs.bind, if_true] at h3
      | false =>
        cases ho : outs ρ io with
        | none => simp only [Rs.bind, ho, Rs.opt, Bool.false_eq_true, if_false] at h3
        | some os =>
          simp only [Rs.bind, ho, Rs.opt, Bool.false_eq_true, if_false] at h3
          exact fun σ' H' F' r mo => h3 .non H' F' (aft r) (outsOk ho r) .non
    | bk ρ => exact h3.elim
    | ct ρ => exact h3.elim
end

/-! ### calls -/
inductive Ar where
  | e (m : EM)
  | io (j : Nat)
def evA : List Ar → Ev → Rs (Ev × List (PyData ⊕ Nat))
  | [], ρ => .ok (ρ, [])
  | .e m :: r, ρ => (m ρ).bind fun x => (evA r x.1).bind fun y => .ok (y.1, .inl x.2 :: y.2)
  | .io j :: r, ρ => Rs.opt (gt ρ j) fun _ => (evA r ρ).bind fun y => .ok (y.1, .inr j :: y.2)
def resolve (ρ : Ev) : List (PyData ⊕ Nat) → Option (List PyData)
  | [] => some []
  | .inl d :: r => (resolve ρ r).map fun ds => d :: ds
  | .inr j :: r => (gt ρ j).bind fun d => (resolve ρ r).map fun ds => d :: ds
def ioOf : List Ar → Nat → List Nat
  | [], _ => []
  | .e _ :: r, n => ioOf r (n + 1)
  | .io _ :: r, n => n :: ioOf r (n + 1)
def jsOf : List Ar → List Nat
  | [] => []
  | .e _ :: r => jsOf r
  | .io j :: r => j :: jsOf r
/-- f(..), the defaults behind -/
def mCall (f : FM) (as : List Ar) (dfl : List PyData) : EM := fun ρ => (evA as ρ).bind fun x => Rs.opt (resolve x.1 x.2) fun ds => (if (jsOf as).isEmpty then f (ds ++ dfl) else (f (ds ++ dfl)).quiet).bind fun y => .ok (setL x.1 (jsOf as) y.1, y.2)
inductive RpA (K : PySem.W.Frag) (F : Addr → Prop) (H : Hp) (σ : Sl) : List V → List (PyData ⊕ Nat) → Prop
  | nil : RpA K F H σ [] []
  | inl {v : V} {d : PyData} {vs : List V} {as : List (PyData ⊕ Nat)} : Rp K F H v d → RpA K F H σ vs as → RpA K F H σ (v :: vs) (.inl d :: as)
  | inr {v : V} {j : Nat} {vs : List V} {as : List (PyData ⊕ Nat)} : σ[j]? = some (some v) → RpA K F H σ vs as → RpA K F H σ (v :: vs) (.inr j :: as)
theorem RpA.mono {K : PySem.W.Frag} {F F' : Addr → Prop} {H H' : Hp} {σ : Sl} (m : Mono K F H F' H') : ∀ {vs : List V} {as : List (PyData ⊕ Nat)}, RpA K F H σ vs as → RpA K F' H' σ vs as
  | _, _, .nil => .nil
  | _, _, .inl h t => .inl (h.mono m) (RpA.mono m t)
  | _, _, .inr h t => .inr h (RpA.mono m t)
def kR {K : PySem.W.Frag} {io : List Nat} (B : Bs io) (own : List Nat) (σ : Sl) (Q : List V → Hp → Prop) : KF K (Ev × List (PyData ⊕ Nat)) :=
  ⟨fun F H x => ∀ vs H' F', RE K B own F' x.1 σ H' → Mn K F H F' H' → RpA K F' H' σ vs x.2 → Q vs H', fun m h v H' F' re mo rp => h v H' F' re (m.trans mo) rp⟩
def tDR (K : PySem.W.Frag) {io : List Nat} (B : Bs io) (own : List Nat) (as : List Ar) : TA := fun σ H Q => ∃ ρ F, RE K B own F ρ σ H ∧ Wa B (kR (K := K) B own σ Q) F H (evA as ρ)
abbrev Dr (X : Cx) {io : List Nat} (B : Bs io) (own : List Nat) (es : List Expr) (as : List Ar) : Prop := PA X es (tDR X.K B own as)
section
variable {X : Cx} {io : List Nat} {B : Bs io} {own : List Nat} {e : Expr} {es : List Expr} {pos : Pos} {m : EM}
theorem dr_nil : Dr X B own [] [] := pa_imp pa_nil fun σ H Q ⟨ρ, F, re, w⟩ => w [] H F re Mn.refl .nil
theorem dr_e {as : List Ar} (ha : De X B own e m) (hr : Dr X B own es as) (hs : starEach (e :: es) X.env = (false, eval e X.env) :: starEach es X.env := by rfl) : Dr X B own (e :: es) (.e m :: as) :=
  pa_imp (pa_cons ha hr hs) fun σ H Q ⟨ρ, F, re, w⟩ => ⟨ρ, F, re, thE w fun ρ1 d1 v1 H1 F1 re1 mo1 rp1 w1 => ⟨ρ1, F1, re1, w1.bind fun y wy vs H2 F2 re2 mo2 rp2 =>
    wy _ H2 F2 re2 mo2 (.inl (rp1.mono mo2.toMono) rp2)⟩⟩
theorem dr_io (j : Nat) {x : Str} {as : List Ar} (hr : Dr X B own es as) (hj : j ∈ own := by decide) (hN : X.N[j]? = some x := by rfl) (hv : Vis X.env.scope x := by first | exact Or.inl rfl | exact Or.inr (Or.inl rfl) | exact Or.inr (Or.inr rfl))
    (hd : (x == ("__debug__" : Str)) = false := by decide) (hcd : (x == ("__classdict__" : Str)) = false := by decide)
    (hs : starEach (.Name x pos :: es) X.env = (false, eval (.Name x pos) X.env) :: starEach es X.env := by rfl) : Dr X B own (.Name x pos :: es) (.io j :: as) :=
  pa_imp (pa_cons (pv j hN hv hd hcd) hr hs) fun σ H Q ⟨ρ, F, re, w⟩ => by
    obtain ⟨d, hd, w1⟩ := Wa.opt w
    obtain ⟨a, e1, _⟩ := re.ow j d hj (gt_ok hd)
    exact ⟨_, e1, ρ, F, re, w1.bind fun y wy vs H2 F2 re2 mo2 rp2 => wy _ H2 F2 re2 mo2 (.inr e1 rp2)⟩
/-- the callee runs -/
theorem run_g {CXk : Nat} {f : Addr} {fd : FuncData} {ps : List Str} {sp : Sp} {pins : List (Addr × Obj)} {σ : Sl} {H : Hp} {s : Shared} {Q : VK} {E : XK} {us : List Value} {vs : List V} {dvs : List V} {ds : List Value} (G : FnG X.prog X.w X.K X.mg X.base CXk f fd ps sp) (hr : Room CXk X.A) (gd : X.A.guards = some [])
    (hb : Binds X.K fd ps ds) (hd : Vals dvs ds) (hx : PassesAt (L2.CX X.prog X.w) X σ E) (I : Inv X pins σ H s) (r : Vals vs us) (h : sp (vs ++ dvs) H Q E) : wpAny (model X.prog X.w) X.A (call (.ref f) us) (EP X pins σ Q) X.xe s := by
  have rr : Vals (vs ++ dvs) (us ++ ds) := r.append hd
  have ll : (us ++ ds).length = ps.length := by rw [← rr.length]; exact G.len _ _ _ _ h
  refine wpAny_call (codeAny_mono (G.run X.A X.stack s H ⟨us, []⟩ (us ++ ds) (vs ++ dvs) Q E hr gd I.env0 (hb s us I.kIn ll) rr h) fun res s' z => ?_)
  cases res with
  | error err => exact hx pins H s err s' I z
  | ok fl =>
    cases fl with
    | ret u => exact I.after z
    | _ => exact z.elim
/-- what the arguments are to the callee -/
theorem argR {K : PySem.W.Frag} {F : Addr → Prop} {H : Hp} {ρ : Ev} {σ : Sl} (re : RE K B own F ρ σ H) : ∀ {as : List (PyData ⊕ Nat)} {vs : List V} {ds : List PyData}, RpA K F H σ vs as → resolve ρ as = some ds → (∀ j, .inr j ∈ as → j ∈ own) →
    vs.length = ds.length ∧ as.length = ds.length ∧ ∀ (i : Nat) v d, vs[i]? = some v → ds[i]? = some d → (∃ d', as[i]? = some (.inl d') ∧ Rp K F H v d) ∨ ∃ j a, as[i]? = some (.inr j) ∧ v = .ref a ∧ σ[j]? = some (some v) ∧ ρ[j]? = some (some d) ∧ ¬ F a ∧ OwnV K F H a d
  | _, _, _, .nil, h, _ => by cases h; exact ⟨rfl, rfl, fun i v d e => by simp at e⟩
  | _, _, _, .inl rp t, h, ho => by
    obtain ⟨ds', h1, rfl⟩ := Option.map_eq_some_iff.mp h
    obtain ⟨l, l2, k⟩ := argR re t h1 fun j hj => ho j (List.mem_cons_of_mem _ hj)
    refine ⟨by simp [l], by simp [l2], fun i v d e1 e2 => ?_⟩
    cases i with
    | zero => simp only [List.getElem?_cons_zero, Option.some.injEq] at e1 e2; subst e1 e2; exact .inl ⟨_, rfl, rp⟩
    | succ i => simp only [List.getElem?_cons_succ] at e1 e2 ⊢; exact k i v d e1 e2
  | _, _, _, .inr (j := j) rs t, h, ho => by
    obtain ⟨d0, h0, h⟩ := Option.bind_eq_some_iff.mp h
    obtain ⟨ds', h1, rfl⟩ := Option.map_eq_some_iff.mp h
    obtain ⟨l, l2, k⟩ := argR re t h1 fun j hj => ho j (List.mem_cons_of_mem _ hj)
    refine ⟨by simp [l], by simp [l2], fun i v d e1 e2 => ?_⟩
    cases i with
    | zero =>
      simp only [List.getElem?_cons_zero, Option.some.injEq] at e1 e2; subst e1 e2
      obtain ⟨a, q1, q2, _, q4⟩ := re.ow j _ (ho j List.mem_cons_self) (gt_ok h0)
      rw [rs] at q1; cases q1
      exact .inr ⟨j, a, rfl, rfl, rs, gt_ok h0, q2, q4⟩
    | succ i => simp only [List.getElem?_cons_succ] at e1 e2 ⊢; exact k i v d e1 e2
theorem Wa_bindE {K : PySem.W.Frag} {α β : Type} {κ : KF K α} {F : Addr → Prop} {H : Hp} {x : Rs β} {f : β → Rs α} {κ' : KF K β} (w : Wa B κ F H (x.bind f)) (h : ∀ b, x = .ok b → Wa B κ F H (f b) → κ'.k F H b) : Wa B κ' F H x := by
  cases x with
  | ok b => exact h b rfl w
  | exc c x => exact w
  | bad => exact w
theorem ev_shape : ∀ {as : List Ar} {ρ : Ev} {y : Ev × List (PyData ⊕ Nat)}, evA as ρ = .ok y → y.2.length = as.length ∧ ∀ (i j : Nat), y.2[i]? = some (.inr j) ↔ as[i]? = some (.io j)
  | [], ρ, y, h => by cases h; exact ⟨rfl, fun i j => by simp⟩
  | .e m :: r, ρ, y, h => by
    obtain ⟨x, h1, h⟩ := Rs.bind_ok h
    obtain ⟨z, h2, h⟩ := Rs.bind_ok h
    cases h
    obtain ⟨l, k⟩ := ev_shape h2
    refine ⟨by simp [l], fun i j => ?_⟩
    cases i with
    | zero => simp
    | succ i => simpa using k i j
  | .io j0 :: r, ρ, y, h => by
    cases hg : gt ρ j0 with
    | none => simp only [evA, hg, Rs.opt] at h; cases h
    | some d0 =>
      simp only [evA, hg, Rs.opt] at h
      obtain ⟨z, h2, h⟩ := Rs.bind_ok h
      cases h
      obtain ⟨l, k⟩ := ev_shape h2
      refine ⟨by simp [l], fun i j => ?_⟩
      cases i with
      | zero => simp
      | succ i => simpa using k i j
theorem io_at : ∀ {as : List Ar} {n k i : Nat}, (ioOf as n)[k]? = some i → n ≤ i ∧ ∃ j, (jsOf as)[k]? = some j ∧ as[i - n]? = some (.io j)
  | [], _, _, _, h => by simp [ioOf] at h
  | .e m :: r, n, k, i, h => by
    obtain ⟨h1, j, h2, h3⟩ := io_at (as := r) (n := n + 1) h
    refine ⟨by omega, j, h2, ?_⟩
    rw [show i - n = (i - (n + 1)) + 1 by omega, List.getElem?_cons_succ]; exact h3
  | .io j0 :: r, n, k, i, h => by
    cases k with
    | zero =>
      simp only [ioOf, List.getElem?_cons_zero, Option.some.injEq] at h
      subst h
      exact ⟨Nat.le_refl _, j0, rfl, by simp⟩
    | succ k =>
      simp only [ioOf, List.getElem?_cons_succ] at h
      obtain ⟨h1, j, h2, h3⟩ := io_at (as := r) (n := n + 1) h
      refine ⟨by omega, j, by simpa [jsOf] using h2, ?_⟩
      rw [show i - n = (i - (n + 1)) + 1 by omega, List.getElem?_cons_succ]; exact h3
theorem io_mem : ∀ {as : List Ar} {n i j : Nat}, as[i]? = some (.io j) → ∃ k : Nat, (ioOf as n)[k]? = some (n + i) ∧ (jsOf as)[k]? = some j
  | [], _, _, _, h => by simp at h
  | .e m :: r, n, i, j, h => by
    cases i with
    | zero => simp at h
    | succ i =>
      obtain ⟨k, h1, h2⟩ := io_mem (n := n + 1) (by simpa using h)
      exact ⟨k, by rw [show n + (i + 1) = n + 1 + i by omega]; exact h1, h2⟩
  | .io j0 :: r, n, i, j, h => by
    cases i with
    | zero => simp at h; subst h; exact ⟨0, by simp [ioOf], by simp [jsOf]⟩
    | succ i =>
      obtain ⟨k, h1, h2⟩ := io_mem (n := n + 1) (by simpa using h)
      exact ⟨k + 1, by rw [show n + (i + 1) = n + 1 + i by omega]; simpa [ioOf] using h1, by simpa [jsOf] using h2⟩
theorem call_any {f : FM} {as : List Ar} {dfl : List PyData} {dvs : List V} {iol : List Nat} {n : Nat} {fr : Bool} (hio : ioOf as 0 = iol) (hj : ∀ j ∈ jsOf as, j ∈ own) (nd : (jsOf as).Nodup) (hn : as.length + dfl.length = n) (hm : B.mg = X.mg) (hdf : ∀ F H, Rps X.K F H dvs dfl) (hio2 : ∀ i ∈ io, i ∈ own)
    {σ : Sl} {H : Hp} {Q : VK} {κ : KF X.K (Ev × PyData)} (hκ : ∀ {F1 H1 x F' H' v ρ1}, κ.k F1 H1 x → RE X.K B own F1 ρ1 σ H1 → RE X.K B own F' x.1 σ H' → Mn X.K F1 H1 F' H' → RetC X.K fr H1 F' H' v x.2 → Q v H')
    {ρ : Ev} {F : Addr → Prop} (re : RE X.K B own F ρ σ H) (w : Wa B κ F H (mCall f as dfl ρ)) : tDR X.K B own as σ H fun vs H1 => spD X.K X.mg iol n fr f (vs ++ dvs) H1 Q (WE B.W σ) := by
  refine ⟨ρ, F, re, Wa_bindE w fun y ey wy vs H1 F1 re1 mo1 rpa => ?_⟩
  obtain ⟨ds, hr, w2⟩ := Wa.opt wy
  obtain ⟨sl, sh⟩ := ev_shape ey
  have memJ : ∀ {i j : Nat}, y.2[i]? = some (.inr j) → j ∈ jsOf as := fun {i j} e => by
    obtain ⟨k, _, h2⟩ := io_mem (n := 0) ((sh i j).mp e)
    exact List.mem_of_getElem? h2
  obtain ⟨lv, la, at'⟩ := argR re1 rpa hr fun j hjm => by
    obtain ⟨i, e⟩ := List.mem_iff_getElem?.mp hjm
    exact hj j (memJ e)
  have ld : dvs.length = dfl.length := (hdf F1 H1).length
  have ioAt : ∀ {i : Nat}, i ∈ iol → ∃ j, y.2[i]? = some (.inr j) := fun {i} hi => by
    rw [← hio] at hi
    obtain ⟨k, hk⟩ := List.mem_iff_getElem?.mp hi
    obtain ⟨_, j, _, h3⟩ := io_at hk
    exact ⟨j, (sh i j).mpr (by simpa using h3)⟩
  have small : ∀ {i j : Nat}, y.2[i]? = some (.inr j) → i < vs.length := fun {i j} e => by
    have := (List.getElem?_eq_some_iff.mp e).1
    omega
  have vL : ∀ {i : Nat}, i < vs.length → (vs ++ dvs)[i]? = vs[i]? := fun {i} h => List.getElem?_append_left h
  have dL : ∀ {i : Nat}, i < vs.length → (ds ++ dfl)[i]? = ds[i]? := fun {i} h => List.getElem?_append_left (by omega)
  have ow : ∀ {i j : Nat}, y.2[i]? = some (.inr j) → ∃ a d, vs[i]? = some (V.ref a) ∧ ds[i]? = some d ∧ σ[j]? = some (some (V.ref a)) ∧ y.1[j]? = some (some d) ∧ ¬ F1 a ∧ OwnV X.K F1 H1 a d := fun {i j} e => by
    have hi := small e
    have e1 : vs[i]? = some vs[i] := List.getElem?_eq_getElem hi
    have e2 : ds[i]? = some (ds[i]'(by omega)) := List.getElem?_eq_getElem _
    rcases at' i _ _ e1 e2 with ⟨d', q, _⟩ | ⟨j', a, q1, q2, q3, q4, q5, q6⟩
    · rw [e] at q; cases q
    · rw [e] at q1; cases q1
      exact ⟨a, _, by rw [e1, q2], e2, by rw [q3, q2], q4, q5, q6⟩
  refine ⟨ds ++ dfl, F1, by simp only [List.length_append]; omega, ⟨by simp only [List.length_append]; omega, fun i v d hi e1 e2 => ?_, fun i v d hi e1 e2 => ?_, fun i j hi hj' hne hl => ?_, fun i hi => ?_⟩, re1.dom, ?_⟩
  · by_cases hl : i < vs.length
    · rw [vL hl] at e1
      rw [dL hl] at e2
      rcases at' i v d e1 e2 with ⟨d', _, q⟩ | ⟨j', a, q1, _⟩
      · exact q
      · obtain ⟨k, h1, _⟩ := io_mem (n := 0) ((sh i j').mp q1)
        rw [hio] at h1
        exact absurd (by simpa using List.mem_of_getElem? h1) hi
    · rw [List.getElem?_append_right (by omega)] at e1
      rw [List.getElem?_append_right (by omega), ← lv] at e2
      obtain ⟨v', q1, q2⟩ := (hdf F1 H1).get e2
      rw [e1] at q1; cases q1; exact q2
  · obtain ⟨j, hj1⟩ := ioAt hi
    have hl := small hj1
    rw [vL hl] at e1
    rw [dL hl] at e2
    obtain ⟨a, d', q1, q2, q3, q4, q5, q6⟩ := ow hj1
    rw [e1] at q1; cases q1
    rw [e2] at q2; cases q2
    exact ⟨a, rfl, q5, q6⟩
  · obtain ⟨j1, hj1⟩ := ioAt hi
    obtain ⟨j2, hj2⟩ := ioAt hj'
    rw [vL (small hj1), vL (small hj2)]
    obtain ⟨a1, d1, q1, _, s1, p1, _⟩ := ow hj1
    obtain ⟨a2, d2, q2, _, s2, p2, _⟩ := ow hj2
    have jne : j1 ≠ j2 := fun z => by
      subst z
      obtain ⟨k1, u1, u2⟩ := io_mem (n := 0) ((sh i j1).mp hj1)
      obtain ⟨k2, u3, u4⟩ := io_mem (n := 0) ((sh j j1).mp hj2)
      have hk : k1 = k2 := (List.getElem?_inj (List.getElem?_eq_some_iff.mp u2).1 nd).mp (u2.trans u4.symm)
      subst hk
      rw [u1] at u3
      simp only [Option.some.injEq, Nat.zero_add] at u3
      exact hne u3
    intro z
    exact re1.ne j1 j2 d1 d2 (hj _ (memJ hj1)) (hj _ (memJ hj2)) jne p1 p2 (by rw [s1, s2, ← q1, ← q2, z])
  · obtain ⟨j, hj1⟩ := ioAt hi
    have := small hj1
    simp only [List.length_append]
    omega
  · have setd : ∀ j ∈ jsOf as, ∃ d, y.1[j]? = some (some d) := fun j h => by
      obtain ⟨k, hk⟩ := List.mem_iff_getElem?.mp h
      have : ∃ i : Nat, y.2[i]? = some (.inr j) := by
        have hl : k < (ioOf as 0).length := by
          have len : ∀ (as : List Ar) (n : Nat), (ioOf as n).length = (jsOf as).length := by
            intro as
            induction as with
            | nil => intro n; rfl
            | cons a r ih => intro n; cases a <;> simp [ioOf, jsOf, ih]
          rw [len]; exact (List.getElem?_eq_some_iff.mp hk).1
        obtain ⟨_, j', h2, h3⟩ := io_at (List.getElem?_eq_getElem hl)
        rw [hk] at h2; cases h2
        exact ⟨_, (sh _ j).mpr (by simpa using h3)⟩
      obtain ⟨i, hi⟩ := this
      obtain ⟨a, d, _, _, _, q, _⟩ := ow hi
      exact ⟨d, q⟩
    have behind : ∀ {F' H'}, Aft X.K iol (vs ++ dvs) F1 H1 F' H' → ∀ {os : List PyData}, (∀ (k i : Nat), iol[k]? = some i → ∃ a d', (vs ++ dvs)[i]? = some (V.ref a) ∧ os[k]? = some d' ∧ ¬ F' a ∧ OwnV X.K F' H' a d') →
        RE X.K B own F' (setL y.1 (jsOf as) os) σ H' ∧ Mn X.K F1 H1 F' H' := fun {F' H'} A {os} ho => by
      refine re1.call hj nd setd A.sub A.new A.dom A.keep (fun b o hb hf => A.frame b o hb fun i hi z => ?_) fun k j hk => ?_
      · obtain ⟨j, hj1⟩ := ioAt hi
        rw [vL (small hj1)] at z
        obtain ⟨a, d, q1, _, q3, _⟩ := ow hj1
        rw [z] at q1; cases q1
        exact hf j (memJ hj1) q3
      · have len : ∀ (as : List Ar) (n : Nat), (ioOf as n).length = (jsOf as).length := by
          intro as
          induction as with
          | nil => intro n; rfl
          | cons a r ih => intro n; cases a <;> simp [ioOf, jsOf, ih]
        have hl : k < (ioOf as 0).length := by rw [len]; exact (List.getElem?_eq_some_iff.mp hk).1
        obtain ⟨i, e1⟩ : ∃ i, (ioOf as 0)[k]? = some i := ⟨_, List.getElem?_eq_getElem hl⟩
        obtain ⟨_, j', h2, h3⟩ := io_at e1
        rw [hk] at h2; cases h2
        have hj1 := (sh i j).mpr (by simpa using h3)
        rw [hio] at e1
        obtain ⟨a, d', q1, q2, q3, q4⟩ := ho k i e1
        rw [vL (small hj1)] at q1
        obtain ⟨a', d, w1, _, w3, _⟩ := ow hj1
        rw [q1] at w1; cases w1
        exact ⟨a, d', w3, q2, q3, q4⟩
    have w3 := w2.mono mo1
    cases q : f (ds ++ dfl) with
    | bad => rw [q] at w3; by_cases he : (jsOf as).isEmpty = true <;> simp only [he, if_true, if_false, Rs.quiet, Rs.bind] at w3 <;> exact w3.elim
    | ok z =>
      have w4 : Wa B κ F1 H1 (.ok (setL y.1 (jsOf as) z.1, z.2)) := by
        rw [q] at w3; by_cases he : (jsOf as).isEmpty = true <;> simp only [he, if_true, if_false, Rs.quiet, Rs.bind] at w3 <;> exact w3
      obtain ⟨os, r⟩ := z
      exact fun v H' F' A ho rp => let ⟨re2, mo2⟩ := behind A ho; hκ w4 re1 re2 mo2 rp
    | exc c x =>
      rw [q] at w3
      by_cases he : (jsOf as).isEmpty = true
      · simp only [he, if_true, Rs.bind] at w3
        have w5 : ExcW X.K B F1 H1 c x := w3
        have hj0 : jsOf as = [] := List.isEmpty_iff.mp he
        have hi0 : iol = [] := by
          rw [← hio]
          cases hx : ioOf as 0 with
          | nil => rfl
          | cons i r =>
            obtain ⟨_, j, h2, _⟩ := io_at (as := as) (n := 0) (k := 0) (i := i) (by rw [hx]; rfl)
            rw [hj0] at h2; simp at h2
        subst hi0
        intro cls dx H' F' A xd
        have q1 := behind A (os := []) (fun k i hk => by simp at hk)
        rw [hj0] at q1
        obtain ⟨re2, mo2⟩ := q1
        obtain ⟨F3, re3, mo3⟩ := re2.freeze hio2 fun i h => h
        refine w5 cls dx _ σ H' F3 re3 (mo2.toMono.trans mo3) ?_
        rw [hm]
        obtain ⟨c2, c3⟩ := xd
        refine ⟨c2, ?_⟩
        cases x with
        | none => exact c3
        | some d =>
          obtain ⟨dd, v, e1, e0, e2, e3⟩ := c3
          exact ⟨dd, v, e1, mo3.sub _ e0, mo3.ex _ _ e0 e2, e3.mono mo3⟩
      · simp only [he, Rs.quiet, Rs.bind, Bool.false_eq_true, if_false] at w3
        exact w3.elim
theorem tD_call {f : FM} {as : List Ar} {dfl : List PyData} {dvs : List V} {iol : List Nat} {n : Nat} (hio : ioOf as 0 = iol) (hj : ∀ j ∈ jsOf as, j ∈ own) (nd : (jsOf as).Nodup) (hn : as.length + dfl.length = n) (hm : B.mg = X.mg) (hdf : ∀ F H, Rps X.K F H dvs dfl) (hio2 : ∀ i ∈ io, i ∈ own) :
    ∀ σ H Q, tD X.K B own (mCall f as dfl) σ H Q → tDR X.K B own as σ H fun vs H1 => spD X.K X.mg iol n false f (vs ++ dvs) H1 Q (WE B.W σ) := fun σ H Q ⟨ρ, F, re, w⟩ =>
  call_any (fr := false) (κ := kE (K := X.K) B own σ Q) hio hj nd hn hm hdf hio2 (fun k _ re2 mo2 rp => k _ _ _ re2 mo2 rp) re w
/-- f(e, ..), f a def of the text -/
theorem pe_callG {k : Nat} {f : Addr} {fd : FuncData} {ps : List Str} {sp : Sp} {x : Str} {p : Pos} {t : TA} {W : WX} {dvs : List V} {ds : List Value} (G : FnG X.prog X.w X.K X.mg X.base k f fd ps sp) (hr : Room k X.A) (gd : X.A.guards = some []) (hg : Gl X x) (hm : X.mg x = some (.ref f)) (hk : PySem.W.keepIn X.K (.ref f) = true)
    (hb : Binds X.K fd ps ds) (hd : Vals dvs ds) (tk : Takes X W) (ha : PA X (e :: es) t) (hdb : (x == ("__debug__" : Str)) = false) (hs : starEach (e :: es) X.env = (false, eval e X.env) :: starEach es X.env) (hpl : (backTo pos (starEach es X.env)).any (·.1) = false) :
    PE X (.Call (.Name x p) (e :: es) [] pos) (fun σ H Q => t σ H fun vs H1 => sp (vs ++ dvs) H1 Q (WE W σ)) := by
  refine ⟨fun pins s σ H Q I h => wpAny_Call_Name_kw (ld_glob I hg hm (PySem.W.callWith_K (h₀ := X.base) I.ok.mod.kin hk ?_ hs hpl) hdb)⟩
  refine thn (ha.run pos pins s σ H _ I h) fun us s1 ⟨vs, H1, I1, rv, q⟩ => ⟨I1.kIn, ?_⟩
  exact run_g G hr gd hb hd (passAt tk σ) I1 rv q
theorem de_call {k : Nat} {fa : Addr} {fd : FuncData} {ps : List Str} {x : Str} {p : Pos} {f : FM} {as : List Ar} {iol : List Nat} {n : Nat} {dvs : List V} {ds : List Value} {dfl : List PyData} (G : FnG X.prog X.w X.K X.mg X.base k fa fd ps (spD X.K X.mg iol n false f)) (hr : Room k X.A) (gd : X.A.guards = some []) (hm : X.mg x = some (.ref fa))
    (hk : PySem.W.keepIn X.K (.ref fa) = true) (hb : Binds X.K fd ps ds) (hd : Vals dvs ds) (hdf : ∀ F H, Rps X.K F H dvs dfl) (tk : Takes X B.W) (hB : B.mg = X.mg) (ha : Dr X B own (e :: es) as) (hg : Gl X x := by rfl) (hio : ioOf as 0 = iol := by rfl) (hj : ∀ j ∈ jsOf as, j ∈ own := by decide) (nd : (jsOf as).Nodup := by decide)
    (hn : as.length + dfl.length = n := by rfl) (hio2 : ∀ i ∈ io, i ∈ own := by decide) (hdb : (x == ("__debug__" : Str)) = false := by decide) (hs : starEach (e :: es) X.env = (false, eval e X.env) :: starEach es X.env := by rfl) (hpl : (backTo pos (starEach es X.env)).any (·.1) = false := by rfl) :
    De X B own (.Call (.Name x p) (e :: es) [] pos) (mCall f as dfl) :=
  pe_imp (pe_callG G hr gd hg hm hk hb hd tk ha hdb hs hpl) (tD_call hio hj nd hn hB hdf hio2)
/-- a def of the module as callers see it: its name, its parameters, the defaults that fill up -/
structure Cal (P : Program) (w : World) (K : PySem.W.Frag) (mg : Str → Option Value) (base : Heap) (k : Nat) (x : Str) (dfl : List PyData) (iol : List Nat) (n : Nat) (f : FM) (fr : Bool := false) : Prop where
  ex : ∃ (fa : Addr) (fd : FuncData) (ps : List Str) (dvs : List V) (ds : List Value), mg x = some (.ref fa) ∧ PySem.W.keepIn K (.ref fa) = true ∧ FnG P w K mg base k fa fd ps (spD K mg iol n fr f) ∧ Binds K fd ps ds ∧ Vals dvs ds ∧ ∀ F H, Rps K F H dvs dfl
theorem de_cal {k j : Nat} {x : Str} {p : Pos} {f : FM} {as : List Ar} {iol : List Nat} {n : Nat} {dfl : List PyData} (C : Cal X.prog X.w X.K X.mg X.base j x dfl iol n f) (hr : Room k X.A) (gd : X.A.guards = some []) (tk : Takes X B.W) (hB : B.mg = X.mg) (ha : Dr X B own (e :: es) as) (hjk : j ≤ k := by decide)
    (hg : Gl X x := by rfl) (hio : ioOf as 0 = iol := by rfl) (hj : ∀ j ∈ jsOf as, j ∈ own := by decide) (nd : (jsOf as).Nodup := by decide) (hn : as.length + dfl.length = n := by rfl) (hio2 : ∀ i ∈ io, i ∈ own := by decide) (hdb : (x == ("__debug__" : Str)) = false := by decide)
    (hs : starEach (e :: es) X.env = (false, eval e X.env) :: starEach es X.env := by rfl) (hpl : (backTo pos (starEach es X.env)).any (·.1) = false := by rfl) : De X B own (.Call (.Name x p) (e :: es) [] pos) (mCall f as dfl) := by
  obtain ⟨fa, fd, ps, dvs, ds, h1, h2, h3, h4, h5, h6⟩ := C.ex
  exact de_call h3 (hr.mono hjk) gd h1 h2 h4 h5 h6 tk hB ha hg hio hj nd hn hio2 hdb hs hpl
theorem de_gint {x : Str} {i : Int} (h : ∃ t, X.mg x = some (.int i t)) (hg : Gl X x := by rfl) (hd : (x == ("__debug__" : Str)) = false := by decide) : De X B own (.Name x pos) (mC (.int i)) := by
  obtain ⟨t, h⟩ := h
  exact de_c (pe_glob (v := .int i) hg h ⟨t, rfl⟩ hd) fun _ _ => .int i
theorem de_gstr {x z : Str} (h : ∃ t, X.mg x = some (.str z t)) (hg : Gl X x := by rfl) (hd : (x == ("__debug__" : Str)) = false := by decide) : De X B own (.Name x pos) (mC (.str z)) := by
  obtain ⟨t, h⟩ := h
  exact de_c (pe_glob (v := .str z) hg h ⟨t, rfl⟩ hd) fun _ _ => .str z
theorem takes_q {X : Cx} {W : WX} (h : W = fun _ _ _ _ => False) : Takes X W := by subst h; exact takes0
theorem u65 {k : Nat} {A : Around} (hr : Room k A) : A.units + 65 < cLine := by have := hr.un; omega
end
end Kd

end T_KD4
section T_KD5
set_option maxRecDepth 100000
/-! KD5: the operations on trees, each with the rule that serves it. -/
namespace Kd
open PySem PySem.Spec PyProof.Rows L2

/-! ### numbers -/
def fI2 (g : Int → Int → PyData) : PyData → PyData → Option PyData
  | .int i, .int j => some (g i j)
  | _, _ => none
theorem opd_I2 {K : PySem.W.Frag} {g : Int → Int → PyData} {gv : Int → Int → V} (h : ∀ F H i j, Rp K F H (gv i j) (g i j)) : OpD K (rI0 gv) (fI2 g) := fun F H x y d e z Q dom rx ry hz k => by
  cases rx <;> cases ry <;> first | (cases hz; done) | skip
  cases hz
  exact ⟨_, _, rfl, rfl, k _ H F (Grow.refl dom) (h F H _ _)⟩
def fSub := fI2 fun i j => .int (i - j)
theorem opd_sub {K : PySem.W.Frag} : OpD K (rI0 fun i j => .int (i - j)) fSub := opd_I2 fun _ _ _ _ => .int _
def fLt := fI2 fun i j => .bool (decide (i < j))
theorem opd_lt {K : PySem.W.Frag} : OpD K (rI0 fun i j => .bl (decide (i < j))) fLt := opd_I2 fun _ _ _ _ => .bl _
def fLe := fI2 fun i j => .bool (decide (i ≤ j))
theorem opd_le {K : PySem.W.Frag} : OpD K (rI0 fun i j => .bl (decide (i ≤ j))) fLe := opd_I2 fun _ _ _ _ => .bl _
def fGt := fI2 fun i j => .bool (decide (j < i))
theorem opd_gt {K : PySem.W.Frag} : OpD K (rI0 fun i j => .bl (decide (j < i))) fGt := opd_I2 fun _ _ _ _ => .bl _
def fGe := fI2 fun i j => .bool (decide (j ≤ i))
theorem opd_ge {K : PySem.W.Frag} : OpD K (rI0 fun i j => .bl (decide (j ≤ i))) fGe := opd_I2 fun _ _ _ _ => .bl _
def fIC (c : Int → Int → Bool) (g : Int → Int → Int) : PyData → PyData → Option PyData
  | .int i, .int j => iff' (c i j) (.int (g i j))
  | _, _ => none
theorem opd_IC {K : PySem.W.Frag} {C : Int → Int → Prop} {c : Int → Int → Bool} {g : Int → Int → Int} (hc : ∀ i j, c i j = true → C i j) : OpD K (rI C fun i j => .int (g i j)) (fIC c g) := fun F H x y d e z Q dom rx ry hz k => by
  cases rx <;> cases ry <;> first | (cases hz; done) | skip
  obtain ⟨h1, rfl⟩ := iff_some hz
  exact ⟨_, _, rfl, rfl, hc _ _ h1, k _ H F (Grow.refl dom) (.int _)⟩
/-- a product that is not too large -/
def mulOk (i j : Int) : Bool := decide (i.natAbs.log2 + j.natAbs.log2 ≤ 900000)
theorem op_mulG {X : Cx} : OpR X (binaryOp .Mult) (rI IntMulOk fun i j => .int (i * j)) := opI fun _ _ _ _ _ _ _ hc q => mul_int q hc
theorem mulOk_ok {i j : Int} (h : mulOk i j = true) : CMulW i j := by
  have h := of_decide_eq_true h
  unfold CMulW
  omega
def fMul := fIC mulOk fun i j => i * j
theorem opd_mul {K : PySem.W.Frag} : OpD K (rI CMulW fun i j => .int (i * j)) fMul := opd_IC fun _ _ h => mulOk_ok h
def fMod := fIC (fun _ j => j != 0) fun i j => i.fmod j
theorem opd_mod {K : PySem.W.Frag} : OpD K (rI (fun _ j => j ≠ 0) fun i j => .int (i.fmod j)) fMod := opd_IC fun i j h => by simpa using h
def fDiv := fIC (fun _ j => j != 0 && decide (j.natAbs < 1073741824)) fun i j => i.fdiv j
theorem opd_div {K : PySem.W.Frag} : OpD K (rI CDivN fun i j => .int (i.fdiv j)) fDiv := opd_IC fun i j h => by
  obtain ⟨h1, h2⟩ := Bool.and_eq_true_iff.mp h
  exact ⟨by simpa using h1, of_decide_eq_true h2⟩
def fPow := fIC (fun i j => decide (0 ≤ j ∧ j ≤ 1000000 ∧ i.natAbs < 2 ^ 64)) fun i j => i ^ j.toNat
theorem opd_pow {K : PySem.W.Frag} : OpD K (rI CPow fun i j => .int (i ^ j.toNat)) fPow := opd_IC fun i j h => (of_decide_eq_true h : 0 ≤ j ∧ j ≤ 1000000 ∧ i.natAbs < 2 ^ 64)
theorem und_neg {K : PySem.W.Frag} : UnD K (rU fun i => .int (-i)) (fun d => match d with | .int i => some (.int (-i)) | _ => none) := fun F H x d z Q dom rx hz k => by
  cases rx <;> first | (cases hz; done) | skip
  cases hz
  exact ⟨_, rfl, k _ H F (Grow.refl dom) (.int _)⟩
def fNeg : PyData → Option PyData
  | .int i => some (.int (-i))
  | _ => none
theorem und_fneg {K : PySem.W.Frag} : UnD K (rU fun i => .int (-i)) fNeg := fun F H x d z Q dom rx hz k => by
  cases rx <;> first | (cases hz; done) | skip
  cases hz
  exact ⟨_, rfl, k _ H F (Grow.refl dom) (.int _)⟩

/-! ### lists with lists -/
section
variable {X : Cx} {pins : List (Addr × Obj)} {σ : Sl} {H : Hp} {s : Shared}
def rCatL (K : PySem.W.Frag) : R2 := fun x y H Q => ∃ l b xs zs, x = .ref l ∧ y = .ref b ∧ SqL K H l xs ∧ SqL K H b zs ∧ xs.length + zs.length ≤ sizeLine ∧ ∀ p, H p = none → Q (.ref p) (upd H p (.lst (xs ++ zs)))
theorem op_catL : OpR X (binaryOp .Add) (rCatL X.K) := by
  intro pins s σ H x y v u Q I rx ry h
  obtain ⟨l, b, xs, zs, rfl, rfl, hl, hb, hz, q⟩ := h
  cases rx
  cases ry
  obtain ⟨i1, r1, ⟨o1, n1, e1, c1, dd1, d1⟩, _⟩ := I.list hl
  obtain ⟨i2, r2, ⟨o2, n2, e2, c2, dd2, d2⟩, _⟩ := I.list hb
  obtain ⟨cls, dd, data, sl⟩ := o1
  obtain ⟨cls2, dd', data2, sl2⟩ := o2
  simp only at c1 d1 c2 d2
  subst c1 d1 c2 d2
  have len1 := r1.length
  have len2 := r2.length
  refine concat_meets ⟨_, e1, rfl⟩ ⟨_, e2, rfl⟩ noFill_list_add seq_list_add PySem.F.slot_list_add PySem.F.entry_list_add (PySem.F.args_list_add_2 _ _) (list_addW l b i1.toArray i2.toArray n1 n2 dd dd' sl sl2 (by simp only [List.size_toArray]; omega)) ⟨e1, e2, ?_⟩
  have ea : i1.toArray ++ i2.toArray = (i1 ++ i2).toArray := by simp
  rw [ea]
  exact ⟨.ref _, _, I.lnew (t' := s.toks) (r1.append r2) (by rw [List.length_append]; omega), rfl, q _ I.fresh⟩
end
def fAdd : PyData → PyData → Option PyData
  | .int i, .int j => some (.int (i + j))
  | .str x, .str y => iff' (decide (x.length + y.length ≤ sizeLine)) (.str (x ++ y))
  | .list xs, .list ys => iff' (decide (xs.length + ys.length ≤ sizeLine)) (.list (xs ++ ys))
  | .tuple xs, .tuple ys => iff' (decide (xs.length + ys.length ≤ sizeLine)) (.tuple (xs ++ ys))
  | _, _ => none
def rAddG (K : PySem.W.Frag) : R2 := fun x y H Q => ((rI0 fun i j => .int (i + j)) x y H Q ∨ (∃ i j, x = .str i ∧ y = .str j ∧ i.length + j.length ≤ sizeLine ∧ Q (.str (i ++ j)) H)) ∨ rCatL K x y H Q ∨ rCatA K x y H Q
theorem op_addG {X : Cx} : OpR X (binaryOp .Add) (rAddG X.K) := (op_add.or op_add_str).or (op_catL.or op_catA)
theorem opd_add {K : PySem.W.Frag} : OpD K (rAddG K) fAdd := fun F H x y d e z Q dom rx ry hz k => by
  cases rx with
  | int i => cases ry <;> first | (cases hz; done) | skip
             cases hz; exact .inl (.inl ⟨_, _, rfl, rfl, k _ H F (Grow.refl dom) (.int _)⟩)
  | str i => cases ry <;> first | (cases hz; done) | skip
             obtain ⟨h1, rfl⟩ := iff_some hz
             exact .inl (.inr ⟨_, _, rfl, rfl, of_decide_eq_true h1, k _ H F (Grow.refl dom) (.str _)⟩)
  | lst hl hs =>
    cases ry <;> first | (cases hz; done) | skip
    rename_i hl2 hs2
    obtain ⟨h1, rfl⟩ := iff_some hz
    refine .inr (.inl ⟨_, _, _, _, rfl, rfl, hl.sq, hl2.sq, by rw [hs.length, hs2.length]; exact of_decide_eq_true h1, fun p np => ?_⟩)
    exact k _ _ _ (Grow.atp dom np) (.lst (.inl ⟨.inr rfl, .inl upd_same⟩) ((hs.append hs2).mono (Grow.atp dom np).mono))
  | tup hl hs =>
    cases ry <;> first | (cases hz; done) | skip
    rename_i hl2 hs2
    obtain ⟨h1, rfl⟩ := iff_some hz
    refine .inr (.inr ⟨_, _, _, _, rfl, rfl, hl, hl2, by rw [hs.length, hs2.length]; exact of_decide_eq_true h1, fun e => ?_, fun _ e => ?_, fun _ _ p np => ?_⟩)
    · subst e; cases hs; exact k _ H F (Grow.refl dom) (.tup hl2 hs2)
    · subst e; cases hs2; exact k _ H F (Grow.refl dom) (.tup hl (by simpa using hs))
    · exact k _ _ _ (Grow.att dom np) (.tup (SqT.of upd_same) ((hs.append hs2).mono (Grow.att dom np).mono))
  | _ => cases hz

/-! ### comparisons of data -/
mutual
theorem Rp.dp {K : PySem.W.Frag} {F : Addr → Prop} {H : Hp} : ∀ {v : V} {d : PyData}, Rp K F H v d → d.canLay0 = true → Dp K H v d
  | _, _, .non, _ => .non
  | _, _, .bl b, _ => .bl b
  | _, _, .int i, _ => .int i
  | _, _, .str x, _ => .str x
  | _, _, .lst hl hs, h => .lst hl.sq (Rps.dp hs (by simpa [PyData.canLay0] using h))
  | _, _, .tup hl hs, h => .tup hl (Rps.dp hs (by simpa [PyData.canLay0] using h))
  | _, _, .dK _ _ _, h => by simp [PyData.canLay0] at h
  | _, _, .dT _ _ _, h => by simp [PyData.canLay0] at h
  | _, _, .exN _ _, h => by simp [PyData.canLay0] at h
  | _, _, .exS _ _ _ _ _, h => by simp [PyData.canLay0] at h
theorem Rps.dp {K : PySem.W.Frag} {F : Addr → Prop} {H : Hp} : ∀ {vs : List V} {ds : List PyData}, Rps K F H vs ds → PyData.canLayAll0 ds = true → DpAll K H vs ds
  | _, _, .nil, _ => .nil
  | _, _, .cons h t, q => by
    have q' := Bool.and_eq_true_iff.mp (by simpa [PyData.canLayAll0] using q)
    exact .cons (Rp.dp h (by simpa using q'.1)) (Rps.dp t (by simpa using q'.2))
end
def sh2 (d e : PyData) : Bool := SeqAt.shaped d && SeqAt.shaped e
def fEq : PyData → PyData → Option PyData
  | .str a, .str b => some (.bool (a == b))
  | d, e => iff' (sh2 d e) (.bool (PyData.eqv d e))
def fNe : PyData → PyData → Option PyData
  | .str a, .str b => some (.bool (!(a == b)))
  | d, e => iff' (sh2 d e) (.bool (!PyData.eqv d e))
/-- two texts, or data of all kinds -/
def rEqE (K : PySem.W.Frag) : R2 := fun x y H Q => rEq x y H Q ∨ rEqD K x y H Q
def rNeE (K : PySem.W.Frag) : R2 := fun x y H Q => rNe x y H Q ∨ rNeD K x y H Q
theorem op_eqE {X : Cx} (hu : X.A.units + 64 < cLine) : OpR X (compareOp .Eq) (rEqE X.K) := op_eq.or (op_eqD hu)
theorem op_neE {X : Cx} (hu : X.A.units + 64 < cLine) : OpR X (compareOp .NotEq) (rNeE X.K) := op_ne.or (op_neD hu)
theorem sh2_l {d e : PyData} (h : sh2 d e = true) : SeqAt.shaped d = true ∧ SeqAt.shaped e = true := Bool.and_eq_true_iff.mp h
theorem opd_eq {K : PySem.W.Frag} : OpD K (rEqE K) fEq := fun F H x y d e z Q dom rx ry hz k => by
  unfold fEq at hz
  split at hz
  · cases rx; cases ry; cases hz
    refine .inl ⟨rfl, ?_⟩
    rw [dec_str]
    exact k _ H F (Grow.refl dom) (.bl _)
  · obtain ⟨h, rfl⟩ := iff_some hz
    obtain ⟨h1, h2⟩ := sh2_l h
    exact .inr ⟨d, e, rx.dp (SeqAt.canLay_of_shaped h1), ry.dp (SeqAt.canLay_of_shaped h2), h1, h2, k _ H F (Grow.refl dom) (.bl _)⟩
theorem opd_ne {K : PySem.W.Frag} : OpD K (rNeE K) fNe := fun F H x y d e z Q dom rx ry hz k => by
  unfold fNe at hz
  split at hz
  · cases rx; cases ry; cases hz
    refine .inl ⟨rfl, ?_⟩
    rw [dec_str]
    exact k _ H F (Grow.refl dom) (.bl _)
  · obtain ⟨h, rfl⟩ := iff_some hz
    obtain ⟨h1, h2⟩ := sh2_l h
    exact .inr ⟨d, e, rx.dp (SeqAt.canLay_of_shaped h1), ry.dp (SeqAt.canLay_of_shaped h2), h1, h2, k _ H F (Grow.refl dom) (.bl _)⟩
/-- is None, is True, is False, and not -/
def isNonD : PyData → Bool
  | .none => true
  | _ => false
def fIsN : PyData → PyData → Option PyData
  | d, .none => some (.bool (isNonD d))
  | .bool a, .bool b => some (.bool (a == b))
  | _, _ => none
def fNotN : PyData → PyData → Option PyData
  | d, .none => some (.bool (!isNonD d))
  | .bool a, .bool b => some (.bool (!(a == b)))
  | _, _ => none
theorem non_of {K : PySem.W.Frag} {F : Addr → Prop} {H : Hp} {v : V} {d : PyData} (h : Rp K F H v d) : decide (v = .non) = isNonD d := by
  cases h <;> rfl
def rIsG : R2 := fun x y H Q => (y = .non ∧ Q (.bl (decide (x = .non))) H) ∨ rIsB x y H Q
def rNotG : R2 := fun x y H Q => (y = .non ∧ Q (.bl (!decide (x = .non))) H) ∨ rNotB x y H Q
theorem op_isG {X : Cx} : OpR X (compareOp .Is) rIsG := op_isN.or op_isBl
theorem op_notG {X : Cx} : OpR X (compareOp .IsNot) rNotG := op_notN.or op_notBl
theorem opd_is {K : PySem.W.Frag} : OpD K rIsG fIsN := fun F H x y d e z Q dom rx ry hz k => by
  cases ry with
  | non =>
    have e1 : z = .bool (isNonD d) := by cases d <;> (cases hz; rfl)
    subst e1
    exact .inl ⟨rfl, by rw [non_of rx]; exact k _ H F (Grow.refl dom) (.bl _)⟩
  | bl b =>
    cases rx <;> first | (cases hz; done) | skip
    rename_i a
    cases hz
    refine .inr ⟨a, b, rfl, rfl, ?_⟩
    have e1 : decide (a = b) = (a == b) := by cases a <;> cases b <;> rfl
    rw [e1]; exact k _ H F (Grow.refl dom) (.bl _)
  | _ => cases rx <;> cases hz
theorem opd_isnot {K : PySem.W.Frag} : OpD K rNotG fNotN := fun F H x y d e z Q dom rx ry hz k => by
  cases ry with
  | non =>
    have e1 : z = .bool (!isNonD d) := by cases d <;> (cases hz; rfl)
    subst e1
    exact .inl ⟨rfl, by rw [non_of rx]; exact k _ H F (Grow.refl dom) (.bl _)⟩
  | bl b =>
    cases rx <;> first | (cases hz; done) | skip
    rename_i a
    cases hz
    refine .inr ⟨a, b, rfl, rfl, ?_⟩
    have e1 : decide (a = b) = (a == b) := by cases a <;> cases b <;> rfl
    rw [e1]; exact k _ H F (Grow.refl dom) (.bl _)
  | _ => cases rx <;> cases hz

/-! ### in -/
section
variable {X : Cx}
/-- x in a list, in a tuple of data -/
def memD (d : PyData) (ds : List PyData) : Bool := ds.any fun z => PyData.eqv z d
def fIn : PyData → PyData → Option PyData
  | d, .list ds => iff' (SeqAt.shaped d && SeqAt.shaped (.list ds)) (.bool (memD d ds))
  | _, _ => none
def fNin : PyData → PyData → Option PyData
  | d, .list ds => iff' (SeqAt.shaped d && SeqAt.shaped (.list ds)) (.bool (!memD d ds))
  | _, _ => none
theorem opd_in {K : PySem.W.Frag} : OpD K (rInD K) fIn := fun F H x y d e z Q dom rx ry hz k => by
  cases ry with
  | lst hl hs =>
    obtain ⟨h, rfl⟩ := iff_some hz
    obtain ⟨h1, h2⟩ := Bool.and_eq_true_iff.mp h
    exact ⟨d, _, rx.dp (SeqAt.canLay_of_shaped h1), (Rp.lst hl hs).dp (SeqAt.canLay_of_shaped h2), h1, h2, k _ H F (Grow.refl dom) (.bl _)⟩
  | _ => cases hz
theorem opd_nin {K : PySem.W.Frag} : OpD K (rNotInD K) fNin := fun F H x y d e z Q dom rx ry hz k => by
  cases ry with
  | lst hl hs =>
    obtain ⟨h, rfl⟩ := iff_some hz
    obtain ⟨h1, h2⟩ := Bool.and_eq_true_iff.mp h
    exact ⟨d, _, rx.dp (SeqAt.canLay_of_shaped h1), (Rp.lst hl hs).dp (SeqAt.canLay_of_shaped h2), h1, h2, k _ H F (Grow.refl dom) (.bl _)⟩
  | _ => cases hz
end

/-! ### places -/
theorem Rps.at_ {K : PySem.W.Frag} {F : Addr → Prop} {H : Hp} {vs : List V} {ds : List PyData} (h : Rps K F H vs ds) {i : Int} {d : PyData} (e : atI ds i = some d) : ∃ v, atI vs i = some v ∧ Rp K F H v d := by
  unfold atI at e ⊢
  rw [h.length]
  obtain ⟨j, h1, h2⟩ := Option.bind_eq_some_iff.mp e
  obtain ⟨v, h3, h4⟩ := h.get h2
  exact ⟨v, by rw [h1]; exact h3, h4⟩
def fIx : PyData → PyData → Option PyData
  | .list xs, .int i => atI xs i
  | .tuple xs, .int i => atI xs i
  | .str z, .int i => if z.length ≤ sizeLine then (atI z.cps.toList i).map fun c => .str ⟨#[c]⟩ else none
  | _, _ => none
theorem opd_ix {K : PySem.W.Frag} : OpD K (rIx K) fIx := fun F H x y d e z Q dom rx ry hz k => by
  cases rx with
  | lst hl hs =>
    cases ry <;> first | (cases hz; done) | skip
    obtain ⟨v, h1, h2⟩ := hs.at_ hz
    exact .inl ⟨_, _, _, v, rfl, rfl, hl.sq, h1, k _ H F (Grow.refl dom) h2⟩
  | tup hl hs =>
    cases ry <;> first | (cases hz; done) | skip
    obtain ⟨v, h1, h2⟩ := hs.at_ hz
    exact .inr (.inl ⟨_, _, _, v, rfl, rfl, hl, h1, k _ H F (Grow.refl dom) h2⟩)
  | str w =>
    cases ry <;> first | (cases hz; done) | skip
    simp only [fIx] at hz
    split at hz
    · rename_i hl
      obtain ⟨c, h1, rfl⟩ := Option.map_eq_some_iff.mp hz
      exact .inr (.inr ⟨_, _, c, rfl, rfl, hl, h1, k _ H F (Grow.refl dom) (.str _)⟩)
    · cases hz
  | _ => cases hz

/-! ### built-in functions -/
def fLen : List PyData → Option PyData
  | [.list xs] => some (.int xs.length)
  | [.tuple xs] => some (.int xs.length)
  | [.str x] => iff' (decide (x.length ≤ sizeLine)) (.int x.length)
  | _ => none
theorem fnd_len {K : PySem.W.Frag} : FnD K (fun xs H Q => ∃ x n, xs = [x] ∧ LenV K x H n ∧ Q (.int n) H) fLen := fun F H xs ds z Q dom r hz k => by
  cases r with
  | nil => cases hz
  | cons r1 r2 => cases r2 with
    | cons _ _ => cases r1 <;> cases hz
    | nil =>
      cases r1 with
      | lst hl hs => cases hz; refine ⟨_, _, rfl, .inl ⟨_, hl.sq, rfl⟩, ?_⟩; rw [hs.length]; exact k _ H F (Grow.refl dom) (.int _)
      | tup hl hs => cases hz; refine ⟨_, _, rfl, .inr ⟨_, hl, rfl⟩, ?_⟩; rw [hs.length]; exact k _ H F (Grow.refl dom) (.int _)
      | str x => obtain ⟨h, rfl⟩ := iff_some hz; exact ⟨_, _, rfl, ⟨of_decide_eq_true h, rfl⟩, k _ H F (Grow.refl dom) (.int _)⟩
      | _ => cases hz
def fInt : List PyData → Option PyData
  | [.int i] => some (.int i)
  | [.bool b] => some (.int (if b then 1 else 0))
  | _ => none
theorem fnd_int {K : PySem.W.Frag} : FnD K (fun xs H Q => (∃ i, xs = [.int i] ∧ Q (.int i) H) ∨ ∃ k, xs = [.bl k] ∧ Q (.int (if k then 1 else 0)) H) fInt := fun F H xs ds z Q dom r hz k => by
  cases r with
  | nil => cases hz
  | cons r1 r2 => cases r2 with
    | cons _ _ => cases r1 <;> cases hz
    | nil =>
      cases r1 with
      | int i => cases hz; exact .inl ⟨_, rfl, k _ H F (Grow.refl dom) (.int _)⟩
      | bl b => cases hz; exact .inr ⟨_, rfl, k _ H F (Grow.refl dom) (.int _)⟩
      | _ => cases hz
def fList : List PyData → Option PyData
  | [.list xs] => some (.list xs)
  | [.tuple xs] => some (.list xs)
  | _ => none
theorem fnd_list {K : PySem.W.Frag} : FnD K (fun xs H Q => ∃ p ys, xs = [.ref p] ∧ (SqL K H p ys ∨ SqT K H p ys) ∧ ∀ l, H l = none → Q (.ref l) (upd H l (.lst ys))) fList := fun F H xs ds z Q dom r hz k => by
  cases r with
  | nil => cases hz
  | cons r1 r2 => cases r2 with
    | cons _ _ => cases r1 <;> cases hz
    | nil =>
      cases r1 with
      | lst hl hs =>
        cases hz
        refine ⟨_, _, rfl, .inl hl.sq, fun p np => ?_⟩
        exact k _ _ _ (Grow.atp dom np) (.lst (.inl ⟨.inr rfl, .inl upd_same⟩) (hs.mono (Grow.atp dom np).mono))
      | tup hl hs =>
        cases hz
        refine ⟨_, _, rfl, .inr hl, fun p np => ?_⟩
        exact k _ _ _ (Grow.atp dom np) (.lst (.inl ⟨.inr rfl, .inl upd_same⟩) (hs.mono (Grow.atp dom np).mono))
      | _ => cases hz
def fTuple : List PyData → Option PyData
  | [.list xs] => some (.tuple xs)
  | [.tuple xs] => some (.tuple xs)
  | _ => none
theorem fnd_tuple {K : PySem.W.Frag} : FnD K (fun xs H Q => ∃ p ys, xs = [.ref p] ∧ ((SqL K H p ys ∧ ∀ l, H l = none → Q (.ref l) (upd H l (.tup ys))) ∨ (SqT K H p ys ∧ Q (.ref p) H))) fTuple := fun F H xs ds z Q dom r hz k => by
  cases r with
  | nil => cases hz
  | cons r1 r2 => cases r2 with
    | cons _ _ => cases r1 <;> cases hz
    | nil =>
      cases r1 with
      | lst hl hs =>
        cases hz
        refine ⟨_, _, rfl, .inl ⟨hl.sq, fun p np => ?_⟩⟩
        exact k _ _ _ (Grow.att dom np) (.tup (SqT.of upd_same) (hs.mono (Grow.att dom np).mono))
      | tup hl hs => cases hz; exact ⟨_, _, rfl, .inr ⟨hl, k _ H F (Grow.refl dom) (.tup hl hs)⟩⟩
      | _ => cases hz
/-- the truths of a list -/
def boolsD : List PyData → Option (List Bool)
  | [] => some []
  | .bool b :: r => (boolsD r).map fun bs => b :: bs
  | _ => none
def fAll : List PyData → Option PyData
  | [.list xs] => (boolsD xs).map fun bs => .bool (bs.all id)
  | _ => none
def fAny : List PyData → Option PyData
  | [.list xs] => (boolsD xs).map fun bs => .bool (bs.any id)
  | _ => none
theorem bools_of {K : PySem.W.Frag} {F : Addr → Prop} {H : Hp} : ∀ {vs : List V} {ds : List PyData} {bs : List Bool}, Rps K F H vs ds → boolsD ds = some bs → vs = bs.map V.bl
  | _, _, _, .nil, h => by cases h; rfl
  | _, _, _, .cons r t, h => by
    cases r <;> first | (cases h; done) | skip
    obtain ⟨bs', h1, rfl⟩ := Option.map_eq_some_iff.mp h
    rw [bools_of t h1]; rfl
theorem fnd_all {K : PySem.W.Frag} : FnD K (rAll K) fAll := fun F H xs ds z Q dom r hz k => by
  cases r with
  | nil => cases hz
  | cons r1 r2 => cases r2 with
    | cons _ _ => cases r1 <;> cases hz
    | nil =>
      cases r1 with
      | lst hl hs =>
        obtain ⟨bs, h1, rfl⟩ := Option.map_eq_some_iff.mp hz
        have e := bools_of hs h1
        subst e
        exact ⟨_, bs, rfl, hl.sq, k _ H F (Grow.refl dom) (.bl _)⟩
      | _ => cases hz
theorem fnd_any {K : PySem.W.Frag} : FnD K (rAny K) fAny := fun F H xs ds z Q dom r hz k => by
  cases r with
  | nil => cases hz
  | cons r1 r2 => cases r2 with
    | cons _ _ => cases r1 <;> cases hz
    | nil =>
      cases r1 with
      | lst hl hs =>
        obtain ⟨bs, h1, rfl⟩ := Option.map_eq_some_iff.mp hz
        have e := bools_of hs h1
        subst e
        exact ⟨_, bs, rfl, hl.sq, k _ H F (Grow.refl dom) (.bl _)⟩
      | _ => cases hz
def fMax2 : List PyData → Option PyData
  | [.int i, .int j] => some (.int (if j > i then j else i))
  | _ => none
def fMin2 : List PyData → Option PyData
  | [.int i, .int j] => some (.int (if j < i then j else i))
  | _ => none
theorem fnd_max2 {K : PySem.W.Frag} : FnD K (fun xs H Q => ∃ i j, xs = [.int i, .int j] ∧ Q (.int (if j > i then j else i)) H) fMax2 := fun F H xs ds z Q dom r hz k => by
  cases r with
  | nil => cases hz
  | cons r1 r2 => cases r2 with
    | nil => cases r1 <;> cases hz
    | cons r2 r3 => cases r3 with
      | cons _ _ => cases r1 <;> cases r2 <;> cases hz
      | nil =>
        cases r1 <;> cases r2 <;> first | (cases hz; done) | skip
        cases hz
        exact ⟨_, _, rfl, k _ H F (Grow.refl dom) (.int _)⟩
theorem fnd_min2 {K : PySem.W.Frag} : FnD K (fun xs H Q => ∃ i j, xs = [.int i, .int j] ∧ Q (.int (if j < i then j else i)) H) fMin2 := fun F H xs ds z Q dom r hz k => by
  cases r with
  | nil => cases hz
  | cons r1 r2 => cases r2 with
    | nil => cases r1 <;> cases hz
    | cons r2 r3 => cases r3 with
      | cons _ _ => cases r1 <;> cases r2 <;> cases hz
      | nil =>
        cases r1 <;> cases r2 <;> first | (cases hz; done) | skip
        cases hz
        exact ⟨_, _, rfl, k _ H F (Grow.refl dom) (.int _)⟩
end Kd

end T_KD5
section T_KD6
set_option maxRecDepth 100000
/-! KD6: isinstance, slices, methods, stores, new lists, repr. -/
namespace Kd
open PySem PySem.Spec PyProof.Rows L2

/-! ### isinstance -/
def tyD : PyData → Option String
  | .none => some "NoneType"
  | .bool _ => some "bool"
  | .int _ => some "int"
  | .str _ => some "str"
  | .list _ => some "list"
  | .tuple _ => some "tuple"
  | .dict _ => none
theorem ty_of {K : PySem.W.Frag} {F : Addr → Prop} {H : Hp} {v : V} {d : PyData} {t : String} (h : Rp K F H v d) (e : tyD d = some t) : TyX K H v (.type t) := by
  cases h with
  | non => cases e; exact .base .non
  | bl b => cases e; exact .base (.bl b)
  | int i => cases e; exact .base (.int i)
  | str x => cases e; exact .base (.str x)
  | lst hl hs =>
    cases e
    rcases hl with ⟨_, h | ⟨o, h⟩⟩ | ⟨o, its, n, h1, h2, _⟩
    · exact .base (.lst h)
    · exact .base (.frz h)
    · exact .kList h1 h2
  | tup hl hs =>
    cases e
    rcases hl with (h | ⟨o, h⟩) | ⟨o, its, n, h1, h2, _⟩
    · exact .base (.tup h)
    · exact .fTuple h
    · exact .kTuple h1 h2
  | dK _ _ _ => cases e
  | dT _ _ _ => cases e
  | exN _ _ => cases e
  | exS _ _ _ _ _ => cases e
def isB (t T : String) : Bool := t == T || (t == "bool" && T == "int")
def tyOk (T : String) : Bool := T == "int" || T == "bool" || T == "tuple" || T == "list" || T == "str"
theorem kitB_is {d : PyData} {t T : String} (h : tyD d = some t) (hT : tyOk T = true) : kitB t T = some (isB t T) := by
  have hT' : T = "int" ∨ T = "bool" ∨ T = "tuple" ∨ T = "list" ∨ T = "str" := by simpa [tyOk, or_assoc] using hT
  cases d <;> first | (cases h; done) | skip
  all_goals (cases h; rcases hT' with rfl | rfl | rfl | rfl | rfl <;> decide +kernel)
def fIsi (T : String) (d : PyData) : Option PyData := (tyD d).map fun t => .bool (isB t T)
def fIsi2 (T U : String) (d : PyData) : Option PyData := (tyD d).map fun t => .bool (isB t T || isB t U)
section
variable {X : Cx} {io : List Nat} {B : Bs io} {own : List Nat} {a e o : Expr} {es : List Expr} {pos p p2 p3 : Pos} {m ma mi : EM}
theorem de_isi (T : String) {x : Str} (ha : De X B own a ma) (hm : X.mg "isinstance" = none) (hmT : X.mg x = none) (hT : tyOk T = true := by decide) (hg : Gl X "isinstance" := by rfl) (hgT : Gl X x := by rfl) (hv : bootBuiltins x = some (.type T) := by decide +kernel) (hvi : bootBuiltins "isinstance" = some (.builtin "isinstance") := by decide +kernel)
    (hn : x ≠ "__name__" := by decide) (hdb : (x == ("__debug__" : Str)) = false := by decide) (hs1 : starEach [a, .Name x p2] X.env = (false, eval a X.env) :: starEach [.Name x p2] X.env := by rfl) (hs2 : starEach [.Name x p2] X.env = (false, eval (.Name x p2) X.env) :: starEach [] X.env := by rfl) (hpl : (backTo pos (starEach [.Name x p2] X.env)).any (·.1) = false := by rfl) :
    De X B own (.Call (.Name "isinstance" p) [a, .Name x p2] [] pos) (m1 (fIsi T) ma) :=
  pe_imp (pe_callB call_isi hg hm hvi (pa_cons ha (pa_cons (pe_bltn (v := .ty T) hgT hmT hv rfl hn hdb) pa_nil hs2) hs1) (by decide) (by decide) hs1 hpl) fun σ H Q ⟨ρ, F, re, w⟩ => ⟨ρ, F, re, thE w fun ρ1 d1 v1 H1 F1 re1 mo1 rp1 w1 => by
    obtain ⟨z, hz, w2⟩ := Wa.opt w1
    obtain ⟨t, ht, rfl⟩ := Option.map_eq_some_iff.mp hz
    exact ⟨v1, .ty T, .type t, .type T, _, rfl, .ty T, ty_of rp1 ht, kit_ty (kitB_is ht hT), w2 _ H1 F1 re1 Mn.refl (.bl _)⟩⟩
theorem kitAny2 {K : PySem.W.Frag} {t : Value} {T U : String} {b c : Bool} (h1 : PySem.W.kitOne K t (.type T) = some b) (h2 : PySem.W.kitOne K t (.type U) = some c) : PySem.W.kitAny K t [.type T, .type U] = some (b || c) := by
  cases b with
  | true => exact kitAny_cons h1 (fun z => nomatch z) (fun _ => rfl)
  | false => exact kitAny_cons h1 (fun _ => by cases c with
    | true => exact kitAny_cons h2 (fun z => nomatch z) (fun _ => rfl)
    | false => exact kitAny_cons h2 (fun _ => rfl) (fun z => nomatch z)) (fun z => nomatch z)
theorem de_isi2 (T U : String) {x y : Str} {k0 : Nat} (ha : De X B own a ma) (hm : X.mg "isinstance" = none) (hmT : X.mg x = none) (hmU : X.mg y = none) (hT : tyOk T = true := by decide) (hU : tyOk U = true := by decide) (hg : Gl X "isinstance" := by rfl) (hgT : Gl X x := by rfl) (hgU : Gl X y := by rfl)
    (hv : bootBuiltins x = some (.type T) := by decide +kernel) (hvU : bootBuiltins y = some (.type U) := by decide +kernel) (hvi : bootBuiltins "isinstance" = some (.builtin "isinstance") := by decide +kernel)
    (hn : x ≠ "__name__" := by decide) (hdb : (x == ("__debug__" : Str)) = false := by decide) (hnU : y ≠ "__name__" := by decide) (hdbU : (y == ("__debug__" : Str)) = false := by decide)
    (hs1 : starEach [a, .Tuple [.Name x p2, .Name y p3] k0 o.pos] X.env = (false, eval a X.env) :: starEach [.Tuple [.Name x p2, .Name y p3] k0 o.pos] X.env := by rfl) (hs2 : starEach [.Tuple [.Name x p2, .Name y p3] k0 o.pos] X.env = (false, eval (.Tuple [.Name x p2, .Name y p3] k0 o.pos) X.env) :: starEach [] X.env := by rfl)
    (hs3 : starEach [.Name x p2, .Name y p3] X.env = (false, eval (.Name x p2) X.env) :: starEach [.Name y p3] X.env := by rfl) (hs4 : starEach [.Name y p3] X.env = (false, eval (.Name y p3) X.env) :: starEach [] X.env := by rfl) (hpl : (backTo pos (starEach [.Tuple [.Name x p2, .Name y p3] k0 o.pos] X.env)).any (·.1) = false := by rfl) :
    De X B own (.Call (.Name "isinstance" p) [a, .Tuple [.Name x p2, .Name y p3] k0 o.pos] [] pos) (m1 (fIsi2 T U) ma) :=
  pe_imp (pe_callB call_isiT hg hm hvi (pa_cons ha (pa_cons (pe_tup (pa_cons (pe_bltn (v := .ty T) hgT hmT hv rfl hn hdb) (pa_cons (pe_bltn (v := .ty U) hgU hmU hvU rfl hnU hdbU) pa_nil hs4) hs3)) pa_nil hs2) hs1) (by decide) (by decide) hs1 hpl) fun σ H Q ⟨ρ, F, re, w⟩ => ⟨ρ, F, re, thE w fun ρ1 d1 v1 H1 F1 re1 mo1 rp1 w1 => by
    obtain ⟨z, hz, w2⟩ := Wa.opt w1
    obtain ⟨t, ht, rfl⟩ := Option.map_eq_some_iff.mp hz
    refine ⟨by show 2 ≤ sizeLine; decide, fun q nq => ?_⟩
    have g : Grow F1 H1 F1 (upd H1 q (.tup [.ty T, .ty U])) := Grow.att re1.dom nq
    exact ⟨v1, q, [.ty T, .ty U], .type t, [.type T, .type U], _, rfl, upd_same, .cons (.ty T) (.cons (.ty U) .nil), ty_of (rp1.mono g.mono) ht, kitAny2 (kit_ty (kitB_is ht hT)) (kit_ty (kitB_is ht hU)), w2 _ _ F1 (re1.grow g) g.mn (.bl _)⟩⟩

/-! ### slices -/
def asI : PyData → Option Int
  | .int i => some i
  | _ => none
def mPart : Option EM → Ev → Rs (Ev × Option Int)
  | none, ρ => .ok (ρ, none)
  | some m, ρ => (m ρ).bind fun x => Rs.opt (asI x.2) fun i => .ok (x.1, some i)
def cutD (xs : List PyData) (lo hi : Option Int) : List PyData := (xs.drop (HT.sIx xs.length 0 lo)).take (HT.sIx xs.length xs.length hi - HT.sIx xs.length 0 lo)
def fSl : PyData → Option Int → Option Int → Option PyData
  | .list xs, lo, hi => some (.list (cutD xs lo hi))
  | .tuple xs, lo, hi => some (.tuple (cutD xs lo hi))
  | .str z, lo, hi => iff' (decide (z.length ≤ sizeLine)) (.str (cutS z lo hi))
  | _, _, _ => none
def mSl (m : EM) (lo hi : Option EM) : EM := fun ρ => (m ρ).bind fun x => (mPart lo x.1).bind fun y => (mPart hi y.1).bind fun z => Rs.opt (fSl x.2 y.2 z.2) fun d => .ok (z.1, d)
def kP {K : PySem.W.Frag} {io : List Nat} (B : Bs io) (own : List Nat) (σ : Sl) (Q : Option Int → Hp → Prop) : KF K (Ev × Option Int) :=
  ⟨fun F H x => ∀ H' F', RE K B own F' x.1 σ H' → Mn K F H F' H' → Q x.2 H', fun m h H' F' re mo => h H' F' re (m.trans mo)⟩
def tDP (K : PySem.W.Frag) {io : List Nat} (B : Bs io) (own : List Nat) (m : Option EM) : TO := fun σ H Q => ∃ ρ F, RE K B own F ρ σ H ∧ Wa B (kP (K := K) B own σ Q) F H (mPart m ρ)
abbrev Dp' (X : Cx) {io : List Nat} (B : Bs io) (own : List Nat) (e : Option Expr) (m : Option EM) : Prop := PO X e (tDP X.K B own m)
theorem dp_none : Dp' X B own none none := ⟨fun pins s σ H Q I ⟨ρ, F, re, w⟩ => po_none.run pins s σ H Q I (w H F re Mn.refl)⟩
theorem dp_some (h : De X B own e m) : Dp' X B own (some e) (some m) := ⟨fun pins s σ H Q I ⟨ρ, F, re, w⟩ => (po_some h).run pins s σ H Q I ⟨ρ, F, re, thE w fun ρ1 d1 v1 H1 F1 re1 mo1 rp1 w1 => by
  obtain ⟨i, hi, w2⟩ := Wa.opt w1
  cases rp1 <;> first | (cases hi; done) | skip
  cases hi
  exact ⟨_, rfl, w2 H1 F1 re1 Mn.refl⟩⟩⟩
theorem Rps.drop {K : PySem.W.Frag} {F : Addr → Prop} {H : Hp} : ∀ {vs : List V} {ds : List PyData} (n : Nat), Rps K F H vs ds → Rps K F H (vs.drop n) (ds.drop n)
  | _, _, 0, h => h
  | _, _, _ + 1, .nil => .nil
  | _, _, n + 1, .cons _ t => Rps.drop n t
theorem Rps.take {K : PySem.W.Frag} {F : Addr → Prop} {H : Hp} : ∀ {vs : List V} {ds : List PyData} (n : Nat), Rps K F H vs ds → Rps K F H (vs.take n) (ds.take n)
  | _, _, 0, _ => .nil
  | _, _, _ + 1, .nil => .nil
  | _, _, n + 1, .cons r t => .cons r (Rps.take n t)
theorem Rps.cut {K : PySem.W.Frag} {F : Addr → Prop} {H : Hp} {vs : List V} {ds : List PyData} {lo hi : Option Int} (h : Rps K F H vs ds) : Rps K F H (cutV vs lo hi) (cutD ds lo hi) := by
  unfold cutV cutD
  rw [h.length]
  exact Rps.take _ (Rps.drop _ h)
def rSlG (K : PySem.W.Frag) : V → Option Int → Option Int → Hp → VK → Prop := fun x lo hi H Q => rSlL K x lo hi H Q ∨ rSlA K x lo hi H Q ∨ rSlS x lo hi H Q
theorem sl_G : SlR X (rSlG X.K) := sl_list.or (sl_tupA.or sl_str)
theorem de_sl {lo hi : Option Expr} {ml mh : Option EM} (ha : De X B own a ma) (hl : Dp' X B own lo ml) (hh : Dp' X B own hi mh) : De X B own (.Subscript a (.Slice lo hi none p2) pos) (mSl ma ml mh) :=
  pe_imp (pe_slice sl_G ha hl hh) fun σ H Q ⟨ρ, F, re, w⟩ => ⟨ρ, F, re, thE w fun ρ1 d1 v1 H1 F1 re1 mo1 rp1 w1 => ⟨ρ1, F1, re1, w1.bind fun y wy H2 F2 re2 mo2 => ⟨y.1, F2, re2, (wy.mono mo2).bind fun z wz H3 F3 re3 mo3 => by
    obtain ⟨d, hd, w4⟩ := Wa.opt (wz.mono mo3)
    have rp3 := rp1.mono (mo2.trans mo3).toMono
    cases rp3 with
    | lst hl hs =>
      cases hd
      refine .inl ⟨_, _, rfl, hl.sq, fun q nq => ?_⟩
      exact w4 _ _ _ (re3.grow (Grow.atp re3.dom nq)) (Grow.atp re3.dom nq).mn (.lst (.inl ⟨.inr rfl, .inl upd_same⟩) (hs.cut.mono (Grow.atp re3.dom nq).mono))
    | tup hl hs =>
      cases hd
      refine .inr (.inl ⟨_, _, rfl, hl, fun hh => ?_, fun _ q nq => ?_⟩)
      · rename_i vs ds
        have e1 : cutD ds y.2 z.2 = ds := by
          have hl' := hs.length
          unfold cutD
          rw [← hl', hh.1, hh.2, hl']
          simp
        rw [e1] at w4
        exact w4 _ H3 F3 re3 Mn.refl (.tup hl hs)
      · exact w4 _ _ F3 (re3.grow (Grow.att re3.dom nq)) (Grow.att re3.dom nq).mn (.tup (SqT.of upd_same) (hs.cut.mono (Grow.att re3.dom nq).mono))
    | str x =>
      obtain ⟨h, rfl⟩ := iff_some hd
      exact .inr (.inr ⟨_, rfl, of_decide_eq_true h, w4 _ H3 F3 re3 Mn.refl (.str _)⟩)
    | _ => cases hd⟩⟩⟩

/-! ### methods of a list that a slot owns -/
/-- r serves f: the list's items, the arguments; the items behind, the answer -/
def MtD (K : PySem.W.Frag) (r : V → List V → Hp → VK → Prop) (f : List PyData → List PyData → Option (List PyData × PyData)) : Prop :=
  ∀ (F : Addr → Prop) (H : Hp) (a : Addr) (vs ws : List V) (ds as ds' : List PyData) (z : PyData) (Q : VK), H a = some (HO.lst vs) → Rps K F H vs ds → Rps K F H ws as → f ds as = some (ds', z) →
  (∀ v vs', Rps K F H vs' ds' → Rp K F H v z → Q v (upd H a (HO.lst vs'))) → r (.ref a) ws H Q
def mMt (i : Nat) (f : List PyData → List PyData → Option (List PyData × PyData)) (ms : List EM) : EM := fun ρ => Rs.opt ((gt ρ i).bind asL) fun _ => (mArgs ms ρ).bind fun x => Rs.opt ((gt x.1 i).bind asL) fun ds => Rs.opt (f ds x.2) fun y =>
  .ok (x.1.set i (some (.list y.1)), y.2)
theorem own_list {K : PySem.W.Frag} {F : Addr → Prop} {H : Hp} {ρ : Ev} {σ : Sl} (re : RE K B own F ρ σ H) {i : Nat} (hi : i ∈ own) {ds : List PyData} (h : (gt ρ i).bind asL = some ds) : ∃ a vs, σ[i]? = some (some (V.ref a)) ∧ ρ[i]? = some (some (.list ds)) ∧ ¬ F a ∧ H a = some (HO.lst vs) ∧ Rps K F H vs ds := by
  obtain ⟨d, h1, h2⟩ := Option.bind_eq_some_iff.mp h
  cases d <;> first | (cases h2; done) | skip
  cases h2
  obtain ⟨a, q1, q2, _, q4⟩ := re.ow i _ hi (gt_ok h1)
  cases q4 with
  | lst q r => exact ⟨a, _, q1, gt_ok h1, q2, q, r⟩
theorem tD_mt {r : V → List V → Hp → VK → Prop} {f : List PyData → List PyData → Option (List PyData × PyData)} {ms : List EM} {i : Nat} (hf : MtD X.K r f) (hi : i ∈ own) : ∀ σ H Q, tD X.K B own (mMt i f ms) σ H Q →
    tBM X.K "list" r (tVar i) (tDA X.K B own ms) σ H Q := fun σ H Q ⟨ρ, F, re, w⟩ => by
  obtain ⟨ds0, h0, w0⟩ := Wa.opt w
  obtain ⟨a, vs, q1, q2, q3, q4, q5⟩ := own_list re hi h0
  refine ⟨_, q1, .inl ⟨rfl, _, SqL.of q4⟩, ρ, F, re, thA w0 fun ρ1 as ws H1 F1 re1 mo1 rps w1 => ?_⟩
  obtain ⟨ds, h1, w2⟩ := Wa.opt w1
  obtain ⟨⟨ds', z⟩, h2, w3⟩ := Wa.opt w2
  obtain ⟨a', vs', u1, u2, u3, u4, u5⟩ := own_list re1 hi h1
  rw [q1] at u1; cases u1
  refine hf F1 H1 a vs' ws ds as ds' z Q u4 u5 rps h2 fun v ws' rp1 rp2 => ?_
  have mo0 : ∀ {vs1 d1}, Rps X.K F1 H1 vs1 d1 → Mono X.K F1 H1 F1 (upd H1 a (HO.lst ws')) → Rps X.K F1 (upd H1 a (HO.lst ws')) vs1 d1 := fun r m => r.mono m
  have pre : Mn X.K F1 H1 F1 (upd H1 a (HO.lst ws')) := (re1.updOwn (d' := .list []) hi u2 q1 (fun _ z => by cases z) rfl).2
  obtain ⟨re2, mo2⟩ := re1.write (d' := .list ds') (o := HO.lst ws') hi u2 q1 (fun _ z => by cases z) (.lst upd_same (rp1.mono pre.toMono))
  exact w3 v _ F1 re2 mo2 (rp2.mono mo2.toMono)
theorem de_mt {name : Str} {id : String} {r : V → List V → Hp → VK → Prop} {f : List PyData → List PyData → Option (List PyData × PyData)} {ms : List EM} {x : Str} {apos : Pos} (i : Nat) (slot : Slot "list" name id) (hty : typeOf (.builtin id) = pure (.type "method_descriptor")) (hr : MtR X id r) (hf : MtD X.K r f) (ha : Da X B own (e :: es) ms)
    (hi : i ∈ own := by decide) (hN : X.N[i]? = some x := by rfl) (hv : Vis X.env.scope x := by first | exact Or.inl rfl | exact Or.inr (Or.inl rfl) | exact Or.inr (Or.inr rfl)) (hd : (x == ("__debug__" : Str)) = false := by decide) (hcd : (x == ("__classdict__" : Str)) = false := by decide)
    (hbase : attributeBase (.Name x p) name X.env (eval (.Name x p) X.env) = eval (.Name x p) X.env := by rfl)
    (hfew : ((backTo pos (starEach (e :: es) X.env)).all (fun x => !x.1) && (backToKw pos (keywordEach [] X.env)).all (fun x => x.1.isSome) && decide ((e :: es).length + ([] : List Keyword).length + (if ([] : List Keyword).isEmpty then 0 else 1) < 30)) = true := by rfl)
    (hline : (apos.endLine == pos.line) = true := by rfl) (hs : starEach (e :: es) X.env = (false, eval e X.env) :: starEach es X.env := by rfl) (hpl : (backTo pos (starEach es X.env)).any (·.1) = false := by rfl) : De X B own (.Call (.Attribute (.Name x p) name apos) (e :: es) [] pos) (mMt i f ms) :=
  pe_imp (pe_bm PySem.F.plainAttrs_list slot hty hr (pv i hN hv hd hcd) ha (hbase := hbase) (hfew := hfew) (hline := hline) (hs := hs) (hplain := hpl)) (tD_mt hf hi)
theorem de_mt0 {name : Str} {id : String} {r : V → List V → Hp → VK → Prop} {f : List PyData → List PyData → Option (List PyData × PyData)} {x : Str} {apos : Pos} (i : Nat) (slot : Slot "list" name id) (hty : typeOf (.builtin id) = pure (.type "method_descriptor")) (hr : MtR X id r) (hf : MtD X.K r f)
    (hi : i ∈ own := by decide) (hN : X.N[i]? = some x := by rfl) (hv : Vis X.env.scope x := by first | exact Or.inl rfl | exact Or.inr (Or.inl rfl) | exact Or.inr (Or.inr rfl)) (hd : (x == ("__debug__" : Str)) = false := by decide) (hcd : (x == ("__classdict__" : Str)) = false := by decide)
    (hbase : attributeBase (.Name x p) name X.env (eval (.Name x p) X.env) = eval (.Name x p) X.env := by rfl) (hline : (apos.endLine == pos.line) = true := by rfl) : De X B own (.Call (.Attribute (.Name x p) name apos) [] [] pos) (mMt i f []) :=
  pe_imp (pe_bm0 PySem.F.plainAttrs_list slot hty hr (pv i hN hv hd hcd) hbase hline) fun σ H Q h => by
    obtain ⟨v, e1, ty, ρ, F, re, w⟩ := tD_mt (ms := []) hf hi σ H Q h
    exact ⟨v, e1, ty, w [] H F re Mn.refl .nil⟩
def fApp : List PyData → List PyData → Option (List PyData × PyData)
  | ds, [d] => iff' (decide (ds.length < sizeLine)) (ds ++ [d], .none)
  | _, _ => none
theorem mtd_app {K : PySem.W.Frag} : MtD K rAppend fApp := fun F H a vs ws ds as ds' z Q h r1 r2 hz k => by
  cases r2 with
  | nil => cases hz
  | cons q1 q2 => cases q2 with
    | cons _ _ => cases hz
    | nil =>
      obtain ⟨h1, h2⟩ := iff_some hz
      cases h2
      exact ⟨a, vs, _, rfl, rfl, h, by rw [r1.length]; exact of_decide_eq_true h1, k _ _ (r1.append (.one q1)) .non⟩
def fIns : List PyData → List PyData → Option (List PyData × PyData)
  | ds, [.int i, d] => iff' (decide (ds.length < sizeLine) && decide (0 ≤ i ∧ i < 2 ^ 63)) (ds.take i.toNat ++ [d] ++ ds.drop i.toNat, .none)
  | _, _ => none
theorem mtd_ins {K : PySem.W.Frag} : MtD K (fun x vs H Q => ∃ (l : Addr) (xs : List V) (i : Int) (y : V), x = .ref l ∧ vs = [.int i, y] ∧ H l = some (.lst xs) ∧ xs.length < sizeLine ∧ 0 ≤ i ∧ i < 2 ^ 63 ∧ Q .non (upd H l (.lst (xs.take i.toNat ++ [y] ++ xs.drop i.toNat)))) fIns := fun F H a vs ws ds as ds' z Q h r1 r2 hz k => by
  cases r2 with
  | nil => cases hz
  | cons q1 q2 => cases q2 with
    | nil => cases q1 <;> cases hz
    | cons q2 q3 => cases q3 with
      | cons _ _ => cases q1 <;> cases hz
      | nil =>
        cases q1 <;> first | (cases hz; done) | skip
        obtain ⟨h1, h2⟩ := iff_some hz
        cases h2
        obtain ⟨h3, h4⟩ := Bool.and_eq_true_iff.mp h1
        have h4 := of_decide_eq_true h4
        exact ⟨a, vs, _, _, rfl, rfl, h, by rw [r1.length]; exact of_decide_eq_true h3, h4.1, h4.2, k _ _ ((Rps.append (Rps.take _ r1) (.one q2)).append (Rps.drop _ r1)) .non⟩
def fPop : List PyData → List PyData → Option (List PyData × PyData)
  | ds, [] => (ds[ds.length - 1]?).map fun d => (ds.dropLast, d)
  | _, _ => none
theorem Rps.dropLast {K : PySem.W.Frag} {F : Addr → Prop} {H : Hp} {vs : List V} {ds : List PyData} (h : Rps K F H vs ds) : Rps K F H vs.dropLast ds.dropLast := by
  rw [List.dropLast_eq_take, List.dropLast_eq_take, h.length]
  exact Rps.take _ h
theorem mtd_pop {K : PySem.W.Frag} : MtD K rPop fPop := fun F H a vs ws ds as ds' z Q h r1 r2 hz k => by
  cases r2 with
  | cons _ _ => cases hz
  | nil =>
    obtain ⟨d, h1, h2⟩ := Option.map_eq_some_iff.mp hz
    cases h2
    obtain ⟨v, e1, e2⟩ := r1.get h1
    exact ⟨a, vs, v, rfl, rfl, h, by rw [r1.length]; exact e1, k _ _ r1.dropLast e2⟩
def fClr : List PyData → List PyData → Option (List PyData × PyData)
  | _, [] => some ([], .none)
  | _, _ => none
theorem mtd_clr {K : PySem.W.Frag} : MtD K rClear fClr := fun F H a vs ws ds as ds' z Q h r1 r2 hz k => by
  cases r2 with
  | cons _ _ => cases hz
  | nil => cases hz; exact ⟨a, vs, rfl, rfl, h, k _ _ .nil .non⟩

/-! ### xs[i] = e, a, b = c, d -/
def sSto (i : Nat) (mi me : EM) : SM := fun ρ => (me ρ).bind fun x => Rs.opt (gt x.1 i) fun _ => (mi x.1).bind fun y => Rs.opt (asI y.2) fun k => Rs.opt ((gt y.1 i).bind asL) fun ds => Rs.opt (ixN ds.length k) fun j =>
  .ok (.nx (y.1.set i (some (.list (ds.set j x.2)))))
theorem Rps.setAt {K : PySem.W.Frag} {F : Addr → Prop} {H : Hp} {v : V} {d : PyData} (r : Rp K F H v d) : ∀ {vs : List V} {ds : List PyData} (j : Nat), Rps K F H vs ds → Rps K F H (vs.set j v) (ds.set j d)
  | _, _, _, .nil => .nil
  | _, _, 0, .cons _ t => .cons r t
  | _, _, j + 1, .cons q t => .cons q (Rps.setAt r j t)
theorem ds_sto {ix : Expr} {x : Str} {bk ct : List Nat} (i : Nat) (he : De X B own e m) (hx : De X B own ix mi) (hi : i ∈ own := by decide) (hN : X.N[i]? = some x := by rfl) (hv : Vis X.env.scope x := by first | exact Or.inl rfl | exact Or.inr (Or.inl rfl) | exact Or.inr (Or.inr rfl)) (hd : (x == ("__debug__" : Str)) = false := by decide) (hcd : (x == ("__classdict__" : Str)) = false := by decide)
    (ha : ∀ v, assign (.Subscript (.Name x p) ix p2) X.env v = (do let ov ← holding [v] (eval (.Name x p) X.env); let iv ← holding [v, ov] (eval ix X.env); standAt p2; holding [v, ov, iv] (setItem ov iv v); release [v, ov, iv] []) := by intro _; rfl)
    (hs : swapsWithSole [.Subscript (.Name x p) ix p2] e pos.line X.env = pure false := by rfl) (hw : swappedStores [.Subscript (.Name x p) ix p2] e X.env = pure none := by rfl) (h1 : (assignEach [.Subscript (.Name x p) ix p2] X.env).map (·.2) = [assign (.Subscript (.Name x p) ix p2) X.env] := by rfl) :
    Ds X B own ⟨own, bk, ct⟩ (.Assign [.Subscript (.Name x p) ix p2] e pos) (sSto i mi m) :=
  ps_imp (ps_asg he (pg_sub (pv i hN hv hd hcd) hx set_list ha) hs hw h1) fun D σ H ⟨ρ, F, re, w⟩ => ⟨ρ, F, re, thE w fun ρ1 d1 v1 H1 F1 re1 mo1 rp1 w1 => by
    obtain ⟨d0, h0, w2⟩ := Wa.opt w1
    obtain ⟨a, q1, _⟩ := re1.ow i d0 hi (gt_ok h0)
    refine ⟨_, q1, ρ1, F1, re1, thE w2 fun ρ2 d2 v2 H2 F2 re2 mo2 rp2 w3 => ?_⟩
    obtain ⟨k, hk, w4⟩ := Wa.opt w3
    obtain ⟨ds, hds, w5⟩ := Wa.opt w4
    obtain ⟨j, hj, w6⟩ := Wa.opt w5
    cases rp2 <;> first | (cases hk; done) | skip
    cases hk
    obtain ⟨a', vs', u1, u2, u3, u4, u5⟩ := own_list re2 hi hds
    rw [q1] at u1; cases u1
    refine ⟨a, vs', _, j, rfl, rfl, u4, by rw [u5.length]; exact hj, ?_⟩
    have pre := (re2.updOwn (o := HO.lst (vs'.set j v1)) (d' := .list []) hi u2 q1 (fun _ z => by cases z) rfl).2
    obtain ⟨re3, mo3⟩ := re2.write (d' := .list (ds.set j d1)) (o := HO.lst (vs'.set j v1)) hi u2 q1 (fun _ z => by cases z) (.lst upd_same ((Rps.setAt (rp1.mono mo2.toMono) j u5).mono pre.toMono))
    exact w6 σ _ F2 re3 mo3.toMono⟩
def sPar (i j : Nat) (ma mb : EM) : SM := fun ρ => (ma ρ).bind fun x => (mb x.1).bind fun y => .ok (.nx ((y.1.set i (some x.2)).set j (some y.2)))
theorem ds_par {x y : Str} {b : Expr} {mb : EM} {px py pt : Pos} {kt k2 : Nat} {pt2 : Pos} {bk ct : List Nat} (i j : Nat) (hc : X.calm = true) (nd : X.N.Nodup) (ha : De X B own a ma) (hb : De X B own b mb) (hoi : i ∉ io := by decide) (hoj : j ∉ io := by decide) (hi : X.N[i]? = some x := by rfl) (hj : X.N[j]? = some y := by rfl) (hij : i ≠ j := by decide)
    (hx : X.env.scope.names.lookup x = some .local := by rfl) (hy : X.env.scope.names.lookup y = some .local := by rfl) (hs1 : starEach [a, b] X.env = (false, eval a X.env) :: starEach [b] X.env := by rfl) (hs2 : starEach [b] X.env = (false, eval b X.env) :: starEach [] X.env := by rfl)
    (hp : PS X (.Assign [.Tuple [.Name x px, .Name y py] kt pt] (.Tuple [a, b] k2 pt2) pos) (tPar i j (tDA X.K B own [ma, mb]))) :
    Ds X B own ⟨(own.filter (· ≠ i)).filter (· ≠ j), bk, ct⟩ (.Assign [.Tuple [.Name x px, .Name y py] kt pt] (.Tuple [a, b] k2 pt2) pos) (sPar i j ma mb) :=
  ps_imp hp fun D σ H ⟨ρ, F, re, w⟩ => ⟨ρ, F, re, by
    have e : (ma ρ).bind (fun x => (mb x.1).bind fun y => Rs.ok (Fl.nx ((y.1.set i (some x.2)).set j (some y.2)))) = (mArgs [ma, mb] ρ).bind fun z => match z.2 with | [d1, d2] => Rs.ok (Fl.nx ((z.1.set i (some d1)).set j (some d2))) | _ => .bad := by
      simp only [mArgs]
      cases ma ρ with
      | ok x => simp only [Rs.bind]; cases mb x.1 <;> rfl
      | exc c x => rfl
      | bad => rfl
    have w' : Wa B (kS X.K B ⟨(own.filter (· ≠ i)).filter (· ≠ j), bk, ct⟩ D) F H ((mArgs [ma, mb] ρ).bind fun z => match z.2 with | [d1, d2] => Rs.ok (Fl.nx ((z.1.set i (some d1)).set j (some d2))) | _ => .bad) := by rw [← e]; exact w
    exact thA w' fun ρ1 ds vs H1 F1 re1 mo1 rps w1 => by
      cases rps with
      | nil => exact w1.elim
      | cons r1 r2 => cases r2 with
        | nil => exact w1.elim
        | cons r2 r3 => cases r3 with
          | cons _ _ => exact w1.elim
          | nil => exact ⟨_, _, rfl, w1 _ H1 F1 ((re1.set r1 hoi).set r2 hoj) Mono.refl⟩⟩

/-! ### new objects that a slot is to own -/
def kO {K : PySem.W.Frag} {io : List Nat} (B : Bs io) (own : List Nat) (σ : Sl) (Q : VK) : KF K (Ev × PyData) :=
  ⟨fun F H x => ∀ a H' F', RE K B own F' x.1 σ H' → Mn K F H F' H' → ¬ F' a → H a = none → B.H0 a = none → (∀ j ∈ own, σ[j]? ≠ some (some (V.ref a))) → OwnV K F' H' a x.2 → Q (.ref a) H', fun {_ H _ _ _} m h a H' F' re mo nF hz =>
    h a H' F' re (m.trans mo) nF (by by_cases q : H a = none; exact q; exact absurd hz (m.keep a q))⟩
def tDO (K : PySem.W.Frag) {io : List Nat} (B : Bs io) (own : List Nat) (m : EM) : TE := fun σ H Q => ∃ ρ F, RE K B own F ρ σ H ∧ Wa B (kO (K := K) B own σ Q) F H (m ρ)
abbrev Do (X : Cx) {io : List Nat} (B : Bs io) (own : List Nat) (e : Expr) (m : EM) : Prop := PE X e (tDO X.K B own m)
theorem do_lst {ms : List EM} (h : Da X B own es ms) : Do X B own (.List es pos) (mN fLst ms) :=
  pe_imp (pe_lst h) fun σ H Q ⟨ρ, F, re, w⟩ => ⟨ρ, F, re, thA w fun ρ1 ds vs H1 F1 re1 mo1 rps w1 => by
    obtain ⟨z, hz, w2⟩ := Wa.opt w1
    obtain ⟨h3, rfl⟩ := iff_some hz
    refine ⟨by rw [rps.length]; exact of_decide_eq_true h3, fun q nq => ?_⟩
    have g : Grow F1 H1 F1 (upd H1 q (.lst vs)) := Grow.att re1.dom nq
    exact w2 q _ F1 (re1.grow g) g.mn (fun z => re1.dom q z nq) nq (re1.h0 nq) (re1.notIn nq) (.lst upd_same (rps.mono g.mono))⟩
theorem ds_setO {x : Str} {pos' : Pos} {bk ct : List Nat} (i : Nat) (nd : X.N.Nodup) (he : Do X B own e m) (ho : i ∉ io := by decide) (hi : X.N[i]? = some x := by rfl) (hx : Loc X.env.scope x := by first | exact Or.inl rfl | exact Or.inr rfl)
    (hs : swapsWith e (some (.Name x pos')) pos.line X.env = pure false := by rfl) (hf : X.fn x = true ∨ X.env.scope.names.lookup x = some .local := by first | exact .inl rfl | exact .inr rfl | assumption) :
    Ds X B own ⟨i :: own, bk, ct⟩ (.Assign [.Name x pos'] e pos) (sSet i m) :=
  ps_imp (L2.ps_set nd hi hx he hs hf) fun D σ H ⟨ρ, F, re, w⟩ => ⟨ρ, F, re, w.bind fun y wy a H1 F1 re1 mo1 nF _ h0 hn hv => by
    have w1 : Wa B (kS X.K B ⟨i :: own, bk, ct⟩ D) F1 H1 (.ok (.nx (y.1.set i (some y.2)))) := wy.mono mo1
    exact w1 _ H1 F1 (re1.setO nF h0 hv (fun j hj e _ => hn j hj) ho) Mono.refl⟩

/-! ### repr -/
def fRepr : List PyData → Option PyData
  | [d] => iff' (d.canLay0 && d.showable && decide (d.depth ≤ 60) && decide (d.shown.length ≤ sizeLine)) (.str d.shown)
  | _ => none
def rRepr (K : PySem.W.Frag) : List V → Hp → VK → Prop := fun xs H Q => ∃ x d, xs = [x] ∧ Dp K H x d ∧ d.canLay0 = true ∧ d.showable = true ∧ d.depth ≤ 60 ∧ d.shown.length ≤ sizeLine ∧ Q (.str d.shown) H
theorem call_reprG {k : Nat} (hr : Room k X.A) (gd : X.A.guards = some []) : CallR X (.builtin "repr") (rRepr X.K) := by
  intro pins s σ H xs us Q I rv h
  obtain ⟨x, d, rfl, hd, hc, hs, hdp, hl, q⟩ := h
  obtain ⟨u, rfl, rx⟩ := vals1 rv
  have hu := hr.units
  have fin : ∀ t, EP X pins σ Q (.str d.shown t) { s with toks := s.toks + 1 } := fun t => ⟨.str d.shown, H, I.tok _, ⟨_, rfl⟩, q⟩
  obtain ⟨as, rd⟩ := Dp.reads I d x u hd rx
  cases rd with
  | none => exact P.repr_of_none (fin _)
  | bool b => exact P.repr_of_bool (by have := fin s.toks; simpa [PyData.shown] using this)
  | int i t => exact P.repr_of_int (by simpa [PyData.showable] using hs) (by have := fin s.toks; simpa [PyData.shown] using this)
  | str y t => exact P.repr_of_str (by have := fin s.toks; simpa [PyData.shown] using this) (by simpa [PyData.shown] using hl)
  | list h1 h2 h3 h4 =>
    exact repr_of_reads' (.list h1 h2 h3 h4) hs (PyData.noDict_hsm (PyData.hasDict_of_canLay _ hc)) gd (by omega) (fun _ _ e => e) (fun h' t tk k => ⟨.str _, H, I.kept k, ⟨_, rfl⟩, q⟩) hl
  | tuple h1 h2 h3 h4 =>
    exact repr_of_reads' (.tuple h1 h2 h3 h4) hs (PyData.noDict_hsm (PyData.hasDict_of_canLay _ hc)) gd (by omega) (fun _ _ e => e) (fun h' t tk k => ⟨.str _, H, I.kept k, ⟨_, rfl⟩, q⟩) hl
  | dict h1 h2 h3 h4 h5 => simp [PyData.canLay0] at hc
theorem fnd_repr {K : PySem.W.Frag} : FnD K (rRepr K) fRepr := fun F H xs ds z Q dom r hz k => by
  cases r with
  | nil => cases hz
  | cons r1 r2 => cases r2 with
    | cons _ _ => cases hz
    | nil =>
      obtain ⟨h, rfl⟩ := iff_some hz
      simp only [Bool.and_eq_true, decide_eq_true_eq] at h
      exact ⟨_, _, rfl, r1.dp h.1.1.1, h.1.1.1, h.1.1.2, h.1.2, h.2, k _ H F (Grow.refl dom) (.str _)⟩

/-! ### new objects from calls, handed back; a list that a slot owns, read -/
theorem do_cal {k j : Nat} {x : Str} {f : FM} {as : List Ar} {iol : List Nat} {n : Nat} {dfl : List PyData} (C : Cal X.prog X.w X.K X.mg X.base j x dfl iol n f true) (hr : Room k X.A) (gd : X.A.guards = some []) (tk : Takes X B.W) (hB : B.mg = X.mg) (ha : Dr X B own (e :: es) as) (hjk : j ≤ k := by decide)
    (hg : Gl X x := by rfl) (hio : ioOf as 0 = iol := by rfl) (hj : ∀ j ∈ jsOf as, j ∈ own := by decide) (nd : (jsOf as).Nodup := by decide) (hn : as.length + dfl.length = n := by rfl) (hio2 : ∀ i ∈ io, i ∈ own := by decide) (hdb : (x == ("__debug__" : Str)) = false := by decide)
    (hs : starEach (e :: es) X.env = (false, eval e X.env) :: starEach es X.env := by rfl) (hpl : (backTo pos (starEach es X.env)).any (·.1) = false := by rfl) : Do X B own (.Call (.Name x p) (e :: es) [] pos) (mCall f as dfl) := by
  obtain ⟨fa, fd, ps, dvs, ds, h1, h2, h3, h4, h5, h6⟩ := C.ex
  refine pe_imp (pe_callG h3 (hr.mono hjk) gd hg h1 h2 h4 h5 tk ha hdb hs hpl) fun σ H Q ⟨ρ, F, re, w⟩ => call_any (fr := true) (κ := kO (K := X.K) B own σ Q) hio hj nd hn hB h6 hio2 (fun k re1 re2 mo2 rp => ?_) re w
  obtain ⟨a, rfl, nF, h0, hv⟩ := rp
  exact k a _ _ re2 mo2 nF h0 (re1.h0 h0) (re1.notIn h0) hv
/-- a new object that stays as it is -/
theorem de_of_do (h : Do X B own e m) : De X B own e m :=
  pe_imp h fun σ H Q ⟨ρ, F, re, w⟩ => ⟨ρ, F, re, by
    cases q : m ρ with
    | bad => rw [q] at w; exact w
    | exc c x => rw [q] at w; exact w
    | ok x =>
      rw [q] at w
      intro a H' F' re' mo nF hz h0 hn hv
      obtain ⟨re2, mo2⟩ := re'.addF hv.there hn h0
      refine w _ H' _ re2 ⟨mo.toMono.trans mo2, fun b hb => ?_, mo.keep⟩ ((hv.mono mo2 rfl).rp (.inr rfl))
      rcases hb with hb | rfl
      · exact mo.new b hb
      · exact .inr hz⟩
theorem ds_retO {ow : Ow} (hfr : B.fr = true) (he : Do X B own e m) (hio : ∀ i ∈ io, i ∈ own := by decide) : Ds X B own ow (.Return (some e) pos) (sRt m) :=
  ps_imp (ps_ret he) fun D σ H ⟨ρ, F, re, w⟩ => ⟨ρ, F, re, w.bind fun y wy a H1 F1 re1 mo1 nF _ h0 hn hv => by
    obtain ⟨F2, re2, mo2, hF2⟩ := re1.freeze' hio (fun i h => h)
    have w1 : Wa B (kS X.K B ow D) F1 H1 (.ok (.rt y.1 y.2)) := wy.mono mo1
    refine w1 _ σ H1 F2 re2 mo2 ?_
    unfold RetR
    rw [hfr]
    refine ⟨a, rfl, fun z => ?_, h0, hv.mono mo2 rfl⟩
    rcases hF2 a z with q | ⟨i, hi, q, _⟩
    · exact nF q
    · exact hn i hi q⟩
/-- an owned slot's list (or dict) handed back -/
def sRtV (i : Nat) : SM := fun ρ => Rs.opt (gt ρ i) fun d => .ok (.rt (ρ.set i none) d)
theorem ds_retV {x : Str} {ow : Ow} (i : Nat) (hfr : B.fr = true) (hi : i ∈ own := by decide) (hni : i ∉ io := by decide) (hio : ∀ j ∈ io, j ∈ own := by decide) (hN : X.N[i]? = some x := by rfl) (hv : Vis X.env.scope x := by first | exact Or.inl rfl | exact Or.inr (Or.inl rfl) | exact Or.inr (Or.inr rfl))
    (hd : (x == ("__debug__" : Str)) = false := by decide) (hcd : (x == ("__classdict__" : Str)) = false := by decide) : Ds X B own ow (.Return (some (.Name x p)) pos) (sRtV i) :=
  ps_imp (ps_ret (pv i hN hv hd hcd)) fun D σ H ⟨ρ, F, re, w⟩ => by
    obtain ⟨d, hg, w2⟩ := Wa.opt w
    obtain ⟨a, e1, nF, h0, ov⟩ := re.ow i d hi (gt_ok hg)
    refine ⟨_, e1, ?_⟩
    have e0 : ∀ j ∈ own, (σ.set i none)[j]? ≠ some (some (V.ref a)) := fun j hj q => by
      by_cases hji : j = i
      · subst hji
        rw [List.getElem?_set_self (List.getElem?_eq_some_iff.mp e1).1] at q; cases q
      · rw [List.getElem?_set_ne (Ne.symm hji)] at q
        cases ej : ρ[j]? with
        | none =>
          have h1 := List.getElem?_eq_none_iff.mp ej
          have h2 := (List.getElem?_eq_some_iff.mp q).1
          rw [← re.len] at h2; omega
        | some o => cases o with
          | none => rw [re.un j ej] at q; cases q
          | some dj => exact re.ne i j d dj hi hj (fun z => hji z.symm) (gt_ok hg) ej (e1.trans q.symm)
    obtain ⟨F2, re2, mo2, hF2⟩ := (re.forget hni).freeze' hio (fun i h => h)
    refine w2 _ _ H F2 re2 mo2 ?_
    unfold RetR
    rw [hfr]
    refine ⟨a, rfl, fun z => ?_, ?_, ov.mono mo2 rfl⟩
    · rcases hF2 a z with q | ⟨j, hj, q, hnj⟩
      · exact nF q
      · exact e0 j hj q
    · rcases h0 with h0 | h0
      · exact h0
      · obtain ⟨p, hp, rfl⟩ := List.mem_map.mp h0
        obtain ⟨q1, q2, dp, q3⟩ := re.io p hp
        have hpi : p.1 ≠ i := fun z => hni (by rw [← B.hio, ← z]; exact List.mem_map.mpr ⟨p, hp, rfl⟩)
        exact absurd (q1.trans e1.symm) (re.ne p.1 i dp d q2 hi hpi q3 (gt_ok hg))
/-- xs[k], xs a list that a slot owns -/
def mIxO (i : Nat) (mb : EM) : EM := fun ρ => Rs.opt (gt ρ i) fun _ => (mb ρ).bind fun y => Rs.opt ((gt y.1 i).bind asL) fun ds => Rs.opt (fIx (.list ds) y.2) fun d => .ok (y.1, d)
theorem de_ixO {b : Expr} {mb : EM} {x : Str} (i : Nat) (hb : De X B own b mb) (hi : i ∈ own := by decide) (hs : PlainIx b := by exact fun _ _ => rfl) (hN : X.N[i]? = some x := by rfl) (hv : Vis X.env.scope x := by first | exact Or.inl rfl | exact Or.inr (Or.inl rfl) | exact Or.inr (Or.inr rfl))
    (hd : (x == ("__debug__" : Str)) = false := by decide) (hcd : (x == ("__classdict__" : Str)) = false := by decide) : De X B own (.Subscript (.Name x p) b pos) (mIxO i mb) :=
  pe_imp (pe_ix ix_seq (pv i hN hv hd hcd) hb hs) fun σ H Q ⟨ρ, F, re, w⟩ => by
    obtain ⟨d0, h0, w0⟩ := Wa.opt w
    obtain ⟨a, e1, _⟩ := re.ow i d0 hi (gt_ok h0)
    refine ⟨_, e1, ρ, F, re, thE w0 fun ρ1 d1 v1 H1 F1 re1 mo1 rp1 w1 => ?_⟩
    obtain ⟨ds, hds, w2⟩ := Wa.opt w1
    obtain ⟨z, hz, w3⟩ := Wa.opt w2
    obtain ⟨a', vs', u1, u2, u3, u4, u5⟩ := own_list re1 hi hds
    rw [e1] at u1; cases u1
    cases rp1 <;> first | (cases hz; done) | skip
    obtain ⟨v, q1, q2⟩ := u5.at_ hz
    exact .inl ⟨_, _, _, v, rfl, rfl, SqL.of u4, q1, w3 v H1 F1 re1 Mn.refl q2⟩
/-- len(xs), xs a list that a slot owns -/
def mLenO (i : Nat) : EM := fun ρ => Rs.opt ((gt ρ i).bind asL) fun ds => .ok (ρ, .int ds.length)
theorem de_lenO {x : Str} (i : Nat) (hm : X.mg "len" = none) (hi : i ∈ own := by decide) (hN : X.N[i]? = some x := by rfl) (hv : Vis X.env.scope x := by first | exact Or.inl rfl | exact Or.inr (Or.inl rfl) | exact Or.inr (Or.inr rfl))
    (hd : (x == ("__debug__" : Str)) = false := by decide) (hcd : (x == ("__classdict__" : Str)) = false := by decide) (hg : Gl X "len" := by rfl)
    (hs : starEach [.Name x p2] X.env = (false, eval (.Name x p2) X.env) :: starEach [] X.env := by rfl) (hpl : (backTo pos (starEach [] X.env)).any (·.1) = false := by rfl) : De X B own (.Call (.Name "len" p) [.Name x p2] [] pos) (mLenO i) :=
  pe_imp (pe_callB call_len hg hm (by decide +kernel) (pa_cons (pv i hN hv hd hcd) pa_nil hs) (by decide) (by decide) hs hpl) fun σ H Q ⟨ρ, F, re, w⟩ => by
    obtain ⟨ds, hds, w1⟩ := Wa.opt w
    obtain ⟨a, vs, u1, u2, u3, u4, u5⟩ := own_list re hi hds
    refine ⟨_, u1, _, vs.length, rfl, .inl ⟨_, SqL.of u4, rfl⟩, ?_⟩
    rw [u5.length]
    exact w1 _ H F re Mn.refl (.int _)
end
end Kd

end T_KD6
section T_KD7
set_option maxRecDepth 100000
/-! KD7: the end of a law. -/
namespace Kd
open PySem PySem.Spec PyProof.Rows L2

theorem rps_ints {K : PySem.W.Frag} {F : Addr → Prop} {H : Hp} : ∀ ns : List Int, Rps K F H (ns.map V.int) (ns.map PyData.int)
  | [] => .nil
  | n :: r => .cons (.int n) (rps_ints r)
/-- the law's promise holds where its run says True of the script -/
theorem law_sp {K : PySem.W.Frag} {mg : Str → Option Value} {f : FM} {H : Hp} {a : Addr} {ns : List Int} (hS : SqL K H a (ns.map V.int)) (hf : ∃ os, f [.list (ns.map .int)] = .ok (os, .bool true)) :
    spD K mg [] 1 false f [.ref a] H (fun v _ => v = .bl true) fun _ _ _ => False := by
  obtain ⟨os, hf⟩ := hf
  have hL : LsA K (fun b => H b ≠ none) H a (ns.map V.int) := by
    rcases hS with h | h
    · refine .inl ⟨?_, h⟩
      rcases h with h | ⟨o, h⟩ <;> (rw [h]; simp)
    · exact .inr h
  refine ⟨[.list (ns.map .int)], fun b => H b ≠ none, rfl, ⟨rfl, fun i v d _ e1 e2 => ?_, fun i v d hi => by simp at hi, fun i j hi => by simp at hi, fun i hi => by simp at hi⟩, fun _ h => h, ?_⟩
  · cases i with
    | zero =>
      simp only [List.getElem?_cons_zero, Option.some.injEq] at e1 e2
      subst e1 e2
      exact .lst hL (rps_ints ns)
    | succ i => simp at e1
  · rw [hf]
    intro v H' F' _ _ rp
    cases rp
    rfl
section
variable {P : Program} {w : World} {K : PySem.W.Frag} {mg mb : Str → Option Value} {k : Nat} {fa a : Addr} {fd : FuncData} {x : Str} {sp : Sp} {st : Shared} {vs : List Value} {ns : List Int}
/-- the run from an abstract heap in which the script alone may stand -/
theorem law_core (inK : K.In st.heap) (gl : st.heap.Ns mainGlobals mg) (bl : st.heap.Ns builtinsNs mb) (bb : ∀ x : Str, x ≠ "__name__" → mb x = bootBuiltins x) (nl : st.heap.NoLimit) (gens : st.gens = #[])
    (ob : st.heap.get? a = some { cls := .type "list", data := .seq vs.toArray }) (room : Room k callerA) (G : ∀ base : Heap, K.In base → base.Ns mainGlobals mg → FnG P w K mg base k fa fd [x] sp)
    (bd : ∀ (s : Shared) (u : Value), BindsTo s fd ⟨[u], []⟩ [(x, u)]) (H : Hp) (only : Only H) (ok : HOk P w H st.heap) (at1 : ∀ b, H b ≠ none → b = a) (offK : H a ≠ none → K.lookup a = none)
    (prom : sp [.ref a] H (fun v _ => v = .bl true) fun _ _ _ => False) :
    codeAny (model P w) callerA (.call (.ref fa) ⟨[.ref a], []⟩) (fun r s' => r = .ok (.ret (.bool true)) ∧ OldK st.heap s'.heap ∧ s'.os = st.os ∧ AllBare s'.gens) st := by
  have free : ∀ {b : Addr} {o : Obj} {es : Array DictEntry} {ep : Nat}, st.heap.get? b = some o → o.data = .dict es ep → H b = none := by
    intro b o es ep e d
    cases q : H b with
    | none => rfl
    | some u =>
      have := at1 b (by rw [q]; simp)
      subst this
      rw [ob] at e
      cases e
      cases d
  have ns2 : ∀ {b : Addr} {m : Str → Option Value}, st.heap.Ns b m → (hidT st.heap H).Ns b m := by
    intro b m h
    obtain ⟨o, es, ep, e, d, r⟩ := h
    exact ⟨o, es, ep, hidT_get e (free e d), d, r⟩
  have kb : K.In (hidT st.heap H) := by
    intro b o e
    refine hidT_get (inK b o e) ?_
    cases q : H b with
    | none => rfl
    | some u =>
      have := at1 b (by rw [q]; simp)
      subst this
      rw [offK (by rw [q]; simp)] at e
      cases e
  have nl2 : (hidT st.heap H).NoLimit := by
    obtain ⟨mc, h1, h2⟩ := nl
    exact ⟨mc, ns2 h1, h2⟩
  have en : Env0 P w K mg (hidT st.heap H) callerA [] st H :=
    ⟨rfl, ⟨kb, ns2 gl, ⟨mb, ns2 bl, bb⟩, nl2⟩, fun _ _ e => of_hidT e, by rw [hidT_size]; exact Nat.le_refl _, trivial, fun b h => (by cases h), ok, .of_eq gens⟩
  have run := (G _ kb (ns2 gl)).run callerA [] st H ⟨[.ref a], []⟩ [.ref a] [.ref a] _ _ room rfl en (bd st (.ref a)) (.cons rfl .nil) prom
  refine codeAny_mono run fun r s' z => ?_
  cases r with
  | error e =>
    obtain ⟨_, _, _, _, _, _, _, _, _, _, _, _, q⟩ := z
    exact q.elim
  | ok fl =>
    cases fl with
    | ret u =>
      obtain ⟨v, H', os, bare, un, ok', ru, q⟩ := z
      obtain rfl : v = .bl true := q
      obtain rfl : u = Value.bool true := ru
      refine ⟨rfl, OldK.of_keep fun b o e => ?_, os, bare⟩
      rcases only b with z | ⟨ob', ys, z⟩
      · exact un.keep b o e z (fun h => (by cases h)) (fun h => (by cases h))
      · have e1 := (ok b _ z).1
        have e2 := (ok' b _ (un.frzs b ob' _ z)).1
        rw [e] at e1
        cases e1
        exact e2
    | _ => exact z.elim
theorem law_run (inK : K.In st.heap) (gl : st.heap.Ns mainGlobals mg) (bl : st.heap.Ns builtinsNs mb) (bb : ∀ x : Str, x ≠ "__name__" → mb x = bootBuiltins x) (nl : st.heap.NoLimit) (gens : st.gens = #[])
    (ob : st.heap.get? a = some { cls := .type "list", data := .seq vs.toArray }) (hi : IntsAre vs ns) (hl : ns.length ≤ sizeLine) (room : Room k callerA) (G : ∀ base : Heap, K.In base → base.Ns mainGlobals mg → FnG P w K mg base k fa fd [x] sp)
    (bd : ∀ (s : Shared) (u : Value), BindsTo s fd ⟨[u], []⟩ [(x, u)]) (prom : ∀ H : Hp, SqL K H a (ns.map V.int) → sp [.ref a] H (fun v _ => v = .bl true) fun _ _ _ => False) :
    codeAny (model P w) callerA (.call (.ref fa) ⟨[.ref a], []⟩) (fun r s' => r = .ok (.ret (.bool true)) ∧ OldK st.heap s'.heap ∧ s'.os = st.os ∧ AllBare s'.gens) st := by
  have rv := vals_ints hi
  have lv := hi.length
  cases hk : K.lookup a with
  | some o =>
    have e := inK a o hk
    rw [ob] at e
    cases e
    exact law_core inK gl bl bb nl gens ob room G bd (fun _ => none) (fun _ => .inl rfl) (fun _ _ z => nomatch z) (fun _ z => absurd rfl z) (fun z => absurd rfl z)
      (prom _ (.inr ⟨_, vs.toArray, _, hk, rfl, rfl, rfl, by rw [List.size_toArray, lv]; exact hl, by simpa using rv⟩))
  | none =>
    have atA : ∀ {b : Addr} {u : HO}, (if b = a then some (HO.frz { cls := .type "list", data := .seq vs.toArray } (.lst (ns.map V.int))) else none) = some u → b = a ∧ u = HO.frz { cls := .type "list", data := .seq vs.toArray } (.lst (ns.map V.int)) := by
      intro b u z
      by_cases hb : b = a
      · rw [if_pos hb] at z; exact ⟨hb, (Option.some.inj z).symm⟩
      · rw [if_neg hb] at z; cases z
    refine law_core inK gl bl bb nl gens ob room G bd (fun b => if b = a then some (.frz { cls := .type "list", data := .seq vs.toArray } (.lst (ns.map V.int))) else none) (fun b => ?_) (fun b u z => ?_) (fun b z => ?_) (fun _ => hk)
      (prom _ (.inl (.inr ⟨_, if_pos rfl⟩)))
    · by_cases hb : b = a
      · exact .inr ⟨_, _, if_pos hb⟩
      · exact .inl (if_neg hb)
    · obtain ⟨rfl, rfl⟩ := atA z
      exact ⟨ob, by rw [List.length_map]; exact hl, vs, _, rv, ob⟩
    · by_cases hb : b = a
      · exact hb
      · exact absurd (if_neg hb) z
end
/-- the goal of a law, from its def's promise -/
theorem walk_g {l : PySem.W.OpenLaw} {n k : Nat} {q : Program} {loose : List Str} {XP : (Str → Option Value) → Heap → Prop} {YP : World → Heap → Prop} {d : DefRec} {x : Str} (hn : l.most = some n) (hn2 : n ≤ sizeLine) (hdf : d.params.defaults = []) (hr : Room k callerA)
    (F : ∀ (w : World) (mg : Str → Option Value) (fa : Addr) (h : Heap), YP w h → h.Ns mainGlobals mg → mg d.name = some (.ref fa) → ∃ (K : PySem.W.Frag) (fd : FuncData) (f : FM), K.In h ∧ (∀ (s : Shared) (u : Value), BindsTo s fd ⟨[u], []⟩ [(x, u)]) ∧
      (∀ ns : List Int, ns.length ≤ n → ∃ os, f [.list (ns.map .int)] = .ok (os, .bool true)) ∧ ∀ base : Heap, K.In base → base.Ns mainGlobals mg → FnG l.prog w K mg base k fa fd [x] (spD K mg [] 1 false f)) :
    PySem.W.WalkO q loose XP YP l.row.toRowW d [] (fun f vs => PySem.call f vs) := by
  refine Att.attach_call hn hdf fun w s₀ st mg mb fa o pm cd doc a vs ns G Y ho hd hcd hmg hobj hints hlen hg => ?_
  obtain ⟨K, fd, f, inK, bd, hf, hG⟩ := F w mg fa _ Y G.T.g hmg
  exact law_run inK G.T.g G.T.b G.T.builtins G.T.nolimit hg hobj hints (Nat.le_trans hlen hn2) hr hG bd fun H hS => law_sp hS (hf ns hlen)
end Kd

end T_KD7
section T_KD8
set_option maxRecDepth 100000
/-! KD8: more that is walked: lists, tuples and texts alike, zip, enumerate. -/
namespace Kd
open PySem PySem.Spec PyProof.Rows L2
section
variable {X : Cx} {tg e e2 : Expr} {io : List Nat} {B : Bs io} {own : List Nat} {m : EM} {pos p tpos : Pos}
def iSeq (K : PySem.W.Frag) (te : TE) : TI := fun σ H R => te σ H fun x H1 => (∃ a, x = .ref a ∧ (∃ xs, SqL K H1 a xs) ∧ R (Itl K a) H1) ∨ (∃ a, x = .ref a ∧ (∃ xs, SqT K H1 a xs) ∧ R (Itt K a) H1) ∨ (∃ z, x = .str z ∧ R (Its z) H1)
theorem pi_seq {l : Expr} {tl : TE} (hl : PE X l tl) : PI X tg l (iSeq X.K tl) := by
  refine ⟨fun pins s σ H R I h => ?_⟩
  refine thn (hl.run pins s σ H _ I h) fun v s1 ⟨x, H1, I1, r1, q1⟩ => ?_
  rcases q1 with ⟨a, rfl, ⟨xs, hq⟩, q⟩ | ⟨a, rfl, ⟨xs, hq⟩, q⟩ | ⟨z, rfl, q⟩
  · cases r1
    obtain ⟨its, rv, p, hz⟩ := I1.list hq
    exact wpAny_pyIter_list p.isList (pi_one (tk := s1.toks) I1 _ (turn_list a _) ⟨_, Heap.get?_push_size _ rfl, rfl, rfl⟩ q)
  · cases r1
    obtain ⟨its, rv, p, hz⟩ := I1.tuple hq
    exact wpAny_pyIter_tuple (show s1.heap.IsTuple a its.toArray from p) (pi_one (tk := s1.toks) I1 _ (turn_tuple a _) ⟨_, Heap.get?_push_size _ rfl, rfl, rfl⟩ q)
  · obtain ⟨t, rfl⟩ := r1
    cases ha : z.cps.all (· < 128)
    · exact wpAny_pyIter_wide ha (pi_one (tk := s1.toks) I1 _ (turn_str _ z t "str_iterator" (.inr rfl)) ⟨_, Heap.get?_push_size _ rfl, rfl, rfl⟩ q)
    · exact wpAny_pyIter_ascii ha (pi_one (tk := s1.toks) I1 _ (turn_str _ z t "str_ascii_iterator" (.inl rfl)) ⟨_, Heap.get?_push_size _ rfl, rfl, rfl⟩ q)
/-- a list's things, a tuple's, a text's signs -/
def asQ : PyData → Option (List PyData)
  | .list xs => some xs
  | .tuple xs => some xs
  | .str z => some (z.cps.toList.map fun c => .str ⟨#[c]⟩)
  | _ => none
theorem di_seq (he : De X B own e m) : Di X B own tg e (iOf asQ m) :=
  pi_imp (pi_seq he) fun σ H R ⟨ρ, F, re, w⟩ => ⟨ρ, F, re, thE w fun ρ1 d1 v1 H1 F1 re1 mo1 rp1 w1 => by
    obtain ⟨ds, hd, w2⟩ := Wa.opt w1
    cases rp1 with
    | lst hl hs =>
      cases hd
      rename_i a vs
      refine .inl ⟨_, rfl, ⟨_, hl.sq⟩, w2 _ H1 F1 re1 Mn.refl ⟨fun H => SqL X.K H a vs, YAt vs, by have := walk_list (K := X.K) (a := a) (xs := vs); rw [hs.length] at this; exact this, fun F2 H2 mo => hl.imp (fun x => mo.rd _ _ x.1 x.2) id, fun F2 i H2 v H3 mo dom y => ?_⟩⟩
      obtain ⟨rfl, e⟩ := y
      obtain ⟨hl, _⟩ := List.getElem?_eq_some_iff.mp e
      rw [hs.length] at hl
      obtain ⟨v', e', rp'⟩ := hs.get (List.getElem?_eq_getElem hl)
      rw [e] at e'; cases e'
      exact ⟨_, List.getElem?_eq_getElem hl, Grow.refl dom, rp'.mono mo⟩
    | tup hr hs =>
      cases hd
      rename_i a vs
      refine .inr (.inl ⟨_, rfl, ⟨_, hr⟩, w2 _ H1 F1 re1 Mn.refl ⟨fun H => SqT X.K H a vs, YAt vs, by have := walk_tup (K := X.K) (a := a) (xs := vs); rw [hs.length] at this; exact this, fun F2 H2 mo => mo.tup _ _ hr, fun F2 i H2 v H3 mo dom y => ?_⟩⟩)
      obtain ⟨rfl, e⟩ := y
      obtain ⟨hl, _⟩ := List.getElem?_eq_some_iff.mp e
      rw [hs.length] at hl
      obtain ⟨v', e', rp'⟩ := hs.get (List.getElem?_eq_getElem hl)
      rw [e] at e'; cases e'
      exact ⟨_, List.getElem?_eq_getElem hl, Grow.refl dom, rp'.mono mo⟩
    | str z =>
      cases hd
      refine .inr (.inr ⟨z, rfl, w2 _ H1 F1 re1 Mn.refl ⟨fun _ => True, fun i H v H' => H' = H ∧ ∃ c, z.cps[i]? = some c ∧ v = .str ⟨#[c]⟩, by have := walk_str (z := z); simpa using this, fun _ _ _ => trivial, fun F2 i H2 v H3 mo dom y => ?_⟩⟩)
      obtain ⟨rfl, c, hc, rfl⟩ := y
      refine ⟨.str ⟨#[c]⟩, ?_, Grow.refl dom, .str _⟩
      simp [hc]
    | _ => cases hd⟩
/-- pairs of two lists, of two tuples -/
def zipD : List PyData → Option (List PyData)
  | [.list xs, .list ys] => some ((xs.zip ys).map fun p => .tuple [p.1, p.2])
  | [.tuple xs, .tuple ys] => some ((xs.zip ys).map fun p => .tuple [p.1, p.2])
  | _ => none
theorem pair_at {K : PySem.W.Frag} {F1 F2 : Addr → Prop} {H1 H2 H3 : Hp} {vs us : List V} {ds es : List PyData} {v : V} {i : Nat} (h1 : Rps K F1 H1 vs ds) (h2 : Rps K F1 H1 us es) (mo : Mono K F1 H1 F2 H2) (dom : ∀ a, F2 a → H2 a ≠ none) (y : YPair (fun i => vs[i]?) (fun i => us[i]?) i H2 v H3) :
    ∃ d, ((ds.zip es).map fun p => PyData.tuple [p.1, p.2])[i]? = some d ∧ Grow F2 H2 F2 H3 ∧ Rp K F2 H3 v d := by
  obtain ⟨T, x, z, rfl, hT, rfl, e1, e2⟩ := y
  have e1 : vs[i]? = some x := e1
  have e2 : us[i]? = some z := e2
  have l1 := (List.getElem?_eq_some_iff.mp e1).1
  have l2 := (List.getElem?_eq_some_iff.mp e2).1
  rw [h1.length] at l1
  rw [h2.length] at l2
  obtain ⟨x', q1, r1⟩ := h1.get (List.getElem?_eq_getElem l1)
  obtain ⟨z', q2, r2⟩ := h2.get (List.getElem?_eq_getElem l2)
  rw [e1] at q1; cases q1
  rw [e2] at q2; cases q2
  have g : Grow F2 H2 F2 (upd H2 T (.tup [x, z])) := Grow.att dom hT
  refine ⟨.tuple [ds[i], es[i]], ?_, g, .tup (.inl (.inl (upd_same ..))) (.cons ((r1.mono mo).mono g.mono) (.cons ((r2.mono mo).mono g.mono) .nil))⟩
  simp [List.getElem?_zip_eq_some, l1, l2]
theorem di_zip {elts : List Expr} {kk : Nat} {ms : List EM} (hm : X.mg "zip" = none) (ha : Da X B own [e, e2] ms) (hg : Gl X "zip" := by rfl) (hs : starEach [e, e2] X.env = (false, eval e X.env) :: starEach [e2] X.env := by rfl) (hpl : (backTo pos (starEach [e2] X.env)).any (·.1) = false := by rfl) :
    Di X B own (.Tuple elts kk tpos) (.Call (.Name "zip" p) [e, e2] [] pos) (iNg zipD ms) :=
  pi_imp (RZ.pi_zipA hg hm ha hs hpl) fun σ H R ⟨ρ, F, re, w⟩ => ⟨ρ, F, re, thA w fun ρ1 ds vs H1 F1 re1 mo1 rp1 w1 => by
    obtain ⟨ds', hd, w2⟩ := Wa.opt w1
    unfold zipD at hd
    split at hd
    · rename_i xs ys he
      cases he
      cases hd
      cases rp1 with
      | cons r1 r2 =>
        cases r2 with
        | cons r2 r3 =>
          cases r3
          cases r1 with
          | lst hl1 hs1 =>
            cases r2 with
            | lst hl2 hs2 =>
              rename_i a vs1 b vs2
              refine ⟨a, b, vs1, vs2, rfl, .inl ⟨hl1.sq, hl2.sq, w2 _ H1 F1 re1 Mn.refl ⟨fun H => SqL X.K H a vs1 ∧ SqL X.K H b vs2, YPair (fun i => vs1[i]?) (fun i => vs2[i]?), ?_, fun F2 H2 mo => ⟨hl1.imp (fun x => mo.rd _ _ x.1 x.2) id, hl2.imp (fun x => mo.rd _ _ x.1 x.2) id⟩, fun F2 i H2 v H3 mo dom y => pair_at hs1 hs2 mo dom y⟩⟩⟩
              refine walk_zip ?_
              rw [hs1.length, hs2.length]
              simp
    · rename_i xs ys he
      cases he
      cases hd
      cases rp1 with
      | cons r1 r2 =>
        cases r2 with
        | cons r2 r3 =>
          cases r3
          cases r1 with
          | tup hl1 hs1 =>
            cases r2 with
            | tup hl2 hs2 =>
              rename_i a vs1 b vs2
              refine ⟨a, b, vs1, vs2, rfl, .inr ⟨hl1, hl2, w2 _ H1 F1 re1 Mn.refl ⟨fun H => SqT X.K H a vs1 ∧ SqT X.K H b vs2, YPair (fun i => vs1[i]?) (fun i => vs2[i]?), ?_, fun F2 H2 mo => ⟨mo.tup _ _ hl1, mo.tup _ _ hl2⟩, fun F2 i H2 v H3 mo dom y => pair_at hs1 hs2 mo dom y⟩⟩⟩
              have e : ((xs.zip ys).map fun p => PyData.tuple [p.1, p.2]).length = min vs1.length vs2.length := by
                rw [hs1.length, hs2.length]; simp
              rw [e]
              refine ⟨fun i _ hi q => ?_, fun _ q => ⟨vs1, vs2, q.1, q.2, by omega⟩, fun i H v H' _ q y => ?_⟩
              · have h1 : i < vs1.length := by omega
                have h2 : i < vs2.length := by omega
                exact ⟨vs1, vs2, vs1[i], vs2[i], q.1, q.2, by simp [h1], by simp [h2]⟩
              · obtain ⟨T, x, z, h1, h2, h3, h4, h5⟩ := y
                exact ⟨T, x, z, h1, h2, h3, h4 vs1 q.1, h5 vs2 q.2⟩
    · cases hd⟩
def enumD : List PyData → Option (List PyData)
  | [.list xs] => some (xs.zipIdx.map fun p => .tuple [.int (p.2 : Nat), p.1])
  | _ => none
theorem di_enum {elts : List Expr} {kk : Nat} {ms : List EM} (hm : X.mg "enumerate" = none) (ha : Da X B own [e] ms) (hg : Gl X "enumerate" := by rfl) (hs : starEach [e] X.env = [(false, eval e X.env)] := by rfl) :
    Di X B own (.Tuple elts kk tpos) (.Call (.Name "enumerate" p) [e] [] pos) (iNg enumD ms) :=
  pi_imp (pi_enum hg hm ha hs) fun σ H R ⟨ρ, F, re, w⟩ => ⟨ρ, F, re, thA w fun ρ1 ds vs H1 F1 re1 mo1 rp1 w1 => by
    obtain ⟨ds', hd, w2⟩ := Wa.opt w1
    unfold enumD at hd
    split at hd
    · rename_i xs he
      cases he
      cases hd
      cases rp1 with
      | cons r1 r2 =>
        cases r2
        cases r1 with
        | lst hl1 hs1 =>
          rename_i a vs1
          refine ⟨a, vs1, rfl, hl1.sq, w2 _ H1 F1 re1 Mn.refl ⟨fun H => SqL X.K H a vs1, YPair (fun i => some (.int (i : Nat))) (fun i => vs1[i]?), ?_, fun F2 H2 mo => hl1.imp (fun x => mo.rd _ _ x.1 x.2) id, fun F2 i H2 v H3 mo dom y => ?_⟩⟩
          · have e : (xs.zipIdx.map fun p => PyData.tuple [.int (p.2 : Nat), p.1]).length = vs1.length := by
              rw [hs1.length]; simp
            rw [e]
            exact walk_enum
          · obtain ⟨T, x, z, rfl, hT, rfl, e1, e2⟩ := y
            have e2 : vs1[i]? = some z := e2
            cases e1
            have l2 := (List.getElem?_eq_some_iff.mp e2).1
            rw [hs1.length] at l2
            obtain ⟨z', q2, r2⟩ := hs1.get (List.getElem?_eq_getElem l2)
            rw [e2] at q2; cases q2
            have g : Grow F2 H2 F2 (upd H2 T (.tup [.int (i : Nat), z])) := Grow.att dom hT
            refine ⟨.tuple [.int (i : Nat), xs[i]], ?_, g, .tup (.inl (.inl (upd_same ..))) (.cons (.int _) (.cons ((r2.mono mo).mono g.mono) .nil))⟩
            simp [l2]
    · cases hd⟩
end
end Kd

end T_KD8
section T_KD9
set_option maxRecDepth 100000
/-! KD9: comprehensions with two clauses. -/
namespace Kd
open PySem PySem.Spec PyProof.Rows L2
theorem wit {J : It} {n : Nat} {G : Hp → Prop} {Y : Nat → Hp → V → Hp → Prop} (wk : Walk J n G Y) (Pv : Nat → Hp → Prop) (Step : V → Hp → (Hp → Prop) → Prop) (Qd : Hp → Prop) {H0 : Hp} (h0 : Pv 0 H0) (hG : ∀ i H, i ≤ n → Pv i H → G H)
    (hs : ∀ i x H H', i < n → Pv i H → Y i H x H' → Step x H' (Pv (i + 1))) (hd : ∀ H, Pv n H → Qd H) :
    ∃ W : Nat → Nat → Hp → Prop, (∃ m, W 0 m H0) ∧ ∀ i m H, W i m H → (J.stop i H ∧ Qd H) ∨ (J.go i H ∧ ∃ Nx : Hp → Prop, (∀ H', Nx H' → ∃ m', m' < m ∧ W (i + 1) m' H') ∧ ∀ x H', J.yld i H x H' → Step x H' Nx) := by
  refine ⟨fun i m H => m = n - i ∧ i ≤ n ∧ Pv i H, ⟨n, rfl, Nat.zero_le _, h0⟩, ?_⟩
  rintro i m H ⟨rfl, hi, p⟩
  by_cases hlt : i < n
  · exact .inr ⟨wk.goes i H hlt (hG i H hi p), Pv (i + 1), fun H' p' => ⟨n - (i + 1), by omega, rfl, by omega, p'⟩, fun x H' y => hs i x H H' hlt p (wk.yields i H x H' hlt (hG i H hi p) y)⟩
  · have e : i = n := by omega
    subst e
    exact .inl ⟨wk.stops H (hG i H hi p), hd H p⟩
def lcL2 (g : GM) (t : TM) (it1 : IM) (g1 : GM) (t1 : TM) (m : EM) (vs vs1 : List Nat) : List PyData → Ev → Rs (Ev × List PyData)
  | [], ρ => .ok (ρ, [])
  | d :: ds, ρ => Rs.opt (g d (wipeE ρ vs)) fun ρ1 => (t ρ1).bind fun x => if x.2 then (it1 x.1).bind fun y => (lcL g1 t1 m vs1 y.2 y.1).bind fun z => (lcL2 g t it1 g1 t1 m vs vs1 ds z.1).bind fun w => .ok (w.1, z.2 ++ w.2)
    else lcL2 g t it1 g1 t1 m vs vs1 ds x.1
def mLc2 (own : List Nat) (it : IM) (g : GM) (t : TM) (it1 : IM) (g1 : GM) (t1 : TM) (m : EM) (vs vs1 : List Nat) : EM := fun ρ => (it ρ).bind fun x => Rs.opt (allSet own x.1) fun _ => (lcL2 g t it1 g1 t1 m vs vs1 x.2 x.1).quiet.bind fun y =>
  Rs.opt (fLst y.2) fun d => .ok (keepE x.1 vs y.1, d)
theorem wipeE_wipeE {ρ : Ev} {vs vs1 : List Nat} (h : ∀ i ∈ vs1, i ∈ vs) : wipeE (wipeE ρ vs1) vs = wipeE ρ vs := by
  refine List.ext_getElem? fun k => ?_
  by_cases hk : k ∈ vs
  · by_cases hl : k < ρ.length
    · rw [wipeE_in (by rw [wipeE_length]; exact hl) hk, wipeE_in hl hk]
    · rw [List.getElem?_eq_none (by rw [wipeE_length, wipeE_length]; omega), List.getElem?_eq_none (by rw [wipeE_length]; omega)]
  · rw [wipeE_get hk, wipeE_get hk, wipeE_get fun z => hk (h k z)]
theorem wipe_wipe {σ σ2 : Sl} {vs vs1 : List Nat} (h : ∀ i ∈ vs1, i ∈ vs) (e : L2.wipe σ2 vs = L2.wipe σ vs) : L2.wipe (L2.wipe σ2 vs1) vs = L2.wipe σ vs := by
  rw [← e]
  exact wipe_eq (by rw [wipe_length]) fun k hk => wipe_get fun z => hk (h k z)
section
variable {X : Cx} {io : List Nat} {B : Bs io} {own : List Nat}
theorem tD_lc2 {wi : TI} {it it1 : IM} {g g1 : GM} {t t1 : TM} {m : EM} {vs vs1 ts ts1 : List Nat} (hwi : ∀ σ H R, tDI X.K B own it σ H R → wi σ H R) (hmg : B.mg = X.mg) (hts : ∀ i ∈ ts, i ∈ vs) (hts1 : ∀ i ∈ ts1, i ∈ vs1) (hv1 : ∀ i ∈ vs1, i ∈ vs) (hvo : ∀ v ∈ vs, v ∉ own) : ∀ σ H Q, tD X.K B own (mLc2 own it g t it1 g1 t1 m vs vs1) σ H Q →
    tLc2 wi (fun v σ H Q => ∃ b : Bq own X.mg, tDG X.K b.1 own own ts g v σ H Q) (fun σ H Q => ∃ b : Bq own X.mg, tDT X.K b.1 own t σ H Q)
      (fun σ H R => ∃ b : Bq own X.mg, tDI X.K b.1 own it1 σ H R) (fun v σ H Q => ∃ b : Bq own X.mg, tDG X.K b.1 own own ts1 g1 v σ H Q) (fun σ H Q => ∃ b : Bq own X.mg, tDT X.K b.1 own t1 σ H Q)
      (fun σ H Q => ∃ b : Bq own X.mg, tD X.K b.1 own m σ H Q) vs vs1 σ H Q := fun σ H Q ⟨ρ, F, re, w⟩ => by
  refine hwi σ H _ ⟨ρ, F, re, w.bind fun x w0 J H1 F1 re1 mo1 ⟨G, Y, wk, hG, hY⟩ D nD => ?_⟩
  obtain ⟨_, hset, w1⟩ := Wa.opt w0
  obtain ⟨hset, _⟩ := iff_some hset
  cases hq : (lcL2 g t it1 g1 t1 m vs vs1 x.2 x.1).quiet with
  | exc c y => rw [hq] at w1; cases hz : lcL2 g t it1 g1 t1 m vs vs1 x.2 x.1 <;> (rw [hz] at hq; cases hq)
  | bad => rw [hq] at w1; exact w1.elim
  | ok y =>
    rw [hq] at w1
    obtain ⟨d, hd, w2⟩ := Wa.opt w1
    obtain ⟨hlen, rfl⟩ := iff_some hd
    have hlen := of_decide_eq_true hlen
    have hrun := Rs.quiet_ok hq
    obtain ⟨ρe, rs⟩ := y
    have no : ∀ {j}, j ∈ own → j ∉ vs := fun {j} h z => hvo j z h
    have no1 : ∀ {j}, j ∈ own → j ∉ vs1 := fun {j} h z => hvo j (hv1 j z) h
    have hvo1 : ∀ v ∈ vs1, v ∉ own := fun v h => hvo v (hv1 v h)
    have hD0 := re1.h0 nD
    have hDn := re1.notIn nD
    have hDw : ∀ j ∈ own, (L2.wipe σ vs)[j]? ≠ some (some (V.ref D)) := fun j hj => by rw [wipe_get (no hj)]; exact hDn j hj
    refine wit wk (fun i H => ∃ ρ F, RE X.K B own F (wipeE ρ vs) (L2.wipe σ vs) H ∧ (∀ j ∈ own, ∃ d, (wipeE ρ vs)[j]? = some (some d)) ∧ Mn X.K F1 H1 F H ∧ ¬ F D ∧ ∃ acc da rest, H D = some (HO.lst acc) ∧ Rps X.K F H acc da ∧
      lcL2 g t it1 g1 t1 m vs vs1 (x.2.drop i) ρ = .ok (ρe, rest) ∧ da ++ rest = rs) _ (Q (.ref D)) ?_ (fun i H hi ⟨ρ, F, re, hs, mo, _⟩ => hG F H mo.toMono) (fun i v H H' hi ⟨ρ, F, re, hs, mo, nF, acc, da, rest, hacc, racc, hl, hrs⟩ y => ?_) (fun H ⟨ρ, F, re, hs, mo, nF, acc, da, rest, hacc, racc, hl, hrs⟩ => ?_)
    · have gg : Grow F1 H1 F1 (upd H1 D (HO.lst [])) := Grow.att re1.dom nD
      refine ⟨x.1, F1, (re1.wipe hvo).grow gg, fun j hj => ?_, gg.mn, fun z => re1.dom D z nD, [], [], rs, upd_same, .nil, by simpa using hrun, rfl⟩
      have := List.all_eq_true.mp hset j hj
      rw [wipeE_get (no hj)]
      cases e : gt x.1 j with
      | none => rw [e] at this; cases this
      | some d => exact ⟨d, gt_ok e⟩
    · obtain ⟨d, e, gr, rp⟩ := hY F i H v H' mo.toMono re.dom y
      have ed : x.2.drop i = d :: x.2.drop (i + 1) := by
        have hl := (List.getElem?_eq_some_iff.mp e)
        rw [List.drop_eq_getElem_cons hl.1, hl.2]
      rw [ed] at hl
      have re' := re.grow gr
      obtain ⟨B', reB, hB0, hBA, back, hBW⟩ := re'.rebase hs
      rw [hmg] at hBW
      have hDB : D ∉ B'.A0 := fun z => by
        obtain ⟨j, hj, q⟩ := hBA D z
        exact hDw j hj q
      have hD' : B'.H0 D = some (HO.lst acc) := by rw [hB0]; exact gr.same _ _ hacc
      have stay : ∀ {F' ρ' σ' H'}, RE X.K B' own F' ρ' σ' H' → H' D = some (HO.lst acc) := fun r => r.old D _ hD' hDB
      have setd : ∀ {F' ρ' σ' H'}, RE X.K B' own F' ρ' σ' H' → ∀ j ∈ own, ∃ d, ρ'[j]? = some (some d) := fun r j hj => by
        have : j ∈ B'.IO.map (·.1) := by rw [B'.hio]; exact hj
        obtain ⟨p, hp, rfl⟩ := List.mem_map.mp this
        exact (r.io p hp).2.2
      have h0 : lcL2 g t it1 g1 t1 m vs vs1 (d :: x.2.drop (i + 1)) ρ = (Rs.opt (g d (wipeE ρ vs)) fun ρ1 => (t ρ1).bind fun x' => if x'.2 then (it1 x'.1).bind fun y => (lcL g1 t1 m vs1 y.2 y.1).bind fun z => (lcL2 g t it1 g1 t1 m vs vs1 (x.2.drop (i + 1)) z.1).bind fun w => .ok (w.1, z.2 ++ w.2)
        else lcL2 g t it1 g1 t1 m vs vs1 (x.2.drop (i + 1)) x'.1) := rfl
      rw [h0] at hl
      cases hg : g d (wipeE ρ vs) with
      | none => rw [hg] at hl; cases hl
      | some ρ1 =>
        rw [hg] at hl
        obtain ⟨⟨ρ2, c⟩, ht, hl⟩ := Rs.bind_ok hl
        refine ⟨⟨B', hBW⟩, wipeE ρ vs, F, d, reB, rp, ρ1, hg, fun σ2 H2 F2 re2 mo2 len2 out2 => ?_⟩
        have hw : L2.wipe σ2 vs = L2.wipe σ vs := by
          have h1 := wipe_eq (vs := vs) len2 (fun k hk => out2 k fun z => hk (hts k z))
          rw [h1]
          exact wipe_eq (by rw [wipe_length]) fun k hk => wipe_get hk
        have fin : ∀ {ρ4 F4 H4}, RE X.K B' own F4 ρ4 σ2 H4 → RE X.K B own F4 (wipeE ρ4 vs) (L2.wipe σ vs) H4 := fun r => by
          have := (back r).wipe hvo
          rw [hw] at this; exact this
        have nFD : ∀ {F4 H4}, Mn X.K F H' F4 H4 → ¬ F4 D := fun {F4 H4} mm z => by
          rcases mm.new D z with q | q
          · exact nF q
          · rw [gr.same _ _ hacc] at q; cases q
        refine ⟨hw, ⟨B', hBW⟩, ρ1, F2, re2, ?_⟩
        rw [ht]
        intro H3 F3 re3 mo3
        cases c with
        | false =>
          refine ⟨ρ2, F3, fin re3, fun j hj => ?_, mo.trans (gr.mn.trans (mo2.trans mo3)), nFD (mo2.trans mo3), acc, da, rest, stay re3, racc.mono (gr.mono.trans (mo2.trans mo3).toMono), hl, hrs⟩
          rw [wipeE_get (no hj)]
          exact setd re3 j hj
        | true =>
          obtain ⟨⟨ρ3, ds1⟩, hit, hl⟩ := Rs.bind_ok hl
          obtain ⟨⟨ρ4, rs1⟩, hin, hl⟩ := Rs.bind_ok hl
          obtain ⟨⟨ρ5, rest2⟩, hl2, he2⟩ := Rs.bind_ok hl
          cases he2
          refine ⟨⟨B', hBW⟩, ρ2, F3, re3, ?_⟩
          rw [hit]
          intro J1 H4 F4 re4 mo4 ⟨G1, Y1, wk1, hG1, hY1⟩
          have mA : Mn X.K F1 H1 F4 H4 := mo.trans (gr.mn.trans (mo2.trans (mo3.trans mo4)))
          have nF4 : ¬ F4 D := nFD (mo2.trans (mo3.trans mo4))
          have hDw1 : ∀ j ∈ own, (L2.wipe σ2 vs1)[j]? ≠ some (some (V.ref D)) := fun j hj => by
            have h1 : (L2.wipe σ2 vs1)[j]? = (L2.wipe σ2 vs)[j]? := by rw [wipe_get (no hj), wipe_get (no1 hj)]
            rw [h1, hw]; exact hDw j hj
          refine wit wk1 (fun i H => ∃ ρ F, RE X.K B own F (wipeE ρ vs1) (L2.wipe σ2 vs1) H ∧ (∀ j ∈ own, ∃ d, (wipeE ρ vs1)[j]? = some (some d)) ∧ Mn X.K F4 H4 F H ∧ ¬ F D ∧ ∃ acc da rest1, H D = some (HO.lst acc) ∧ Rps X.K F H acc da ∧
            lcL g1 t1 m vs1 (ds1.drop i) ρ = .ok (ρ4, rest1) ∧ da ++ (rest1 ++ rest2) = rs) _ _ ?_ (fun i H hi ⟨ρ, F, re, hs, mo, _⟩ => hG1 F H mo.toMono) (fun i v H H' hi ⟨ρ, F, re, hs, mo, nF, acc, da, rest1, hacc, racc, hl, hrs⟩ y => ?_) (fun H ⟨ρ, F, re, hs, mo, nF, acc, da, rest1, hacc, racc, hl, hrs⟩ => ?_)
          · refine ⟨ρ3, F4, (back re4).wipe hvo1, fun j hj => ?_, Mn.refl, nF4, acc, da, rs1, stay re4, racc.mono (gr.mono.trans (mo2.trans (mo3.trans mo4)).toMono), by simpa using hin, hrs⟩
            rw [wipeE_get (no1 hj)]
            exact setd re4 j hj
          · obtain ⟨d, e, gr, rp⟩ := hY1 F i H v H' mo.toMono re.dom y
            have ed : ds1.drop i = d :: ds1.drop (i + 1) := by
              have hl := (List.getElem?_eq_some_iff.mp e)
              rw [List.drop_eq_getElem_cons hl.1, hl.2]
            rw [ed] at hl
            have re' := re.grow gr
            obtain ⟨B2, reB, hB0, hBA, back, hBW⟩ := re'.rebase hs
            rw [hmg] at hBW
            have hDB : D ∉ B2.A0 := fun z => by
              obtain ⟨j, hj, q⟩ := hBA D z
              exact hDw1 j hj q
            have hD' : B2.H0 D = some (HO.lst acc) := by rw [hB0]; exact gr.same _ _ hacc
            have stay : ∀ {F' ρ' σ' H'}, RE X.K B2 own F' ρ' σ' H' → H' D = some (HO.lst acc) := fun r => r.old D _ hD' hDB
            have setd : ∀ {F' ρ' σ' H'}, RE X.K B2 own F' ρ' σ' H' → ∀ j ∈ own, ∃ d, ρ'[j]? = some (some d) := fun r j hj => by
              have : j ∈ B2.IO.map (·.1) := by rw [B2.hio]; exact hj
              obtain ⟨p, hp, rfl⟩ := List.mem_map.mp this
              exact (r.io p hp).2.2
            have h0 : lcL g1 t1 m vs1 (d :: ds1.drop (i + 1)) ρ = (Rs.opt (g1 d (wipeE ρ vs1)) fun ρ1 => (t1 ρ1).bind fun x' => if x'.2 then (m x'.1).bind fun y => (lcL g1 t1 m vs1 (ds1.drop (i + 1)) y.1).bind fun z => .ok (z.1, y.2 :: z.2)
              else lcL g1 t1 m vs1 (ds1.drop (i + 1)) x'.1) := rfl
            rw [h0] at hl
            cases hg : g1 d (wipeE ρ vs1) with
            | none => rw [hg] at hl; cases hl
            | some ρ6 =>
              rw [hg] at hl
              obtain ⟨⟨ρ7, c⟩, ht, hl⟩ := Rs.bind_ok hl
              refine ⟨⟨B2, hBW⟩, wipeE ρ vs1, F, d, reB, rp, ρ6, hg, fun σ3 H5 F5 re5 mo5 len5 out5 => ?_⟩
              have hw3 : L2.wipe σ3 vs1 = L2.wipe σ2 vs1 := by
                have h1 := wipe_eq (vs := vs1) len5 (fun k hk => out5 k fun z => hk (hts1 k z))
                rw [h1]
                exact wipe_eq (by rw [wipe_length]) fun k hk => wipe_get hk
              have fin : ∀ {ρ4 F4 H4}, RE X.K B2 own F4 ρ4 σ3 H4 → RE X.K B own F4 (wipeE ρ4 vs1) (L2.wipe σ2 vs1) H4 := fun r => by
                have := (back r).wipe hvo1
                rw [hw3] at this; exact this
              have nFD : ∀ {F4 H4}, Mn X.K F H' F4 H4 → ¬ F4 D := fun {F4 H4} mm z => by
                rcases mm.new D z with q | q
                · exact nF q
                · rw [gr.same _ _ hacc] at q; cases q
              refine ⟨hw3, ⟨B2, hBW⟩, ρ6, F5, re5, ?_⟩
              rw [ht]
              intro H6 F6 re6 mo6
              cases c with
              | false =>
                refine ⟨ρ7, F6, fin re6, fun j hj => ?_, mo.trans (gr.mn.trans (mo5.trans mo6)), nFD (mo5.trans mo6), acc, da, rest1, stay re6, racc.mono (gr.mono.trans (mo5.trans mo6).toMono), hl, hrs⟩
                rw [wipeE_get (no1 hj)]
                exact setd re6 j hj
              | true =>
                obtain ⟨⟨ρ8, r⟩, hm, hl⟩ := Rs.bind_ok hl
                obtain ⟨⟨ρ9, rest'⟩, hl2', he2⟩ := Rs.bind_ok hl
                cases he2
                refine ⟨⟨B2, hBW⟩, ρ7, F6, re6, ?_⟩
                rw [hm]
                intro u H7 F7 re7 mo7 rp7
                have hD7 := stay re7
                have mB : Mn X.K F H' F7 H7 := mo5.trans (mo6.trans mo7)
                have nF7 := nFD mB
                obtain ⟨re8, mo8⟩ := (fin re7).updFree (o' := HO.lst (acc ++ [u])) nF7 hD0 hDw1 hD7 (fun xs => ⟨(fun z => nomatch z), (fun q z => nomatch z)⟩)
                have la : acc.length = da.length := racc.length
                refine ⟨acc, hD7, ?_, ρ8, F7, re8, fun j hj => ?_, mo.trans (gr.mn.trans (mB.trans mo8)), nF7, acc ++ [u], da ++ [r], rest', upd_same, ?_, hl2', by rw [← hrs]; simp⟩
                · rw [← hrs] at hlen
                  simp only [List.length_append, List.length_cons] at hlen
                  omega
                · rw [wipeE_get (no1 hj)]
                  exact setd re7 j hj
                · exact (racc.mono (gr.mono.trans (mB.toMono.trans mo8.toMono))).append (.one (rp7.mono mo8.toMono))
          · have e0 : ds1.drop ds1.length = [] := by simp
            rw [e0] at hl
            cases hl
            have re8 := re.wipe hvo
            rw [wipeE_wipeE hv1, wipe_wipe hv1 hw] at re8
            refine ⟨ρ4, F, re8, fun j hj => ?_, mA.trans mo, nF, acc, da, rest2, hacc, racc, hl2, by simpa using hrs⟩
            have := hs j hj
            rw [wipeE_get (no1 hj)] at this
            rw [wipeE_get (no hj)]
            exact this
    · have e0 : x.2.drop x.2.length = [] := by simp
      rw [e0] at hl
      cases hl
      have la : da = rs := by simpa using hrs
      subst la
      obtain ⟨re6, mo6⟩ := re.addF (p := D) (by rw [hacc]; simp) hDw hD0
      have mn6 : Mn X.K F1 H1 (fun a => F a ∨ a = D) H := ⟨mo.toMono.trans mo6, fun a h => by
        rcases h with h | rfl
        · exact mo.new a h
        · exact .inr nD, mo.keep⟩
      exact w2 _ H _ (re1.kept re6 (mo.toMono.trans mo6) hvo) (mo1.trans mn6) (.lst (.inl ⟨.inr rfl, .inl hacc⟩) (racc.mono mo6))
theorem pi_ex {X : Cx} {β : Type} {tg e : Expr} {t : β → TI} (h : ∀ b, PI X tg e (t b)) : PI X tg e (fun σ H Q => ∃ b, t b σ H Q) := ⟨fun pins s σ H Q I ⟨b, q⟩ => (h b).run pins s σ H Q I q⟩
theorem de_lc2 {elt tg iter tg1 iter1 : Expr} {ifs ifs1 : List Expr} {scope : Scope} {ownp : List (Str × Nat)} {pos : Pos} {it it1 : IM} {g g1 : GM} {t t1 : TM} {m : EM} {vs vs1 ts ts1 : List Nat} (hc : X.calm = true) (nd : X.N.Nodup) (hmg : B.mg = X.mg) (hi : Di X B own tg iter it) (ok : BlkOk X.N X.env.scope scope ownp)
    (hg : ∀ (s : Shared) (H : Hp) (C : Addr) (cl : List (Str × Addr)) (fp : List Addr) (b : Bs own), b.W = (fun _ _ _ _ => False) → b.mg = X.mg → Dg (X.blk s H scope (compEnvC scope cl C X.env) fp) b own own ts tg g)
    (ht : ∀ (s : Shared) (H : Hp) (C : Addr) (cl : List (Str × Addr)) (fp : List Addr) (b : Bs own), b.W = (fun _ _ _ _ => False) → b.mg = X.mg → Dts (X.blk s H scope (compEnvC scope cl C X.env) fp) b own ifs t)
    (hi1 : ∀ (s : Shared) (H : Hp) (C : Addr) (cl : List (Str × Addr)) (fp : List Addr) (b : Bs own), b.W = (fun _ _ _ _ => False) → b.mg = X.mg → Di (X.blk s H scope (compEnvC scope cl C X.env) fp) b own tg1 iter1 it1)
    (hg1 : ∀ (s : Shared) (H : Hp) (C : Addr) (cl : List (Str × Addr)) (fp : List Addr) (b : Bs own), b.W = (fun _ _ _ _ => False) → b.mg = X.mg → Dg (X.blk s H scope (compEnvC scope cl C X.env) fp) b own own ts1 tg1 g1)
    (ht1 : ∀ (s : Shared) (H : Hp) (C : Addr) (cl : List (Str × Addr)) (fp : List Addr) (b : Bs own), b.W = (fun _ _ _ _ => False) → b.mg = X.mg → Dts (X.blk s H scope (compEnvC scope cl C X.env) fp) b own ifs1 t1)
    (he : ∀ (s : Shared) (H : Hp) (C : Addr) (cl : List (Str × Addr)) (fp : List Addr) (b : Bs own), b.W = (fun _ _ _ _ => False) → b.mg = X.mg → De (X.blk s H scope (compEnvC scope cl C X.env) fp) b own elt m)
    (hv : ownp.map (·.2) = vs := by rfl) (hts : ∀ i ∈ ts, i ∈ vs := by decide) (hts1 : ∀ i ∈ ts1, i ∈ vs1 := by decide) (hv1 : ∀ i ∈ vs1, i ∈ vs := by decide) (hvo : ∀ v ∈ vs, v ∉ own := by decide) (hs : ∀ x, foldedSetIterable iter X.env x = pure x := by intro _; rfl) (hs1 : ∀ env x, foldedSetIterable iter1 env x = pure x := by intro _ _; rfl) :
    De X B own (.ListComp elt [⟨tg, iter, ifs, 0⟩, ⟨tg1, iter1, ifs1, 0⟩] scope pos) (mLc2 own it g t it1 g1 t1 m vs vs1) := by
  subst hv
  exact pe_imp (pe_lc2 hc nd hi ok hv1 (fun s H C cl fp => pg_ex (t := fun b : Bq own X.mg => tDG X.K b.1 own own ts g) fun b => hg s H C cl fp b.1 b.2.1 b.2.2) (fun s H C cl fp => pts_ex (t := fun b : Bq own X.mg => tDT X.K b.1 own t) fun b => ht s H C cl fp b.1 b.2.1 b.2.2)
    (fun s H C cl fp => pi_ex (t := fun b : Bq own X.mg => tDI X.K b.1 own it1) fun b => hi1 s H C cl fp b.1 b.2.1 b.2.2) (fun s H C cl fp => pg_ex (t := fun b : Bq own X.mg => tDG X.K b.1 own own ts1 g1) fun b => hg1 s H C cl fp b.1 b.2.1 b.2.2) (fun s H C cl fp => pts_ex (t := fun b : Bq own X.mg => tDT X.K b.1 own t1) fun b => ht1 s H C cl fp b.1 b.2.1 b.2.2)
    (fun s H C cl fp => pe_ex (t := fun b : Bq own X.mg => tD X.K b.1 own m) fun b => he s H C cl fp b.1 b.2.1 b.2.2) hs hs1) (tD_lc2 (fun _ _ _ h => h) hmg hts hts1 hv1 hvo)
/-- xs[::-1] -/
def fRevL : PyData → Option PyData
  | .list xs => some (.list xs.reverse)
  | _ => none
theorem Rps.rev {K : PySem.W.Frag} {F : Addr → Prop} {H : Hp} : ∀ {vs : List V} {ds : List PyData}, Rps K F H vs ds → Rps K F H vs.reverse ds.reverse
  | _, _, .nil => .nil
  | _, _, .cons r t => by
    rw [List.reverse_cons, List.reverse_cons]
    exact (Rps.rev t).append (.one r)
theorem de_revL {e : Expr} {m : EM} {k : Nat} {p1 p2 p3 pos : Pos} (he : De X B own e m) : De X B own (.Subscript e (.Slice none none (some (.UnaryOp .USub (.Constant (.int 1) k p1) p2)) p3) pos) (m1 fRevL m) :=
  pe_imp (pe_revL he) fun σ H Q ⟨ρ, F, re, w⟩ => ⟨ρ, F, re, thE w fun ρ1 d1 v1 H1 F1 re1 mo1 rp1 w1 => by
    obtain ⟨z, hz, w2⟩ := Wa.opt w1
    cases rp1 with
    | lst hl hs =>
      cases hz
      rename_i a vs ds
      refine ⟨a, vs, rfl, hl.sq, fun p np => ?_⟩
      have g : Grow F1 H1 (fun a => F1 a ∨ a = p) (upd H1 p (.lst vs.reverse)) := Grow.atp re1.dom np
      exact w2 _ _ _ (re1.grow g) g.mn (.lst (.inl ⟨.inr rfl, .inl upd_same⟩) (hs.rev.mono g.mono))
    | _ => cases hz⟩
end
end Kd

end T_KD9
section T_KD10
set_option maxRecDepth 100000
set_option maxHeartbeats 1000000
/-! KD10: exceptions: raised, caught and kept, asked for their class, their field. -/
namespace Kd
open PySem PySem.Spec PyProof.Rows L2

/-! ### a caught exception is kept -/
section
variable {X : Cx} {pins : List (Addr × Obj)} {σ : Sl} {H : Hp} {s : Shared}
/-- what stands outside the entry's heap may be tracked -/
theorem track {a C : Addr} {d : Option Addr} {oe : Obj} {vs : Array Value} (I : Inv X pins σ H s) (ha : s.heap.get? a = some oe) (hz : Zc (.ref C) d oe) (hd : oe.data = .fields vs) (na : H a = none) (nL : a ≠ X.env.locals)
    (n0 : X.s_0.heap.get? a = none) (np : ∀ p ∈ X.pn ++ pins, p.1 ≠ a) : Inv X pins σ (upd H a (exq a C d)) s := by
  have gone : ∀ {b o}, H b = some o → b ≠ a := fun {b o} e z => by rw [z, na] at e; cases e
  refine ⟨I.ok, I.os, I.bare, ⟨I.base.keep, I.base.slot, fun b o e n x => ?_, I.base.there, fun b xs e => ?_, fun b o u e => ?_, fun b ps e => ?_⟩, I.loc, I.cell, ?_, fun y c e => ?_, fun p hp => ?_, fun b u e => ?_, I.len⟩
  · have hb : b ≠ a := fun z => by rw [z, n0] at e; cases e
    rw [upd_ne hb]; exact I.base.free b o e n x
  · have q := I.base.tups b xs e
    rw [upd_ne (gone q)]; exact q
  · have q := I.base.frzs b o u e
    rw [upd_ne (gone q)]; exact q
  · obtain ⟨m, q⟩ := I.base.tbls b ps e
    exact ⟨m, by rw [upd_ne (gone q)]; exact q⟩
  · rw [upd_ne (Ne.symm nL)]; exact I.free
  · have hc : c ≠ a := fun z => by
      obtain ⟨v, w⟩ := I.cell y c e
      obtain ⟨o, q1, q2⟩ : ∃ o, s.heap.get? c = some o ∧ o.data = .cell v := by
        unfold Heap.IsCell at w
        first
          | exact ⟨_, w, rfl⟩
          | (obtain ⟨o, w1, w2⟩ := w; exact ⟨o, w1, w2⟩)
          | (obtain ⟨o, w1, w2, w3⟩ := w; exact ⟨o, w1, w2⟩)
          | (obtain ⟨o, w1, w2, w3⟩ := w; exact ⟨o, w1, w3⟩)
      rw [z, ha] at q1; cases q1
      rw [hd] at q2; cases q2
    rw [upd_ne hc]; exact I.freeC y c e
  · obtain ⟨q1, q2, q3⟩ := I.pin p hp
    exact ⟨q1, by rw [upd_ne (np p hp)]; exact q2, q3⟩
  · by_cases hb : b = a
    · subst hb
      rw [upd_same] at e
      cases e
      exact exq_ok ha hz hd
    · rw [upd_ne hb] at e
      refine (I.hok b u e).stay (fun _ _ _ q => q) (fun c q => ?_) fun c xs q => ?_
      · rw [upd_ne (gone q)]; exact q
      · rw [upd_ne (gone q)]; exact q
/-- what 'except x as n: y = n' wishes: slot i is n's, slot j is y's -/
def wKeep (K : PySem.W.Frag) (c : Value) (i j : Nat) (D : Ends) : WX := fun cls d σ H =>
  PySem.W.exmOne K cls c = some true ∧ ∃ C, cls = .ref C ∧ ∀ a, H a = none → D.nx (((σ.set i (some (.ref a))).set j (some (.ref a))).set i none) (upd H a (exq a C d))
section
variable {X : Cx} {x n y : Str} {c : Value} {i j : Nat} {body : List Stmt} {np pn py pa pos pos' : Pos} {tb : WX → TS}
theorem ps_keep (hex : X.ex = []) (hs : X.stack = X.env :: X.outer) (hf : X.env.frame = some X.env.locals) (hN : X.N.Nodup) (hi : X.N[i]? = some n) (hli : X.env.kindOf n = some .local) (hj : X.N[j]? = some y) (hlj : X.env.kindOf y = some .local) (hvn : Vis X.env.scope n)
    (hc : Names X x c) (hsw : swapsWith (.Name n pn) (some (.Name y py)) pa.line X.env = pure false) (hdn : (n == ("__debug__" : Str)) = false) (hcn : (n == ("__classdict__" : Str)) = false)
    (hb : ∀ (W : WX) (pn : List (Addr × Obj)) (xe : Value → Shared → Prop), Takes (X.tr pn xe) W → PassesOwn (model X.prog X.w) X.A X.env xe → PSs (X.tr pn xe) body (tb W)) :
    PS X (.Try body [.ExceptHandler (some (.Name x np)) (some n) [.Assign [.Name y py] (.Name n pn) pa] pos'] [] [] pos) (fun D σ H => tb (wKeep X.K c i j D) D σ H) := by
  refine ⟨fun pins s σ H D I h => wpAny_Try_except ?_⟩
  have ok := I.ok
  have hfr : X.A.frames = some (X.env :: X.outer) := ok.frames.trans (congrArg some hs)
  let hd : List ExceptHandler := [.ExceptHandler (some (.Name x np)) (some n) [.Assign [.Name y py] (.Name n pn) pa] pos']
  let xe2 : Value → Shared → Prop := fun e s₁ => wpAny (model X.prog X.w) X.A (noteFrame e X.env) (fun _ s₂ => wpAny (model X.prog X.w) X.A (setFlight e none)
    (fun _ s₃ => wpAny (model X.prog X.w) X.A (handleBy e X.env hd) (SP X pins D) X.xe s₃) X.xe s₂) X.xe s₁
  have hbody := hb (wKeep X.K c i j D) (X.pn ++ pins) xe2 ?tk PassesOwn.looking
  case tk =>
    rintro u s' ⟨a, B, sI, pins', σ', H', cls, d, rfl, J', nb, up, sky, na, os, ag, hb1, C, rfl, hyes⟩
    have J : Inv X pins σ' H' sI := J'.ofTry ok
    have skyX : Sky B (X.env :: X.outer) a (Zc (.ref C) d) X.env.locals s'.heap := hs ▸ sky
    have noB : B.get? a = none := by
      rcases skyX with z | z | z
      · exact z.2.1
      · exact z.2.1
      · exact z.2.1
    show wpAny (model X.prog X.w) X.A (noteFrame (.ref a) X.env) _ _ _
    refine Sky.land Zc.steady hfr hf skyX fun h3 fl3 up3 => ?_
    have J3 : Inv X pins σ' H' { s' with heap := h3 } := J.landed nb fl3.1 (up.trans up3) os ag
    obtain ⟨o3, v3, g3, z3, d3⟩ := fl3.there
    have nfr : a ∉ frs (X.env :: X.outer) := fun hm => by
      obtain ⟨_, o', e', hnf⟩ := fl3.2.2.1.mem hm
      rw [g3] at e'; cases e'
      exact hnf _ d3
    have nL : a ≠ X.env.locals := fun z => nfr (List.mem_filterMap.mpr ⟨X.env, List.mem_cons_self, z ▸ hf⟩)
    have nF : a ∉ X.fs := fun hm => by
      obtain ⟨e, he, q⟩ := List.mem_filterMap.mp hm
      exact nfr (List.mem_filterMap.mpr ⟨e, List.mem_cons_of_mem _ he, q⟩)
    have nI : sI.heap.get? a = none := by
      cases e : sI.heap.get? a with
      | none => rfl
      | some o => rw [nb a o e (hs ▸ nfr)] at noB; cases noB
    have n0 : X.s_0.heap.get? a = none := by
      cases e : X.s_0.heap.get? a with
      | none => rfl
      | some o =>
        obtain ⟨o', e'⟩ := J.base.there a o e (by rw [hex]; simp)
        rw [nI] at e'; cases e'
    have npin : ∀ p ∈ X.pn ++ pins, p.1 ≠ a := fun p hp z => by
      have q := (J.pin p hp).1
      rw [z, nI] at q; cases q
    have S3 := J3.suite g3 d3 na nL nF
    refine wpAny_handleBy_cons (codeAny_handlers_test ?_) (fun q => nomatch q)
    have LT : PySem.W.Looks (model X.prog X.w) h3 (typeOf (.ref a)) (.ref C) := fun _ _ _ _ k q => wpAny_typeOf_ref (k _ _ g3) (z3.1.symm ▸ q)
    have LM := PySem.W.exm_one (M := model X.prog X.w) J3.kIn LT hb1
    have look : ∀ {Q E : Value → Shared → Prop}, Q c { s' with heap := h3 } → wpAny (model X.prog X.w) (X.A.mark (some (.ref a))) (eval (.Name x np) X.env) Q E { s' with heap := h3 } := fun {Q E} q => by
      obtain ⟨hg, hdb, hm | ⟨hm, hv, hnn⟩⟩ := hc
      · exact ld_glob S3 hg hm q hdb
      · exact ld_blt S3 hg hm hv q hnn hdb
    refine look (LM.here (codeAny_handlers_suite_as (HandSPX.lands_againZ fl3 fun h4 fl4 up4 => ?_)))
    have J4 : Inv X pins σ' H' { s' with heap := h4 } := J.landed nb fl4.1 ((up.trans up3).trans up4) os ag
    obtain ⟨o4, v4, g4, z4, d4⟩ := fl4.there
    refine store_ok (X := X.suite a ((a, o4) :: (X.pn ++ pins))) (v := .ref a) (J4.suite g4 d4 na nL nF) hN hi (.inl hli) rfl (fun s5 S5 => ?_) (.inr hli)
    have sv : ((σ'.set i (some (V.ref a))))[i]? = some (some (V.ref a)) := List.getElem?_set_self (by rw [J.len]; exact (List.getElem?_eq_some_iff.mp hi).1)
    have asg : PSs (X.suite a ((a, o4) :: (X.pn ++ pins))) [.Assign [.Name y py] (.Name n pn) pa] (fun D σ H => ∃ v, σ[i]? = some (some v) ∧ D.nx (σ.set j (some v)) H) :=
      pss_imp (pss_one (L2.ps_set (i := j) hN hj (.inl hlj) (pv i hi hvn hdn hcn) hsw (.inr hlj))) fun D σ H ⟨v, e, q⟩ => ⟨v, e, q⟩
    refine wpAny_mono (asg.run [] s5 _ H' { nx := fun σ6 H6 => σ6 = (σ'.set i (some (V.ref a))).set j (some (V.ref a)) ∧ H6 = H', rt := fun _ _ => False, bk := fun _ _ => False, ct := fun _ _ => False } S5 ⟨_, sv, rfl, rfl⟩) (fun f s6 hsp => ?_) (fun _ _ z => z.elim)
    cases f with
    | next =>
      obtain ⟨σ6, H6, S6, rfl, rfl⟩ := hsp
      have g6 : s6.heap.get? a = some o4 := (S6.pin (a, o4) (by simp)).1
      have J6 := track (S6.unsuite ok) g6 z4 d4 na nL n0 npin
      exact gone_ok J6 hN hi hli fun s7 J7 => ⟨_, _, J7, hyes a na⟩
    | brk => obtain ⟨_, _, _, z⟩ := hsp; exact z.elim
    | cont => obtain ⟨_, _, _, z⟩ := hsp; exact z.elim
    | ret u => obtain ⟨_, _, _, _, _, z⟩ := hsp; exact z.elim
  refine wpAny_mono (hbody.run [] s σ H D (I.toTry _) h) (fun f s1 hsp => ?_) fun _ _ he => he
  cases f with
  | next => obtain ⟨σ1, H1, J1, q⟩ := hsp; exact wpAny_execs_nil ⟨σ1, H1, J1.ofTry ok, q⟩
  | brk => obtain ⟨σ1, H1, J1, q⟩ := hsp; exact ⟨σ1, H1, J1.ofTry ok, q⟩
  | cont => obtain ⟨σ1, H1, J1, q⟩ := hsp; exact ⟨σ1, H1, J1.ofTry ok, q⟩
  | ret u => obtain ⟨v, σ1, H1, J1, r, q⟩ := hsp; exact ⟨v, σ1, H1, J1.ofTry ok, r, q⟩
end
end
/-! ### a try's body: calls, each with the slots as they stand where it raises -/
/-- a call, with whatever is wished behind it -/
theorem call_gen {X : Cx} {io : List Nat} {B : Bs io} {own : List Nat} {f : FM} {as : List Ar} {dfl : List PyData} {dvs : List V} {iol : List Nat} {n : Nat} {fr : Bool} (hio : ioOf as 0 = iol) (hj : ∀ j ∈ jsOf as, j ∈ own) (nd : (jsOf as).Nodup) (hn : as.length + dfl.length = n) (hdf : ∀ F H, Rps X.K F H dvs dfl)
    {σ : Sl} {H : Hp} {Q : VK} {E : XK} {ρ : Ev} {F : Addr → Prop} (re : RE X.K B own F ρ σ H) {y : Ev × List (PyData ⊕ Nat)} {ds : List PyData} (ey : evA as ρ = .ok y) (hr : resolve y.1 y.2 = some ds)
    (h : ∀ F1 H1, Mn X.K F H F1 H1 → RE X.K B own F1 y.1 σ H1 → match f (ds ++ dfl) with
      | .ok z => ∀ v F' H', RE X.K B own F' (setL y.1 (jsOf as) z.1) σ H' → Mn X.K F1 H1 F' H' → RetC X.K fr H1 F' H' v z.2 → Q v H'
      | .exc c x => jsOf as = [] ∧ ∀ cls dx F' H', RE X.K B own F' y.1 σ H' → Mn X.K F1 H1 F' H' → XD X.K X.mg F' H' c x cls dx → E cls dx H'
      | .bad => False) : tDR X.K B own as σ H fun vs H1 => spD X.K X.mg iol n fr f (vs ++ dvs) H1 Q E := by
  refine ⟨ρ, F, re, ?_⟩
  rw [ey]
  intro vs H1 F1 re1 mo1 rpa
  have h := h F1 H1 mo1 re1
  obtain ⟨sl, sh⟩ := ev_shape ey
  have memJ : ∀ {i j : Nat}, y.2[i]? = some (.inr j) → j ∈ jsOf as := fun {i j} e => by
    obtain ⟨k, _, h2⟩ := io_mem (n := 0) ((sh i j).mp e)
    exact List.mem_of_getElem? h2
  obtain ⟨lv, la, at'⟩ := argR re1 rpa hr fun j hjm => by
    obtain ⟨i, e⟩ := List.mem_iff_getElem?.mp hjm
    exact hj j (memJ e)
  have ld : dvs.length = dfl.length := (hdf F1 H1).length
  have ioAt : ∀ {i : Nat}, i ∈ iol → ∃ j, y.2[i]? = some (.inr j) := fun {i} hi => by
    rw [← hio] at hi
    obtain ⟨k, hk⟩ := List.mem_iff_getElem?.mp hi
    obtain ⟨_, j, _, h3⟩ := io_at hk
    exact ⟨j, (sh i j).mpr (by simpa using h3)⟩
  have small : ∀ {i j : Nat}, y.2[i]? = some (.inr j) → i < vs.length := fun {i j} e => by
    have := (List.getElem?_eq_some_iff.mp e).1
    omega
  have vL : ∀ {i : Nat}, i < vs.length → (vs ++ dvs)[i]? = vs[i]? := fun {i} h => List.getElem?_append_left h
  have dL : ∀ {i : Nat}, i < vs.length → (ds ++ dfl)[i]? = ds[i]? := fun {i} h => List.getElem?_append_left (by omega)
  have ow : ∀ {i j : Nat}, y.2[i]? = some (.inr j) → ∃ a d, vs[i]? = some (V.ref a) ∧ ds[i]? = some d ∧ σ[j]? = some (some (V.ref a)) ∧ y.1[j]? = some (some d) ∧ ¬ F1 a ∧ OwnV X.K F1 H1 a d := fun {i j} e => by
    have hi := small e
    have e1 : vs[i]? = some vs[i] := List.getElem?_eq_getElem hi
    have e2 : ds[i]? = some (ds[i]'(by omega)) := List.getElem?_eq_getElem _
    rcases at' i _ _ e1 e2 with ⟨d', q, _⟩ | ⟨j', a, q1, q2, q3, q4, q5, q6⟩
    · rw [e] at q; cases q
    · rw [e] at q1; cases q1
      exact ⟨a, _, by rw [e1, q2], e2, by rw [q3, q2], q4, q5, q6⟩
  refine ⟨ds ++ dfl, F1, by simp only [List.length_append]; omega, ⟨by simp only [List.length_append]; omega, fun i v d hi e1 e2 => ?_, fun i v d hi e1 e2 => ?_, fun i j hi hj' hne hl => ?_, fun i hi => ?_⟩, re1.dom, ?_⟩
  · by_cases hl : i < vs.length
    · rw [vL hl] at e1
      rw [dL hl] at e2
      rcases at' i v d e1 e2 with ⟨d', _, q⟩ | ⟨j', a, q1, _⟩
      · exact q
      · obtain ⟨k, h1, _⟩ := io_mem (n := 0) ((sh i j').mp q1)
        rw [hio] at h1
        exact absurd (by simpa using List.mem_of_getElem? h1) hi
    · rw [List.getElem?_append_right (by omega)] at e1
      rw [List.getElem?_append_right (by omega), ← lv] at e2
      obtain ⟨v', q1, q2⟩ := (hdf F1 H1).get e2
      rw [e1] at q1; cases q1; exact q2
  · obtain ⟨j, hj1⟩ := ioAt hi
    have hl := small hj1
    rw [vL hl] at e1
    rw [dL hl] at e2
    obtain ⟨a, d', q1, q2, q3, q4, q5, q6⟩ := ow hj1
    rw [e1] at q1; cases q1
    rw [e2] at q2; cases q2
    exact ⟨a, rfl, q5, q6⟩
  · obtain ⟨j1, hj1⟩ := ioAt hi
    obtain ⟨j2, hj2⟩ := ioAt hj'
    rw [vL (small hj1), vL (small hj2)]
    obtain ⟨a1, d1, q1, _, s1, p1, _⟩ := ow hj1
    obtain ⟨a2, d2, q2, _, s2, p2, _⟩ := ow hj2
    have jne : j1 ≠ j2 := fun z => by
      subst z
      obtain ⟨k1, u1, u2⟩ := io_mem (n := 0) ((sh i j1).mp hj1)
      obtain ⟨k2, u3, u4⟩ := io_mem (n := 0) ((sh j j1).mp hj2)
      have hk : k1 = k2 := (List.getElem?_inj (List.getElem?_eq_some_iff.mp u2).1 nd).mp (u2.trans u4.symm)
      subst hk
      rw [u1] at u3
      simp only [Option.some.injEq, Nat.zero_add] at u3
      exact hne u3
    intro z
    exact re1.ne j1 j2 d1 d2 (hj _ (memJ hj1)) (hj _ (memJ hj2)) jne p1 p2 (by rw [s1, s2, ← q1, ← q2, z])
  · obtain ⟨j, hj1⟩ := ioAt hi
    have := small hj1
    simp only [List.length_append]
    omega
  · have setd : ∀ j ∈ jsOf as, ∃ d, y.1[j]? = some (some d) := fun j h => by
      obtain ⟨k, hk⟩ := List.mem_iff_getElem?.mp h
      have : ∃ i : Nat, y.2[i]? = some (.inr j) := by
        have hl : k < (ioOf as 0).length := by
          have len : ∀ (as : List Ar) (n : Nat), (ioOf as n).length = (jsOf as).length := by
            intro as
            induction as with
            | nil => intro n; rfl
            | cons a r ih => intro n; cases a <;> simp [ioOf, jsOf, ih]
          rw [len]; exact (List.getElem?_eq_some_iff.mp hk).1
        obtain ⟨_, j', h2, h3⟩ := io_at (List.getElem?_eq_getElem hl)
        rw [hk] at h2; cases h2
        exact ⟨_, (sh _ j).mpr (by simpa using h3)⟩
      obtain ⟨i, hi⟩ := this
      obtain ⟨a, d, _, _, _, q, _⟩ := ow hi
      exact ⟨d, q⟩
    have behind : ∀ {F' H'}, Aft X.K iol (vs ++ dvs) F1 H1 F' H' → ∀ {os : List PyData}, (∀ (k i : Nat), iol[k]? = some i → ∃ a d', (vs ++ dvs)[i]? = some (V.ref a) ∧ os[k]? = some d' ∧ ¬ F' a ∧ OwnV X.K F' H' a d') →
        RE X.K B own F' (setL y.1 (jsOf as) os) σ H' ∧ Mn X.K F1 H1 F' H' := fun {F' H'} A {os} ho => by
      refine re1.call hj nd setd A.sub A.new A.dom A.keep (fun b o hb hf => A.frame b o hb fun i hi z => ?_) fun k j hk => ?_
      · obtain ⟨j, hj1⟩ := ioAt hi
        rw [vL (small hj1)] at z
        obtain ⟨a, d, q1, _, q3, _⟩ := ow hj1
        rw [z] at q1; cases q1
        exact hf j (memJ hj1) q3
      · have len : ∀ (as : List Ar) (n : Nat), (ioOf as n).length = (jsOf as).length := by
          intro as
          induction as with
          | nil => intro n; rfl
          | cons a r ih => intro n; cases a <;> simp [ioOf, jsOf, ih]
        have hl : k < (ioOf as 0).length := by rw [len]; exact (List.getElem?_eq_some_iff.mp hk).1
        obtain ⟨i, e1⟩ : ∃ i, (ioOf as 0)[k]? = some i := ⟨_, List.getElem?_eq_getElem hl⟩
        obtain ⟨_, j', h2, h3⟩ := io_at e1
        rw [hk] at h2; cases h2
        have hj1 := (sh i j).mpr (by simpa using h3)
        rw [hio] at e1
        obtain ⟨a, d', q1, q2, q3, q4⟩ := ho k i e1
        rw [vL (small hj1)] at q1
        obtain ⟨a', d, w1, _, w3, _⟩ := ow hj1
        rw [q1] at w1; cases w1
        exact ⟨a, d', w3, q2, q3, q4⟩
    cases q : f (ds ++ dfl) with
    | bad => rw [q] at h; exact h.elim
    | ok z =>
      rw [q] at h
      exact fun v H' F' A ho rp => let ⟨re2, mo2⟩ := behind A ho; h v F' H' re2 mo2 rp
    | exc c x =>
      rw [q] at h
      obtain ⟨hj0, h⟩ := h
      have hi0 : iol = [] := by
        rw [← hio]
        cases hx : ioOf as 0 with
        | nil => rfl
        | cons i r =>
          obtain ⟨_, j, h2, _⟩ := io_at (as := as) (n := 0) (k := 0) (i := i) (by rw [hx]; rfl)
          rw [hj0] at h2; simp at h2
      subst hi0
      intro cls dx H' F' A xd
      have q1 := behind A (os := []) (fun k i hk => by simp at hk)
      rw [hj0] at q1
      exact h cls dx F' H' q1.1 q1.2 xd

/-- what a try's body comes to -/
inductive Xr where
  | ok (f : Fl)
  | exc (ρ : Ev) (c : Str) (x : Option PyData)
  | bad
abbrev XM := Ev → Xr
/-- a call's arguments and its outcome -/
def xCall (f : FM) (as : List Ar) (dfl : List PyData) (k : Ev → PyData → Fl) : XM := fun ρ => match evA as ρ with
  | .ok y => (match resolve y.1 y.2 with
    | some ds => (match f (ds ++ dfl) with
      | .ok z => .ok (k (setL y.1 (jsOf as) z.1) z.2)
      | .exc c x => if (jsOf as).isEmpty then .exc y.1 c x else .bad
      | .bad => .bad)
    | none => .bad)
  | _ => .bad
def xE (f : FM) (as : List Ar) (dfl : List PyData) : XM := xCall f as dfl fun ρ _ => .nx ρ
def xSet (i : Nat) (f : FM) (as : List Ar) (dfl : List PyData) : XM := xCall f as dfl fun ρ d => .nx (ρ.set i (some d))
def xIf (t : TM) (a b : XM) : XM := fun ρ => match t ρ with
  | .ok x => if x.2 then a x.1 else b x.1
  | _ => .bad
def WantX (K : PySem.W.Frag) {io : List Nat} (B : Bs io) (own : List Nat) (ow : Ow) (D : Ends) (W : WX) (σ : Sl) (F : Addr → Prop) (H : Hp) : Xr → Prop
  | .ok f => WantS K B ow D F H (.ok f)
  | .exc ρ c x => ∀ cls dx F' H', RE K B own F' ρ σ H' → Mono K F H F' H' → XD K B.mg F' H' c x cls dx → W cls dx σ H'
  | .bad => False
theorem WantX.mono {K : PySem.W.Frag} {io : List Nat} {B : Bs io} {own : List Nat} {ow : Ow} {D : Ends} {W : WX} {σ : Sl} {F F' : Addr → Prop} {H H' : Hp} {r : Xr} (w : WantX K B own ow D W σ F H r) (m : Mono K F H F' H') : WantX K B own ow D W σ F' H' r := by
  cases r with
  | ok f => exact WantS.mono (show WantS K B ow D F H (.ok f) from w) m
  | exc ρ c x => exact fun cls dx F2 H2 re mo xd => w cls dx F2 H2 re (m.trans mo) xd
  | bad => exact w
def tX (K : PySem.W.Frag) {io : List Nat} (B : Bs io) (own : List Nat) (ow : Ow) (W : WX) (m : XM) : TS := fun D σ H => ∃ ρ F, RE K B own F ρ σ H ∧ WantX K B own ow D W σ F H (m ρ)
section
variable {X : Cx} {io : List Nat} {B : Bs io} {own nx bk ct : List Nat} {e c : Expr} {es : List Expr} {pos : Pos} {W : WX}
theorem dx_e {k j : Nat} {x : Str} {p spos : Pos} {f : FM} {as : List Ar} {iol : List Nat} {n : Nat} {dfl : List PyData} {fr : Bool} (C : Cal X.prog X.w X.K X.mg X.base j x dfl iol n f fr) (hr : Room k X.A) (gd : X.A.guards = some []) (tk : Takes X W) (hB : B.mg = X.mg) (ha : Dr X B own (e :: es) as) (hjk : j ≤ k := by decide)
    (hg : Gl X x := by rfl) (hio : ioOf as 0 = iol := by rfl) (hj : ∀ j ∈ jsOf as, j ∈ own := by decide) (nd : (jsOf as).Nodup := by decide) (hn : as.length + dfl.length = n := by rfl) (hdb : (x == ("__debug__" : Str)) = false := by decide)
    (hs : starEach (e :: es) X.env = (false, eval e X.env) :: starEach es X.env := by rfl) (hpl : (backTo pos (starEach es X.env)).any (·.1) = false := by rfl) (hsw : swapsWith (.Call (.Name x p) (e :: es) [] pos) none spos.line X.env = pure false := by rfl) :
    PS X (.Expr (.Call (.Name x p) (e :: es) [] pos) spos) (tX X.K B own ⟨own, bk, ct⟩ W (xE f as dfl)) := by
  obtain ⟨fa, fd, ps, dvs, ds, h1, h2, h3, h4, h5, h6⟩ := C.ex
  refine ps_imp (ps_expr (pe_callG h3 (hr.mono hjk) gd hg h1 h2 h4 h5 tk ha hdb hs hpl) hsw) fun D σ H ⟨ρ, F, re, w⟩ => ?_
  unfold xE xCall at w
  cases ey : evA as ρ with
  | bad => rw [ey] at w; exact w.elim
  | exc c x => rw [ey] at w; exact w.elim
  | ok y =>
    rw [ey] at w
    dsimp only at w
    cases hr : resolve y.1 y.2 with
    | none => rw [hr] at w; exact w.elim
    | some ds =>
      rw [hr] at w
      dsimp only at w
      refine call_gen (fr := fr) hio hj nd hn h6 re ey hr fun F1 H1 mo1 re1 => ?_
      have w1 := WantX.mono w mo1.toMono
      cases hf : f (ds ++ dfl) with
      | bad => rw [hf] at w1; exact w1.elim
      | ok z =>
        rw [hf] at w1
        intro v F' H' re2 mo2 rc
        by_cases hfr : fr = true
        · exact w1 σ H' F' re2 mo2.toMono
        · exact w1 σ H' F' re2 mo2.toMono
      | exc c x =>
        rw [hf] at w1
        dsimp only at w1
        by_cases he : (jsOf as).isEmpty = true
        · rw [if_pos he] at w1
          exact ⟨List.isEmpty_iff.mp he, fun cls dx F' H' re2 mo2 xd => w1 cls dx F' H' re2 mo2.toMono (hB ▸ xd)⟩
        · rw [if_neg he] at w1; exact w1.elim
theorem dx_if {sa sb : List Stmt} {mt : TM} {xa xb : XM} {ow : Ow} (hc : Dt X B own c mt) (ha : PSs X sa (tX X.K B own ow W xa)) (hb : PSs X sb (tX X.K B own ow W xb)) : PS X (.If c sa sb pos) (tX X.K B own ow W (xIf mt xa xb)) :=
  ps_imp (ps_if hc ha hb) fun D σ H ⟨ρ, F, re, w⟩ => ⟨ρ, F, re, by
    unfold xIf at w
    cases hm : mt ρ with
    | bad => rw [hm] at w; exact w.elim
    | exc c x => rw [hm] at w; exact w.elim
    | ok x =>
      rw [hm] at w
      intro H1 F1 re1 mo1
      have w1 := WantX.mono w mo1.toMono
      obtain ⟨x1, b⟩ := x
      cases b with
      | true => exact ⟨x1, F1, re1, w1⟩
      | false => exact ⟨x1, F1, re1, w1⟩⟩
end
/-! ### try: .. except x as n: y = n -/
def sTry (L : List Str) (i j : Nat) (m : XM) : SM := fun ρ => match m ρ with
  | .ok f => .ok f
  | .exc ρ' c x => if L.contains c then .ok (.nx (((ρ'.set i (some (excD c x))).set j (some (excD c x))).set i none)) else .bad
  | .bad => .bad
section
variable {X : Cx} {io : List Nat} {B : Bs io} {own bk ct : List Nat}
theorem rp_exc {K : PySem.W.Frag} {mg : Str → Option Value} {F : Addr → Prop} {H : Hp} {c : Str} {x : Option PyData} {cls : Value} {dx : Option Addr} (dom : ∀ p, F p → H p ≠ none) (h : XD K mg F H c x cls dx) {a : Addr} (na : H a = none) :
    Grow F H (fun b => F b ∨ b = a) (upd H a (exq a (He.ga K c) dx)) ∧ Rp K (fun b => F b ∨ b = a) (upd H a (exq a (He.ga K c) dx)) (.ref a) (excD c x) := by
  have g : Grow F H (fun b => F b ∨ b = a) (upd H a (exq a (He.ga K c) dx)) := Grow.atp dom na
  refine ⟨g, ?_⟩
  obtain ⟨_, h⟩ := h
  cases x with
  | none =>
    have h : dx = none := h
    subst h
    exact .exN (.inr rfl) (.inl upd_same)
  | some d =>
    obtain ⟨dd, v, rfl, h1, h2, h3⟩ := h
    exact .exS (.inr rfl) (.inl h1) (.inl upd_same) (.inl (g.same _ _ h2)) (h3.mono g.mono)
theorem ds_try {x n y : Str} {C : Value} {body : List Stmt} {np pn py pa pos pos' : Pos} {m : XM} (L : List Str) (i j : Nat) (nd : X.N.Nodup)
    (hL : ∀ c ∈ L, PySem.W.exmOne X.K (.ref (He.ga X.K c)) C = some true) (hc : Names X x C)
    (hb : ∀ (W : WX) (pn : List (Addr × Obj)) (xe : Value → Shared → Prop), Takes (X.tr pn xe) W → PassesOwn (model X.prog X.w) X.A X.env xe → PSs (X.tr pn xe) body (tX X.K B own ⟨own, bk, ct⟩ W m))
    (hio : i ∉ io := by decide) (hjo : j ∉ io := by decide) (ho : (own.filter (· ≠ i)).filter (· ≠ j) = own := by rfl)
    (hex : X.ex = [] := by rfl) (hs : X.stack = X.env :: X.outer := by rfl) (hf : X.env.frame = some X.env.locals := by rfl) (hi : X.N[i]? = some n := by rfl) (hli : X.env.kindOf n = some .local := by rfl) (hj : X.N[j]? = some y := by rfl) (hlj : X.env.kindOf y = some .local := by rfl)
    (hvn : Vis X.env.scope n := by exact Or.inl rfl) (hsw : swapsWith (.Name n pn) (some (.Name y py)) pa.line X.env = pure false := by rfl) (hdn : (n == ("__debug__" : Str)) = false := by decide) (hcn : (n == ("__classdict__" : Str)) = false := by decide) :
    Ds X B own ⟨own, bk, ct⟩ (.Try body [.ExceptHandler (some (.Name x np)) (some n) [.Assign [.Name y py] (.Name n pn) pa] pos'] [] [] pos) (sTry L i j m) := by
  refine ps_imp (ps_keep (tb := fun W => tX X.K B own ⟨own, bk, ct⟩ W m) hex hs hf nd hi hli hj hlj hvn hc hsw hdn hcn hb) fun D σ H ⟨ρ, F, re, w⟩ => ⟨ρ, F, re, ?_⟩
  unfold sTry at w
  cases hm : m ρ with
  | bad => rw [hm] at w; exact w.elim
  | ok f => rw [hm] at w; exact w
  | exc ρ' c x =>
    rw [hm] at w
    dsimp only at w
    by_cases hcl : L.contains c = true
    · rw [if_pos hcl] at w
      intro cls dx F' H' re' mo xd
      have hmem : c ∈ L := by simpa using hcl
      refine ⟨by rw [xd.1]; exact hL c hmem, _, xd.1, fun a na => ?_⟩
      obtain ⟨g, rp⟩ := rp_exc re'.dom xd na
      have r1 := (re'.grow g).set rp hio
      have r2 := r1.set rp hjo
      have r3 := r2.forget hio
      rw [ho] at r3
      exact w _ _ _ r3 (mo.trans g.mono)
    · rw [if_neg hcl] at w; exact w.elim
end
end Kd

end T_KD10
section T_KD11
set_option maxRecDepth 100000
set_option maxHeartbeats 1000000
/-! KD11: exception classes: what the text's top says of them; raise, isinstance, a field. -/
namespace Kd
open PySem PySem.Spec PyProof.Rows L2

/-! ### the classes -/
abbrev teN : Str := "TrailsError"
def isxB (c x : Str) : Bool := c == x || x == teN
def exC1 (K : PySem.W.Frag) (C : Addr) : Bool := (PySem.W.clsIn K C).isSome && (decide (PySem.W.findIn K (.ref C) "__getattribute__" = some (some (.builtin "BaseException.__getattribute__"))) && (decide (PySem.W.findIn K (.ref C) "__getattr__" = some none) &&
  (decide (PySem.W.subIn K (.ref C) (.type "BaseException") = some true) && (decide (PySem.W.findIn K (.ref C) "__class__" = some (some (.builtin "object.__class__"))) && (decide (PySem.W.mroIn K C (.type "object") = some true) && PySem.W.hasDictIn K C)))))
def exC2 (K : PySem.W.Frag) (L : List Str) (c : Str) : Bool := decide (PySem.W.exmOne K (.ref (He.ga K c)) (.ref (He.ga K teN)) = some true) && (decide (PySem.W.kitOne K (.ref (He.ga K c)) (.type "ValueError") = some true) &&
  ((teN :: L).all fun x => decide (PySem.W.kitOne K (.ref (He.ga K c)) (.ref (He.ga K x)) = some (isxB c x))))
def exC3 (K : PySem.W.Frag) (x : Str) : Bool := decide (PySem.W.kitOne K (.type "NoneType") (.ref (He.ga K x)) = some false)
def excsB (L : List Str) (K : PySem.W.Frag) : Bool := (L.all fun c => exC1 K (He.ga K c) && exC2 K L c) && (((teN :: L).all (exC3 K)) && (decide (PySem.W.specialIn K (.builtin "object.__class__") "__get__" = some (some (.builtin "getset_descriptor.__get__"))) &&
  (decide (PySem.W.takesIn K (.builtin "object.__class__") = some true) && decide (PySem.W.kitOne K (.type "NoneType") (.type "ValueError") = some false))))
/-- what is known of an exception class -/
structure ExK (K : PySem.W.Frag) (C : Addr) : Prop where
  cl : (PySem.W.clsIn K C).isSome = true
  ga : PySem.W.findIn K (.ref C) "__getattribute__" = some (some (.builtin "BaseException.__getattribute__"))
  gg : PySem.W.findIn K (.ref C) "__getattr__" = some none
  sb : PySem.W.subIn K (.ref C) (.type "BaseException") = some true
  cc : PySem.W.findIn K (.ref C) "__class__" = some (some (.builtin "object.__class__"))
  mr : PySem.W.mroIn K C (.type "object") = some true
  hd : PySem.W.hasDictIn K C = true
  sp : PySem.W.specialIn K (.builtin "object.__class__") "__get__" = some (some (.builtin "getset_descriptor.__get__"))
  tk : PySem.W.takesIn K (.builtin "object.__class__") = some true
theorem dcd {p : Prop} [Decidable p] (h : decide p = true) : p := of_decide_eq_true h
section
variable {L : List Str} {K : PySem.W.Frag}
theorem excs_k (h : excsB L K = true) {c : Str} (hc : c ∈ L) : ExK K (He.ga K c) := by
  simp only [excsB, exC1, Bool.and_eq_true, List.all_eq_true] at h
  obtain ⟨h1, _, h3, h4, _⟩ := h
  obtain ⟨⟨a1, a2, a3, a4, a5, a6, a7⟩, _⟩ := h1 c hc
  exact ⟨a1, dcd a2, dcd a3, dcd a4, dcd a5, dcd a6, a7, dcd h3, dcd h4⟩
theorem excs_m (h : excsB L K = true) {c : Str} (hc : c ∈ L) : PySem.W.exmOne K (.ref (He.ga K c)) (.ref (He.ga K teN)) = some true := by
  simp only [excsB, exC2, Bool.and_eq_true, List.all_eq_true] at h
  exact dcd (h.1 c hc).2.1
theorem excs_v (h : excsB L K = true) {c : Str} (hc : c ∈ L) : PySem.W.kitOne K (.ref (He.ga K c)) (.type "ValueError") = some true := by
  simp only [excsB, exC2, Bool.and_eq_true, List.all_eq_true] at h
  exact dcd (h.1 c hc).2.2.1
theorem excs_i (h : excsB L K = true) {c x : Str} (hc : c ∈ L) (hx : x ∈ teN :: L) : PySem.W.kitOne K (.ref (He.ga K c)) (.ref (He.ga K x)) = some (isxB c x) := by
  simp only [excsB, exC2, Bool.and_eq_true, List.all_eq_true] at h
  exact dcd ((h.1 c hc).2.2.2 x hx)
theorem excs_n (h : excsB L K = true) {x : Str} (hx : x ∈ teN :: L) : PySem.W.kitOne K (.type "NoneType") (.ref (He.ga K x)) = some false := by
  simp only [excsB, exC3, Bool.and_eq_true, List.all_eq_true] at h
  exact dcd (h.2.1 x hx)
theorem excs_w (h : excsB L K = true) : PySem.W.kitOne K (.type "NoneType") (.type "ValueError") = some false := by
  simp only [excsB, Bool.and_eq_true] at h
  exact dcd h.2.2.2.2
end

/-! ### isinstance -/
/-- an exception that is tracked -/
def ExT (H : Hp) (a C : Addr) : Prop := ∃ dx, Rd H a (exq a C dx) ∧ ∀ dd, dx = some dd → ∃ o, H dd = some o
def rIsX (K : PySem.W.Frag) : List V → Hp → VK → Prop := fun xs H Q => ∃ (a C : Addr) (c : V) (u : Value) (b : Bool), xs = [.ref a, c] ∧ ClsV c u ∧ ExK K C ∧ ExT H a C ∧ PySem.W.kitOne K (.ref C) u = some b ∧ Q (.bl b) H
theorem exq_get {P : Program} {w : World} {H : Hp} {h : Heap} {a C : Addr} {d : Option Addr} (hok : HOk P w H h) (e : Rd H a (exq a C d)) : ∃ oe vs, h.get? a = some oe ∧ Zc (.ref C) d oe ∧ oe.data = .fields vs := by
  rcases e with e | ⟨o, e⟩
  · exact (hok _ _ e).1
  · have z : ObjOk P w H h a (.frz o (exq a C d)) := hok _ _ e
    exact z.2.1
theorem call_isX {X : Cx} : CallR X (.builtin "isinstance") (rIsX X.K) := by
  intro pins s σ H xs us Q I r h
  obtain ⟨a, C, c, u, b, rfl, k, E, ⟨dx, ha, hdx⟩, e, q⟩ := h
  obtain ⟨u1, u2, rfl, r1, r2⟩ := vals2 r
  have e2 := k.eq r2
  subst e2
  cases (show u1 = Value.ref a from r1)
  obtain ⟨oe, vs, h1, h2, h3⟩ := exq_get I.hok ha
  have J : ∃ od, PySem.W.InstAt s.heap a oe C od := by
    obtain ⟨z1, z2⟩ := h2
    cases dx with
    | none => exact ⟨none, h1, z1, by unfold PySem.W.notCls; rw [h3] <;> rfl, by rw [z2]; exact trivial⟩
    | some dd =>
      obtain ⟨o, ho⟩ := hdx dd rfl
      obtain ⟨od, hod⟩ := objOk_get (I.hok dd o ho)
      exact ⟨some od, h1, z1, by unfold PySem.W.notCls; rw [h3] <;> rfl, by rw [z2]; exact hod⟩
  obtain ⟨od, J⟩ := J
  exact PySem.W.kia_one (PySem.W.kitx_exc (x := a) (ox := oe) (od := od) E.cl E.ga E.gg E.sb E.cc E.sp E.tk E.mr) I.kIn J e (fun z => nomatch z) fun tk => ⟨.bl b, H, I.tok tk, rfl, q⟩
/-- isinstance(e, x), e an exception or None -/
def fIsX (L : List Str) (x : Str) : PyData → Option PyData
  | .none => some (.bool false)
  | .dict ((.none, .str c) :: _) => iff' (L.contains c) (.bool (isxB c x))
  | _ => none
def fIsV (L : List Str) : PyData → Option PyData
  | .none => some (.bool false)
  | .dict ((.none, .str c) :: _) => iff' (L.contains c) (.bool true)
  | _ => none
theorem noK {K : PySem.W.Frag} {F : Addr → Prop} {H : Hp} {ws : List (Key × V)} {d : PyData} {r : List (PyData × PyData)} (h : RpK K F H ws ((.none, d) :: r)) : False := by
  generalize e : ((PyData.none, d) :: r) = kvs at h
  cases h with
  | nil => cases e
  | cons _ _ =>
    rename_i k _ _ _ _ _ _
    have e1 := congrArg (fun l => l.head?.map Prod.fst) e
    simp only [List.head?_cons, Option.map_some, Option.some.injEq] at e1
    cases k <;> cases e1
theorem noT {K : PySem.W.Frag} {F : Addr → Prop} {H : Hp} {ws : List (List Key × V)} {d : PyData} {r : List (PyData × PyData)} (h : RpT K F H ws ((.none, d) :: r)) : False := by
  generalize e : ((PyData.none, d) :: r) = kvs at h
  cases h with
  | nil => cases e
  | cons _ _ =>
    have e1 := congrArg (fun l => l.head?.map Prod.fst) e
    simp only [List.head?_cons, Option.map_some, Option.some.injEq] at e1
    cases e1
theorem exT_of {K : PySem.W.Frag} {F : Addr → Prop} {H : Hp} (dom : ∀ p, F p → H p ≠ none) {v : V} {c : Str} {r : List (PyData × PyData)} (h : Rp K F H v (.dict ((.none, .str c) :: r))) : ∃ a, v = .ref a ∧ ExT H a (He.ga K c) := by
  cases h with
  | dK _ _ q => exact (noK q).elim
  | dT _ _ q => exact (noT q).elim
  | exN _ h => exact ⟨_, rfl, none, h, fun _ z => nomatch z⟩
  | exS _ h2 h _ _ =>
    refine ⟨_, rfl, _, h, fun dd z => ?_⟩
    cases z
    cases e : H _ with
    | none => exact absurd e (dom _ h2)
    | some o => exact ⟨o, rfl⟩
theorem isX_inv {L : List Str} {x : Str} {d z : PyData} (h : fIsX L x d = some z) : (d = .none ∧ z = .bool false) ∨ ∃ c r, d = .dict ((.none, .str c) :: r) ∧ c ∈ L ∧ z = .bool (isxB c x) := by
  unfold fIsX at h
  split at h
  · cases h; exact .inl ⟨rfl, rfl⟩
  · obtain ⟨hc, rfl⟩ := iff_some h
    exact .inr ⟨_, _, rfl, by simpa using hc, rfl⟩
  · cases h
theorem isV_inv {L : List Str} {d z : PyData} (h : fIsV L d = some z) : (d = .none ∧ z = .bool false) ∨ ∃ c r, d = .dict ((.none, .str c) :: r) ∧ c ∈ L ∧ z = .bool true := by
  unfold fIsV at h
  split at h
  · cases h; exact .inl ⟨rfl, rfl⟩
  · obtain ⟨hc, rfl⟩ := iff_some h
    exact .inr ⟨_, _, rfl, by simpa using hc, rfl⟩
  · cases h
section
variable {X : Cx} {io : List Nat} {B : Bs io} {own : List Nat} {a : Expr} {pos p p2 : Pos} {ma : EM}
theorem de_isX (L : List Str) {x : Str} (hL : excsB L X.K = true) (hmx : X.mg x = some (.ref (He.ga X.K x))) (ha : De X B own a ma) (hm : X.mg "isinstance" = none) (hx : x ∈ teN :: L := by decide) (hg : Gl X "isinstance" := by rfl) (hgx : Gl X x := by rfl)
    (hvi : bootBuiltins "isinstance" = some (.builtin "isinstance") := by decide +kernel) (hdb : (x == ("__debug__" : Str)) = false := by decide) (hs1 : starEach [a, .Name x p2] X.env = (false, eval a X.env) :: starEach [.Name x p2] X.env := by rfl)
    (hs2 : starEach [.Name x p2] X.env = (false, eval (.Name x p2) X.env) :: starEach [] X.env := by rfl) (hpl : (backTo pos (starEach [.Name x p2] X.env)).any (·.1) = false := by rfl) :
    De X B own (.Call (.Name "isinstance" p) [a, .Name x p2] [] pos) (m1 (fIsX L x) ma) :=
  pe_imp (pe_callB ((call_isi (X := X)).or call_isX) hg hm hvi (pa_cons ha (pa_cons (pe_glob (v := .ref (He.ga X.K x)) hgx hmx rfl hdb) pa_nil hs2) hs1) (by decide) (by decide) hs1 hpl) fun σ H Q ⟨ρ, F, re, w⟩ => ⟨ρ, F, re, thE w fun ρ1 d1 v1 H1 F1 re1 mo1 rp1 w1 => by
    obtain ⟨z, hz, w2⟩ := Wa.opt w1
    rcases isX_inv hz with ⟨h, rfl⟩ | ⟨c, r, h, hc, rfl⟩ <;> (have h : d1 = _ := h; subst h)
    · cases rp1
      exact .inl ⟨.non, .ref (He.ga X.K x), .type "NoneType", .ref (He.ga X.K x), _, rfl, .own _, .base .non, excs_n hL hx, w2 _ H1 F1 re1 Mn.refl (.bl _)⟩
    · obtain ⟨b, rfl, ht⟩ := exT_of re1.dom rp1
      exact .inr ⟨b, _, .ref (He.ga X.K x), .ref (He.ga X.K x), _, rfl, .own _, excs_k hL hc, ht, excs_i hL hc hx, w2 _ H1 F1 re1 Mn.refl (.bl _)⟩⟩
theorem de_isV (L : List Str) (hL : excsB L X.K = true) (hmx : X.mg "ValueError" = none) (ha : De X B own a ma) (hm : X.mg "isinstance" = none) (hg : Gl X "isinstance" := by rfl) (hgx : Gl X "ValueError" := by rfl)
    (hvi : bootBuiltins "isinstance" = some (.builtin "isinstance") := by decide +kernel) (hvv : bootBuiltins "ValueError" = some (.type "ValueError") := by decide +kernel) (hs1 : starEach [a, .Name "ValueError" p2] X.env = (false, eval a X.env) :: starEach [.Name "ValueError" p2] X.env := by rfl)
    (hs2 : starEach [.Name "ValueError" p2] X.env = (false, eval (.Name "ValueError" p2) X.env) :: starEach [] X.env := by rfl) (hpl : (backTo pos (starEach [.Name "ValueError" p2] X.env)).any (·.1) = false := by rfl) :
    De X B own (.Call (.Name "isinstance" p) [a, .Name "ValueError" p2] [] pos) (m1 (fIsV L) ma) :=
  pe_imp (pe_callB ((call_isi (X := X)).or call_isX) hg hm hvi (pa_cons ha (pa_cons (pe_bltn (v := .ty "ValueError") hgx hmx hvv rfl (by decide) (by decide)) pa_nil hs2) hs1) (by decide) (by decide) hs1 hpl) fun σ H Q ⟨ρ, F, re, w⟩ => ⟨ρ, F, re, thE w fun ρ1 d1 v1 H1 F1 re1 mo1 rp1 w1 => by
    obtain ⟨z, hz, w2⟩ := Wa.opt w1
    rcases isV_inv hz with ⟨h, rfl⟩ | ⟨c, r, h, hc, rfl⟩ <;> (have h : d1 = _ := h; subst h)
    · cases rp1
      exact .inl ⟨.non, .ty "ValueError", .type "NoneType", .type "ValueError", _, rfl, .ty _, .base .non, excs_w hL, w2 _ H1 F1 re1 Mn.refl (.bl _)⟩
    · obtain ⟨b, rfl, ht⟩ := exT_of re1.dom rp1
      exact .inr ⟨b, _, .ty "ValueError", .type "ValueError", _, rfl, .ty _, excs_k hL hc, ht, excs_v hL hc, w2 _ H1 F1 re1 Mn.refl (.bl _)⟩⟩
end

/-! ### raise -/
def sRaise (c : Str) : SM := fun _ => .exc c none
section
variable {X : Cx} {io : List Nat} {B : Bs io} {own : List Nat} {pos p p2 : Pos}
theorem ds_raise {x m : Str} {j : Nat} {ow : Ow} (fx : (He.Fa.exc x).ok X.K = true) (hmx : X.mg x = some (.ref (He.ga X.K x))) (tk : Takes X B.W) (hio : ∀ i ∈ io, i ∈ own := by decide) (hc : X.calm = true := by rfl) (hg : Gl X x := by rfl) (hdb : (x == ("__debug__" : Str)) = false := by decide) :
    Ds X B own ow (.Raise (some (.Call (.Name x p) [.Constant (.str m) j p2] [] pos)) none pos') (sRaise x) := by
  obtain ⟨h1, h2, h3, h4⟩ := He.exc_ok fx
  refine ps_imp (ps_raise hc tk (pmk_own PySem.F.excBase_ValueError h1 hmx h2 (raises_own h3 h4) hg hdb)) fun D σ H ⟨ρ, F, re, w⟩ => ?_
  obtain ⟨F1, re1, mo1⟩ := re.freeze hio fun i h => h
  exact w (.ref (He.ga X.K x)) none ρ σ H F1 re1 mo1 ⟨rfl, rfl⟩
end
end Kd

end T_KD11
section T_KD12
set_option maxRecDepth 100000
set_option maxHeartbeats 1000000
/-! KD12: more expressions that make new lists; reading what a slot owns. -/
namespace Kd
open PySem PySem.Spec PyProof.Rows L2

/-! ### new lists -/
section
variable {X : Cx} {io : List Nat} {B : Bs io} {own own' : List Nat} {a b e : Expr} {es : List Expr} {pos p p2 : Pos} {m ma mb : EM}
theorem kO_new {K : PySem.W.Frag} {io : List Nat} {B : Bs io} {own : List Nat} {σ : Sl} {Q : VK} {F : Addr → Prop} {H : Hp} {ρ : Ev} {ds : List PyData} {vs : List V} (w : (kO (K := K) B own σ Q).k F H (ρ, .list ds)) (re : RE K B own F ρ σ H) {p : Addr} (np : H p = none) (hs : Rps K F H vs ds) :
    Q (.ref p) (upd H p (.lst vs)) := by
  have g : Grow F H F (upd H p (.lst vs)) := Grow.att re.dom np
  exact w p _ F (re.grow g) g.mn (fun z => re.dom p z np) np (re.h0 np) (re.notIn np) (.lst upd_same (hs.mono g.mono))
def fAddL : PyData → PyData → Option PyData
  | .list xs, .list ys => iff' (decide (xs.length + ys.length ≤ sizeLine)) (.list (xs ++ ys))
  | _, _ => none
theorem do_addL (ha : De X B own a ma) (hb : De X B own b mb) : Do X B own (.BinOp a .Add b pos) (m2 fAddL ma mb) :=
  pe_imp (pe_op op_addG ha hb) fun σ H Q ⟨ρ, F, re, w⟩ => ⟨ρ, F, re, thE w fun ρ1 d1 v1 H1 F1 re1 mo1 rp1 w1 => ⟨ρ1, F1, re1, thE w1 fun ρ2 d2 v2 H2 F2 re2 mo2 rp2 w2 => by
    obtain ⟨z, hz, w3⟩ := Wa.opt w2
    have rp1 := rp1.mono mo2.toMono
    cases rp1 <;> first | (cases hz; done) | skip
    rename_i hl hs
    cases rp2 <;> first | (cases hz; done) | skip
    rename_i hl2 hs2
    obtain ⟨h1, rfl⟩ := iff_some hz
    exact .inr (.inl ⟨_, _, _, _, rfl, rfl, hl.sq, hl2.sq, by rw [hs.length, hs2.length]; exact of_decide_eq_true h1, fun p np => kO_new w3 re2 np (hs.append hs2)⟩)⟩⟩
def fListQ : List PyData → Option PyData
  | [.list xs] => some (.list xs)
  | [.tuple xs] => some (.list xs)
  | _ => none
theorem do_listof (hm : X.mg "list" = none) (ha : De X B own a ma) (hg : Gl X "list" := by rfl) (hv : bootBuiltins "list" = some (.type "list") := by decide +kernel) (hs : starEach [a] X.env = (false, eval a X.env) :: starEach [] X.env := by rfl) (hpl : (backTo pos (starEach [] X.env)).any (·.1) = false := by rfl) :
    Do X B own (.Call (.Name "list" p) [a] [] pos) (m1 (fun d => fListQ [d]) ma) :=
  pe_imp (pe_callTy call_list_of hg hm hv (pa_cons ha pa_nil hs) (by decide) (by decide) hs hpl) fun σ H Q ⟨ρ, F, re, w⟩ => ⟨ρ, F, re, thE w fun ρ1 d1 v1 H1 F1 re1 mo1 rp1 w1 => by
    obtain ⟨z, hz, w3⟩ := Wa.opt w1
    cases rp1 <;> first | (cases hz; done) | skip
    · rename_i hl hs
      cases hz
      exact ⟨_, _, rfl, .inl hl.sq, fun p np => kO_new w3 re1 np hs⟩
    · rename_i hl hs
      cases hz
      exact ⟨_, _, rfl, .inr hl, fun p np => kO_new w3 re1 np hs⟩⟩
/-- sorted(xs) of ints -/
def intsD : List PyData → Option (List Int)
  | [] => some []
  | .int i :: r => (intsD r).map fun ns => i :: ns
  | _ => none
def insI (x : Int) : List Int → List Int
  | [] => [x]
  | y :: r => if y < x then y :: insI x r else x :: y :: r
def srtI : List Int → List Int
  | [] => []
  | x :: r => insI x (srtI r)
theorem insI_perm (x : Int) : ∀ l : List Int, (insI x l).Perm (x :: l)
  | [] => .refl _
  | y :: r => by
    unfold insI
    split
    · exact ((insI_perm x r).cons y).trans (.swap x y r)
    · exact .refl _
theorem srtI_perm : ∀ l : List Int, (srtI l).Perm l
  | [] => .refl _
  | x :: r => (insI_perm x _).trans ((srtI_perm r).cons x)
theorem insI_srt (x : Int) : ∀ l : List Int, l.Pairwise (· ≤ ·) → (insI x l).Pairwise (· ≤ ·)
  | [], _ => by simp [insI]
  | y :: r, h => by
    have h1 := List.pairwise_cons.mp h
    unfold insI
    split
    · rename_i hy
      refine List.pairwise_cons.mpr ⟨fun z hz => ?_, insI_srt x r h1.2⟩
      rcases List.mem_cons.mp ((insI_perm x r).mem_iff.mp hz) with rfl | hz
      · omega
      · exact h1.1 z hz
    · rename_i hy
      refine List.pairwise_cons.mpr ⟨fun z hz => ?_, h⟩
      rcases List.mem_cons.mp hz with rfl | hz
      · omega
      · have := h1.1 z hz; omega
theorem srtI_srt : ∀ l : List Int, (srtI l).Pairwise (· ≤ ·)
  | [] => .nil
  | x :: r => insI_srt x _ (srtI_srt r)
theorem srt_uniq : ∀ {l m : List Int}, l.Perm m → l.Pairwise (· ≤ ·) → m.Pairwise (· ≤ ·) → l = m
  | [], m, h, _, _ => (List.Perm.eq_nil h.symm).symm
  | x :: l, [], h, _, _ => absurd h.length_eq (by simp)
  | x :: l, y :: m, h, hl, hm => by
    have h1 := List.pairwise_cons.mp hl
    have h2 := List.pairwise_cons.mp hm
    have e : x = y := by
      have a1 : y ≤ x := by
        rcases List.mem_cons.mp (h.mem_iff.mp (List.mem_cons_self (a := x) (l := l))) with q | q
        · omega
        · exact h2.1 x q
      have a2 : x ≤ y := by
        rcases List.mem_cons.mp (h.mem_iff.mpr (List.mem_cons_self (a := y) (l := m))) with q | q
        · omega
        · exact h1.1 y q
      omega
    subst e
    rw [srt_uniq h.cons_inv h1.2 h2.2]
def fSrtI : List PyData → Option PyData
  | [.list ds] => (intsD ds).map fun ns => .list ((srtI ns).map .int)
  | _ => none
theorem rps_intsD {K : PySem.W.Frag} {F : Addr → Prop} {H : Hp} : ∀ {vs : List V} {ds : List PyData} {ns : List Int}, Rps K F H vs ds → intsD ds = some ns → vs = ns.map V.int
  | _, _, _, .nil, h => by cases h; rfl
  | _, _, _, .cons r t, h => by
    cases r <;> first | (cases h; done) | skip
    obtain ⟨ms, h1, rfl⟩ := Option.map_eq_some_iff.mp h
    rw [rps_intsD t h1]; rfl
theorem do_srtI (hm : X.mg "sorted" = none) (ha : De X B own a ma) (hg : Gl X "sorted" := by rfl) (hv : bootBuiltins "sorted" = some (.builtin "sorted") := by decide +kernel) (hs : starEach [a] X.env = (false, eval a X.env) :: starEach [] X.env := by rfl) (hpl : (backTo pos (starEach [] X.env)).any (·.1) = false := by rfl) :
    Do X B own (.Call (.Name "sorted" p) [a] [] pos) (m1 (fun d => fSrtI [d]) ma) :=
  pe_imp (pe_callB cr_sortedI hg hm hv (pa_cons ha pa_nil hs) (by decide) (by decide) hs hpl) fun σ H Q ⟨ρ, F, re, w⟩ => ⟨ρ, F, re, thE w fun ρ1 d1 v1 H1 F1 re1 mo1 rp1 w1 => by
    obtain ⟨z, hz, w3⟩ := Wa.opt w1
    cases rp1 <;> first | (cases hz; done) | skip
    rename_i hl hs
    obtain ⟨ns, h1, rfl⟩ := Option.map_eq_some_iff.mp hz
    have ev := rps_intsD hs h1
    subst ev
    refine ⟨_, ns, rfl, hl.sq, fun ms p hp hw np => ?_⟩
    have e : ms = srtI ns := srt_uniq (hp.trans (srtI_perm ns).symm) hw (srtI_srt ns)
    subst e
    exact kO_new w3 re1 np (rps_ints _)⟩
/-- list(range(n)) -/
def fLrg : PyData → Option PyData
  | .int n => iff' (decide (0 ≤ n ∧ n ≤ 16777216)) (.list (numL 0 n.toNat))
  | _ => none
theorem do_lrng {q : Pos} (hm : X.mg "list" = none) (hm2 : X.mg "range" = none) (ha : De X B own a ma) (hc : X.calm = true := by rfl) (hg : Gl X "list" := by rfl) (hg2 : Gl X "range" := by rfl) (hs : starEach [a] X.env = (false, eval a X.env) :: starEach [] X.env := by rfl)
    (hs2 : starEach [.Call (.Name "range" p2) [a] [] q] X.env = (false, eval (.Call (.Name "range" p2) [a] [] q) X.env) :: starEach [] X.env := by rfl) : Do X B own (.Call (.Name "list" p) [.Call (.Name "range" p2) [a] [] q] [] pos) (m1 fLrg ma) :=
  pe_imp (pe_listRg hc hg hm (prg_1 hg2 hm2 ha hs) hs2) fun σ H Q ⟨ρ, F, re, w⟩ => ⟨ρ, F, re, thE w fun ρ1 d1 v1 H1 F1 re1 mo1 rp1 w1 => by
    obtain ⟨z, hz, w3⟩ := Wa.opt w1
    cases rp1 <;> first | (cases hz; done) | skip
    obtain ⟨h, rfl⟩ := iff_some hz
    obtain ⟨h1, h2⟩ := of_decide_eq_true h
    refine ⟨_, rfl, RgOk.of_le (Int.le_refl 0) h2 (by decide) h1, fun q np => kO_new w3 re1 np ?_⟩
    rename_i n
    have : ∀ k : Nat, Rps X.K F1 H1 ((List.range k).map fun i : Nat => V.int (0 + i)) (numL 0 k) := fun k => by
      unfold numL
      generalize List.range k = l
      induction l with
      | nil => exact .nil
      | cons x r ih => exact .cons (.int _) ih
    have e : (n - 0).toNat = n.toNat := by simp
    unfold rgV
    rw [e]
    exact this _⟩
theorem tO_lc {wi : TI} {it : IM} {g : GM} {t : TM} {m : EM} {vs ts : List Nat} (hwi : ∀ σ H R, tDI X.K B own it σ H R → wi σ H R) (hmg : B.mg = X.mg) (hts : ∀ i ∈ ts, i ∈ vs) (hvo : ∀ v ∈ vs, v ∉ own) : ∀ σ H Q, tDO X.K B own (mLc own it g t m vs) σ H Q →
    tLc wi (fun v σ H Q => ∃ b : Bq own X.mg, tDG X.K b.1 own own ts g v σ H Q) (fun σ H Q => ∃ b : Bq own X.mg, tDT X.K b.1 own t σ H Q) (fun σ H Q => ∃ b : Bq own X.mg, tD X.K b.1 own m σ H Q) vs σ H Q := fun σ H0' Q ⟨ρ, F, re, w⟩ => by
  refine hwi σ H0' _ ⟨ρ, F, re, w.bind fun x w0 J H1 F1 re1 mo1 ⟨G, Y, wk, hG, hY⟩ D nD => ?_⟩
  obtain ⟨_, hset, w1⟩ := Wa.opt w0
  obtain ⟨hset, _⟩ := iff_some hset
  cases hq : (lcL g t m vs x.2 x.1).quiet with
  | exc c y => rw [hq] at w1; cases hz : lcL g t m vs x.2 x.1 <;> (rw [hz] at hq; cases hq)
  | bad => rw [hq] at w1; exact w1.elim
  | ok y =>
    rw [hq] at w1
    obtain ⟨d, hd, w2⟩ := Wa.opt w1
    obtain ⟨hlen, rfl⟩ := iff_some hd
    have hlen := of_decide_eq_true hlen
    have hrun := Rs.quiet_ok hq
    obtain ⟨ρe, rs⟩ := y
    have no : ∀ {j}, j ∈ own → j ∉ vs := fun {j} h z => hvo j z h
    have hD0 := re1.h0 nD
    have hDn := re1.notIn nD
    have hDw : ∀ j ∈ own, (L2.wipe σ vs)[j]? ≠ some (some (V.ref D)) := fun j hj => by rw [wipe_get (no hj)]; exact hDn j hj
    refine lc_it (g := fun v σ H Q => ∃ b : Bq own X.mg, tDG X.K b.1 own own ts g v σ H Q) (tt := fun σ H Q => ∃ b : Bq own X.mg, tDT X.K b.1 own t σ H Q) (te := fun σ H Q => ∃ b : Bq own X.mg, tD X.K b.1 own m σ H Q) (vs := vs) (σ := σ) (H1 := H1) (D := D) (Qd := Q (.ref D)) wk (fun i H => ∃ ρ F, RE X.K B own F (wipeE ρ vs) (L2.wipe σ vs) H ∧ (∀ j ∈ own, ∃ d, (wipeE ρ vs)[j]? = some (some d)) ∧ Mn X.K F1 H1 F H ∧ ¬ F D ∧ ∃ acc da rest, H D = some (HO.lst acc) ∧ Rps X.K F H acc da ∧
      lcL g t m vs (x.2.drop i) ρ = .ok (ρe, rest) ∧ da ++ rest = rs) ?_ (fun i H hi ⟨ρ, F, re, hs, mo, _⟩ => hG F H mo.toMono) (fun i v H H' hi ⟨ρ, F, re, hs, mo, nF, acc, da, rest, hacc, racc, hl, hrs⟩ y => ?_) (fun H ⟨ρ, F, re, hs, mo, nF, acc, da, rest, hacc, racc, hl, hrs⟩ => ?_)
    · have g1 : Grow F1 H1 F1 (upd H1 D (HO.lst [])) := Grow.att re1.dom nD
      refine ⟨x.1, F1, (re1.wipe hvo).grow g1, fun j hj => ?_, g1.mn, fun z => re1.dom D z nD, [], [], rs, upd_same, .nil, by simpa using hrun, rfl⟩
      have := List.all_eq_true.mp hset j hj
      rw [wipeE_get (no hj)]
      cases e : gt x.1 j with
      | none => rw [e] at this; cases this
      | some d => exact ⟨d, gt_ok e⟩
    · obtain ⟨d, e, gr, rp⟩ := hY F i H v H' mo.toMono re.dom y
      have ed : x.2.drop i = d :: x.2.drop (i + 1) := by
        have hl := (List.getElem?_eq_some_iff.mp e)
        rw [List.drop_eq_getElem_cons hl.1, hl.2]
      rw [ed] at hl
      have re' := re.grow gr
      obtain ⟨B', reB, hB0, hBA, back, hBW⟩ := re'.rebase hs
      rw [hmg] at hBW
      have hDB : D ∉ B'.A0 := fun z => by
        obtain ⟨j, hj, q⟩ := hBA D z
        exact hDw j hj q
      have hD' : B'.H0 D = some (HO.lst acc) := by rw [hB0]; exact gr.same _ _ hacc
      have stay : ∀ {F' ρ' σ' H'}, RE X.K B' own F' ρ' σ' H' → H' D = some (HO.lst acc) := fun r => r.old D _ hD' hDB
      have setd : ∀ {F' ρ' σ' H'}, RE X.K B' own F' ρ' σ' H' → ∀ j ∈ own, ∃ d, ρ'[j]? = some (some d) := fun r j hj => by
        have : j ∈ B'.IO.map (·.1) := by rw [B'.hio]; exact hj
        obtain ⟨p, hp, rfl⟩ := List.mem_map.mp this
        exact (r.io p hp).2.2
      have h0 : lcL g t m vs (d :: x.2.drop (i + 1)) ρ = (Rs.opt (g d (wipeE ρ vs)) fun ρ1 => (t ρ1).bind fun x' => if x'.2 then (m x'.1).bind fun y => (lcL g t m vs (x.2.drop (i + 1)) y.1).bind fun z => .ok (z.1, y.2 :: z.2)
        else lcL g t m vs (x.2.drop (i + 1)) x'.1) := rfl
      rw [h0] at hl
      cases hg : g d (wipeE ρ vs) with
      | none => rw [hg] at hl; cases hl
      | some ρ1 =>
        rw [hg] at hl
        obtain ⟨⟨ρ2, c⟩, ht, hl⟩ := Rs.bind_ok hl
        refine ⟨⟨B', hBW⟩, wipeE ρ vs, F, d, reB, rp, ρ1, hg, fun σ2 H2 F2 re2 mo2 len2 out2 => ?_⟩
        have hw : L2.wipe σ2 vs = L2.wipe σ vs := by
          have h1 := wipe_eq (vs := vs) len2 (fun k hk => out2 k fun z => hk (hts k z))
          rw [h1]
          exact wipe_eq (by rw [wipe_length]) fun k hk => wipe_get hk
        have fin : ∀ {ρ4 F4 H4}, RE X.K B' own F4 ρ4 σ2 H4 → RE X.K B own F4 (wipeE ρ4 vs) (L2.wipe σ vs) H4 := fun r => by
          have := (back r).wipe hvo
          rw [hw] at this; exact this
        have nFD : ∀ {F4 H4}, Mn X.K F H' F4 H4 → ¬ F4 D := fun {F4 H4} mm z => by
          rcases mm.new D z with q | q
          · exact nF q
          · rw [gr.same _ _ hacc] at q; cases q
        refine ⟨hw, ⟨B', hBW⟩, ρ1, F2, re2, ?_⟩
        rw [ht]
        intro H3 F3 re3 mo3
        cases c with
        | false =>
          refine ⟨ρ2, F3, fin re3, fun j hj => ?_, mo.trans (gr.mn.trans (mo2.trans mo3)), nFD (mo2.trans mo3), acc, da, rest, stay re3, racc.mono (gr.mono.trans (mo2.trans mo3).toMono), hl, hrs⟩
          rw [wipeE_get (no hj)]
          exact setd re3 j hj
        | true =>
          obtain ⟨⟨ρ3, r⟩, hm, hl⟩ := Rs.bind_ok hl
          obtain ⟨⟨ρ4, rest'⟩, hl2, he2⟩ := Rs.bind_ok hl
          cases he2
          refine ⟨⟨B', hBW⟩, ρ2, F3, re3, ?_⟩
          rw [hm]
          intro u H4 F4 re4 mo4 rp4
          have hD4 := stay re4
          have mA : Mn X.K F H' F4 H4 := mo2.trans (mo3.trans mo4)
          have nF4 := nFD mA
          obtain ⟨re5, mo5⟩ := (fin re4).updFree (o' := HO.lst (acc ++ [u])) nF4 hD0 hDw hD4 (fun xs => ⟨(fun z => nomatch z), (fun q z => nomatch z)⟩)
          have la : acc.length = da.length := racc.length
          refine ⟨acc, hD4, ?_, ρ3, F4, re5, fun j hj => ?_, mo.trans (gr.mn.trans (mA.trans mo5)), nF4, acc ++ [u], da ++ [r], rest', upd_same, ?_, hl2, by rw [← hrs]; simp⟩
          · rw [← hrs] at hlen
            simp only [List.length_append, List.length_cons] at hlen
            omega
          · rw [wipeE_get (no hj)]
            exact setd re4 j hj
          · exact (racc.mono (gr.mono.trans (mA.toMono.trans mo5.toMono))).append (.one (rp4.mono mo5.toMono))
    · have e0 : x.2.drop x.2.length = [] := by simp
      rw [e0] at hl
      cases hl
      have la : da = rs := by simpa using hrs
      subst la
      have nH : H0' D = none := by
        cases e : H0' D with
        | none => rfl
        | some o => exact absurd nD (mo1.keep D (by rw [e]; simp))
      exact w2 D H F (re1.kept re mo.toMono hvo) (mo1.trans mo) nF nH hD0 (fun j hj => by have := hDw j hj; rwa [wipe_get (no hj)] at this) (.lst hacc racc)
theorem do_lc {elt tg iter : Expr} {ifs : List Expr} {scope : Scope} {ownp : List (Str × Nat)} {pos : Pos} {it : IM} {g : GM} {t : TM} {m : EM} {vs ts : List Nat} (hc : X.calm = true) (nd : X.N.Nodup) (hmg : B.mg = X.mg) (hi : Di X B own tg iter it) (ok : BlkOk X.N X.env.scope scope ownp)
    (hg : ∀ (s : Shared) (H : Hp) (C : Addr) (cl : List (Str × Addr)) (fp : List Addr) (b : Bs own), b.W = (fun _ _ _ _ => False) → b.mg = X.mg → Dg (X.blk s H scope (compEnvC scope cl C X.env) fp) b own own ts tg g)
    (ht : ∀ (s : Shared) (H : Hp) (C : Addr) (cl : List (Str × Addr)) (fp : List Addr) (b : Bs own), b.W = (fun _ _ _ _ => False) → b.mg = X.mg → Dts (X.blk s H scope (compEnvC scope cl C X.env) fp) b own ifs t)
    (he : ∀ (s : Shared) (H : Hp) (C : Addr) (cl : List (Str × Addr)) (fp : List Addr) (b : Bs own), b.W = (fun _ _ _ _ => False) → b.mg = X.mg → De (X.blk s H scope (compEnvC scope cl C X.env) fp) b own elt m)
    (hv : ownp.map (·.2) = vs := by rfl) (hts : ∀ i ∈ ts, i ∈ vs := by decide) (hvo : ∀ v ∈ vs, v ∉ own := by decide) (hs : ∀ x, foldedSetIterable iter X.env x = pure x := by intro _; rfl) : Do X B own (.ListComp elt [⟨tg, iter, ifs, 0⟩] scope pos) (mLc own it g t m vs) := by
  subst hv
  exact pe_imp (pe_lc hc nd hi ok (fun s H C cl fp => pg_ex (t := fun b : Bq own X.mg => tDG X.K b.1 own own ts g) fun b => hg s H C cl fp b.1 b.2.1 b.2.2) (fun s H C cl fp => pts_ex (t := fun b : Bq own X.mg => tDT X.K b.1 own t) fun b => ht s H C cl fp b.1 b.2.1 b.2.2) (fun s H C cl fp => pe_ex (t := fun b : Bq own X.mg => tD X.K b.1 own m) fun b => he s H C cl fp b.1 b.2.1 b.2.2) hs) (tO_lc (fun _ _ _ h => h) hmg hts hvo)
theorem ds_setLcO {i : Nat} {y : Str} {py spos : Pos} {bk ct : List Nat} {elt tg iter : Expr} {ifs : List Expr} {scope : Scope} {ownp : List (Str × Nat)} {pos : Pos} {it : IM} {g : GM} {t : TM} {m : EM} {vs ts : List Nat} (hc : X.calm = true) (nd : X.N.Nodup) (hmg : B.mg = X.mg) (hsw : swapsWith (.ListComp elt [⟨tg, iter, ifs, 0⟩] scope pos) (some (.Name y py)) spos.line X.env = pure true) (hi : Di X B own tg iter it) (ok : BlkOk X.N X.env.scope scope ownp)
    (hg : ∀ (s : Shared) (H : Hp) (C : Addr) (cl : List (Str × Addr)) (fp : List Addr) (b : Bs own), b.W = (fun _ _ _ _ => False) → b.mg = X.mg → Dg (X.blk s H scope (compEnvC scope cl C X.env) fp) b own own ts tg g)
    (ht : ∀ (s : Shared) (H : Hp) (C : Addr) (cl : List (Str × Addr)) (fp : List Addr) (b : Bs own), b.W = (fun _ _ _ _ => False) → b.mg = X.mg → Dts (X.blk s H scope (compEnvC scope cl C X.env) fp) b own ifs t)
    (he : ∀ (s : Shared) (H : Hp) (C : Addr) (cl : List (Str × Addr)) (fp : List Addr) (b : Bs own), b.W = (fun _ _ _ _ => False) → b.mg = X.mg → De (X.blk s H scope (compEnvC scope cl C X.env) fp) b own elt m)
    (ho : i ∉ io := by decide) (hy : X.N[i]? = some y := by rfl) (hyl : X.env.scope.names.lookup y = some .local := by rfl)
    (hv : ownp.map (·.2) = vs := by rfl) (hts : ∀ i ∈ ts, i ∈ vs := by decide) (hvo : ∀ v ∈ vs, v ∉ own := by decide) (hs : ∀ x, foldedSetIterable iter X.env x = pure x := by intro _; rfl) :
    Ds X B own ⟨i :: own, bk, ct⟩ (.Assign [.Name y py] (.ListComp elt [⟨tg, iter, ifs, 0⟩] scope pos) spos) (sSet i (mLc own it g t m vs)) := by
  subst hv
  refine ps_imp (ps_setLc hc nd hy hyl hsw hi ok (fun s H C cl fp => pg_ex (t := fun b : Bq own X.mg => tDG X.K b.1 own own ts g) fun b => hg s H C cl fp b.1 b.2.1 b.2.2) (fun s H C cl fp => pts_ex (t := fun b : Bq own X.mg => tDT X.K b.1 own t) fun b => ht s H C cl fp b.1 b.2.1 b.2.2) (fun s H C cl fp => pe_ex (t := fun b : Bq own X.mg => tD X.K b.1 own m) fun b => he s H C cl fp b.1 b.2.1 b.2.2) hs) fun D σ H ⟨ρ, F, re, w⟩ => ?_
  exact tO_lc (fun _ _ _ h => h) hmg hts hvo σ H _ ⟨ρ, F, re, w.bind fun y wy a H1 F1 re1 mo1 nF _ h0 hn hv => by
    have w1 : Wa B (kS X.K B ⟨i :: own, bk, ct⟩ D) F1 H1 (.ok (.nx (y.1.set i (some y.2)))) := wy.mono mo1
    exact w1 _ H1 F1 (re1.setO nF h0 hv (fun j hj e _ => hn j hj) ho) Mono.refl⟩
end
end Kd

end T_KD12
section T_KD13
set_option maxRecDepth 100000
set_option maxHeartbeats 1000000
/-! KD13: what a slot owns, lent to an expression. -/
namespace Kd
open PySem PySem.Spec PyProof.Rows L2

mutual
/-- no list, no dict in it -/
def flatD : PyData → Bool
  | .list _ => false
  | .dict _ => false
  | .tuple xs => flatAll xs
  | _ => true
def flatAll : List PyData → Bool
  | [] => true
  | x :: xs => flatD x && flatAll xs
end
mutual
theorem Rp.flat {K : PySem.W.Frag} {F F2 : Addr → Prop} {H : Hp} : ∀ {v : V} {d : PyData}, Rp K F H v d → flatD d = true → Rp K F2 H v d
  | _, _, .non, _ => .non
  | _, _, .bl b, _ => .bl b
  | _, _, .int i, _ => .int i
  | _, _, .str x, _ => .str x
  | _, _, .lst _ _, h => by cases h
  | _, _, .tup hl hs, h => .tup hl (Rps.flat hs h)
  | _, _, .dK _ _ _, h => by cases h
  | _, _, .dT _ _ _, h => by cases h
  | _, _, .exN _ _, h => by cases h
  | _, _, .exS _ _ _ _ _, h => by cases h
theorem Rps.flat {K : PySem.W.Frag} {F F2 : Addr → Prop} {H : Hp} : ∀ {vs : List V} {ds : List PyData}, Rps K F H vs ds → flatAll ds = true → Rps K F2 H vs ds
  | _, _, .nil, _ => .nil
  | _, _, .cons h t, q => by
    have q := Bool.and_eq_true_iff.mp q
    exact .cons (Rp.flat h q.1) (Rps.flat t q.2)
end
/-- what an owned slot may hold while others are lent -/
def contF : Option PyData → Bool
  | some (.list ds) => flatAll ds
  | some _ => false
  | none => true
section
variable {K : PySem.W.Frag} {io : List Nat} {B : Bs io} {own own' : List Nat} {F F' : Addr → Prop} {H H' : Hp} {ρ ρ' : Ev} {σ : Sl}
def lent (own own' : List Nat) (ρ : Ev) (σ : Sl) (a : Addr) : Prop := ∃ i d, i ∈ own ∧ i ∉ own' ∧ ρ[i]? = some (some d) ∧ σ[i]? = some (some (V.ref a))
theorem RE.thaw (r : RE K B own F ρ σ H) (sub : ∀ i ∈ own', i ∈ own) (hio : ∀ i ∈ io, i ∈ own') (r' : RE K B own' F' ρ' σ H') (m : Mn K (frzF own own' F ρ σ) H F' H') (hc : (own'.all fun i => contF ((ρ'[i]?).getD none)) = true) :
    RE K B own (fun a => F' a ∧ ¬ lent own own' ρ σ a) (keepE ρ' own' ρ) σ H' ∧ Mn K F H (fun a => F' a ∧ ¬ lent own own' ρ σ a) H' := by
  have len : ρ'.length = ρ.length := r'.len.trans r.len.symm
  have atIn : ∀ {i : Nat}, i ∈ own' → i < ρ.length → (keepE ρ' own' ρ)[i]? = ρ'[i]? := fun {i} h hl => keepE_in hl (by omega) h
  have atOut : ∀ {i : Nat}, i ∉ own' → (keepE ρ' own' ρ)[i]? = ρ[i]? := fun {i} h => keepE_get h
  have lenOf : ∀ {i : Nat} {o}, (keepE ρ' own' ρ)[i]? = some o → i < ρ.length := fun {i o} h => by
    have := (List.getElem?_eq_some_iff.mp h).1
    rwa [keepE_length] at this
  have notF : ∀ {a}, F a → ¬ lent own own' ρ σ a := fun {a} h ⟨i, d, h1, _, h3, h4⟩ => by
    obtain ⟨b, e, nF, _⟩ := r.ow i d h1 h3
    rw [h4] at e; cases e
    exact nF h
  have mo : Mono K F H (fun a => F' a ∧ ¬ lent own own' ρ σ a) H' := ⟨fun a h => ⟨m.sub a (.inl h), notF h⟩, fun a o h e => m.ex a o (.inl h) e, fun a xs h => m.tup a xs h⟩
  have stay : ∀ {a o}, lent own own' ρ σ a → H a = some o → H' a = some o ∧ F' a := fun {a o} ⟨i, d, h1, h2, h3, h4⟩ e => ⟨m.ex a o (.inr ⟨i, d, h1, h2, h3, h4⟩) e, m.sub a (.inr ⟨i, d, h1, h2, h3, h4⟩)⟩
  refine ⟨⟨by rw [keepE_length]; exact r.len, fun i d hi e => ?_, fun i d hi e => ?_, fun i j d e hi hj hn h1 h2 => ?_, fun a h => r'.dom a h.1, r'.old, fun a h => ⟨r'.fold a h, notF (r.fold a h)⟩, fun a h => r'.fnew a h.1, fun p hp => ?_, fun i e => ?_⟩, mo, fun a h => ?_, m.keep⟩
  · rw [atOut (fun z => hi (sub i z))] at e
    obtain ⟨v, h1, h2⟩ := r.fz i d hi e
    exact ⟨v, h1, h2.mono mo⟩
  · by_cases h' : i ∈ own'
    · have hl := lenOf e
      rw [atIn h' hl] at e
      obtain ⟨a, h1, h2, h3, h4⟩ := r'.ow i d h' e
      refine ⟨a, h1, fun z => h2 z.1, h3, ?_⟩
      have hf := List.all_eq_true.mp hc i h'
      rw [e] at hf
      cases h4 with
      | lst q w => exact .lst q (w.flat hf)
      | dK q w => cases hf
      | dT q w => cases hf
    · rw [atOut h'] at e
      obtain ⟨a, h1, h2, h3, h4⟩ := r.ow i d hi e
      have hL : lent own own' ρ σ a := ⟨i, d, hi, h', e, h1⟩
      refine ⟨a, h1, fun z => z.2 hL, h3, ?_⟩
      cases h4 with
      | lst q w => exact .lst (stay hL q).1 (w.mono mo)
      | dK q w => exact .dK (stay hL q).1 (w.mono mo)
      | dT q w => exact .dT (stay hL q).1 (w.mono mo)
  · have cross : ∀ {i j : Nat} {d e : PyData}, i ∈ own' → j ∉ own' → j ∈ own → (keepE ρ' own' ρ)[i]? = some (some d) → (keepE ρ' own' ρ)[j]? = some (some e) → σ[i]? ≠ σ[j]? := fun {i j d e} h1 h2 h3 h4 h5 z => by
      rw [atIn h1 (lenOf h4)] at h4
      rw [atOut h2] at h5
      obtain ⟨a, q1, q2, _⟩ := r'.ow i d h1 h4
      obtain ⟨b, w1, _, _, w4⟩ := r.ow j e h3 h5
      rw [q1, w1] at z
      cases z
      cases hb : H a with
      | none => exact w4.there hb
      | some o => exact q2 (stay ⟨j, e, h3, h2, h5, w1⟩ hb).2
    by_cases h3 : i ∈ own' <;> by_cases h4 : j ∈ own'
    · have q1 := h1
      have q2 := h2
      rw [atIn h3 (lenOf h1)] at q1
      rw [atIn h4 (lenOf h2)] at q2
      exact r'.ne i j d e h3 h4 hn q1 q2
    · exact cross h3 h4 hj h1 h2
    · exact fun z => cross h4 h3 hi h2 h1 z.symm
    · rw [atOut h3] at h1
      rw [atOut h4] at h2
      exact r.ne i j d e hi hj hn h1 h2
  · obtain ⟨h1, h2, d, h3⟩ := r'.io p hp
    have hl : p.1 < ρ.length := by have := (List.getElem?_eq_some_iff.mp h3).1; omega
    exact ⟨h1, sub _ h2, d, by rw [atIn h2 hl]; exact h3⟩
  · by_cases h' : i ∈ own'
    · rw [atIn h' (lenOf e)] at e; exact r'.un i e
    · rw [atOut h'] at e; exact r.un i e
  · rcases m.new a h.1 with z | z
    · rcases z with z | z
      · exact .inl z
      · exact absurd z h.2
    · exact .inr z
end
/-- an expression to which what the slots own is lent (but own'): its value has no list in it -/
def mBor (own' : List Nat) (m : EM) : EM := fun ρ => (m ρ).bind fun x => if (flatD x.2 && own'.all fun i => contF ((x.1[i]?).getD none)) = true then .ok (keepE x.1 own' ρ, x.2) else .bad
def flatL : PyData → Bool
  | .list ds => flatAll ds
  | _ => false
def mBorL (own' : List Nat) (m : EM) : EM := fun ρ => (m ρ).bind fun x => if (flatL x.2 && own'.all fun i => contF ((x.1[i]?).getD none)) = true then .ok (keepE x.1 own' ρ, x.2) else .bad
section
variable {X : Cx} {io : List Nat} {B : Bs io} {own : List Nat} {e : Expr} {m : EM}
theorem ExcW.from {K : PySem.W.Frag} {F F1 : Addr → Prop} {H : Hp} {c : Str} {x : Option PyData} (w : ExcW K B F H c x) (m : Mono K F H F1 H) : ExcW K B F1 H c x := ExcW.mono w m
theorem de_bor (own' : List Nat) (h : De X B own' e m) (sub : ∀ i ∈ own', i ∈ own := by decide) (hio : ∀ i ∈ io, i ∈ own' := by decide) : De X B own e (mBor own' m) :=
  pe_imp h fun σ H Q ⟨ρ, F, re, w⟩ => by
    obtain ⟨re1, mo1, _⟩ := re.freezeX sub hio
    refine ⟨ρ, _, re1, ?_⟩
    unfold mBor at w
    cases hm : m ρ with
    | bad => rw [hm] at w; exact w
    | exc c x => rw [hm] at w; exact ExcW.mono w mo1
    | ok x =>
      rw [hm] at w
      rw [Rs.bind] at w
      split at w
      · rename_i hc
        obtain ⟨hf, hc⟩ := Bool.and_eq_true_iff.mp hc
        intro v H' F' re' mn rp
        obtain ⟨re2, mn2⟩ := re.thaw sub hio re' mn hc
        exact w v H' _ re2 mn2 (rp.flat hf)
      · exact w.elim
theorem tDO_bor (own' : List Nat) (sub : ∀ i ∈ own', i ∈ own) (hio : ∀ i ∈ io, i ∈ own') : ∀ σ H Q, tDO X.K B own (mBorL own' m) σ H Q → tDO X.K B own' m σ H Q := fun σ H Q ⟨ρ, F, re, w⟩ => by
    obtain ⟨re1, mo1, _⟩ := re.freezeX sub hio
    refine ⟨ρ, _, re1, ?_⟩
    unfold mBorL at w
    cases hm : m ρ with
    | bad => rw [hm] at w; exact w
    | exc c x => rw [hm] at w; exact ExcW.mono w mo1
    | ok x =>
      rw [hm] at w
      rw [Rs.bind] at w
      split at w
      · rename_i hc
        obtain ⟨hf, hc⟩ := Bool.and_eq_true_iff.mp hc
        intro a H' F' re' mn nF hH h0 hn hv
        obtain ⟨re2, mn2⟩ := re.thaw sub hio re' mn hc
        refine w a H' _ re2 mn2 (fun z => nF z.1) hH h0 (fun j hj q => ?_) ?_
        · by_cases hj' : j ∈ own'
          · exact hn j hj' q
          · cases hg : ρ[j]? with
            | none =>
              have h1 := List.getElem?_eq_none_iff.mp hg
              have h2 := (List.getElem?_eq_some_iff.mp q).1
              have := re.len
              omega
            | some o =>
              cases o with
              | none => rw [re.un j hg] at q; cases q
              | some d =>
                obtain ⟨b, e1, _, _, e4⟩ := re.ow j d hj hg
                rw [q] at e1; cases e1
                exact e4.there hH
        · obtain ⟨x1, x2⟩ := x
          cases hv with
          | lst q w' => exact .lst q (w'.flat hf)
          | dK q w' => cases hf
          | dT q w' => cases hf
      · exact w.elim
theorem do_bor (own' : List Nat) (h : Do X B own' e m) (sub : ∀ i ∈ own', i ∈ own := by decide) (hio : ∀ i ∈ io, i ∈ own' := by decide) : Do X B own e (mBorL own' m) := pe_imp h (tDO_bor own' sub hio)
theorem tDO_of_tD : ∀ σ H Q, tD X.K B own m σ H Q → tDO X.K B own m σ H Q := fun σ H Q ⟨ρ, F, re, w⟩ => ⟨ρ, F, re, by
    cases q : m ρ with
    | bad => rw [q] at w; exact w
    | exc c x => rw [q] at w; exact w
    | ok x =>
      rw [q] at w
      intro a H' F' re' mo nF hz h0 hn hv
      obtain ⟨re2, mo2⟩ := re'.addF hv.there hn h0
      refine w _ H' _ re2 ⟨mo.toMono.trans mo2, fun b hb => ?_, mo.keep⟩ ((hv.mono mo2 rfl).rp (.inr rfl))
      rcases hb with hb | rfl
      · exact mo.new b hb
      · exact .inr hz⟩
def tBor (own' : List Nat) (t : TM) : TM := fun ρ => (t ρ).bind fun x => if (own'.all fun i => contF ((x.1[i]?).getD none)) = true then .ok (keepE x.1 own' ρ, x.2) else .bad
theorem dt_bor {t : TM} (own' : List Nat) (h : Dt X B own' e t) (sub : ∀ i ∈ own', i ∈ own := by decide) (hio : ∀ i ∈ io, i ∈ own' := by decide) : Dt X B own e (tBor own' t) :=
  pt_imp h fun σ H Q ⟨ρ, F, re, w⟩ => by
    obtain ⟨re1, mo1, _⟩ := re.freezeX sub hio
    refine ⟨ρ, _, re1, ?_⟩
    unfold tBor at w
    cases hm : t ρ with
    | bad => rw [hm] at w; exact w
    | exc c x => rw [hm] at w; exact ExcW.mono w mo1
    | ok x =>
      rw [hm] at w
      rw [Rs.bind] at w
      split at w
      · rename_i hc
        intro H' F' re' mn
        obtain ⟨re2, mn2⟩ := re.thaw sub hio re' mn hc
        exact w H' _ re2 mn2
      · exact w.elim
/-- name = [..], with what is owned lent -/
theorem ds_setLcB {i : Nat} {y : Str} {py spos : Pos} {bk ct : List Nat} {elt tg iter : Expr} {ifs : List Expr} {scope : Scope} {ownp : List (Str × Nat)} {pos : Pos} {it : IM} {g : GM} {t : TM} {m : EM} {vs ts : List Nat} (own' : List Nat) (hc : X.calm = true) (nd : X.N.Nodup) (hmg : B.mg = X.mg) (hsw : swapsWith (.ListComp elt [⟨tg, iter, ifs, 0⟩] scope pos) (some (.Name y py)) spos.line X.env = pure true) (hi : Di X B own' tg iter it) (ok : BlkOk X.N X.env.scope scope ownp)
    (hg : ∀ (s : Shared) (H : Hp) (C : Addr) (cl : List (Str × Addr)) (fp : List Addr) (b : Bs own'), b.W = (fun _ _ _ _ => False) → b.mg = X.mg → Dg (X.blk s H scope (compEnvC scope cl C X.env) fp) b own' own' ts tg g)
    (ht : ∀ (s : Shared) (H : Hp) (C : Addr) (cl : List (Str × Addr)) (fp : List Addr) (b : Bs own'), b.W = (fun _ _ _ _ => False) → b.mg = X.mg → Dts (X.blk s H scope (compEnvC scope cl C X.env) fp) b own' ifs t)
    (he : ∀ (s : Shared) (H : Hp) (C : Addr) (cl : List (Str × Addr)) (fp : List Addr) (b : Bs own'), b.W = (fun _ _ _ _ => False) → b.mg = X.mg → De (X.blk s H scope (compEnvC scope cl C X.env) fp) b own' elt m)
    (ho : i ∉ io := by decide) (hy : X.N[i]? = some y := by rfl) (hyl : X.env.scope.names.lookup y = some .local := by rfl)
    (sub : ∀ i ∈ own', i ∈ own := by decide) (hio : ∀ i ∈ io, i ∈ own' := by decide)
    (hv : ownp.map (·.2) = vs := by rfl) (hts : ∀ i ∈ ts, i ∈ vs := by decide) (hvo : ∀ v ∈ vs, v ∉ own' := by decide) (hs : ∀ x, foldedSetIterable iter X.env x = pure x := by intro _; rfl) :
    Ds X B own ⟨own.filter (· ≠ i), bk, ct⟩ (.Assign [.Name y py] (.ListComp elt [⟨tg, iter, ifs, 0⟩] scope pos) spos) (sSet i (mBorL own' (mLc own' it g t m vs))) := by
  subst hv
  refine ps_imp (ps_setLc hc nd hy hyl hsw hi ok (fun s H C cl fp => pg_ex (t := fun b : Bq own' X.mg => tDG X.K b.1 own' own' ts g) fun b => hg s H C cl fp b.1 b.2.1 b.2.2) (fun s H C cl fp => pts_ex (t := fun b : Bq own' X.mg => tDT X.K b.1 own' t) fun b => ht s H C cl fp b.1 b.2.1 b.2.2) (fun s H C cl fp => pe_ex (t := fun b : Bq own' X.mg => tD X.K b.1 own' m) fun b => he s H C cl fp b.1 b.2.1 b.2.2) hs) fun D σ H ⟨ρ, F, re, w⟩ => ?_
  exact tO_lc (fun _ _ _ h => h) hmg hts hvo σ H _ (tDO_bor own' sub hio σ H _ (tDO_of_tD σ H _ ⟨ρ, F, re, thE w fun ρ1 d1 v1 H1 F1 re1 mo1 rp1 w1 => w1 _ H1 F1 (re1.set rp1 ho) Mono.refl⟩))
theorem ds_setLcBO {i : Nat} {y : Str} {py spos : Pos} {bk ct : List Nat} {elt tg iter : Expr} {ifs : List Expr} {scope : Scope} {ownp : List (Str × Nat)} {pos : Pos} {it : IM} {g : GM} {t : TM} {m : EM} {vs ts : List Nat} (own' : List Nat) (hc : X.calm = true) (nd : X.N.Nodup) (hmg : B.mg = X.mg) (hsw : swapsWith (.ListComp elt [⟨tg, iter, ifs, 0⟩] scope pos) (some (.Name y py)) spos.line X.env = pure true) (hi : Di X B own' tg iter it) (ok : BlkOk X.N X.env.scope scope ownp)
    (hg : ∀ (s : Shared) (H : Hp) (C : Addr) (cl : List (Str × Addr)) (fp : List Addr) (b : Bs own'), b.W = (fun _ _ _ _ => False) → b.mg = X.mg → Dg (X.blk s H scope (compEnvC scope cl C X.env) fp) b own' own' ts tg g)
    (ht : ∀ (s : Shared) (H : Hp) (C : Addr) (cl : List (Str × Addr)) (fp : List Addr) (b : Bs own'), b.W = (fun _ _ _ _ => False) → b.mg = X.mg → Dts (X.blk s H scope (compEnvC scope cl C X.env) fp) b own' ifs t)
    (he : ∀ (s : Shared) (H : Hp) (C : Addr) (cl : List (Str × Addr)) (fp : List Addr) (b : Bs own'), b.W = (fun _ _ _ _ => False) → b.mg = X.mg → De (X.blk s H scope (compEnvC scope cl C X.env) fp) b own' elt m)
    (ho : i ∉ io := by decide) (hy : X.N[i]? = some y := by rfl) (hyl : X.env.scope.names.lookup y = some .local := by rfl)
    (sub : ∀ i ∈ own', i ∈ own := by decide) (hio : ∀ i ∈ io, i ∈ own' := by decide)
    (hv : ownp.map (·.2) = vs := by rfl) (hts : ∀ i ∈ ts, i ∈ vs := by decide) (hvo : ∀ v ∈ vs, v ∉ own' := by decide) (hs : ∀ x, foldedSetIterable iter X.env x = pure x := by intro _; rfl) :
    Ds X B own ⟨i :: own, bk, ct⟩ (.Assign [.Name y py] (.ListComp elt [⟨tg, iter, ifs, 0⟩] scope pos) spos) (sSet i (mBorL own' (mLc own' it g t m vs))) := by
  subst hv
  refine ps_imp (ps_setLc hc nd hy hyl hsw hi ok (fun s H C cl fp => pg_ex (t := fun b : Bq own' X.mg => tDG X.K b.1 own' own' ts g) fun b => hg s H C cl fp b.1 b.2.1 b.2.2) (fun s H C cl fp => pts_ex (t := fun b : Bq own' X.mg => tDT X.K b.1 own' t) fun b => ht s H C cl fp b.1 b.2.1 b.2.2) (fun s H C cl fp => pe_ex (t := fun b : Bq own' X.mg => tD X.K b.1 own' m) fun b => he s H C cl fp b.1 b.2.1 b.2.2) hs) fun D σ H ⟨ρ, F, re, w⟩ => ?_
  exact tO_lc (fun _ _ _ h => h) hmg hts hvo σ H _ (tDO_bor own' sub hio σ H _ ⟨ρ, F, re, w.bind fun y wy a H1 F1 re1 mo1 nF _ h0 hn hv => by
    have w1 : Wa B (kS X.K B ⟨i :: own, bk, ct⟩ D) F1 H1 (.ok (.nx (y.1.set i (some y.2)))) := wy.mono mo1
    exact w1 _ H1 F1 (re1.setO nF h0 hv (fun j hj e _ => hn j hj) ho) Mono.refl⟩)
end
end Kd

end T_KD13
section T_KD14
set_option maxRecDepth 100000
set_option maxHeartbeats 1000000
/-! KD14: lists times ints. -/
namespace Kd
open PySem PySem.Spec PyProof.Rows L2
section
variable {X : Cx} {io : List Nat} {B : Bs io} {own : List Nat} {a b : Expr} {pos : Pos} {ma mb : EM}
def fRepL : PyData → PyData → Option PyData
  | .list xs, .int k => iff' (decide (-(2 ^ 63) ≤ k ∧ k < 2 ^ 63 ∧ xs.length * k.toNat ≤ sizeLine)) (.list (List.replicate k.toNat xs).flatten)
  | _, _ => none
theorem rps_rep {K : PySem.W.Frag} {F : Addr → Prop} {H : Hp} {vs : List V} {ds : List PyData} (h : Rps K F H vs ds) : ∀ k : Nat, Rps K F H (List.replicate k vs).flatten (List.replicate k ds).flatten
  | 0 => .nil
  | k + 1 => by rw [List.replicate_succ, List.replicate_succ, List.flatten_cons, List.flatten_cons]; exact h.append (rps_rep h k)
theorem do_repL (ha : Do X B own a ma) (hb : De X B own b mb) : Do X B own (.BinOp a .Mult b pos) (m2 fRepL ma mb) :=
  pe_imp (pe_op op_rep ha hb) fun σ H Q ⟨ρ, F, re, w⟩ => ⟨ρ, F, re, w.bind fun x w0 a0 H1 F1 re1 mo1 nF hH h0 hn hv => by
    obtain ⟨re2, mo2⟩ := re1.addF hv.there hn h0
    have mn2 : Mn X.K F H (fun b => F1 b ∨ b = a0) H1 := ⟨mo1.toMono.trans mo2, fun b hb => by
      rcases hb with hb | rfl
      · exact mo1.new b hb
      · exact .inr hH, mo1.keep⟩
    refine ⟨x.1, _, re2, thE (w0.mono mn2) fun ρ3 d3 v3 H3 F3 re3 mo3 rp3 w3 => ?_⟩
    obtain ⟨z, hz, w4⟩ := Wa.opt w3
    obtain ⟨x1, x2⟩ := x
    cases hv with
    | dK _ _ => cases hz
    | dT _ _ => cases hz
    | lst q hs =>
      cases rp3 <;> first | (cases hz; done) | skip
      obtain ⟨h1, rfl⟩ := iff_some hz
      obtain ⟨g1, g2, g3⟩ := of_decide_eq_true h1
      exact ⟨_, _, _, rfl, rfl, mo3.ex _ _ (.inr rfl) q, g1, g2, by rw [hs.length]; exact g3, fun p np => kO_new w4 re3 np (rps_rep (hs.mono (mo2.trans mo3.toMono)) _)⟩⟩
end
end Kd

end T_KD14
section T_KM0
set_option maxRecDepth 100000
/-! KM0: reckoning with the combinators. -/
namespace Kd
open PySem PySem.Spec PyProof.Rows L2

@[simp] theorem bind_ok' {α β : Type} (a : α) (f : α → Rs β) : (Rs.ok a).bind f = f a := (rfl)
@[simp] theorem bind_bad {α β : Type} (f : α → Rs β) : (Rs.bad : Rs α).bind f = .bad := (rfl)
@[simp] theorem bind_exc {α β : Type} (c : Str) (d : Option PyData) (f : α → Rs β) : (Rs.exc c d : Rs α).bind f = .exc c d := (rfl)
@[simp] theorem bind_ite {α β : Type} {c : Prop} [Decidable c] (x y : Rs α) (f : α → Rs β) : (if c then x else y).bind f = if c then x.bind f else y.bind f := by split <;> rfl
@[simp] theorem opt_some {α β : Type} (a : α) (f : α → Rs β) : Rs.opt (some a) f = f a := (rfl)
@[simp] theorem opt_none {α β : Type} (f : α → Rs β) : Rs.opt none f = .bad := (rfl)
@[simp] theorem quiet_ok' {α : Type} (a : α) : (Rs.ok a).quiet = .ok a := (rfl)
@[simp] theorem iff_true {α : Type} (x : α) : iff' true x = some x := (rfl)
@[simp] theorem iff_false {α : Type} (x : α) : iff' false x = none := (rfl)
@[simp] theorem gt_zero (a : Option PyData) (ρ : Ev) : gt (a :: ρ) 0 = a := (rfl)
@[simp] theorem gt_succ (a : Option PyData) (ρ : Ev) (n : Nat) : gt (a :: ρ) (n + 1) = gt ρ n := by
  unfold gt; rw [List.getElem?_cons_succ]
@[simp] theorem mV_ (i : Nat) (ρ : Ev) : mV i ρ = Rs.opt (gt ρ i) fun d => .ok (ρ, d) := (rfl)
@[simp] theorem mC_ (d : PyData) (ρ : Ev) : mC d ρ = .ok (ρ, d) := (rfl)
@[simp] theorem m1_ (f) (a : EM) (ρ : Ev) : m1 f a ρ = (a ρ).bind fun x => Rs.opt (f x.2) fun d => .ok (x.1, d) := (rfl)
@[simp] theorem m2_ (f) (a b : EM) (ρ : Ev) : m2 f a b ρ = (a ρ).bind fun x => (b x.1).bind fun y => Rs.opt (f x.2 y.2) fun d => .ok (y.1, d) := (rfl)
@[simp] theorem mAnd_ (a b : EM) (ρ : Ev) : mAnd a b ρ = (a ρ).bind fun x => Rs.opt (asB x.2) fun c => if c then b x.1 else .ok (x.1, .bool false) := (rfl)
@[simp] theorem mOr_ (a b : EM) (ρ : Ev) : mOr a b ρ = (a ρ).bind fun x => Rs.opt (asB x.2) fun c => if c then .ok (x.1, .bool true) else b x.1 := (rfl)
@[simp] theorem mNot_ (a : EM) (ρ : Ev) : mNot a ρ = (a ρ).bind fun x => Rs.opt (asB x.2) fun c => .ok (x.1, .bool (!c)) := (rfl)
@[simp] theorem mIf_ (t : TM) (a b : EM) (ρ : Ev) : mIf t a b ρ = (t ρ).bind fun x => if x.2 then a x.1 else b x.1 := (rfl)
@[simp] theorem tE_ (a : EM) (ρ : Ev) : tE a ρ = (a ρ).bind fun x => Rs.opt (truD x.2) fun c => .ok (x.1, c) := (rfl)
@[simp] theorem tB_ (a : EM) (ρ : Ev) : Kd.tB a ρ = (a ρ).bind fun x => Rs.opt (asB x.2) fun c => .ok (x.1, c) := (rfl)
@[simp] theorem tAnd_ (a b : TM) (ρ : Ev) : Kd.tAnd a b ρ = (a ρ).bind fun x => if x.2 then b x.1 else .ok (x.1, false) := (rfl)
@[simp] theorem tOr_ (a b : TM) (ρ : Ev) : Kd.tOr a b ρ = (a ρ).bind fun x => if x.2 then .ok (x.1, true) else b x.1 := (rfl)
@[simp] theorem tNot_ (a : TM) (ρ : Ev) : Kd.tNot a ρ = (a ρ).bind fun x => .ok (x.1, !x.2) := (rfl)
@[simp] theorem mArgs_nil (ρ : Ev) : mArgs [] ρ = .ok (ρ, []) := (rfl)
@[simp] theorem mArgs_cons (m : EM) (r : List EM) (ρ : Ev) : mArgs (m :: r) ρ = (m ρ).bind fun x => (mArgs r x.1).bind fun y => .ok (y.1, x.2 :: y.2) := (rfl)
@[simp] theorem mN_ (f) (as : List EM) (ρ : Ev) : mN f as ρ = (mArgs as ρ).bind fun x => Rs.opt (f x.2) fun d => .ok (x.1, d) := (rfl)
@[simp] theorem evA_nil (ρ : Ev) : evA [] ρ = .ok (ρ, []) := (rfl)
@[simp] theorem evA_e (m : EM) (r : List Ar) (ρ : Ev) : evA (.e m :: r) ρ = (m ρ).bind fun x => (evA r x.1).bind fun y => .ok (y.1, .inl x.2 :: y.2) := (rfl)
@[simp] theorem evA_io (j : Nat) (r : List Ar) (ρ : Ev) : evA (.io j :: r) ρ = Rs.opt (gt ρ j) fun _ => (evA r ρ).bind fun y => .ok (y.1, .inr j :: y.2) := (rfl)
@[simp] theorem res_nil (ρ : Ev) : resolve ρ [] = some [] := (rfl)
@[simp] theorem res_inl (ρ : Ev) (d : PyData) (r) : resolve ρ (.inl d :: r) = (resolve ρ r).map fun ds => d :: ds := (rfl)
@[simp] theorem res_inr (ρ : Ev) (j : Nat) (r) : resolve ρ (.inr j :: r) = (gt ρ j).bind fun d => (resolve ρ r).map fun ds => d :: ds := (rfl)
@[simp] theorem js_nil : jsOf [] = [] := (rfl)
@[simp] theorem js_e (m : EM) (r) : jsOf (.e m :: r) = jsOf r := (rfl)
@[simp] theorem js_io (j : Nat) (r) : jsOf (.io j :: r) = j :: jsOf r := (rfl)
@[simp] theorem setL_nil (ρ : Ev) (os) : setL ρ [] os = ρ := by cases os <;> rfl
@[simp] theorem setL_cons (ρ : Ev) (j : Nat) (js) (d : PyData) (ds) : setL ρ (j :: js) (d :: ds) = (setL ρ js ds).set j (some d) := (rfl)
@[simp] theorem mCall_ (f : FM) (as : List Ar) (dfl : List PyData) (ρ : Ev) : mCall f as dfl ρ = (evA as ρ).bind fun x => Rs.opt (resolve x.1 x.2) fun ds => (if (jsOf as).isEmpty then f (ds ++ dfl) else (f (ds ++ dfl)).quiet).bind fun y => .ok (setL x.1 (jsOf as) y.1, y.2) := (rfl)
@[simp] theorem sNx_ (ρ : Ev) : sNx ρ = .ok (.nx ρ) := (rfl)
@[simp] theorem sBk_ (ρ : Ev) : sBk ρ = .ok (.bk ρ) := (rfl)
@[simp] theorem sCt_ (ρ : Ev) : sCt ρ = .ok (.ct ρ) := (rfl)
@[simp] theorem sNo_ (ρ : Ev) : sNo ρ = .bad := (rfl)
@[simp] theorem sSet_ (i : Nat) (m : EM) (ρ : Ev) : sSet i m ρ = (m ρ).bind fun x => .ok (.nx (x.1.set i (some x.2))) := (rfl)
@[simp] theorem sE_ (m : EM) (ρ : Ev) : sE m ρ = (m ρ).bind fun x => .ok (.nx x.1) := (rfl)
@[simp] theorem sRt_ (m : EM) (ρ : Ev) : sRt m ρ = (m ρ).bind fun x => .ok (.rt x.1 x.2) := (rfl)
@[simp] theorem sIf_ (t : TM) (a b : SM) (ρ : Ev) : sIf t a b ρ = (t ρ).bind fun x => if x.2 then a x.1 else b x.1 := (rfl)
/-- what follows a statement -/
def thenS (b : SM) (f : Fl) : Rs Fl := match f with
  | .nx ρ' => b ρ'
  | f => .ok f
@[simp] theorem sSeq_ (a b : SM) (ρ : Ev) : sSeq a b ρ = (a ρ).bind (thenS b) := (rfl)
@[simp] theorem then_nx (b : SM) (ρ : Ev) : thenS b (.nx ρ) = b ρ := (rfl)
@[simp] theorem then_rt (b : SM) (ρ : Ev) (d) : thenS b (.rt ρ d) = .ok (.rt ρ d) := (rfl)
@[simp] theorem then_bk (b : SM) (ρ : Ev) : thenS b (.bk ρ) = .ok (.bk ρ) := (rfl)
@[simp] theorem then_ct (b : SM) (ρ : Ev) : thenS b (.ct ρ) = .ok (.ct ρ) := (rfl)
/-- a def's end -/
def endF (io : List Nat) (fr : Bool) (fl : Fl) : Rs (List PyData × PyData) := match fl with
  | .rt ρ d => Rs.opt (outs ρ io) fun os => .ok (os, d)
  | .nx ρ => if fr then .bad else Rs.opt (outs ρ io) fun os => .ok (os, .none)
  | _ => .bad
@[simp] theorem fnM_ (N : Nat) (io : List Nat) (fr : Bool) (m : SM) (ds : List PyData) : fnM N io fr m ds = (m (ini N ds)).bind (endF io fr) := (rfl)
@[simp] theorem end_rt (io fr ρ d) : endF io fr (.rt ρ d) = Rs.opt (outs ρ io) fun os => .ok (os, d) := (rfl)
@[simp] theorem end_nx (io ρ) : endF io false (.nx ρ) = Rs.opt (outs ρ io) fun os => .ok (os, .none) := (rfl)
@[simp] theorem outs_nil (ρ : Ev) : outs ρ [] = some [] := (rfl)
@[simp] theorem outs_cons (ρ : Ev) (i : Nat) (r) : outs ρ (i :: r) = (gt ρ i).bind fun d => (outs ρ r).map fun ds => d :: ds := (rfl)
@[simp] theorem ini_ (N : Nat) (ds : List PyData) : ini N ds = ds.map some ++ List.replicate (N - ds.length) none := (rfl)
@[simp] theorem gN_ (i : Nat) (d : PyData) (ρ : Ev) : gN i d ρ = some (ρ.set i (some d)) := (rfl)
@[simp] theorem gAll_nil (ρ : Ev) : gAll [] [] ρ = some ρ := (rfl)
@[simp] theorem gAll_cons (g : GM) (gs d ds) (ρ : Ev) : gAll (g :: gs) (d :: ds) ρ = (g d ρ).bind fun ρ' => gAll gs ds ρ' := (rfl)
@[simp] theorem gT_ (gs : List GM) (ds : List PyData) (ρ : Ev) : gT gs (.tuple ds) ρ = gAll gs ds ρ := (rfl)
@[simp] theorem sAs_ (g : GM) (m : EM) (ρ : Ev) : sAs g m ρ = (m ρ).bind fun x => Rs.opt (g x.2 x.1) fun ρ' => .ok (.nx ρ') := (rfl)
@[simp] theorem iOf_ (f m) (ρ : Ev) : iOf f m ρ = (m ρ).bind fun x => Rs.opt (f x.2) fun ds => .ok (x.1, ds) := (rfl)
@[simp] theorem iNg_ (f ms) (ρ : Ev) : iNg f ms ρ = (mArgs ms ρ).bind fun x => Rs.opt (f x.2) fun ds => .ok (x.1, ds) := (rfl)
@[simp] theorem sFor_ (it g b) (ρ : Ev) : sFor it g b ρ = (it ρ).bind fun x => forL g b x.2 x.1 := (rfl)
@[simp] theorem mIxO_ (i mb) (ρ : Ev) : mIxO i mb ρ = Rs.opt (gt ρ i) fun _ => (mb ρ).bind fun y => Rs.opt ((gt y.1 i).bind asL) fun ds => Rs.opt (fIx (.list ds) y.2) fun d => .ok (y.1, d) := (rfl)
@[simp] theorem mLenO_ (i) (ρ : Ev) : mLenO i ρ = Rs.opt ((gt ρ i).bind asL) fun ds => .ok (ρ, .int ds.length) := (rfl)
@[simp] theorem mMt_ (i f ms) (ρ : Ev) : mMt i f ms ρ = Rs.opt ((gt ρ i).bind asL) fun _ => (mArgs ms ρ).bind fun x => Rs.opt ((gt x.1 i).bind asL) fun ds => Rs.opt (f ds x.2) fun y => .ok (x.1.set i (some (.list y.1)), y.2) := (rfl)
@[simp] theorem sSto_ (i mi me) (ρ : Ev) : sSto i mi me ρ = (me ρ).bind fun x => Rs.opt (gt x.1 i) fun _ => (mi x.1).bind fun y => Rs.opt (asI y.2) fun k => Rs.opt ((gt y.1 i).bind asL) fun ds => Rs.opt (ixN ds.length k) fun j => .ok (.nx (y.1.set i (some (.list (ds.set j x.2))))) := (rfl)
@[simp] theorem sPar_ (i j ma mb) (ρ : Ev) : sPar i j ma mb ρ = (ma ρ).bind fun x => (mb x.1).bind fun y => .ok (.nx ((y.1.set i (some x.2)).set j (some y.2))) := (rfl)
@[simp] theorem sRtV_ (i) (ρ : Ev) : sRtV i ρ = Rs.opt (gt ρ i) fun d => .ok (.rt (ρ.set i none) d) := (rfl)
@[simp] theorem mPart_n (ρ : Ev) : mPart none ρ = .ok (ρ, none) := (rfl)
@[simp] theorem mPart_s (m) (ρ : Ev) : mPart (some m) ρ = (m ρ).bind fun x => Rs.opt (asI x.2) fun i => .ok (x.1, some i) := (rfl)
@[simp] theorem mSl_ (m lo hi) (ρ : Ev) : mSl m lo hi ρ = (m ρ).bind fun x => (mPart lo x.1).bind fun y => (mPart hi y.1).bind fun z => Rs.opt (fSl x.2 y.2 z.2) fun d => .ok (z.1, d) := (rfl)
@[simp] theorem tTrue_ (ρ : Ev) : tTrue ρ = .ok (ρ, true) := (rfl)
@[simp] theorem asB_b (b) : asB (.bool b) = some b := (rfl)
@[simp] theorem asI_i (i) : asI (.int i) = some i := (rfl)
@[simp] theorem asL_l (xs) : asL (.list xs) = some xs := (rfl)
@[simp] theorem asT_t (xs) : asT (.tuple xs) = some xs := (rfl)
@[simp] theorem truD_b (b) : truD (.bool b) = some b := (rfl)
@[simp] theorem truD_l (b) : truD (.list b) = some (!b.isEmpty) := (rfl)
@[simp] theorem truD_t (b) : truD (.tuple b) = some (!b.isEmpty) := (rfl)
@[simp] theorem truD_i (b) : truD (.int b) = some (b != 0) := (rfl)
@[simp] theorem truD_n : truD .none = some false := (rfl)
/-! ### operations -/
@[simp] theorem fAdd_i (i j) : fAdd (.int i) (.int j) = some (.int (i + j)) := (rfl)
@[simp] theorem fAdd_l (i j) : fAdd (.list i) (.list j) = iff' (decide (i.length + j.length ≤ sizeLine)) (.list (i ++ j)) := (rfl)
@[simp] theorem fAdd_t (i j) : fAdd (.tuple i) (.tuple j) = iff' (decide (i.length + j.length ≤ sizeLine)) (.tuple (i ++ j)) := (rfl)
@[simp] theorem fAdd_s (i j) : fAdd (.str i) (.str j) = iff' (decide (i.length + j.length ≤ sizeLine)) (.str (i ++ j)) := (rfl)
@[simp] theorem fSub_i (i j) : fSub (.int i) (.int j) = some (.int (i - j)) := (rfl)
@[simp] theorem fLt_i (i j) : fLt (.int i) (.int j) = some (.bool (decide (i < j))) := (rfl)
@[simp] theorem fLe_i (i j) : fLe (.int i) (.int j) = some (.bool (decide (i ≤ j))) := (rfl)
@[simp] theorem fGt_i (i j) : fGt (.int i) (.int j) = some (.bool (decide (j < i))) := (rfl)
@[simp] theorem fGe_i (i j) : fGe (.int i) (.int j) = some (.bool (decide (j ≤ i))) := (rfl)
@[simp] theorem fMul_i (i j) : fMul (.int i) (.int j) = iff' (mulOk i j) (.int (i * j)) := (rfl)
@[simp] theorem fMod_i (i j) : fMod (.int i) (.int j) = iff' (!decide (j = 0)) (.int (i.fmod j)) := by
  show iff' (j != 0) _ = _
  rw [show (j != 0) = !decide (j = 0) from rfl]
@[simp] theorem fDiv_i (i j) : fDiv (.int i) (.int j) = iff' (!decide (j = 0) && decide (j.natAbs < 1073741824)) (.int (i.fdiv j)) := by
  show iff' (j != 0 && decide (j.natAbs < 1073741824)) _ = _
  rw [show (j != 0) = !decide (j = 0) from rfl]
@[simp] theorem fPow_i (i j) : fPow (.int i) (.int j) = iff' (decide (0 ≤ j ∧ j ≤ 1000000 ∧ i.natAbs < 2 ^ 64)) (.int (i ^ j.toNat)) := (rfl)
@[simp] theorem fNeg_i (i) : fNeg (.int i) = some (.int (-i)) := (rfl)
@[simp] theorem fInt_i (i) : fInt [.int i] = some (.int i) := (rfl)
@[simp] theorem fInt_b (i) : fInt [.bool i] = some (.int (if i then 1 else 0)) := (rfl)
@[simp] theorem fLen_l (xs) : fLen [.list xs] = some (.int xs.length) := (rfl)
@[simp] theorem fLen_t (xs) : fLen [.tuple xs] = some (.int xs.length) := (rfl)
@[simp] theorem fList_l (xs) : fList [.list xs] = some (.list xs) := (rfl)
@[simp] theorem fList_t (xs) : fList [.tuple xs] = some (.list xs) := (rfl)
@[simp] theorem fTuple_l (xs) : fTuple [.list xs] = some (.tuple xs) := (rfl)
@[simp] theorem fTuple_t (xs) : fTuple [.tuple xs] = some (.tuple xs) := (rfl)
@[simp] theorem fIx_l (xs i) : fIx (.list xs) (.int i) = atI xs i := (rfl)
@[simp] theorem fIx_t (xs i) : fIx (.tuple xs) (.int i) = atI xs i := (rfl)
@[simp] theorem fSl_l (xs lo hi) : fSl (.list xs) lo hi = some (.list (cutD xs lo hi)) := (rfl)
@[simp] theorem fSl_t (xs lo hi) : fSl (.tuple xs) lo hi = some (.tuple (cutD xs lo hi)) := (rfl)
@[simp] theorem fTup_ (xs) : fTup xs = iff' (decide (xs.length ≤ sizeLine)) (.tuple xs) := (rfl)
@[simp] theorem fLst_ (xs) : fLst xs = iff' (decide (xs.length ≤ sizeLine)) (.list xs) := (rfl)
@[simp] theorem fMax2_ (i j) : fMax2 [.int i, .int j] = some (.int (if j > i then j else i)) := (rfl)
@[simp] theorem fMin2_ (i j) : fMin2 [.int i, .int j] = some (.int (if j < i then j else i)) := (rfl)
@[simp] theorem fApp_ (ds d) : fApp ds [d] = iff' (decide (ds.length < sizeLine)) (ds ++ [d], .none) := (rfl)
@[simp] theorem fIns_ (ds i d) : fIns ds [.int i, d] = iff' (decide (ds.length < sizeLine) && decide (0 ≤ i ∧ i < 2 ^ 63)) (ds.take i.toNat ++ [d] ++ ds.drop i.toNat, .none) := (rfl)
@[simp] theorem atI_n {α : Type} (xs : List α) (n : Nat) : atI xs (n : Int) = xs[n]? := by
  unfold atI ixN
  rw [if_pos (by omega)]
  by_cases h : n < xs.length
  · rw [if_pos (by omega)]; rfl
  · rw [if_neg (by omega), List.getElem?_eq_none (by omega)]; rfl
@[simp] theorem atI_0 {α : Type} (a : α) (xs : List α) : atI (a :: xs) 0 = some a := by
  have := atI_n (a :: xs) 0; simpa using this
@[simp] theorem atI_1 {α : Type} (a b : α) (xs : List α) : atI (a :: b :: xs) 1 = some b := by
  have := atI_n (a :: b :: xs) 1; simpa using this
@[simp] theorem atI_2 {α : Type} (a b c : α) (xs : List α) : atI (a :: b :: c :: xs) 2 = some c := by
  have := atI_n (a :: b :: c :: xs) 2; simpa using this
theorem sl : sizeLine = 16777216 := sizeLine_eq
@[simp] theorem isi_none (T) : fIsi T .none = some (.bool (isB "NoneType" T)) := (rfl)
@[simp] theorem isi_bool (T b) : fIsi T (.bool b) = some (.bool (isB "bool" T)) := (rfl)
@[simp] theorem isi_int (T b) : fIsi T (.int b) = some (.bool (isB "int" T)) := (rfl)
@[simp] theorem isi_str (T b) : fIsi T (.str b) = some (.bool (isB "str" T)) := (rfl)
@[simp] theorem isi_list (T b) : fIsi T (.list b) = some (.bool (isB "list" T)) := (rfl)
@[simp] theorem isi_tuple (T b) : fIsi T (.tuple b) = some (.bool (isB "tuple" T)) := (rfl)
theorem sh_i (i : Int) : SeqAt.shaped (.int i) = true := by simp [SeqAt.shaped, PyData.canLay0, PyData.depth]
theorem sh_b (i : Bool) : SeqAt.shaped (.bool i) = true := by simp [SeqAt.shaped, PyData.canLay0, PyData.depth]
@[simp] theorem fEq_ii (i j : Int) : fEq (.int i) (.int j) = some (.bool (decide (i = j))) := by
  simp only [fEq, sh2, sh_i, Bool.and_self, iff_true, PyData.eqv]
  rfl
@[simp] theorem fNe_ii (i j : Int) : fNe (.int i) (.int j) = some (.bool (!decide (i = j))) := by
  simp only [fNe, sh2, sh_i, Bool.and_self, iff_true, PyData.eqv]
  rfl
@[simp] theorem fEq_bb (i j : Bool) : fEq (.bool i) (.bool j) = some (.bool (i == j)) := by
  simp only [fEq, sh2, sh_b, Bool.and_self, iff_true, PyData.eqv]
@[simp] theorem fNe_bb (i j : Bool) : fNe (.bool i) (.bool j) = some (.bool (!(i == j))) := by
  simp only [fNe, sh2, sh_b, Bool.and_self, iff_true, PyData.eqv]
theorem shaped_of {d : PyData} (h : d.canLay0 = true) (hd : d.depth ≤ 64) : SeqAt.shaped d = true := by
  unfold SeqAt.shaped
  rw [h, decide_eq_true hd]; rfl
@[simp] theorem isN_n (d) : fIsN d .none = some (.bool (isNonD d)) := by cases d <;> rfl
@[simp] theorem isN_b (a b : Bool) : fIsN (.bool a) (.bool b) = some (.bool (a == b)) := (rfl)
@[simp] theorem notN_n (d) : fNotN d .none = some (.bool (!isNonD d)) := by cases d <;> rfl
@[simp] theorem notN_b (a b : Bool) : fNotN (.bool a) (.bool b) = some (.bool (!(a == b))) := (rfl)

/-! ### walks -/
@[simp] theorem for_nil (g b) (ρ : Ev) : forL g b [] ρ = .ok (.nx ρ) := (rfl)
theorem for_cons (g b d ds) (ρ : Ev) : forL g b (d :: ds) ρ = Rs.opt (g d ρ) fun ρ1 => (b ρ1).bind fun f => match f with
    | .nx ρ2 => forL g b ds ρ2
    | .ct ρ2 => forL g b ds ρ2
    | .bk ρ2 => .ok (.nx ρ2)
    | .rt ρ2 r => .ok (.rt ρ2 r) := rfl
@[simp] theorem rng1_ (j : Int) : rng1 [.int j] = iff' (decide (-(2 ^ 62) ≤ j ∧ j < 2 ^ 62)) (numL 0 j.toNat) := (rfl)
@[simp] theorem rng2_ (i j : Int) : rng2 [.int i, .int j] = iff' (decide (-(2 ^ 62) ≤ i ∧ i < 2 ^ 62 ∧ -(2 ^ 62) ≤ j ∧ j < 2 ^ 62)) (numL i (j - i).toNat) := (rfl)
theorem numL_eq (n : Nat) : numL 0 n = (List.range n).map fun i : Nat => .int i := by
  unfold numL
  congr 1
  funext i
  simp
@[simp] theorem lc_nil (g t m vs) (ρ : Ev) : lcL g t m vs [] ρ = .ok (ρ, []) := (rfl)
theorem lc_cons (g t m vs d ds) (ρ : Ev) : lcL g t m vs (d :: ds) ρ = Rs.opt (g d (wipeE ρ vs)) fun ρ1 => (t ρ1).bind fun x => if x.2 then (m x.1).bind fun y => (lcL g t m vs ds y.1).bind fun z => .ok (z.1, y.2 :: z.2)
    else lcL g t m vs ds x.1 := rfl
@[simp] theorem mLc_ (own it g t m vs) (ρ : Ev) : mLc own it g t m vs ρ = (it ρ).bind fun x => Rs.opt (allSet own x.1) fun _ => (lcL g t m vs x.2 x.1).quiet.bind fun y => Rs.opt (fLst y.2) fun d => .ok (keepE x.1 vs y.1, d) := (rfl)
@[simp] theorem allSet_nil (ρ : Ev) : allSet [] ρ = some () := (rfl)
@[simp] theorem wipe_nil (ρ : Ev) : wipeE ρ [] = ρ := (rfl)
@[simp] theorem wipe_cons (ρ : Ev) (v vs) : wipeE ρ (v :: vs) = (wipeE ρ vs).set v none := (rfl)
@[simp] theorem keep_nil (ρ1 ρ : Ev) : keepE ρ1 [] ρ = ρ := (rfl)
@[simp] theorem keep_cons (ρ1 ρ : Ev) (v vs) : keepE ρ1 (v :: vs) ρ = (keepE ρ1 vs ρ).set v ((ρ1[v]?).getD none) := (rfl)
/-- a comprehension whose element leaves all else as it is -/
theorem lc_map {g : GM} {m : EM} {vs : List Nat} {ρw : Ev} (G : PyData → Ev) (f : PyData → PyData) :
    ∀ (ds : List PyData) (ρ : Ev), wipeE ρ vs = ρw → (∀ d ∈ ds, g d ρw = some (G d) ∧ m (G d) = .ok (G d, f d) ∧ wipeE (G d) vs = ρw) → ∃ ρ', lcL g tTrue m vs ds ρ = .ok (ρ', ds.map f) ∧ wipeE ρ' vs = ρw
  | [], ρ, hw, _ => ⟨ρ, rfl, hw⟩
  | d :: ds, ρ, hw, h => by
    obtain ⟨h1, h2, h3⟩ := h d List.mem_cons_self
    obtain ⟨ρ', q1, q2⟩ := lc_map G f ds (G d) h3 fun d' hd => h d' (List.mem_cons_of_mem _ hd)
    refine ⟨ρ', ?_, q2⟩
    rw [lc_cons, hw, h1]
    simp only [opt_some, tTrue_, bind_ok', if_true, h2, q1, List.map_cons]
theorem lc_filter {g : GM} {t : TM} {m : EM} {vs : List Nat} {ρw : Ev} (G : PyData → Ev) (p : PyData → Bool) (f : PyData → PyData) :
    ∀ (ds : List PyData) (ρ : Ev), wipeE ρ vs = ρw → (∀ d ∈ ds, g d ρw = some (G d) ∧ t (G d) = .ok (G d, p d) ∧ (p d = true → m (G d) = .ok (G d, f d)) ∧ wipeE (G d) vs = ρw) →
      ∃ ρ', lcL g t m vs ds ρ = .ok (ρ', (ds.filter p).map f) ∧ wipeE ρ' vs = ρw
  | [], ρ, hw, _ => ⟨ρ, rfl, hw⟩
  | d :: ds, ρ, hw, h => by
    obtain ⟨h1, h2, h3, h4⟩ := h d List.mem_cons_self
    obtain ⟨ρ', q1, q2⟩ := lc_filter G p f ds (G d) h4 fun d' hd => h d' (List.mem_cons_of_mem _ hd)
    refine ⟨ρ', ?_, q2⟩
    rw [lc_cons, hw, h1]
    simp only [opt_some, h2, bind_ok']
    cases hp : p d with
    | true => simp only [if_true, h3 hp, bind_ok', q1, List.filter_cons, hp, List.map_cons]
    | false => simp only [if_false, Bool.false_eq_true, q1, List.filter_cons, hp]
/-- what stands behind a comprehension of one name, or two -/
theorem keep1 {ρ ρ' : Ev} {i : Nat} (h : wipeE ρ' [i] = wipeE ρ [i]) (hl : i < ρ.length) : keepE ρ [i] ρ' = ρ := by
  simp only [wipe_cons, wipe_nil] at h
  simp only [keep_cons, keep_nil]
  have h2 : (ρ'.set i none).set i ((ρ[i]?).getD none) = (ρ.set i none).set i ((ρ[i]?).getD none) := by rw [h]
  rw [List.set_set, List.set_set] at h2
  rw [h2, List.getElem?_eq_getElem hl]
  simp
/-- [e for x in ds]: the slot i is x's -/
theorem mLc_map {it : IM} {m : EM} {i : Nat} {ρ : Ev} {ds : List PyData} (f : PyData → PyData) (hi : i < ρ.length) (hit : it ρ = .ok (ρ, ds)) (hl : ds.length ≤ sizeLine) (hm : ∀ d ∈ ds, m (ρ.set i (some d)) = .ok (ρ.set i (some d), f d)) :
    mLc [] it (gN i) tTrue m [i] ρ = .ok (ρ, .list (ds.map f)) := by
  obtain ⟨ρ', q1, q2⟩ := lc_map (g := gN i) (m := m) (vs := [i]) (ρw := wipeE ρ [i]) (fun d => ρ.set i (some d)) f ds ρ rfl fun d hd => ⟨by simp, hm d hd, by simp⟩
  rw [mLc_, hit]
  simp only [bind_ok', allSet_nil, opt_some, q1, quiet_ok', fLst_, List.length_map, decide_eq_true hl, iff_true]
  rw [keep1 q2 hi]
theorem mLc_filter {it : IM} {t : TM} {m : EM} {i : Nat} {ρ : Ev} {ds : List PyData} (p : PyData → Bool) (f : PyData → PyData) (hi : i < ρ.length) (hit : it ρ = .ok (ρ, ds)) (hl : ds.length ≤ sizeLine) (ht : ∀ d ∈ ds, t (ρ.set i (some d)) = .ok (ρ.set i (some d), p d))
    (hm : ∀ d ∈ ds, p d = true → m (ρ.set i (some d)) = .ok (ρ.set i (some d), f d)) : mLc [] it (gN i) t m [i] ρ = .ok (ρ, .list ((ds.filter p).map f)) := by
  obtain ⟨ρ', q1, q2⟩ := lc_filter (g := gN i) (t := t) (m := m) (vs := [i]) (ρw := wipeE ρ [i]) (fun d => ρ.set i (some d)) p f ds ρ rfl fun d hd => ⟨by simp, ht d hd, hm d hd, by simp⟩
  rw [mLc_, hit]
  have hl2 : (ds.filter p).length ≤ sizeLine := Nat.le_trans (List.length_filter_le _ _) hl
  simp only [bind_ok', allSet_nil, opt_some, q1, quiet_ok', fLst_, List.length_map, decide_eq_true hl2, iff_true]
  rw [keep1 q2 hi]
theorem boolsD_map {α : Type} (f : α → Bool) (xs : List α) : boolsD (xs.map fun x => .bool (f x)) = some (xs.map f) := by
  induction xs with
  | nil => rfl
  | cons x xs ih => simp only [List.map_cons, boolsD, ih, Option.map_some]
@[simp] theorem fAll_map (f : PyData → Bool) (xs : List PyData) : fAll [.list (xs.map fun x => .bool (f x))] = some (.bool (xs.all f)) := by
  simp only [fAll, boolsD_map, Option.map_some, List.all_map]; rfl
@[simp] theorem fAny_map (f : PyData → Bool) (xs : List PyData) : fAny [.list (xs.map fun x => .bool (f x))] = some (.bool (xs.any f)) := by
  simp only [fAny, boolsD_map, Option.map_some, List.any_map]; rfl
theorem lay_all {xs : List PyData} (h : PyData.canLayAll0 xs = true) : ∀ x ∈ xs, x.canLay0 = true := by
  induction xs with
  | nil => intro x hx; cases hx
  | cons a r ih =>
    simp only [PyData.canLayAll0, Bool.and_eq_true] at h
    intro x hx
    rcases List.mem_cons.mp hx with rfl | hx
    · exact h.1
    · exact ih h.2 x hx
theorem lay_tup {xs : List PyData} (h : (PyData.tuple xs).canLay0 = true) : ∀ x ∈ xs, x.canLay0 = true := lay_all (by simpa [PyData.canLay0] using h)
theorem lay_lst {xs : List PyData} (h : (PyData.list xs).canLay0 = true) : ∀ x ∈ xs, x.canLay0 = true := lay_all (by simpa [PyData.canLay0] using h)
end Kd

end T_KM0
section T_KW
/-! KW: what a mirror comes to, without its steps. -/
namespace Kd
open PySem PySem.Spec PyProof.Rows L2

/-- it ends well, and with this -/
def W {α : Type} (r : Rs α) (Q : α → Prop) : Prop := ∃ a, r = .ok a ∧ Q a
@[simp] theorem W_ok {α : Type} (a : α) (Q : α → Prop) : W (.ok a) Q ↔ Q a := ⟨fun ⟨b, h, q⟩ => by cases h; exact q, fun q => ⟨a, rfl, q⟩⟩
@[simp] theorem W_bad {α : Type} (Q : α → Prop) : W (.bad : Rs α) Q ↔ False := by
  constructor
  · rintro ⟨b, h, q⟩; cases h
  · exact False.elim
theorem W.mono {α : Type} {r : Rs α} {P Q : α → Prop} (h : W r P) (k : ∀ a, P a → Q a) : W r Q := by
  obtain ⟨a, e, p⟩ := h
  exact ⟨a, e, k a p⟩
theorem W_bind {α β : Type} {r : Rs α} {f : α → Rs β} {Q : β → Prop} (h : W r fun a => W (f a) Q) : W (r.bind f) Q := by
  obtain ⟨a, e, h⟩ := h
  rw [e]; exact h
/-- behind a statement -/
def KS (b : SM) (Q : Fl → Prop) (fl : Fl) : Prop := W (thenS b fl) Q
theorem W_seq {a b : SM} {ρ : Ev} {Q : Fl → Prop} (h : W (a ρ) (KS b Q)) : W (sSeq a b ρ) Q := W_bind h
@[simp] theorem KS_nx (b : SM) (Q : Fl → Prop) (ρ : Ev) : KS b Q (.nx ρ) ↔ W (b ρ) Q := Iff.rfl
@[simp] theorem KS_rt (b : SM) (Q : Fl → Prop) (ρ : Ev) (d) : KS b Q (.rt ρ d) ↔ Q (.rt ρ d) := W_ok _ _
@[simp] theorem KS_bk (b : SM) (Q : Fl → Prop) (ρ : Ev) : KS b Q (.bk ρ) ↔ Q (.bk ρ) := W_ok _ _
@[simp] theorem KS_ct (b : SM) (Q : Fl → Prop) (ρ : Ev) : KS b Q (.ct ρ) ↔ Q (.ct ρ) := W_ok _ _
/-- at a def's end -/
def KE (io : List Nat) (fr : Bool) (Q : List PyData × PyData → Prop) (fl : Fl) : Prop := W (endF io fr fl) Q
theorem W_fn {N : Nat} {io : List Nat} {fr : Bool} {m : SM} {ds : List PyData} {Q : List PyData × PyData → Prop} (h : W (m (ds.map some ++ List.replicate (N - ds.length) none)) (KE io fr Q)) : W (fnM N io fr m ds) Q := W_bind h
@[simp] theorem KE_rt (io fr ρ d) (Q) : KE io fr Q (.rt ρ d) ↔ W (Rs.opt (outs ρ io) fun os => .ok (os, d)) Q := Iff.rfl
@[simp] theorem KE_nx (io ρ) (Q) : KE io false Q (.nx ρ) ↔ W (Rs.opt (outs ρ io) fun os => .ok (os, .none)) Q := Iff.rfl
/-- a walk: what stands at each turn -/
theorem W_forL {g : GM} {b : SM} {Q : Fl → Prop} (I : List PyData → Ev → Prop) (hs : ∀ d r ρ, I (d :: r) ρ → ∃ ρ1, g d ρ = some ρ1 ∧ W (b ρ1) fun fl => match fl with
    | .nx ρ2 => I r ρ2
    | .ct ρ2 => I r ρ2
    | .bk ρ2 => Q (.nx ρ2)
    | .rt ρ2 v => Q (.rt ρ2 v)) (he : ∀ ρ, I [] ρ → Q (.nx ρ)) : ∀ (ds : List PyData) (ρ : Ev), I ds ρ → W (forL g b ds ρ) Q
  | [], ρ, h => by rw [for_nil]; exact (W_ok _ _).mpr (he ρ h)
  | d :: r, ρ, h => by
    obtain ⟨ρ1, h1, fl, h2, h3⟩ := hs d r ρ h
    rw [for_cons, h1, opt_some, h2, bind_ok']
    cases fl with
    | nx ρ2 => exact W_forL I hs he r ρ2 h3
    | ct ρ2 => exact W_forL I hs he r ρ2 h3
    | bk ρ2 => exact (W_ok _ _).mpr h3
    | rt ρ2 v => exact (W_ok _ _).mpr h3
theorem W_for {it : IM} {g : GM} {b : SM} {Q : Fl → Prop} {ρ ρ1 : Ev} {ds : List PyData} (I : List PyData → Ev → Prop) (hit : it ρ = .ok (ρ1, ds)) (h0 : I ds ρ1) (hs : ∀ d r ρ, I (d :: r) ρ → ∃ ρ1, g d ρ = some ρ1 ∧ W (b ρ1) fun fl => match fl with
    | .nx ρ2 => I r ρ2
    | .ct ρ2 => I r ρ2
    | .bk ρ2 => Q (.nx ρ2)
    | .rt ρ2 v => Q (.rt ρ2 v)) (he : ∀ ρ, I [] ρ → Q (.nx ρ)) : W (sFor it g b ρ) Q := by
  rw [sFor_, hit, bind_ok']
  exact W_forL I hs he ds ρ1 h0
theorem numL_succ (i : Int) (n : Nat) : numL i (n + 1) = .int i :: numL (i + 1) n := by
  unfold numL
  rw [List.range_succ_eq_map, List.map_cons, List.map_map]
  congr 1
  · simp
  · congr 1
    funext k
    simp [Function.comp, Int.add_assoc, Int.add_comm 1]
@[simp] theorem numL_zero (i : Int) : numL i 0 = [] := rfl
@[simp] theorem numL_len' (i : Int) (n : Nat) : (numL i n).length = n := by unfold numL; simp
/-- a walk over 0 .. n - 1 -/
theorem W_rng {it : IM} {g : GM} {b : SM} {Q : Fl → Prop} {ρ ρ1 : Ev} (n : Nat) (I : Nat → Ev → Prop) (hit : it ρ = .ok (ρ1, numL 0 n)) (h0 : I 0 ρ1) (hs : ∀ k ρ, k < n → I k ρ → ∃ ρ1, g (.int (k : Int)) ρ = some ρ1 ∧ W (b ρ1) fun fl => match fl with
    | .nx ρ2 => I (k + 1) ρ2
    | .ct ρ2 => I (k + 1) ρ2
    | .bk ρ2 => Q (.nx ρ2)
    | .rt ρ2 v => Q (.rt ρ2 v)) (he : ∀ ρ, I n ρ → Q (.nx ρ)) : W (sFor it g b ρ) Q := by
  refine W_for (fun r ρ => ∃ k, k + r.length = n ∧ r = numL (k : Int) (n - k) ∧ I k ρ) hit ⟨0, by simp, rfl, h0⟩ ?_ ?_
  · rintro d r ρ ⟨k, h1, h2, h3⟩
    have hk : k < n := by simp only [List.length_cons] at h1; omega
    rw [show n - k = (n - (k + 1)) + 1 by omega, numL_succ] at h2
    cases h2
    obtain ⟨ρ1, q1, q2⟩ := hs k ρ hk h3
    refine ⟨ρ1, q1, q2.mono fun fl h => ?_⟩
    have hr : k + 1 + (numL ((k : Int) + 1) (n - (k + 1))).length = n := by rw [numL_len']; omega
    cases fl with
    | nx ρ2 => exact ⟨k + 1, hr, by simp, h⟩
    | ct ρ2 => exact ⟨k + 1, hr, by simp, h⟩
    | bk ρ2 => exact h
    | rt ρ2 v => exact h
  · rintro ρ ⟨k, h1, h2, h3⟩
    simp only [List.length_nil, Nat.add_zero] at h1
    subst h1
    exact he ρ h3
/-- a comprehension: what stands at each turn; acc: what is there -/
theorem W_lcL {g : GM} {t : TM} {m : EM} {vs : List Nat} (I : List PyData → List PyData → Ev → Prop) (hs : ∀ acc d r ρ, I acc (d :: r) ρ → ∃ ρ1, g d (wipeE ρ vs) = some ρ1 ∧ W (t ρ1) fun x => (x.2 = true → W (m x.1) fun y => I (acc ++ [y.2]) r y.1) ∧ (x.2 = false → I acc r x.1)) :
    ∀ (ds acc : List PyData) (ρ : Ev), I acc ds ρ → W (lcL g t m vs ds ρ) fun z => I (acc ++ z.2) [] z.1
  | [], acc, ρ, h => by simpa using h
  | d :: r, acc, ρ, h => by
    obtain ⟨ρ1, h1, x, h2, h3, h4⟩ := hs acc d r ρ h
    rw [lc_cons, h1, opt_some, h2, bind_ok']
    cases hx : x.2 with
    | true =>
      obtain ⟨y, q1, q2⟩ := h3 hx
      obtain ⟨z, q3, q4⟩ := W_lcL I hs r _ y.1 q2
      rw [if_pos rfl, q1, bind_ok', q3, bind_ok']
      refine (W_ok _ _).mpr ?_
      simpa using q4
    | false =>
      rw [if_neg (by simp)]
      exact W_lcL I hs r acc x.1 (h4 hx)
theorem W_mLc {own : List Nat} {it : IM} {g : GM} {t : TM} {m : EM} {vs : List Nat} {ρ ρ1 : Ev} {ds : List PyData} {Q : Ev × PyData → Prop} (I : List PyData → List PyData → Ev → Prop) (hit : it ρ = .ok (ρ1, ds)) (ho : allSet own ρ1 = some ()) (hl : ds.length ≤ sizeLine) (h0 : I [] ds ρ1)
    (hs : ∀ acc d r ρ, I acc (d :: r) ρ → ∃ ρ2, g d (wipeE ρ vs) = some ρ2 ∧ W (t ρ2) fun x => (x.2 = true → W (m x.1) fun y => I (acc ++ [y.2]) r y.1) ∧ (x.2 = false → I acc r x.1))
    (hlen : ∀ acc ρ, I acc [] ρ → acc.length ≤ sizeLine) (he : ∀ acc ρ, I acc [] ρ → Q (keepE ρ1 vs ρ, .list acc)) : W (mLc own it g t m vs ρ) Q := by
  obtain ⟨z, q1, q2⟩ := W_lcL I hs ds [] ρ1 h0
  rw [List.nil_append] at q2
  rw [mLc_, hit]
  simp only [bind_ok', ho, opt_some, q1, quiet_ok', fLst_, decide_eq_true (hlen _ _ q2), iff_true]
  exact (W_ok _ _).mpr (he _ _ q2)
theorem rng1_in (m : Nat) (q : (-(2 ^ 62) ≤ (m : Int) ∧ (m : Int) < 2 ^ 62)) : rng1 [.int (m : Int)] = some (numL 0 m) := by
  rw [rng1_, decide_eq_true q, Int.toNat_natCast]
  rfl
theorem rng1_nat (m : Nat) (h : m ≤ sizeLine) : rng1 [.int (m : Int)] = some (numL 0 m) := rng1_in m ⟨by omega, by have := Nat.le_trans h (Nat.le_of_eq sl); omega⟩
theorem it_rng {m : EM} {ρ : Ev} {n : Nat} (h : m ρ = .ok (ρ, .int (n : Int))) (hn : n ≤ sizeLine) : iNg rng1 [m] ρ = .ok (ρ, numL 0 n) := by
  have e : mArgs [m] ρ = .ok (ρ, [.int (n : Int)]) := by
    rw [mArgs_cons, h]; rfl
  rw [iNg_, e, bind_ok', rng1_nat n hn, opt_some]
@[simp] theorem allSet_one (i : Nat) (ρ : Ev) : allSet [i] ρ = (gt ρ i).bind fun _ => some () := by
  unfold allSet
  cases h : gt ρ i <;> simp [h]
/-- the same, where what is gone through has changed something -/
theorem mLc_map1 {own : List Nat} {it : IM} {m : EM} {i : Nat} {ρ ρ1 : Ev} {ds : List PyData} (f : PyData → PyData) (hi : i < ρ1.length) (hit : it ρ = .ok (ρ1, ds)) (ho : allSet own ρ1 = some ()) (hl : ds.length ≤ sizeLine) (hm : ∀ d ∈ ds, m (ρ1.set i (some d)) = .ok (ρ1.set i (some d), f d)) :
    mLc own it (gN i) tTrue m [i] ρ = .ok (ρ1, .list (ds.map f)) := by
  obtain ⟨ρ', q1, q2⟩ := lc_map (g := gN i) (m := m) (vs := [i]) (ρw := wipeE ρ1 [i]) (fun d => ρ1.set i (some d)) f ds ρ1 rfl fun d hd => ⟨by simp, hm d hd, by simp⟩
  rw [mLc_, hit]
  have hl2 : (ds.map f).length ≤ sizeLine := by rw [List.length_map]; exact hl
  simp only [bind_ok', ho, opt_some, q1, quiet_ok', fLst_, decide_eq_true hl2, iff_true]
  rw [keep1 q2 hi]
/-- on to the next turn -/
def NX (P : Ev → Prop) : Fl → Prop
  | .nx ρ => P ρ
  | .ct ρ => P ρ
  | _ => False
@[simp] theorem NX_nx (P : Ev → Prop) (ρ : Ev) : NX P (.nx ρ) ↔ P ρ := Iff.rfl
@[simp] theorem NX_ct (P : Ev → Prop) (ρ : Ev) : NX P (.ct ρ) ↔ P ρ := Iff.rfl
/-- a walk over 0 .. n - 1 that ends by itself -/
theorem W_rng' {it : IM} {g : GM} {b : SM} {Q : Fl → Prop} {ρ ρ1 : Ev} (n : Nat) (I : Nat → Ev → Prop) (hit : it ρ = .ok (ρ1, numL 0 n)) (h0 : I 0 ρ1) (hs : ∀ k ρ, k < n → I k ρ → ∃ ρ1, g (.int (k : Int)) ρ = some ρ1 ∧ W (b ρ1) (NX (I (k + 1)))) (he : ∀ ρ, I n ρ → Q (.nx ρ)) : W (sFor it g b ρ) Q :=
  W_rng n I hit h0 (fun k ρ hk h => by
    obtain ⟨ρ1, q1, q2⟩ := hs k ρ hk h
    refine ⟨ρ1, q1, q2.mono fun fl h => ?_⟩
    cases fl with
    | nx ρ2 => exact h
    | ct ρ2 => exact h
    | bk ρ2 => exact h.elim
    | rt ρ2 v => exact h.elim) he
theorem W_for' {it : IM} {g : GM} {b : SM} {Q : Fl → Prop} {ρ ρ1 : Ev} {ds : List PyData} (I : List PyData → Ev → Prop) (hit : it ρ = .ok (ρ1, ds)) (h0 : I ds ρ1) (hs : ∀ d r ρ, I (d :: r) ρ → ∃ ρ1, g d ρ = some ρ1 ∧ W (b ρ1) (NX (I r))) (he : ∀ ρ, I [] ρ → Q (.nx ρ)) : W (sFor it g b ρ) Q :=
  W_for I hit h0 (fun d r ρ h => by
    obtain ⟨ρ1, q1, q2⟩ := hs d r ρ h
    refine ⟨ρ1, q1, q2.mono fun fl h => ?_⟩
    cases fl with
    | nx ρ2 => exact h
    | ct ρ2 => exact h
    | bk ρ2 => exact h.elim
    | rt ρ2 v => exact h.elim) he
@[simp] theorem atI_n1 {α : Type} (xs : List α) (n : Nat) : atI xs ((n : Int) + 1) = xs[n + 1]? := by
  have := atI_n xs (n + 1); simpa using this
@[simp] theorem atI_z {α : Type} (xs : List α) : atI xs 0 = xs[0]? := by
  have := atI_n xs 0; simpa using this
theorem W_forE {it : IM} {g : GM} {b : SM} {Q : Fl → Prop} {ρ : Ev} (I : List PyData → Ev → Prop) (hit : W (it ρ) fun x => I x.2 x.1) (hs : ∀ d r ρ, I (d :: r) ρ → ∃ ρ1, g d ρ = some ρ1 ∧ W (b ρ1) (NX (I r))) (he : ∀ ρ, I [] ρ → Q (.nx ρ)) : W (sFor it g b ρ) Q := by
  obtain ⟨x, e, h⟩ := hit
  exact W_for' (ρ1 := x.1) (ds := x.2) I e h hs he
/-! ### products -/
theorem mulOk_of {i j : Int} {a b : Nat} (hi : i.natAbs < 2 ^ a) (hj : j.natAbs < 2 ^ b) (h : a + b ≤ 900000) : mulOk i j = true := by
  have lg : ∀ (x k : Nat), x < 2 ^ k → x.log2 ≤ k := fun x k hx => by
    by_cases h0 : x = 0
    · subst h0; simp
    · exact Nat.le_of_lt ((Nat.log2_lt h0).mpr hx)
  unfold mulOk
  refine decide_eq_true ?_
  have h1 := lg _ _ hi
  have h2 := lg _ _ hj
  omega
/-! ### what can be shown -/
mutual
def tame : PyData → Bool
  | .none => true
  | .bool _ => true
  | .int i => decide (i.natAbs < 10 ^ 22)
  | .str x => PyData.strOk x
  | .list xs => tameAll xs
  | .tuple xs => tameAll xs
  | .dict _ => false
def tameAll : List PyData → Bool
  | [] => true
  | x :: xs => tame x && tameAll xs
end
mutual
theorem tame_lay : ∀ d : PyData, tame d = true → d.canLay0 = true
  | .none, _ => rfl
  | .bool _, _ => rfl
  | .int _, _ => rfl
  | .str x, h => h
  | .list xs, h => by simpa [PyData.canLay0] using tameAll_lay xs h
  | .tuple xs, h => by simpa [PyData.canLay0] using tameAll_lay xs h
  | .dict _, h => by cases h
theorem tameAll_lay : ∀ xs : List PyData, tameAll xs = true → PyData.canLayAll0 xs = true
  | [], _ => rfl
  | x :: xs, h => by
    have h := Bool.and_eq_true_iff.mp h
    simp only [PyData.canLayAll0, tame_lay x h.1, tameAll_lay xs h.2, Bool.and_self]
end
theorem pow_bound : 10 ^ 22 ≤ 2 ^ 1920 := by decide +kernel
mutual
theorem tame_show : ∀ d : PyData, tame d = true → d.showable = true
  | .none, _ => rfl
  | .bool _, _ => rfl
  | .int i, h => by
    have h := of_decide_eq_true h
    simp only [PyData.showable]
    refine decide_eq_true ?_
    by_cases h0 : i.natAbs = 0
    · rw [h0]; decide
    · exact (Nat.log2_lt h0).mpr (Nat.lt_of_lt_of_le h pow_bound)
  | .str x, h => rfl
  | .list xs, h => by simpa [PyData.showable] using tameAll_show xs h
  | .tuple xs, h => by simpa [PyData.showable] using tameAll_show xs h
  | .dict _, h => by cases h
theorem tameAll_show : ∀ xs : List PyData, tameAll xs = true → PyData.showableAll xs = true
  | [], _ => rfl
  | x :: xs, h => by
    have h := Bool.and_eq_true_iff.mp h
    simp only [PyData.showableAll, tame_show x h.1, tameAll_show xs h.2, Bool.and_self]
end
mutual
theorem tame_short : ∀ d : PyData, tame d = true → d.leavesShort 24 = true
  | .none, _ => rfl
  | .bool _, _ => rfl
  | .int i, h => by
    have h := of_decide_eq_true h
    have e := int_text_length_le10 (k := 22) (by decide) h
    simp only [PyData.leavesShort, PyData.shown]
    refine decide_eq_true ?_
    rw [PySem.ofString_length]
    omega
  | .str x, h => by
    simp only [PyData.leavesShort]
    refine List.all_eq_true.mpr fun c hc => decide_eq_true ?_
    have h : x.cps.all (fun c => decide (c < 0x110000)) = true := h
    rw [← Array.all_toList, List.all_eq_true] at h
    have := of_decide_eq_true (h c hc)
    omega
  | .list xs, h => by simpa [PyData.leavesShort] using tameAll_short xs h
  | .tuple xs, h => by simpa [PyData.leavesShort] using tameAll_short xs h
  | .dict _, h => by cases h
theorem tameAll_short : ∀ xs : List PyData, tameAll xs = true → PyData.leavesShortAll 24 xs = true
  | [], _ => rfl
  | x :: xs, h => by
    have h := Bool.and_eq_true_iff.mp h
    simp only [PyData.leavesShortAll, tame_short x h.1, tameAll_short xs h.2, Bool.and_self]
end
/-- of at most k layers, with at most n things -/
def Sm (k n : Nat) (d : PyData) : Prop := tame d = true ∧ d.depth ≤ k ∧ d.bulk ≤ n
theorem Sm.mono {k n k' n' : Nat} {d : PyData} (h : Sm k n d) (hk : k ≤ k') (hn : n ≤ n') : Sm k' n' d := ⟨h.1, Nat.le_trans h.2.1 hk, Nat.le_trans h.2.2 hn⟩
theorem Sm.lay {k n : Nat} {d : PyData} (h : Sm k n d) : d.canLay0 = true := tame_lay d h.1
theorem Sm.repr {k n : Nat} {d : PyData} (h : Sm k n d) (hk : k ≤ 60) (hn : n ≤ 600000) : fRepr [d] = some (.str d.shown) := by
  have h4 := PyData.shown_le_bulk 24 (by decide) d (tame_short d h.1)
  have h2 := h.2.1
  have h3 := h.2.2
  have h5 : d.shown.length ≤ sizeLine := by rw [sl]; omega
  simp only [fRepr, tame_lay d h.1, tame_show d h.1, Bool.and_self, Bool.true_and, decide_eq_true (Nat.le_trans h.2.1 hk), decide_eq_true h5, iff_true]
theorem Sm.shaped {k n : Nat} {d : PyData} (h : Sm k n d) (hk : k ≤ 64) : SeqAt.shaped d = true := shaped_of h.lay (Nat.le_trans h.2.1 hk)
theorem sm_none : Sm 0 0 .none := ⟨rfl, Nat.le_refl _, Nat.le_refl _⟩
theorem sm_bool (b : Bool) : Sm 0 0 (.bool b) := ⟨rfl, Nat.le_refl _, Nat.le_refl _⟩
theorem sm_int {i : Int} (h : i.natAbs < 10 ^ 22) : Sm 0 0 (.int i) := ⟨decide_eq_true h, Nat.le_refl _, Nat.le_refl _⟩
theorem sm_all {k n : Nat} : ∀ {xs : List PyData}, (∀ x ∈ xs, Sm k n x) → tameAll xs = true ∧ PyData.depthAll xs ≤ k ∧ PyData.bulkAll xs ≤ xs.length * (n + 1)
  | [], _ => ⟨rfl, by simp [PyData.depthAll], by simp [PyData.bulkAll]⟩
  | x :: xs, h => by
    obtain ⟨a1, a2, a3⟩ := sm_all (xs := xs) fun y hy => h y (List.mem_cons_of_mem _ hy)
    obtain ⟨b1, b2, b3⟩ := h x List.mem_cons_self
    refine ⟨by simp only [tameAll, a1, b1, Bool.and_self], ?_, ?_⟩
    · simp only [PyData.depthAll]; omega
    · simp only [PyData.bulkAll, List.length_cons, Nat.add_mul]; omega
theorem sm_tup {k n l : Nat} {xs : List PyData} (h : ∀ x ∈ xs, Sm k n x) (hl : xs.length ≤ l) : Sm (k + 1) (l * (n + 1)) (.tuple xs) := by
  obtain ⟨a1, a2, a3⟩ := sm_all h
  refine ⟨a1, by simp only [PyData.depth]; omega, ?_⟩
  simp only [PyData.bulk]
  exact Nat.le_trans a3 (Nat.mul_le_mul_right _ hl)
theorem sm_lst {k n l : Nat} {xs : List PyData} (h : ∀ x ∈ xs, Sm k n x) (hl : xs.length ≤ l) : Sm (k + 1) (l * (n + 1)) (.list xs) := by
  obtain ⟨a1, a2, a3⟩ := sm_all h
  refine ⟨a1, by simp only [PyData.depth]; omega, ?_⟩
  simp only [PyData.bulk]
  exact Nat.le_trans a3 (Nat.mul_le_mul_right _ hl)
theorem tameAll_append : ∀ xs ys : List PyData, tameAll (xs ++ ys) = (tameAll xs && tameAll ys)
  | [], ys => by simp [tameAll]
  | x :: xs, ys => by simp [tameAll, tameAll_append xs ys, Bool.and_assoc]
theorem depthAll_append : ∀ xs ys : List PyData, PyData.depthAll (xs ++ ys) = max (PyData.depthAll xs) (PyData.depthAll ys)
  | [], ys => by simp [PyData.depthAll]
  | x :: xs, ys => by simp [PyData.depthAll, depthAll_append xs ys, Nat.max_assoc]
theorem bulkAll_append : ∀ xs ys : List PyData, PyData.bulkAll (xs ++ ys) = PyData.bulkAll xs + PyData.bulkAll ys
  | [], ys => by simp [PyData.bulkAll]
  | x :: xs, ys => by simp [PyData.bulkAll, bulkAll_append xs ys, Nat.add_assoc]
theorem pick_of {P : PyData → Prop} {L : List PyData} (h : ∀ x ∈ L, P x) {k : Nat} (hk : k < L.length) : ∃ d, L[k]? = some d ∧ P d := ⟨L[k], by simp [hk], h _ (List.getElem_mem hk)⟩
theorem sm_mem {k n : Nat} : ∀ {xs : List PyData}, tameAll xs = true → PyData.depthAll xs ≤ k → PyData.bulkAll xs ≤ n → ∀ x ∈ xs, Sm k n x
  | x :: xs, h1, h2, h3, y, hy => by
    have h1 := Bool.and_eq_true_iff.mp h1
    simp only [PyData.depthAll] at h2
    simp only [PyData.bulkAll] at h3
    rcases List.mem_cons.mp hy with rfl | hy
    · exact ⟨h1.1, by omega, by omega⟩
    · exact sm_mem h1.2 (by omega) (by omega) y hy
theorem sm_sub {k n : Nat} {xs ys : List PyData} (h : tameAll xs = true ∧ PyData.depthAll xs ≤ k ∧ PyData.bulkAll xs ≤ n) (hs : ys.Sublist xs) : tameAll ys = true ∧ PyData.depthAll ys ≤ k ∧ PyData.bulkAll ys ≤ n := by
  induction hs with
  | slnil => exact h
  | cons a _ ih =>
    simp only [tameAll, PyData.depthAll, PyData.bulkAll, Bool.and_eq_true] at h
    exact ih ⟨h.1.2, by omega, by omega⟩
  | @cons_cons l1 l2 a hs ih =>
    simp only [tameAll, PyData.depthAll, PyData.bulkAll, Bool.and_eq_true] at h ⊢
    obtain ⟨⟨a1, a2⟩, a3, a4⟩ := h
    have b : ∀ {xs ys : List PyData}, ys.Sublist xs → PyData.bulkAll ys ≤ PyData.bulkAll xs := fun hs => by
      induction hs with
      | slnil => exact Nat.le_refl _
      | cons a _ ih => simp only [PyData.bulkAll]; omega
      | cons_cons a _ ih => simp only [PyData.bulkAll]; omega
    have c : ∀ {xs ys : List PyData}, ys.Sublist xs → PyData.depthAll ys ≤ PyData.depthAll xs := fun hs => by
      induction hs with
      | slnil => exact Nat.le_refl _
      | cons a _ ih => simp only [PyData.depthAll]; omega
      | cons_cons a _ ih => simp only [PyData.depthAll]; omega
    have d : ∀ {xs ys : List PyData}, ys.Sublist xs → tameAll xs = true → tameAll ys = true := fun hs => by
      induction hs with
      | slnil => exact id
      | cons a _ ih => simp only [tameAll, Bool.and_eq_true]; exact fun h => ih h.2
      | cons_cons a _ ih => simp only [tameAll, Bool.and_eq_true]; exact fun h => ⟨h.1, ih h.2⟩
    have := b hs
    have := c hs
    exact ⟨⟨a1, d hs a2⟩, by omega, by omega⟩
@[simp] theorem tame_n : tame PyData.none = true := (rfl)
@[simp] theorem tame_b (x) : tame (PyData.bool x) = true := (rfl)
@[simp] theorem tame_l (x) : tame (PyData.list x) = tameAll x := (rfl)
@[simp] theorem tame_t (x) : tame (PyData.tuple x) = tameAll x := (rfl)
@[simp] theorem tameAll_n : tameAll [] = true := (rfl)
@[simp] theorem tameAll_c (x xs) : tameAll (x :: xs) = (tame x && tameAll xs) := (rfl)
@[simp] theorem dep_n : PyData.none.depth = 0 := (rfl)
@[simp] theorem dep_b (x) : (PyData.bool x).depth = 0 := (rfl)
@[simp] theorem dep_i (x) : (PyData.int x).depth = 0 := (rfl)
@[simp] theorem dep_s (x) : (PyData.str x).depth = 0 := (rfl)
@[simp] theorem dep_l (x) : (PyData.list x).depth = PyData.depthAll x + 1 := (rfl)
@[simp] theorem dep_t (x) : (PyData.tuple x).depth = PyData.depthAll x + 1 := (rfl)
@[simp] theorem depAll_n : PyData.depthAll [] = 0 := (rfl)
@[simp] theorem depAll_c (x xs) : PyData.depthAll (x :: xs) = max x.depth (PyData.depthAll xs) := (rfl)
@[simp] theorem bul_n : PyData.none.bulk = 0 := (rfl)
@[simp] theorem bul_b (x) : (PyData.bool x).bulk = 0 := (rfl)
@[simp] theorem bul_i (x) : (PyData.int x).bulk = 0 := (rfl)
@[simp] theorem bul_s (x) : (PyData.str x).bulk = x.cps.size := (rfl)
@[simp] theorem bul_l (x) : (PyData.list x).bulk = PyData.bulkAll x := (rfl)
@[simp] theorem bul_t (x) : (PyData.tuple x).bulk = PyData.bulkAll x := (rfl)
@[simp] theorem bulAll_n : PyData.bulkAll [] = 0 := (rfl)
@[simp] theorem bulAll_c (x xs) : PyData.bulkAll (x :: xs) = x.bulk + 1 + PyData.bulkAll xs := (rfl)
theorem tame_i {i : Int} (h : i.natAbs < 10 ^ 22) : tame (.int i) = true := decide_eq_true h
@[simp] theorem tame_int (i : Int) : tame (.int i) = decide (i.natAbs < 10000000000000000000000) := (rfl)
/-- each thing of a list -/
def AllS (k n : Nat) (xs : List PyData) : Prop := ∀ x ∈ xs, Sm k n x
theorem allS_n {k n : Nat} : AllS k n [] := fun x h => by cases h
theorem allS_c {k n : Nat} {x : PyData} {xs : List PyData} : AllS k n (x :: xs) ↔ Sm k n x ∧ AllS k n xs := List.forall_mem_cons
theorem allS_a {k n : Nat} {xs ys : List PyData} : AllS k n (xs ++ ys) ↔ AllS k n xs ∧ AllS k n ys := by
  unfold AllS
  constructor
  · exact fun h => ⟨fun x hx => h x (List.mem_append_left _ hx), fun x hx => h x (List.mem_append_right _ hx)⟩
  · rintro ⟨h1, h2⟩ x hx
    rcases List.mem_append.mp hx with hx | hx
    · exact h1 x hx
    · exact h2 x hx
theorem allS_1 {k n : Nat} {x : PyData} {xs : List PyData} (h : AllS k n xs) (hx : Sm k n x) : AllS k n (x :: xs) := allS_c.mpr ⟨hx, h⟩
theorem sm_iff {k n : Nat} {x : PyData} : Sm k n x ↔ tame x = true ∧ x.depth ≤ k ∧ x.bulk ≤ n := Iff.rfl
@[simp] theorem fEq_ss (a b) : fEq (.str a) (.str b) = some (.bool (a == b)) := rfl
@[simp] theorem fNe_ss (a b) : fNe (.str a) (.str b) = some (.bool (!(a == b))) := rfl
end Kd

end T_KW
section T_KM2
/-! KM2: reckoning with the combinators of KD8, KD9. -/
namespace Kd
open PySem PySem.Spec PyProof.Rows L2
@[simp] theorem asQ_l (xs) : asQ (.list xs) = some xs := (rfl)
@[simp] theorem asQ_t (xs) : asQ (.tuple xs) = some xs := (rfl)
@[simp] theorem fRevL_l (xs) : fRevL (.list xs) = some (.list xs.reverse) := (rfl)
@[simp] theorem zipD_l (xs ys) : zipD [.list xs, .list ys] = some ((xs.zip ys).map fun p => .tuple [p.1, p.2]) := (rfl)
@[simp] theorem zipD_t (xs ys) : zipD [.tuple xs, .tuple ys] = some ((xs.zip ys).map fun p => .tuple [p.1, p.2]) := (rfl)
theorem lc2_cons (g t it1 g1 t1 m vs vs1 d ds) (ρ : Ev) : lcL2 g t it1 g1 t1 m vs vs1 (d :: ds) ρ = Rs.opt (g d (wipeE ρ vs)) fun ρ1 => (t ρ1).bind fun x => if x.2 then (it1 x.1).bind fun y => (lcL g1 t1 m vs1 y.2 y.1).bind fun z => (lcL2 g t it1 g1 t1 m vs vs1 ds z.1).bind fun w => .ok (w.1, z.2 ++ w.2)
    else lcL2 g t it1 g1 t1 m vs vs1 ds x.1 := (rfl)
@[simp] theorem lc2_nil (g t it1 g1 t1 m vs vs1) (ρ : Ev) : lcL2 g t it1 g1 t1 m vs vs1 [] ρ = .ok (ρ, []) := (rfl)
/-- what stands at the end of xs[-1] -/
theorem atI_m1 {α : Type} (xs : List α) (a : α) : atI (xs ++ [a]) (-1) = some a := by
  have hl : (xs ++ [a]).length = xs.length + 1 := by simp
  have h : ixN (xs ++ [a]).length (-1) = some xs.length := by
    unfold ixN
    rw [hl, if_neg (by omega), if_pos (by omega)]
    congr 1
    omega
  unfold atI
  rw [h]
  simp
theorem keepV {ρ ρ' : Ev} {vs : List Nat} (h : wipeE ρ' vs = wipeE ρ vs) : keepE ρ vs ρ' = ρ := by
  have hl : ρ'.length = ρ.length := by rw [← wipeE_length ρ' vs, h, wipeE_length]
  refine List.ext_getElem? fun k => ?_
  by_cases hk : k ∈ vs
  · by_cases hk2 : k < ρ.length
    · rw [keepE_in (by omega) hk2 hk]
    · rw [List.getElem?_eq_none (by rw [keepE_length]; omega), List.getElem?_eq_none (by omega)]
  · rw [keepE_get hk, ← wipeE_get (ρ := ρ') hk, h, wipeE_get hk]
theorem mLc_mapV {own : List Nat} {it : IM} {g : GM} {m : EM} {vs : List Nat} {ρ ρ1 : Ev} {ds : List PyData} (G : PyData → Ev) (f : PyData → PyData) (hit : it ρ = .ok (ρ1, ds)) (ho : allSet own ρ1 = some ()) (hl : ds.length ≤ sizeLine) (hm : ∀ d ∈ ds, g d (wipeE ρ1 vs) = some (G d) ∧ m (G d) = .ok (G d, f d) ∧ wipeE (G d) vs = wipeE ρ1 vs) :
    mLc own it g tTrue m vs ρ = .ok (ρ1, .list (ds.map f)) := by
  obtain ⟨ρ', q1, q2⟩ := lc_map (g := g) (m := m) (vs := vs) (ρw := wipeE ρ1 vs) G f ds ρ1 rfl hm
  rw [mLc_, hit]
  have hl2 : (ds.map f).length ≤ sizeLine := by rw [List.length_map]; exact hl
  simp only [bind_ok', ho, opt_some, q1, quiet_ok', fLst_, decide_eq_true hl2, Kd.iff_true]
  rw [keepV q2]
theorem mLc_filterV {own : List Nat} {it : IM} {g : GM} {t : TM} {m : EM} {vs : List Nat} {ρ ρ1 : Ev} {ds : List PyData} (G : PyData → Ev) (p : PyData → Bool) (f : PyData → PyData) (hit : it ρ = .ok (ρ1, ds)) (ho : allSet own ρ1 = some ()) (hl : ds.length ≤ sizeLine)
    (hm : ∀ d ∈ ds, g d (wipeE ρ1 vs) = some (G d) ∧ t (G d) = .ok (G d, p d) ∧ (p d = true → m (G d) = .ok (G d, f d)) ∧ wipeE (G d) vs = wipeE ρ1 vs) : mLc own it g t m vs ρ = .ok (ρ1, .list ((ds.filter p).map f)) := by
  obtain ⟨ρ', q1, q2⟩ := lc_filter (g := g) (t := t) (m := m) (vs := vs) (ρw := wipeE ρ1 vs) G p f ds ρ1 rfl hm
  rw [mLc_, hit]
  have hl2 : ((ds.filter p).map f).length ≤ sizeLine := by rw [List.length_map]; exact Nat.le_trans (List.length_filter_le _ _) hl
  simp only [bind_ok', ho, opt_some, q1, quiet_ok', fLst_, decide_eq_true hl2, Kd.iff_true]
  rw [keepV q2]
theorem cut_from (xs : List PyData) (k : Nat) : cutD xs (some (k : Int)) none = xs.drop k := by
  unfold cutD
  rw [HT.sIx_nat, HT.sIx_none]
  by_cases h : k ≤ xs.length
  · rw [Nat.min_eq_left h, List.take_of_length_le (by simp)]
  · rw [Nat.min_eq_right (by omega), List.drop_eq_nil_of_le (Nat.le_refl _), List.drop_eq_nil_of_le (by omega)]; simp
theorem cut_to (xs : List PyData) (k : Nat) : cutD xs none (some (k : Int)) = xs.take k := by
  unfold cutD
  rw [HT.sIx_nat, HT.sIx_none]
  by_cases h : k ≤ xs.length
  · rw [Nat.min_eq_left h]; rfl
  · rw [Nat.min_eq_right (by omega)]
    show List.take (xs.length - 0) xs = _
    rw [List.take_of_length_le (by omega), List.take_of_length_le (by omega)]
theorem cut_1 (xs : List PyData) : cutD xs (some 1) none = xs.drop 1 := cut_from xs 1
theorem cut_s (xs : List PyData) (k : Nat) : cutD xs (some ((k : Int) + 1)) none = xs.drop (k + 1) := by
  have := cut_from xs (k + 1)
  simpa using this
/-- a walk over lo .. lo + n - 1 -/
theorem W_rngA {it : IM} {g : GM} {b : SM} {Q : Fl → Prop} {ρ ρ1 : Ev} (lo : Int) (n : Nat) (I : Nat → Ev → Prop) (hit : it ρ = .ok (ρ1, numL lo n)) (h0 : I 0 ρ1) (hs : ∀ k ρ, k < n → I k ρ → ∃ ρ1, g (.int (lo + (k : Int))) ρ = some ρ1 ∧ W (b ρ1) (NX (I (k + 1)))) (he : ∀ ρ, I n ρ → Q (.nx ρ)) : W (sFor it g b ρ) Q := by
  refine W_for' (fun r ρ => ∃ k, k + r.length = n ∧ r = numL (lo + (k : Int)) (n - k) ∧ I k ρ) hit ⟨0, by simp, by simp, h0⟩ ?_ ?_
  · rintro d r ρ ⟨k, h1, h2, h3⟩
    have hk : k < n := by simp only [List.length_cons] at h1; omega
    rw [show n - k = (n - (k + 1)) + 1 by omega, numL_succ] at h2
    cases h2
    obtain ⟨ρ1, q1, q2⟩ := hs k ρ hk h3
    refine ⟨ρ1, q1, q2.mono fun fl h => ?_⟩
    have hr : k + 1 + (numL (lo + (k : Int) + 1) (n - (k + 1))).length = n := by rw [numL_len']; omega
    have e : lo + ((k + 1 : Nat) : Int) = lo + (k : Int) + 1 := by omega
    cases fl with
    | nx ρ2 => exact ⟨k + 1, hr, by rw [e], h⟩
    | ct ρ2 => exact ⟨k + 1, hr, by rw [e], h⟩
    | bk ρ2 => exact h.elim
    | rt ρ2 v => exact h.elim
  · rintro ρ ⟨k, h1, h2, h3⟩
    simp only [List.length_nil, Nat.add_zero] at h1
    subst h1
    exact he ρ h3
theorem rng2_in (a b : Nat) (q : (-(2 ^ 62) ≤ (a : Int) ∧ (a : Int) < 2 ^ 62 ∧ -(2 ^ 62) ≤ (b : Int) ∧ (b : Int) < 2 ^ 62)) : rng2 [.int (a : Int), .int (b : Int)] = some (numL (a : Int) (b - a)) := by
  have e : ((b : Int) - (a : Int)).toNat = b - a := by omega
  rw [rng2_, decide_eq_true q, e]
  rfl
theorem it_rng2 {m m' : EM} {ρ : Ev} {a b : Nat} (h : m ρ = .ok (ρ, .int (a : Int))) (h' : m' ρ = .ok (ρ, .int (b : Int))) (ha : a ≤ sizeLine) (hb : b ≤ sizeLine) : iNg rng2 [m, m'] ρ = .ok (ρ, numL (a : Int) (b - a)) := by
  have ha := Nat.le_trans ha (Nat.le_of_eq sl)
  have hb := Nat.le_trans hb (Nat.le_of_eq sl)
  have e : mArgs [m, m'] ρ = .ok (ρ, [.int (a : Int), .int (b : Int)]) := by
    rw [mArgs_cons, h, bind_ok', mArgs_cons, h']; rfl
  rw [iNg_, e, bind_ok', rng2_in a b ⟨by omega, by omega, by omega, by omega⟩, opt_some]
end Kd

end T_KM2
section T_KM3
/-! KM3: reckoning with the combinators of KD10 .. KD14. -/
namespace Kd
open PySem PySem.Spec PyProof.Rows L2
@[simp] theorem mBor_ (own' m) (ρ : Ev) : mBor own' m ρ = (m ρ).bind fun x => if (flatD x.2 && own'.all fun i => contF ((x.1[i]?).getD none)) = true then .ok (keepE x.1 own' ρ, x.2) else .bad := (rfl)
@[simp] theorem mBorL_ (own' m) (ρ : Ev) : mBorL own' m ρ = (m ρ).bind fun x => if (flatL x.2 && own'.all fun i => contF ((x.1[i]?).getD none)) = true then .ok (keepE x.1 own' ρ, x.2) else .bad := (rfl)
@[simp] theorem tBor_ (own' t) (ρ : Ev) : tBor own' t ρ = (t ρ).bind fun x => if (own'.all fun i => contF ((x.1[i]?).getD none)) = true then .ok (keepE x.1 own' ρ, x.2) else .bad := (rfl)
@[simp] theorem flatD_n : flatD .none = true := (rfl)
@[simp] theorem flatD_b (b) : flatD (.bool b) = true := (rfl)
@[simp] theorem flatD_i (b) : flatD (.int b) = true := (rfl)
@[simp] theorem flatD_s (b) : flatD (.str b) = true := (rfl)
@[simp] theorem flatD_t (b) : flatD (.tuple b) = flatAll b := (rfl)
@[simp] theorem flatD_l (b) : flatD (.list b) = false := (rfl)
@[simp] theorem flatL_l (b) : flatL (.list b) = flatAll b := (rfl)
@[simp] theorem flatAll_n : flatAll [] = true := (rfl)
@[simp] theorem flatAll_c (x xs) : flatAll (x :: xs) = (flatD x && flatAll xs) := (rfl)
theorem flatAll_iff {xs : List PyData} : flatAll xs = true ↔ ∀ x ∈ xs, flatD x = true := by
  induction xs with
  | nil => simp
  | cons x r ih => simp [ih]
@[simp] theorem contF_l (b) : contF (some (.list b)) = flatAll b := (rfl)
@[simp] theorem contF_n : contF none = true := (rfl)
@[simp] theorem fAddL_l (i j) : fAddL (.list i) (.list j) = iff' (decide (i.length + j.length ≤ sizeLine)) (.list (i ++ j)) := (rfl)
@[simp] theorem fListQ_l (xs) : fListQ [.list xs] = some (.list xs) := (rfl)
@[simp] theorem fListQ_t (xs) : fListQ [.tuple xs] = some (.list xs) := (rfl)
@[simp] theorem fRepL_l (xs k) : fRepL (.list xs) (.int k) = iff' (decide (-(2 ^ 63) ≤ k ∧ k < 2 ^ 63 ∧ xs.length * k.toNat ≤ sizeLine)) (.list (List.replicate k.toNat xs).flatten) := (rfl)
@[simp] theorem fLrg_i (n) : fLrg (.int n) = iff' (decide (0 ≤ n ∧ n ≤ 16777216)) (.list (numL 0 n.toNat)) := (rfl)
@[simp] theorem intsD_n : intsD [] = some [] := (rfl)
@[simp] theorem intsD_c (i r) : intsD (.int i :: r) = (intsD r).map fun ns => i :: ns := (rfl)
theorem intsD_map (ns : List Int) : intsD (ns.map .int) = some ns := by
  induction ns with
  | nil => rfl
  | cons n r ih => simp [ih]
@[simp] theorem fSrtI_l (ds) : fSrtI [.list ds] = (intsD ds).map fun ns => .list ((srtI ns).map .int) := (rfl)
@[simp] theorem fIsX_n (L x) : fIsX L x .none = some (.bool false) := (rfl)
@[simp] theorem fIsV_n (L) : fIsV L .none = some (.bool false) := (rfl)
@[simp] theorem fIsX_e (L x c d) : fIsX L x (excD c d) = iff' (L.contains c) (.bool (isxB c x)) := by cases d <;> rfl
@[simp] theorem fIsV_e (L c d) : fIsV L (excD c d) = iff' (L.contains c) (.bool true) := by cases d <;> rfl
@[simp] theorem sRaise_ (c) (ρ : Ev) : sRaise c ρ = .exc c none := (rfl)
/-- a call in a try's body -/
theorem xE_ok {f : FM} {as : List Ar} {dfl : List PyData} {ρ : Ev} {y : Ev × List (PyData ⊕ Nat)} {ds : List PyData} {z : List PyData × PyData} (h1 : evA as ρ = .ok y) (h2 : resolve y.1 y.2 = some ds) (h3 : f (ds ++ dfl) = .ok z) : xE f as dfl ρ = .ok (.nx (setL y.1 (jsOf as) z.1)) := by
  simp [xE, xCall, h1, h2, h3]
theorem xE_exc {f : FM} {as : List Ar} {dfl : List PyData} {ρ : Ev} {y : Ev × List (PyData ⊕ Nat)} {ds : List PyData} {c : Str} {x : Option PyData} (h1 : evA as ρ = .ok y) (h2 : resolve y.1 y.2 = some ds) (h3 : f (ds ++ dfl) = .exc c x) (hj : (jsOf as).isEmpty = true) : xE f as dfl ρ = .exc y.1 c x := by
  simp [xE, xCall, h1, h2, h3, hj]
theorem xIf_ok {t : TM} {a b : XM} {ρ : Ev} {x : Ev × Bool} (h : t ρ = .ok x) : xIf t a b ρ = if x.2 then a x.1 else b x.1 := by
  simp [xIf, h]
theorem sTry_ok {L : List Str} {i j : Nat} {m : XM} {ρ : Ev} {f : Fl} (h : m ρ = .ok f) : sTry L i j m ρ = .ok f := by
  simp [sTry, h]
theorem sTry_exc {L : List Str} {i j : Nat} {m : XM} {ρ ρ' : Ev} {c : Str} {x : Option PyData} (h : m ρ = .exc ρ' c x) (hc : L.contains c = true) : sTry L i j m ρ = .ok (.nx (((ρ'.set i (some (excD c x))).set j (some (excD c x))).set i none)) := by
  simp only [sTry, h, hc, if_true]
end Kd

end T_KM3
section T_Mir_k13
set_option maxRecDepth 100000
namespace KHead
open PySem PySem.Spec PyProof.Rows L2 Kd
def xsL : List Str := ["NoNet", "NoPlace", "NoEnd", "NoGoing", "NoPlan", "NoTable", "NoTurns", "NoCosts", "NoRoad", "NoNumber", "NoKind", "Unlike", "Barred", "NoText"]
def m_is_whole : FM := fnM 1 [] false
    (sRt (mAnd (m1 (fIsi "int") (mV 0)) (mNot (m1 (fIsi "bool") (mV 0)))))

def m_place_at : FM := fnM 2 [] false
    (sRt (m2 fIx (m2 fIx (m2 fIx (m2 fIx (mV 0) (mC (.int 1))) (m2 fIx (mV 1) (mC (.int 0)))) (m2 fIx (mV 1) (mC (.int 1)))) (mC (.int 0))))

def m_kind_at : FM := fnM 2 [] false
    (sRt (m2 fIx (m2 fIx (m2 fIx (m2 fIx (mV 0) (mC (.int 1))) (m2 fIx (mV 1) (mC (.int 0)))) (m2 fIx (mV 1) (mC (.int 1)))) (mC (.int 1))))

def m_other_end : FM := fnM 1 [] false
    (sRt (mN fTup [(m2 fIx (mV 0) (mC (.int 0))), (m2 fSub (mC (.int 1)) (m2 fIx (mV 0) (mC (.int 1))))]))

def m__law_mixed : FM := fnM 3 [] false
    (sSeq (sSet 2 (m2 fMod (mN fInt [(m2 fAdd (m2 fAdd (m2 fMul (m2 fMod (mN fInt [(mV 0)]) (mC (.int 2147483647))) (mC (.int 48271))) (m2 fMul (mV 1) (mC (.int 69621)))) (mC (.int 1048583)))]) (mC (.int 2147483629))))
    (sSeq (sSet 2 (m2 fMod (mN fInt [(m2 fMul (mV 2) (mV 2))]) (mC (.int 2147483587))))
    (sRt (m2 fMod (mN fInt [(m2 fMul (mV 2) (m2 fAdd (mV 2) (mC (.int 2))))]) (mC (.int 2147483579))))))

def m__law_take : FM := fnM 3 [0] false
    (sSeq (sSet 2 (m2 fMod (mN fInt [(mIxO 0 (mC (.int 0)))]) (mV 1)))
    (sSeq (sSto 0 (mC (.int 0)) (m2 fDiv (mIxO 0 (mC (.int 0))) (mV 1)))
    (sRt (mV 2))))

def m__law_whole : FM := fnM 1 [] false
    (sRt (mAnd (m1 (fIsi "int") (mV 0)) (mNot (m1 (fIsi "bool") (mV 0)))))

def m__law_place : FM := fnM 2 [] false
    (sRt (m2 fIx (m2 fIx (m2 fIx (m2 fIx (mV 0) (mC (.int 1))) (m2 fIx (mV 1) (mC (.int 0)))) (m2 fIx (mV 1) (mC (.int 1)))) (mC (.int 0))))

def m__law_far : FM := fnM 1 [] false
    (sRt (mN fTup [(m2 fIx (mV 0) (mC (.int 0))), (m2 fSub (mC (.int 1)) (m2 fIx (mV 0) (mC (.int 1))))]))

def m__law_ends : FM := fnM 3 [] false
    (sSeq (sSet 1 (mN fLst []))
    (sSeq (sFor (iNg rng1 [(mN fLen [(m2 fIx (mV 0) (mC (.int 1)))])]) (gN 2) (sSet 1 (m2 fAdd (mV 1) (mN fLst [(mN fTup [(mV 2), (mC (.int 0))]), (mN fTup [(mV 2), (mC (.int 1))])]))))
    (sRt (mV 1))))

def m__law_kinds : FM := fnM 5 [] false
    (sSeq (sSet 1 (mN fLst [(m1 (fIsX xsL "NoNet") (mV 0)), (m1 (fIsX xsL "NoPlace") (mV 0)), (m1 (fIsX xsL "NoEnd") (mV 0))]))
    (sSeq (sSet 1 (m2 fAdd (mV 1) (mN fLst [(m1 (fIsX xsL "NoGoing") (mV 0)), (m1 (fIsX xsL "NoPlan") (mV 0)), (m1 (fIsX xsL "NoTable") (mV 0))])))
    (sSeq (sSet 1 (m2 fAdd (mV 1) (mN fLst [(m1 (fIsX xsL "NoTurns") (mV 0)), (m1 (fIsX xsL "NoCosts") (mV 0)), (m1 (fIsX xsL "NoRoad") (mV 0))])))
    (sSeq (sSet 1 (m2 fAdd (mV 1) (mN fLst [(m1 (fIsX xsL "NoNumber") (mV 0)), (m1 (fIsX xsL "NoKind") (mV 0)), (m1 (fIsX xsL "Unlike") (mV 0))])))
    (sSeq (sSet 1 (m2 fAddL (mV 1) (mN fLst [(m1 (fIsX xsL "Barred") (mV 0)), (m1 (fIsX xsL "NoText") (mV 0)), (m1 (fIsV xsL) (mV 0))])))
    (sSeq (sE (mMt 1 fApp [(m1 (fIsX xsL "TrailsError") (mV 0))]))
    (sSeq (sSet 2 (mN fLst [(mC (.str (PySem.Str.ofString "net"))), (mC (.str (PySem.Str.ofString "place"))), (mC (.str (PySem.Str.ofString "end"))), (mC (.str (PySem.Str.ofString "going"))), (mC (.str (PySem.Str.ofString "plan"))), (mC (.str (PySem.Str.ofString "table"))), (mC (.str (PySem.Str.ofString "turns"))), (mC (.str (PySem.Str.ofString "costs"))), (mC (.str (PySem.Str.ofString "road"))), (mC (.str (PySem.Str.ofString "number"))), (mC (.str (PySem.Str.ofString "kind"))), (mC (.str (PySem.Str.ofString "unlike")))]))
    (sSeq (sSet 2 (m2 fAdd (mV 2) (mN fLst [(mC (.str (PySem.Str.ofString "barred"))), (mC (.str (PySem.Str.ofString "text"))), (mC (.str (PySem.Str.ofString "value"))), (mC (.str (PySem.Str.ofString "error")))])))
    (sRt (mLc [] (iNg zipD [(mV 2), (mV 1)]) (gT [(gN 3), (gN 4)]) (tE (mV 4)) (mV 3) [3, 4]))))))))))

def m__law_bad_nets : FM := fnM 7 [] false
    (sSeq (sAs (gT [(gN 1), (gN 2)]) (mV 0))
    (sSeq (sSet 3 (mN fTup [(mN fTup [(mC (.int 0)), (mC (.int 0))]), (mN fTup [(mC (.int 0)), (mC (.int 1))])]))
    (sSeq (sSet 4 (mN fLst [(mC .none), (mC (.int 0)), (mC (.bool true)), (mC (.str (PySem.Str.ofString ""))), (mN fTup []), (mV 1), (mV 2), (mN fList [(mV 0)]), (mN fTup [(mV 1)]), (mN fTup [(mV 1), (mV 2), (mC (.int 0))]), (mN fTup [(mV 1), (mN fList [(mV 2)])])]))
    (sSeq (sSet 4 (m2 fAdd (mV 4) (mN fLst [(mN fTup [(mC (.int 0)), (mV 2)]), (mN fTup [(mC (.int 13)), (mV 2)]), (mN fTup [(mC (.bool true)), (mN fTup [])]), (mN fTup [(mC (.str (PySem.Str.ofString "1"))), (mV 2)]), (mN fTup [(m1 fNeg (mC (.int 1))), (mN fTup [])]), (mN fTup [(mC .none), (mV 2)]), (mN fTup [(mV 1), (mC .none)])])))
    (sSeq (sSet 5 (mN fLst [(mN fTup [(mN fTup [(mC (.int 0)), (mC (.int 0))])]), (mN fTup [(mN fTup [(mC (.int 0)), (mC (.int 0))]), (mN fTup [(mC (.int 0)), (mC (.int 1))]), (mN fTup [(mC (.int 0)), (mC (.int 2))])]), (mN fLst [(mN fTup [(mC (.int 0)), (mC (.int 0))]), (mN fTup [(mC (.int 0)), (mC (.int 1))])]), (mN fTup [(mN fTup [(mC (.int 0)), (mC (.int 0))]), (mN fLst [(mC (.int 0)), (mC (.int 1))])]), (mN fTup [(mN fTup [(mC (.int 0)), (mC (.int 0))]), (mN fTup [(mC (.int 0))])]), (mN fTup [(mN fTup [(mC (.int 0)), (mC (.int 0))]), (mC .none)])]))
    (sSeq (sSet 4 (m2 fAdd (mV 4) (mLc [] (iOf asL (mV 5)) (gN 6) tTrue (mN fTup [(mV 1), (m2 fAdd (mV 2) (mN fTup [(mV 6)]))]) [6])))
    (sSeq (sSet 5 (mN fLst [(mN fTup [(mV 1), (mC (.int 0))]), (mN fTup [(m1 fNeg (mC (.int 1))), (mC (.int 0))]), (mN fTup [(mC (.int 0)), (mC (.int 10))]), (mN fTup [(mC (.int 0)), (m1 fNeg (mC (.int 1)))]), (mN fTup [(mC (.bool true)), (mC (.int 0))]), (mN fTup [(mC (.int 0)), (mC (.bool true))]), (mN fTup [(mC (.bool false)), (mC (.int 0))]), (mN fTup [(mC (.str (PySem.Str.ofString "0"))), (mC (.int 0))]), (mN fTup [(mC (.int 0)), (mC .none)]), (mN fTup [(mC (.int 0)), (mC (.int 0)), (mC (.int 0))])]))
    (sSeq (sFor (iOf asL (mV 5)) (gN 6) (sSet 4 (m2 fAdd (mV 4) (mN fLst [(mN fTup [(mV 1), (m2 fAdd (mN fTup [(mN fTup [(mN fTup [(mC (.int 0)), (mC (.int 0))]), (mV 6)])]) (mV 2))]), (mN fTup [(mV 1), (m2 fAdd (mV 2) (mN fTup [(mN fTup [(mV 6), (mN fTup [(mC (.int 0)), (mC (.int 0))])])]))])]))))
    (sRt (m2 fAdd (mV 4) (mN fLst [(mN fTup [(mV 1), (m2 fAdd (mV 2) (mN fTup [(mV 3), (mC .none)]))]), (mN fTup [(mV 1), (mN fTup [(mC .none)])]), (mN fLst [(mV 1), (mV 2)]), (mN fTup [(mV 2), (mV 1)])])))))))))))

def m__law_bad_ends : FM := fnM 3 [] false
    (sSeq (sSet 1 (mN fLen [(m2 fIx (mV 0) (mC (.int 1)))]))
    (sSeq (sSet 2 (mN fLst [(mC .none), (mC (.int 0)), (mC (.str (PySem.Str.ofString ""))), (mN fTup []), (mN fTup [(mC (.int 0))]), (mN fTup [(mC (.int 0)), (mC (.int 0)), (mC (.int 0))]), (mN fLst [(mC (.int 0)), (mC (.int 0))]), (mN fTup [(mV 1), (mC (.int 0))]), (mN fTup [(mV 1), (mC (.int 1))]), (mN fTup [(m1 fNeg (mC (.int 1))), (mC (.int 0))]), (mN fTup [(mC (.int 0)), (mC (.int 2))]), (mN fTup [(mC (.int 0)), (m1 fNeg (mC (.int 1)))]), (mN fTup [(mC (.bool true)), (mC (.int 0))])]))
    (sRt (m2 fAdd (mV 2) (mN fLst [(mN fTup [(mC (.int 0)), (mC (.bool true))]), (mN fTup [(mC (.bool false)), (mC (.int 0))]), (mN fTup [(mC (.int 0)), (mC (.bool false))]), (mN fTup [(mC (.str (PySem.Str.ofString "0"))), (mC (.int 0))]), (mN fTup [(mC (.int 0)), (mC .none)]), (mN fTup [(mN fTup [(mC (.int 0)), (mC (.int 0))]), (mC (.int 0))]), (mN fTup [(m2 fPow (mC (.int 10)) (mC (.int 20))), (mC (.int 0))])])))))

def m_is_below : FM := fnM 2 [] false
    (sRt (mAnd (mCall m_is_whole [.e (mV 0)] []) (mAnd (m2 fLe (mC (.int 0)) (mV 0)) (m2 fLt (mV 0) (mV 1)))))

def m_turns_in : FM := fnM 5 [] false
    (sSeq (sSet 2 (mLc [] (iNg zipD [(mV 0), (mSl (mV 0) (some (mC (.int 1))) none)]) (gT [(gN 3), (gN 4)]) tTrue (mN fTup [(mCall m_other_end [.e (mV 3)] []), (mV 4)]) [3, 4]))
    (sRt (mIf (tE (mV 1)) (m2 fAdd (mV 2) (mN fLst [(mN fTup [(mCall m_other_end [.e (m2 fIx (mV 0) (m1 fNeg (mC (.int 1))))] []), (m2 fIx (mV 0) (mC (.int 0)))])])) (mV 2))))

def m_is_open : FM := fnM 2 [] false
    (sRt (m2 fNe (mCall m_kind_at [.e (mV 0), .e (m2 fIx (mV 1) (mC (.int 0)))] []) (mCall m_kind_at [.e (mV 0), .e (m2 fIx (mV 1) (mC (.int 1)))] [])))

def m__law_pile : FM := fnM 5 [] true
    (sSeq (sSet 2 (mC (.int 0)))
    (sSeq (sIf (tB (m2 fLt (mV 1) (mN fLen [(mV 0)]))) (sSet 2 (m2 fIx (mV 0) (mV 1))) sNx)
    (sSeq (sIf (tB (m2 fGe (mV 2) (m2 fPow (mC (.int 10)) (mC (.int 18))))) (sRt (mN fLst [(m2 fMod (mN fInt [(m2 fSub (mV 2) (m2 fPow (mC (.int 10)) (mC (.int 18))))]) (m2 fMul (m2 fMul (m2 fMul (m2 fPow (mC (.int 10)) (mC (.int 60))) (m2 fPow (mC (.int 10)) (mC (.int 60)))) (m2 fPow (mC (.int 10)) (mC (.int 60)))) (m2 fPow (mC (.int 10)) (mC (.int 60)))))])) sNx)
    (sSeq (sSet 3 (mC (.int 0)))
    (sSeq (sFor (iNg rng1 [(mC (.int 24))]) (gN 4) (sSet 3 (m2 fAdd (m2 fMul (mV 3) (mC (.int 2147483579))) (mCall m__law_mixed [.e (mV 2), .e (m2 fAdd (m2 fAdd (m2 fMul (mC (.int 7)) (mV 1)) (m2 fMul (mC (.int 100)) (mV 4))) (m2 fMul (mV 4) (mV 4)))] []))))
    (sRt (mN fLst [(mV 3)])))))))

def m__law_order_of : FM := fnM 4 [0] false
    (sSeq (sSet 2 (mN fLst []))
    (sSeq (sFor (iNg rng1 [(mV 1)]) (gN 3) (sE (mMt 2 fIns [(mCall m__law_take [.io 0, .e (m2 fAdd (mV 3) (mC (.int 1)))] []), (mV 3)])))
    (sRt (mV 2))))

def m__law_is_end : FM := fnM 2 [] false
    (sSeq (sIf (tOr (tNot (tE (m1 (fIsi "tuple") (mV 1)))) (tOr (tB (m2 fNe (mN fLen [(mV 1)]) (mC (.int 2)))) (tOr (tNot (tE (mCall m__law_whole [.e (m2 fIx (mV 1) (mC (.int 0)))] []))) (tNot (tE (mCall m__law_whole [.e (m2 fIx (mV 1) (mC (.int 1)))] [])))))) (sRt (mC (.bool false))) sNx)
    (sRt (mAnd (m2 fGe (m2 fIx (mV 1) (mC (.int 0))) (mC (.int 0))) (mAnd (m2 fLt (m2 fIx (mV 1) (mC (.int 0))) (mN fLen [(m2 fIx (mV 0) (mC (.int 1)))])) (m2 fIn (m2 fIx (mV 1) (mC (.int 1))) (mN fLst [(mC (.int 0)), (mC (.int 1))]))))))

def m__law_turns : FM := fnM 4 [] false
    (sSeq (sSet 2 (mN fLst []))
    (sSeq (sFor (iNg rng2 [(mC (.int 1)), (mN fLen [(mV 0)])]) (gN 3) (sE (mMt 2 fApp [(mN fTup [(mCall m__law_far [.e (m2 fIx (mV 0) (m2 fSub (mV 3) (mC (.int 1))))] []), (m2 fIx (mV 0) (mV 3))])])))
    (sSeq (sIf (tE (mV 1)) (sE (mMt 2 fApp [(mN fTup [(mCall m__law_far [.e (m2 fIx (mV 0) (m1 fNeg (mC (.int 1))))] []), (m2 fIx (mV 0) (mC (.int 0)))])])) sNx)
    (sRt (mV 2)))))

def m__law_word : FM := fnM 2 [] false
    (sSeq (sSet 1 (mCall m__law_kinds [.e (mV 0)] []))
    (sSeq (sIf (tB (m2 fEq (mV 1) (mN fLst []))) (sRt (mC (.str (PySem.Str.ofString "")))) sNx)
    (sRt (m2 fIx (mN fLst [(m2 fIx (mV 1) (mC (.int 0))), (mC (.str (PySem.Str.ofString "other")))]) (mN fInt [(m2 fNe (mSl (mV 1) (some (mC (.int 1))) none) (mN fLst [(mC (.str (PySem.Str.ofString "value"))), (mC (.str (PySem.Str.ofString "error")))]))])))))

def m_is_point : FM := fnM 2 [] false
    (sRt (mAnd (m1 (fIsi "tuple") (mV 0)) (mAnd (m2 fEq (mN fLen [(mV 0)]) (mC (.int 2))) (mAnd (mCall m_is_below [.e (m2 fIx (mV 0) (mC (.int 0))), .e (mV 1)] []) (mCall m_is_below [.e (m2 fIx (mV 0) (mC (.int 1))), .e (mC (.int 10))] [])))))

def m_is_right_end : FM := fnM 2 [] false
    (sRt (mAnd (m1 (fIsi "tuple") (mV 1)) (mAnd (m2 fEq (mN fLen [(mV 1)]) (mC (.int 2))) (mAnd (mCall m_is_below [.e (m2 fIx (mV 1) (mC (.int 0))), .e (mN fLen [(m2 fIx (mV 0) (mC (.int 1)))])] []) (mCall m_is_below [.e (m2 fIx (mV 1) (mC (.int 1))), .e (mC (.int 2))] [])))))

def m_shut_in : FM := fnM 4 [] false
    (sRt (mLc [] (iOf asQ (mCall m_turns_in [.e (mV 1), .e (mV 2)] [])) (gN 3) (tNot (tE (mCall m_is_open [.e (mV 0), .e (mV 3)] []))) (mV 3) [3]))

def m__law_net : FM := fnM 14 [0] false
    (sSeq (sSet 2 (m2 fIx (mN fLst [(mC (.int 1)), (mC (.int 2)), (mC (.int 2)), (mC (.int 3)), (mC (.int 3)), (mC (.int 4)), (mC (.int 5)), (mC (.int 6))]) (mCall m__law_take [.io 0, .e (mC (.int 8))] [])))
    (sSeq (sPar 3 4 (mCall m__law_take [.io 0, .e (mC (.int 5))] []) (m2 fIx (mN fLst [(mC (.int 2)), (mC (.int 3)), (mC (.int 3)), (mC (.int 4)), (mC (.int 10))]) (mCall m__law_take [.io 0, .e (mC (.int 5))] [])))
    (sSeq (sSet 5 (mCall m__law_take [.io 0, .e (m2 fAdd (mV 1) (mC (.int 1)))] []))
    (sSeq (sSet 6 (mLc [0] (iNg rng1 [(m2 fAdd (mV 5) (mC (.int 1)))]) (gN 7) tTrue (mCall m__law_take [.io 0, .e (mV 2)] []) [7]))
    (sSeq (sSet 8 (mCall m__law_take [.io 0, .e (mV 4)] []))
    (sSeq (sSet 9 (mV 8))
    (sSeq (sSet 10 (mN fLst []))
    (sSeq (sFor (iNg rng1 [(mV 5)]) (gN 7) (sSeq (sPar 11 12 (m2 fIx (mV 6) (mV 7)) (m2 fIx (mV 6) (m2 fAdd (mV 7) (mC (.int 1)))))
    (sSeq (sIf (tB (m2 fEq (mV 3) (mC (.int 0)))) (sSet 11 (mCall m__law_take [.io 0, .e (mV 2)] [])) sNx)
    (sSeq (sIf (tAnd (tB (m2 fGt (mV 3) (mC (.int 1)))) (tB (m2 fEq (mV 7) (m2 fSub (mV 5) (mC (.int 1)))))) (sSet 12 (m2 fIx (mV 6) (mC (.int 0)))) sNx)
    (sSeq (sSet 13 (mCall m__law_take [.io 0, .e (mV 4)] []))
    (sSeq (sIf (tB (m2 fGt (mV 3) (mC (.int 2)))) (sSet 13 (m2 fMod (mN fInt [(m2 fAdd (m2 fAdd (mV 8) (mC (.int 1))) (mCall m__law_take [.io 0, .e (m2 fSub (mV 4) (mC (.int 1)))] []))]) (mV 4))) sNx)
    (sSeq (sIf (tB (m2 fEq (mV 7) (mC (.int 0)))) (sSet 9 (mV 13)) sNx)
    (sSeq (sSet 8 (mCall m__law_take [.io 0, .e (mV 4)] []))
    (sSeq (sIf (tAnd (tB (m2 fGt (mV 3) (mC (.int 2)))) (tB (m2 fEq (mV 7) (m2 fSub (mV 5) (mC (.int 1)))))) (sSet 8 (m2 fMod (mN fInt [(m2 fAdd (m2 fAdd (mV 9) (mC (.int 1))) (mCall m__law_take [.io 0, .e (m2 fSub (mV 4) (mC (.int 1)))] []))]) (mV 4))) sNx)
    (sE (mMt 10 fApp [(mN fTup [(mN fTup [(mV 11), (mV 13)]), (mN fTup [(mV 12), (mV 8)])])])))))))))))
    (sRt (mN fTup [(mV 2), (mN fTuple [(mLc [0] (iOf asL (mCall m__law_order_of [.io 0, .e (mV 5)] [])) (gN 7) tTrue (m2 fIx (mV 10) (mV 7)) [7])])]))))))))))

def m__law_is_turn : FM := fnM 2 [] false
    (sSeq (sIf (tOr (tNot (tE (m1 (fIsi "tuple") (mV 1)))) (tB (m2 fNe (mN fLen [(mV 1)]) (mC (.int 2))))) (sRt (mC (.bool false))) sNx)
    (sSeq (sIf (tOr (tNot (tE (mCall m__law_is_end [.e (mV 0), .e (m2 fIx (mV 1) (mC (.int 0)))] []))) (tOr (tNot (tE (mCall m__law_is_end [.e (mV 0), .e (m2 fIx (mV 1) (mC (.int 1)))] []))) (tB (m2 fEq (m2 fIx (mV 1) (mC (.int 0))) (m2 fIx (mV 1) (mC (.int 1))))))) (sRt (mC (.bool false))) sNx)
    (sRt (m2 fEq (mCall m__law_place [.e (mV 0), .e (m2 fIx (mV 1) (mC (.int 0)))] []) (mCall m__law_place [.e (mV 0), .e (m2 fIx (mV 1) (mC (.int 1)))] [])))))

def m_is_road : FM := fnM 2 [] false
    (sRt (mAnd (m1 (fIsi "tuple") (mV 0)) (mAnd (m2 fEq (mN fLen [(mV 0)]) (mC (.int 2))) (mAnd (mCall m_is_point [.e (m2 fIx (mV 0) (mC (.int 0))), .e (mV 1)] []) (mCall m_is_point [.e (m2 fIx (mV 0) (mC (.int 1))), .e (mV 1)] [])))))

def m_is_right_going : FM := fnM 6 [] false
    (sSeq (sIf (tOr (tNot (tE (m1 (fIsi "list") (mV 1)))) (tOr (tB (m2 fEq (mV 1) (mN fLst []))) (tNot (tE (mN fAll [(mLc [] (iOf asQ (mV 1)) (gN 3) tTrue (mCall m_is_right_end [.e (mV 0), .e (mV 3)] []) [3])]))))) (sRt (mC (.bool false))) sNx)
    (sSeq (sFor (iOf asQ (mCall m_turns_in [.e (mV 1), .e (mV 2)] [])) (gT [(gN 4), (gN 5)]) (sIf (tOr (tB (m2 fEq (mV 4) (mV 5))) (tB (m2 fNe (mCall m_place_at [.e (mV 0), .e (mV 4)] []) (mCall m_place_at [.e (mV 0), .e (mV 5)] [])))) (sRt (mC (.bool false))) sNx))
    (sRt (mC (.bool true)))))

def m__law_is_going : FM := fnM 5 [] false
    (sSeq (sIf (tOr (tNot (tE (m1 (fIsi "list") (mV 1)))) (tOr (tB (m2 fEq (mV 1) (mN fLst []))) (tB (m2 fNe (mLc [] (iOf asQ (mV 1)) (gN 3) (tNot (tE (mCall m__law_is_end [.e (mV 0), .e (mV 3)] []))) (mV 3) [3]) (mN fLst []))))) (sRt (mC (.bool false))) sNx)
    (sRt (m2 fEq (mLc [] (iOf asQ (mCall m__law_turns [.e (mV 1), .e (mV 2)] [])) (gN 4) (tNot (tE (mCall m__law_is_turn [.e (mV 0), .e (mV 4)] []))) (mV 4) [4]) (mN fLst []))))

def m_is_right_net : FM := fnM 2 [] false
    (sSeq (sIf (tOr (tNot (tE (m1 (fIsi "tuple") (mV 0)))) (tOr (tB (m2 fNe (mN fLen [(mV 0)]) (mC (.int 2)))) (tNot (tE (m1 (fIsi "tuple") (m2 fIx (mV 0) (mC (.int 1)))))))) (sRt (mC (.bool false))) sNx)
    (sSeq (sIf (tOr (tNot (tE (mCall m_is_whole [.e (m2 fIx (mV 0) (mC (.int 0)))] []))) (tOr (tB (m2 fLt (m2 fIx (mV 0) (mC (.int 0))) (mC (.int 1)))) (tB (m2 fGt (m2 fIx (mV 0) (mC (.int 0))) (mC (.int 12)))))) (sRt (mC (.bool false))) sNx)
    (sRt (mN fAll [(mLc [] (iOf asT (m2 fIx (mV 0) (mC (.int 1)))) (gN 1) tTrue (mCall m_is_road [.e (mV 1), .e (m2 fIx (mV 0) (mC (.int 0)))] []) [1])]))))

def m_look_at_going : FM := fnM 3 [] false
    (sIf (tNot (tE (mCall m_is_right_going [.e (mV 0), .e (mV 1), .e (mV 2)] []))) (sRaise "NoGoing") sNx)

def m_is_item : FM := fnM 2 [] false
    (sSeq (sIf (tOr (tNot (tE (m1 (fIsi "tuple") (mV 1)))) (tOr (tB (m2 fNe (mN fLen [(mV 1)]) (mC (.int 2)))) (tNot (tE (m1 (fIsi "bool") (m2 fIx (mV 1) (mC (.int 0)))))))) (sRt (mC (.bool false))) sNx)
    (sRt (mAnd (mCall m_is_right_going [.e (mV 0), .e (m2 fIx (mV 1) (mC (.int 1))), .e (m2 fIx (mV 1) (mC (.int 0)))] []) (m2 fEq (mCall m_shut_in [.e (mV 0), .e (m2 fIx (mV 1) (mC (.int 1))), .e (m2 fIx (mV 1) (mC (.int 0)))] []) (mN fLst [])))))

def m_look_at_net : FM := fnM 1 [] false
    (sIf (tNot (tE (mCall m_is_right_net [.e (mV 0)] []))) (sRaise "NoNet") sNx)

def m_is_right_plan : FM := fnM 6 [] false
    (sSeq (sIf (tOr (tNot (tE (m1 (fIsi "list") (mV 1)))) (tNot (tE (mN fAll [(mLc [] (iOf asQ (mV 1)) (gN 2) tTrue (mCall m_is_item [.e (mV 0), .e (mV 2)] []) [2])])))) (sRt (mC (.bool false))) sNx)
    (sRt (m2 fEq (m1 (fun d => fSrtI [d]) (mLc2 [] (iOf asQ (mV 1)) (gT [(gN 3), (gN 4)]) tTrue (iOf asQ (mV 4)) (gN 5) tTrue (m2 fIx (mV 5) (mC (.int 0))) [3, 4, 5] [5])) (m1 fLrg (mN fLen [(m2 fIx (mV 0) (mC (.int 1)))])))))

def m_is_going : FM := fnM 3 [] false
    (sSeq (sE (mCall m_look_at_net [.e (mV 0)] []))
    (sRt (mCall m_is_right_going [.e (mV 0), .e (mV 1), .e (mV 2)] [])))

def m_turns_of : FM := fnM 3 [] false
    (sSeq (sE (mCall m_look_at_net [.e (mV 0)] []))
    (sSeq (sE (mCall m_look_at_going [.e (mV 0), .e (mV 1), .e (mV 2)] []))
    (sRt (mCall m_turns_in [.e (mV 1), .e (mV 2)] []))))

def m_shut_turns : FM := fnM 3 [] false
    (sSeq (sE (mCall m_look_at_net [.e (mV 0)] []))
    (sSeq (sE (mCall m_look_at_going [.e (mV 0), .e (mV 1), .e (mV 2)] []))
    (sRt (mCall m_shut_in [.e (mV 0), .e (mV 1), .e (mV 2)] []))))

def m_is_plan : FM := fnM 2 [] false
    (sSeq (sE (mCall m_look_at_net [.e (mV 0)] []))
    (sRt (mCall m_is_right_plan [.e (mV 0), .e (mV 1)] [])))

def m__law_asked : FM := fnM 7 [] false
    (sSeq (sSet 4 (mN fRepr [(mN fLst [(mV 1), (mV 2)])]))
    (sSeq (sSet 5 (mC .none))
    (sSeq (sTry xsL 6 5 (xIf (tB (m2 fEq (mV 0) (mC (.int 0)))) (xE m_is_going [.e (mV 1), .e (mV 2), .e (mV 3)] []) (xIf (tB (m2 fEq (mV 0) (mC (.int 1)))) (xE m_is_plan [.e (mV 1), .e (mV 2)] []) (xIf (tB (m2 fEq (mV 0) (mC (.int 2)))) (xE m_turns_of [.e (mV 1), .e (mV 2), .e (mV 3)] []) (xE m_shut_turns [.e (mV 1), .e (mV 2), .e (mV 3)] [])))))
    (sSeq (sIf (tB (m2 fNe (mN fRepr [(mN fLst [(mV 1), (mV 2)])]) (mV 4))) (sRt (mC (.str (PySem.Str.ofString "changed")))) sNx)
    (sRt (mCall m__law_word [.e (mV 5)] []))))))

def m_law : FM := fnM 16 [] false
    (sSeq (sSet 1 (mCall m__law_pile [.e (mV 0), .e (mC (.int 0))] []))
    (sSeq (sSet 2 (mCall m__law_net [.io 1, .e (mC (.int 8))] []))
    (sSeq (sSet 3 (mN fLst [(mN fTup [(mC (.int 0)), (mC (.int 0))])]))
    (sSeq (sIf (tB (m2 fEq (m2 fIx (mV 2) (mC (.int 1))) (mN fTup []))) (sSet 2 (mN fTup [(mC (.int 2)), (mN fTup [(mN fTup [(mN fTup [(mC (.int 0)), (mC (.int 1))]), (mN fTup [(mC (.int 1)), (mC (.int 2))])]), (mN fTup [(mN fTup [(mC (.int 1)), (mC (.int 1))]), (mN fTup [(mC (.int 0)), (mC (.int 1))])])])])) sNx)
    (sSeq (sFor (iOf asL (mCall m__law_bad_nets [.e (mV 2)] [])) (gN 4) (sFor (iOf asL (mN fLst [(mV 3), (mC .none)])) (gN 5) (sIf (tB (m2 fNe (mLc [] (iNg rng1 [(mC (.int 4))]) (gN 6) tTrue (mCall m__law_asked [.e (mV 6), .e (mV 4), .e (mV 5), .e (mC (.bool false))] []) [6]) (m2 fRepL (mN fLst [(mC (.str (PySem.Str.ofString "net")))]) (mC (.int 4))))) (sRt (mC (.bool false))) sNx)))
    (sSeq (sSet 7 (mN fLst [(mN fLst [(mN fTup [(mC (.int 0)), (mC (.int 0))]), (mN fTup [(mC (.int 0)), (mC (.int 1))])]), (mN fLst [(mN fTup [(mC (.int 0)), (mC (.int 0))]), (mN fTup [(mC (.int 0)), (mC (.int 0))]), (mN fTup [(mC (.int 0)), (mC (.int 0))])]), (mN fLst []), (mC .none), (mC (.int 0)), (mC (.str (PySem.Str.ofString ""))), (mN fTup [(mN fTup [(mC (.int 0)), (mC (.int 0))])]), (mN fLst [(mN fTup [(mC (.int 0)), (mC (.int 0))]), (mC .none)]), (mN fLst [(mN fLst [(mC (.int 0)), (mC (.int 0))])]), (mN fTup [(mC (.int 0)), (mC (.int 0))])]))
    (sSeq (sFor (iOf asQ (m2 fAdd (m2 fAdd (mV 7) (mLc [] (iOf asL (mCall m__law_bad_ends [.e (mV 2)] [])) (gN 8) tTrue (mN fLst [(mV 8)]) [8])) (mLc [] (iOf asL (mCall m__law_bad_ends [.e (mV 2)] [])) (gN 8) tTrue (m2 fAdd (mV 3) (mN fLst [(mV 8)])) [8]))) (gN 4) (sSeq (sSet 9 (m2 fIx (mN fLst [(m2 fRepL (mN fLst [(mC (.str (PySem.Str.ofString "going")))]) (mC (.int 2))), (m2 fRepL (mN fLst [(mC (.str (PySem.Str.ofString "")))]) (mC (.int 2)))]) (mN fInt [(mCall m__law_is_going [.e (mV 2), .e (mV 4), .e (mC (.bool false))] [])])))
    (sSeq (sIf (tB (m2 fNe (mLc [] (iOf asL (mN fLst [(mC (.int 2)), (mC (.int 3))])) (gN 6) tTrue (mCall m__law_asked [.e (mV 6), .e (mV 2), .e (mV 4), .e (mC (.bool false))] []) [6]) (mV 9))) (sRt (mC (.bool false))) sNx)
    (sSeq (sSet 9 (m2 fIx (mN fLst [(m2 fRepL (mN fLst [(mC (.str (PySem.Str.ofString "going")))]) (mC (.int 2))), (m2 fRepL (mN fLst [(mC (.str (PySem.Str.ofString "")))]) (mC (.int 2)))]) (mN fInt [(mCall m__law_is_going [.e (mV 2), .e (mV 4), .e (mC (.bool true))] [])])))
    (sIf (tB (m2 fNe (mLc [] (iOf asL (mN fLst [(mC (.int 2)), (mC (.int 3))])) (gN 6) tTrue (mCall m__law_asked [.e (mV 6), .e (mV 2), .e (mV 4), .e (mC (.bool true))] []) [6]) (mV 9))) (sRt (mC (.bool false))) sNx)))))
    (sSeq (sFor (iOf asL (mN fLst [(mC (.bool false)), (mC (.bool true))])) (gN 10) (sSeq (sSet 11 (m2 fIx (mN fLst [(mC (.str (PySem.Str.ofString "going"))), (mC (.str (PySem.Str.ofString "")))]) (mN fInt [(mCall m__law_is_going [.e (mV 2), .e (mV 3), .e (mV 10)] [])])))
    (sIf (tB (m2 fNe (mLc [] (iNg rng1 [(mC (.int 4))]) (gN 6) tTrue (mCall m__law_asked [.e (mV 6), .e (mV 2), .e (mV 3), .e (mV 10)] []) [6]) (mN fLst [(mC (.str (PySem.Str.ofString ""))), (mC (.str (PySem.Str.ofString ""))), (mV 11), (mV 11)]))) (sRt (mC (.bool false))) sNx)))
    (sSeq (sFor (iOf asL (mCall m__law_ends [.e (mV 2)] [])) (gN 12) (sFor (iOf asL (mCall m__law_ends [.e (mV 2)] [])) (gN 13) (sFor (iOf asL (mN fLst [(mC (.bool false)), (mC (.bool true))])) (gN 10) (sSeq (sSet 11 (m2 fIx (mN fLst [(mC (.str (PySem.Str.ofString "going"))), (mC (.str (PySem.Str.ofString "")))]) (mN fInt [(mCall m__law_is_going [.e (mV 2), .e (mN fLst [(mV 12), (mV 13)]), .e (mV 10)] [])])))
    (sSeq (sIf (tB (m2 fNe (mLc [] (iOf asL (mN fLst [(mC (.int 2)), (mC (.int 3))])) (gN 6) tTrue (mCall m__law_asked [.e (mV 6), .e (mV 2), .e (mN fLst [(mV 12), (mV 13)]), .e (mV 10)] []) [6]) (mN fLst [(mV 11), (mV 11)]))) (sRt (mC (.bool false))) sNx)
    (sSeq (sSet 14 (mN fLst [(mV 12), (mV 13), (mCall m__law_far [.e (mV 12)] [])]))
    (sSeq (sSet 11 (m2 fIx (mN fLst [(mC (.str (PySem.Str.ofString "going"))), (mC (.str (PySem.Str.ofString "")))]) (mN fInt [(mCall m__law_is_going [.e (mV 2), .e (mV 14), .e (mV 10)] [])])))
    (sIf (tB (m2 fNe (mLc [] (iOf asL (mN fLst [(mC (.int 2)), (mC (.int 3))])) (gN 6) tTrue (mCall m__law_asked [.e (mV 6), .e (mV 2), .e (mV 14), .e (mV 10)] []) [6]) (mN fLst [(mV 11), (mV 11)]))) (sRt (mC (.bool false))) sNx))))))))
    (sSeq (sSet 15 (mN fTup [(mC (.int 2)), (mN fTup [(mN fTup [(mN fTup [(mC (.int 0)), (mC (.int 0))]), (mN fTup [(mC (.int 1)), (mC (.int 0))])]), (mN fTup [(mN fTup [(mC (.int 1)), (mC (.int 1))]), (mN fTup [(mC (.int 1)), (mC (.int 2))])])])]))
    (sRt (m2 fEq (mCall m__law_asked [.e (mC (.int 3)), .e (mV 15), .e (mN fLst [(mN fTup [(mC (.int 0)), (mC (.int 0))]), (mN fTup [(mC (.int 1)), (mC (.int 0))]), (mN fTup [(mC (.int 0)), (mC (.int 1))])]), .e (mC (.bool true))] []) (mC (.str (PySem.Str.ofString "going")))))))))))))))

end KHead

end T_Mir_k13
section T_Wlk_k13
set_option maxRecDepth 100000
set_option maxHeartbeats 4000000
namespace KHead
open PySem PySem.Spec PyProof.Rows L2
def top (i : Nat) : Stmt := PySem.Challenge.pw_kindtrails_k13_wrong_goings.main.body.getD i (.Pass ⟨0, 0, 0, 0⟩)
def dd (n : Str) (i : Nat) : He.DefD := ⟨(n, none), n, n, defArgs (top i), defBody (top i), defScope (top i), [], []⟩
def fn : List He.DefD := [dd "is_whole" 19, dd "is_below" 20, dd "is_point" 21, dd "is_road" 22, dd "is_right_net" 23, dd "is_right_end" 24, dd "look_at_net" 25, dd "place_at" 26, dd "kind_at" 27, dd "other_end" 28, dd "is_right_going" 30, dd "turns_in" 31, dd "is_open" 32, dd "shut_in" 33, dd "look_at_going" 34, { dd "is_going" 35 with dfl := [.bl false] }, { dd "turns_of" 36 with dfl := [.bl false] }, { dd "shut_turns" 37 with dfl := [.bl false] }, dd "is_item" 38, dd "is_right_plan" 39, dd "is_plan" 40, dd "_law_mixed" 42, dd "_law_pile" 43, dd "_law_take" 44, dd "_law_order_of" 45, dd "_law_whole" 46, dd "_law_net" 47, dd "_law_place" 48, dd "_law_far" 49, dd "_law_ends" 50, dd "_law_is_end" 51, dd "_law_turns" 52, dd "_law_is_turn" 53, dd "_law_is_going" 54, dd "_law_kinds" 55, dd "_law_word" 56, dd "_law_bad_nets" 57, dd "_law_bad_ends" 58, dd "_law_asked" 59, dd "law" 60]
def fa : List He.Fa := [.glo "is_whole", .glo "is_below", .glo "is_point", .glo "is_road", .glo "is_right_net", .glo "is_right_end", .glo "look_at_net", .glo "place_at", .glo "kind_at", .glo "other_end", .glo "is_right_going", .glo "turns_in", .glo "is_open", .glo "shut_in", .glo "look_at_going", .glo "is_going", .glo "turns_of", .glo "shut_turns", .glo "is_item", .glo "is_right_plan", .glo "is_plan", .glo "_law_mixed", .glo "_law_pile", .glo "_law_take", .glo "_law_order_of", .glo "_law_whole", .glo "_law_net", .glo "_law_place", .glo "_law_far", .glo "_law_ends", .glo "_law_is_end", .glo "_law_turns", .glo "_law_is_turn", .glo "_law_is_going", .glo "_law_kinds", .glo "_law_word", .glo "_law_bad_nets", .glo "_law_bad_ends", .glo "_law_asked", .glo "law", .free "ValueError", .free "all", .free "bool", .free "int", .free "isinstance", .free "len", .free "list", .free "range", .free "repr", .free "sorted", .free "tuple", .free "zip", .int "MOST_PLACES" 12, .int "MOST_KINDS" 10, .glo "TrailsError", .glo "NoNet", .glo "NoPlace", .glo "NoEnd", .glo "NoGoing", .glo "NoPlan", .glo "NoTable", .glo "NoTurns", .glo "NoCosts", .glo "NoRoad", .glo "NoNumber", .glo "NoKind", .glo "Unlike", .glo "Barred", .glo "NoText", .exc "NoGoing", .exc "NoNet"]
/-- the facts of the text behind its top -/
structure Tx (K : PySem.W.Frag) (mg : Str → Option Value) : Prop where
  g_is_whole : mg "is_whole" = some (.ref (He.ga K "is_whole"))
  d_is_whole : ∃ fd, FunD K "is_whole" "is_whole" (defArgs (top 19)) (defBody (top 19)) (defScope (top 19)) [] [] (He.ga K "is_whole") fd
  g_is_below : mg "is_below" = some (.ref (He.ga K "is_below"))
  d_is_below : ∃ fd, FunD K "is_below" "is_below" (defArgs (top 20)) (defBody (top 20)) (defScope (top 20)) [] [] (He.ga K "is_below") fd
  g_is_point : mg "is_point" = some (.ref (He.ga K "is_point"))
  d_is_point : ∃ fd, FunD K "is_point" "is_point" (defArgs (top 21)) (defBody (top 21)) (defScope (top 21)) [] [] (He.ga K "is_point") fd
  g_is_road : mg "is_road" = some (.ref (He.ga K "is_road"))
  d_is_road : ∃ fd, FunD K "is_road" "is_road" (defArgs (top 22)) (defBody (top 22)) (defScope (top 22)) [] [] (He.ga K "is_road") fd
  g_is_right_net : mg "is_right_net" = some (.ref (He.ga K "is_right_net"))
  d_is_right_net : ∃ fd, FunD K "is_right_net" "is_right_net" (defArgs (top 23)) (defBody (top 23)) (defScope (top 23)) [] [] (He.ga K "is_right_net") fd
  g_is_right_end : mg "is_right_end" = some (.ref (He.ga K "is_right_end"))
  d_is_right_end : ∃ fd, FunD K "is_right_end" "is_right_end" (defArgs (top 24)) (defBody (top 24)) (defScope (top 24)) [] [] (He.ga K "is_right_end") fd
  g_look_at_net : mg "look_at_net" = some (.ref (He.ga K "look_at_net"))
  d_look_at_net : ∃ fd, FunD K "look_at_net" "look_at_net" (defArgs (top 25)) (defBody (top 25)) (defScope (top 25)) [] [] (He.ga K "look_at_net") fd
  g_place_at : mg "place_at" = some (.ref (He.ga K "place_at"))
  d_place_at : ∃ fd, FunD K "place_at" "place_at" (defArgs (top 26)) (defBody (top 26)) (defScope (top 26)) [] [] (He.ga K "place_at") fd
  g_kind_at : mg "kind_at" = some (.ref (He.ga K "kind_at"))
  d_kind_at : ∃ fd, FunD K "kind_at" "kind_at" (defArgs (top 27)) (defBody (top 27)) (defScope (top 27)) [] [] (He.ga K "kind_at") fd
  g_other_end : mg "other_end" = some (.ref (He.ga K "other_end"))
  d_other_end : ∃ fd, FunD K "other_end" "other_end" (defArgs (top 28)) (defBody (top 28)) (defScope (top 28)) [] [] (He.ga K "other_end") fd
  g_is_right_going : mg "is_right_going" = some (.ref (He.ga K "is_right_going"))
  d_is_right_going : ∃ fd, FunD K "is_right_going" "is_right_going" (defArgs (top 30)) (defBody (top 30)) (defScope (top 30)) [] [] (He.ga K "is_right_going") fd
  g_turns_in : mg "turns_in" = some (.ref (He.ga K "turns_in"))
  d_turns_in : ∃ fd, FunD K "turns_in" "turns_in" (defArgs (top 31)) (defBody (top 31)) (defScope (top 31)) [] [] (He.ga K "turns_in") fd
  g_is_open : mg "is_open" = some (.ref (He.ga K "is_open"))
  d_is_open : ∃ fd, FunD K "is_open" "is_open" (defArgs (top 32)) (defBody (top 32)) (defScope (top 32)) [] [] (He.ga K "is_open") fd
  g_shut_in : mg "shut_in" = some (.ref (He.ga K "shut_in"))
  d_shut_in : ∃ fd, FunD K "shut_in" "shut_in" (defArgs (top 33)) (defBody (top 33)) (defScope (top 33)) [] [] (He.ga K "shut_in") fd
  g_look_at_going : mg "look_at_going" = some (.ref (He.ga K "look_at_going"))
  d_look_at_going : ∃ fd, FunD K "look_at_going" "look_at_going" (defArgs (top 34)) (defBody (top 34)) (defScope (top 34)) [] [] (He.ga K "look_at_going") fd
  g_is_going : mg "is_going" = some (.ref (He.ga K "is_going"))
  d_is_going : ∃ fd, FunD K "is_going" "is_going" (defArgs (top 35)) (defBody (top 35)) (defScope (top 35)) [(.bl false : V)] [] (He.ga K "is_going") fd
  g_turns_of : mg "turns_of" = some (.ref (He.ga K "turns_of"))
  d_turns_of : ∃ fd, FunD K "turns_of" "turns_of" (defArgs (top 36)) (defBody (top 36)) (defScope (top 36)) [(.bl false : V)] [] (He.ga K "turns_of") fd
  g_shut_turns : mg "shut_turns" = some (.ref (He.ga K "shut_turns"))
  d_shut_turns : ∃ fd, FunD K "shut_turns" "shut_turns" (defArgs (top 37)) (defBody (top 37)) (defScope (top 37)) [(.bl false : V)] [] (He.ga K "shut_turns") fd
  g_is_item : mg "is_item" = some (.ref (He.ga K "is_item"))
  d_is_item : ∃ fd, FunD K "is_item" "is_item" (defArgs (top 38)) (defBody (top 38)) (defScope (top 38)) [] [] (He.ga K "is_item") fd
  g_is_right_plan : mg "is_right_plan" = some (.ref (He.ga K "is_right_plan"))
  d_is_right_plan : ∃ fd, FunD K "is_right_plan" "is_right_plan" (defArgs (top 39)) (defBody (top 39)) (defScope (top 39)) [] [] (He.ga K "is_right_plan") fd
  g_is_plan : mg "is_plan" = some (.ref (He.ga K "is_plan"))
  d_is_plan : ∃ fd, FunD K "is_plan" "is_plan" (defArgs (top 40)) (defBody (top 40)) (defScope (top 40)) [] [] (He.ga K "is_plan") fd
  g__law_mixed : mg "_law_mixed" = some (.ref (He.ga K "_law_mixed"))
  d__law_mixed : ∃ fd, FunD K "_law_mixed" "_law_mixed" (defArgs (top 42)) (defBody (top 42)) (defScope (top 42)) [] [] (He.ga K "_law_mixed") fd
  g__law_pile : mg "_law_pile" = some (.ref (He.ga K "_law_pile"))
  d__law_pile : ∃ fd, FunD K "_law_pile" "_law_pile" (defArgs (top 43)) (defBody (top 43)) (defScope (top 43)) [] [] (He.ga K "_law_pile") fd
  g__law_take : mg "_law_take" = some (.ref (He.ga K "_law_take"))
  d__law_take : ∃ fd, FunD K "_law_take" "_law_take" (defArgs (top 44)) (defBody (top 44)) (defScope (top 44)) [] [] (He.ga K "_law_take") fd
  g__law_order_of : mg "_law_order_of" = some (.ref (He.ga K "_law_order_of"))
  d__law_order_of : ∃ fd, FunD K "_law_order_of" "_law_order_of" (defArgs (top 45)) (defBody (top 45)) (defScope (top 45)) [] [] (He.ga K "_law_order_of") fd
  g__law_whole : mg "_law_whole" = some (.ref (He.ga K "_law_whole"))
  d__law_whole : ∃ fd, FunD K "_law_whole" "_law_whole" (defArgs (top 46)) (defBody (top 46)) (defScope (top 46)) [] [] (He.ga K "_law_whole") fd
  g__law_net : mg "_law_net" = some (.ref (He.ga K "_law_net"))
  d__law_net : ∃ fd, FunD K "_law_net" "_law_net" (defArgs (top 47)) (defBody (top 47)) (defScope (top 47)) [] [] (He.ga K "_law_net") fd
  g__law_place : mg "_law_place" = some (.ref (He.ga K "_law_place"))
  d__law_place : ∃ fd, FunD K "_law_place" "_law_place" (defArgs (top 48)) (defBody (top 48)) (defScope (top 48)) [] [] (He.ga K "_law_place") fd
  g__law_far : mg "_law_far" = some (.ref (He.ga K "_law_far"))
  d__law_far : ∃ fd, FunD K "_law_far" "_law_far" (defArgs (top 49)) (defBody (top 49)) (defScope (top 49)) [] [] (He.ga K "_law_far") fd
  g__law_ends : mg "_law_ends" = some (.ref (He.ga K "_law_ends"))
  d__law_ends : ∃ fd, FunD K "_law_ends" "_law_ends" (defArgs (top 50)) (defBody (top 50)) (defScope (top 50)) [] [] (He.ga K "_law_ends") fd
  g__law_is_end : mg "_law_is_end" = some (.ref (He.ga K "_law_is_end"))
  d__law_is_end : ∃ fd, FunD K "_law_is_end" "_law_is_end" (defArgs (top 51)) (defBody (top 51)) (defScope (top 51)) [] [] (He.ga K "_law_is_end") fd
  g__law_turns : mg "_law_turns" = some (.ref (He.ga K "_law_turns"))
  d__law_turns : ∃ fd, FunD K "_law_turns" "_law_turns" (defArgs (top 52)) (defBody (top 52)) (defScope (top 52)) [] [] (He.ga K "_law_turns") fd
  g__law_is_turn : mg "_law_is_turn" = some (.ref (He.ga K "_law_is_turn"))
  d__law_is_turn : ∃ fd, FunD K "_law_is_turn" "_law_is_turn" (defArgs (top 53)) (defBody (top 53)) (defScope (top 53)) [] [] (He.ga K "_law_is_turn") fd
  g__law_is_going : mg "_law_is_going" = some (.ref (He.ga K "_law_is_going"))
  d__law_is_going : ∃ fd, FunD K "_law_is_going" "_law_is_going" (defArgs (top 54)) (defBody (top 54)) (defScope (top 54)) [] [] (He.ga K "_law_is_going") fd
  g__law_kinds : mg "_law_kinds" = some (.ref (He.ga K "_law_kinds"))
  d__law_kinds : ∃ fd, FunD K "_law_kinds" "_law_kinds" (defArgs (top 55)) (defBody (top 55)) (defScope (top 55)) [] [] (He.ga K "_law_kinds") fd
  g__law_word : mg "_law_word" = some (.ref (He.ga K "_law_word"))
  d__law_word : ∃ fd, FunD K "_law_word" "_law_word" (defArgs (top 56)) (defBody (top 56)) (defScope (top 56)) [] [] (He.ga K "_law_word") fd
  g__law_bad_nets : mg "_law_bad_nets" = some (.ref (He.ga K "_law_bad_nets"))
  d__law_bad_nets : ∃ fd, FunD K "_law_bad_nets" "_law_bad_nets" (defArgs (top 57)) (defBody (top 57)) (defScope (top 57)) [] [] (He.ga K "_law_bad_nets") fd
  g__law_bad_ends : mg "_law_bad_ends" = some (.ref (He.ga K "_law_bad_ends"))
  d__law_bad_ends : ∃ fd, FunD K "_law_bad_ends" "_law_bad_ends" (defArgs (top 58)) (defBody (top 58)) (defScope (top 58)) [] [] (He.ga K "_law_bad_ends") fd
  g__law_asked : mg "_law_asked" = some (.ref (He.ga K "_law_asked"))
  d__law_asked : ∃ fd, FunD K "_law_asked" "_law_asked" (defArgs (top 59)) (defBody (top 59)) (defScope (top 59)) [] [] (He.ga K "_law_asked") fd
  g_law : mg "law" = some (.ref (He.ga K "law"))
  d_law : ∃ fd, FunD K "law" "law" (defArgs (top 60)) (defBody (top 60)) (defScope (top 60)) [] [] (He.ga K "law") fd
  b_ValueError : mg "ValueError" = none
  b_all : mg "all" = none
  b_bool : mg "bool" = none
  b_int : mg "int" = none
  b_isinstance : mg "isinstance" = none
  b_len : mg "len" = none
  b_list : mg "list" = none
  b_range : mg "range" = none
  b_repr : mg "repr" = none
  b_sorted : mg "sorted" = none
  b_tuple : mg "tuple" = none
  b_zip : mg "zip" = none
  c_MOST_PLACES : ∃ t, mg "MOST_PLACES" = some (.int 12 t)
  c_MOST_KINDS : ∃ t, mg "MOST_KINDS" = some (.int 10 t)
  g_TrailsError : mg "TrailsError" = some (.ref (He.ga K "TrailsError"))
  g_NoNet : mg "NoNet" = some (.ref (He.ga K "NoNet"))
  g_NoPlace : mg "NoPlace" = some (.ref (He.ga K "NoPlace"))
  g_NoEnd : mg "NoEnd" = some (.ref (He.ga K "NoEnd"))
  g_NoGoing : mg "NoGoing" = some (.ref (He.ga K "NoGoing"))
  g_NoPlan : mg "NoPlan" = some (.ref (He.ga K "NoPlan"))
  g_NoTable : mg "NoTable" = some (.ref (He.ga K "NoTable"))
  g_NoTurns : mg "NoTurns" = some (.ref (He.ga K "NoTurns"))
  g_NoCosts : mg "NoCosts" = some (.ref (He.ga K "NoCosts"))
  g_NoRoad : mg "NoRoad" = some (.ref (He.ga K "NoRoad"))
  g_NoNumber : mg "NoNumber" = some (.ref (He.ga K "NoNumber"))
  g_NoKind : mg "NoKind" = some (.ref (He.ga K "NoKind"))
  g_Unlike : mg "Unlike" = some (.ref (He.ga K "Unlike"))
  g_Barred : mg "Barred" = some (.ref (He.ga K "Barred"))
  g_NoText : mg "NoText" = some (.ref (He.ga K "NoText"))
  x_NoGoing : (He.Fa.exc "NoGoing").ok K = true
  x_NoNet : (He.Fa.exc "NoNet").ok K = true
  xs : Kd.excsB xsL K = true
theorem tx_of {K : PySem.W.Frag} {h : Heap} {mg : Str → Option Value} (inK : K.In h) (G : h.Ns mainGlobals mg) (c : He.SaysD fa fn K) (cx : Kd.excsB xsL K = true) : Tx K mg where
  g_is_whole := He.glo_ok inK G (c.fact 0 (f := .glo "is_whole") rfl)
  d_is_whole := c.def_ 0 (d := dd "is_whole" 19) rfl
  g_is_below := He.glo_ok inK G (c.fact 1 (f := .glo "is_below") rfl)
  d_is_below := c.def_ 1 (d := dd "is_below" 20) rfl
  g_is_point := He.glo_ok inK G (c.fact 2 (f := .glo "is_point") rfl)
  d_is_point := c.def_ 2 (d := dd "is_point" 21) rfl
  g_is_road := He.glo_ok inK G (c.fact 3 (f := .glo "is_road") rfl)
  d_is_road := c.def_ 3 (d := dd "is_road" 22) rfl
  g_is_right_net := He.glo_ok inK G (c.fact 4 (f := .glo "is_right_net") rfl)
  d_is_right_net := c.def_ 4 (d := dd "is_right_net" 23) rfl
  g_is_right_end := He.glo_ok inK G (c.fact 5 (f := .glo "is_right_end") rfl)
  d_is_right_end := c.def_ 5 (d := dd "is_right_end" 24) rfl
  g_look_at_net := He.glo_ok inK G (c.fact 6 (f := .glo "look_at_net") rfl)
  d_look_at_net := c.def_ 6 (d := dd "look_at_net" 25) rfl
  g_place_at := He.glo_ok inK G (c.fact 7 (f := .glo "place_at") rfl)
  d_place_at := c.def_ 7 (d := dd "place_at" 26) rfl
  g_kind_at := He.glo_ok inK G (c.fact 8 (f := .glo "kind_at") rfl)
  d_kind_at := c.def_ 8 (d := dd "kind_at" 27) rfl
  g_other_end := He.glo_ok inK G (c.fact 9 (f := .glo "other_end") rfl)
  d_other_end := c.def_ 9 (d := dd "other_end" 28) rfl
  g_is_right_going := He.glo_ok inK G (c.fact 10 (f := .glo "is_right_going") rfl)
  d_is_right_going := c.def_ 10 (d := dd "is_right_going" 30) rfl
  g_turns_in := He.glo_ok inK G (c.fact 11 (f := .glo "turns_in") rfl)
  d_turns_in := c.def_ 11 (d := dd "turns_in" 31) rfl
  g_is_open := He.glo_ok inK G (c.fact 12 (f := .glo "is_open") rfl)
  d_is_open := c.def_ 12 (d := dd "is_open" 32) rfl
  g_shut_in := He.glo_ok inK G (c.fact 13 (f := .glo "shut_in") rfl)
  d_shut_in := c.def_ 13 (d := dd "shut_in" 33) rfl
  g_look_at_going := He.glo_ok inK G (c.fact 14 (f := .glo "look_at_going") rfl)
  d_look_at_going := c.def_ 14 (d := dd "look_at_going" 34) rfl
  g_is_going := He.glo_ok inK G (c.fact 15 (f := .glo "is_going") rfl)
  d_is_going := c.def_ 15 (d := { dd "is_going" 35 with dfl := [.bl false] }) rfl
  g_turns_of := He.glo_ok inK G (c.fact 16 (f := .glo "turns_of") rfl)
  d_turns_of := c.def_ 16 (d := { dd "turns_of" 36 with dfl := [.bl false] }) rfl
  g_shut_turns := He.glo_ok inK G (c.fact 17 (f := .glo "shut_turns") rfl)
  d_shut_turns := c.def_ 17 (d := { dd "shut_turns" 37 with dfl := [.bl false] }) rfl
  g_is_item := He.glo_ok inK G (c.fact 18 (f := .glo "is_item") rfl)
  d_is_item := c.def_ 18 (d := dd "is_item" 38) rfl
  g_is_right_plan := He.glo_ok inK G (c.fact 19 (f := .glo "is_right_plan") rfl)
  d_is_right_plan := c.def_ 19 (d := dd "is_right_plan" 39) rfl
  g_is_plan := He.glo_ok inK G (c.fact 20 (f := .glo "is_plan") rfl)
  d_is_plan := c.def_ 20 (d := dd "is_plan" 40) rfl
  g__law_mixed := He.glo_ok inK G (c.fact 21 (f := .glo "_law_mixed") rfl)
  d__law_mixed := c.def_ 21 (d := dd "_law_mixed" 42) rfl
  g__law_pile := He.glo_ok inK G (c.fact 22 (f := .glo "_law_pile") rfl)
  d__law_pile := c.def_ 22 (d := dd "_law_pile" 43) rfl
  g__law_take := He.glo_ok inK G (c.fact 23 (f := .glo "_law_take") rfl)
  d__law_take := c.def_ 23 (d := dd "_law_take" 44) rfl
  g__law_order_of := He.glo_ok inK G (c.fact 24 (f := .glo "_law_order_of") rfl)
  d__law_order_of := c.def_ 24 (d := dd "_law_order_of" 45) rfl
  g__law_whole := He.glo_ok inK G (c.fact 25 (f := .glo "_law_whole") rfl)
  d__law_whole := c.def_ 25 (d := dd "_law_whole" 46) rfl
  g__law_net := He.glo_ok inK G (c.fact 26 (f := .glo "_law_net") rfl)
  d__law_net := c.def_ 26 (d := dd "_law_net" 47) rfl
  g__law_place := He.glo_ok inK G (c.fact 27 (f := .glo "_law_place") rfl)
  d__law_place := c.def_ 27 (d := dd "_law_place" 48) rfl
  g__law_far := He.glo_ok inK G (c.fact 28 (f := .glo "_law_far") rfl)
  d__law_far := c.def_ 28 (d := dd "_law_far" 49) rfl
  g__law_ends := He.glo_ok inK G (c.fact 29 (f := .glo "_law_ends") rfl)
  d__law_ends := c.def_ 29 (d := dd "_law_ends" 50) rfl
  g__law_is_end := He.glo_ok inK G (c.fact 30 (f := .glo "_law_is_end") rfl)
  d__law_is_end := c.def_ 30 (d := dd "_law_is_end" 51) rfl
  g__law_turns := He.glo_ok inK G (c.fact 31 (f := .glo "_law_turns") rfl)
  d__law_turns := c.def_ 31 (d := dd "_law_turns" 52) rfl
  g__law_is_turn := He.glo_ok inK G (c.fact 32 (f := .glo "_law_is_turn") rfl)
  d__law_is_turn := c.def_ 32 (d := dd "_law_is_turn" 53) rfl
  g__law_is_going := He.glo_ok inK G (c.fact 33 (f := .glo "_law_is_going") rfl)
  d__law_is_going := c.def_ 33 (d := dd "_law_is_going" 54) rfl
  g__law_kinds := He.glo_ok inK G (c.fact 34 (f := .glo "_law_kinds") rfl)
  d__law_kinds := c.def_ 34 (d := dd "_law_kinds" 55) rfl
  g__law_word := He.glo_ok inK G (c.fact 35 (f := .glo "_law_word") rfl)
  d__law_word := c.def_ 35 (d := dd "_law_word" 56) rfl
  g__law_bad_nets := He.glo_ok inK G (c.fact 36 (f := .glo "_law_bad_nets") rfl)
  d__law_bad_nets := c.def_ 36 (d := dd "_law_bad_nets" 57) rfl
  g__law_bad_ends := He.glo_ok inK G (c.fact 37 (f := .glo "_law_bad_ends") rfl)
  d__law_bad_ends := c.def_ 37 (d := dd "_law_bad_ends" 58) rfl
  g__law_asked := He.glo_ok inK G (c.fact 38 (f := .glo "_law_asked") rfl)
  d__law_asked := c.def_ 38 (d := dd "_law_asked" 59) rfl
  g_law := He.glo_ok inK G (c.fact 39 (f := .glo "law") rfl)
  d_law := c.def_ 39 (d := dd "law" 60) rfl
  b_ValueError := He.free_ok inK G (c.fact 40 (f := .free "ValueError") rfl)
  b_all := He.free_ok inK G (c.fact 41 (f := .free "all") rfl)
  b_bool := He.free_ok inK G (c.fact 42 (f := .free "bool") rfl)
  b_int := He.free_ok inK G (c.fact 43 (f := .free "int") rfl)
  b_isinstance := He.free_ok inK G (c.fact 44 (f := .free "isinstance") rfl)
  b_len := He.free_ok inK G (c.fact 45 (f := .free "len") rfl)
  b_list := He.free_ok inK G (c.fact 46 (f := .free "list") rfl)
  b_range := He.free_ok inK G (c.fact 47 (f := .free "range") rfl)
  b_repr := He.free_ok inK G (c.fact 48 (f := .free "repr") rfl)
  b_sorted := He.free_ok inK G (c.fact 49 (f := .free "sorted") rfl)
  b_tuple := He.free_ok inK G (c.fact 50 (f := .free "tuple") rfl)
  b_zip := He.free_ok inK G (c.fact 51 (f := .free "zip") rfl)
  c_MOST_PLACES := He.int_ok inK G (c.fact 52 (f := .int "MOST_PLACES" 12) rfl)
  c_MOST_KINDS := He.int_ok inK G (c.fact 53 (f := .int "MOST_KINDS" 10) rfl)
  g_TrailsError := He.glo_ok inK G (c.fact 54 (f := .glo "TrailsError") rfl)
  g_NoNet := He.glo_ok inK G (c.fact 55 (f := .glo "NoNet") rfl)
  g_NoPlace := He.glo_ok inK G (c.fact 56 (f := .glo "NoPlace") rfl)
  g_NoEnd := He.glo_ok inK G (c.fact 57 (f := .glo "NoEnd") rfl)
  g_NoGoing := He.glo_ok inK G (c.fact 58 (f := .glo "NoGoing") rfl)
  g_NoPlan := He.glo_ok inK G (c.fact 59 (f := .glo "NoPlan") rfl)
  g_NoTable := He.glo_ok inK G (c.fact 60 (f := .glo "NoTable") rfl)
  g_NoTurns := He.glo_ok inK G (c.fact 61 (f := .glo "NoTurns") rfl)
  g_NoCosts := He.glo_ok inK G (c.fact 62 (f := .glo "NoCosts") rfl)
  g_NoRoad := He.glo_ok inK G (c.fact 63 (f := .glo "NoRoad") rfl)
  g_NoNumber := He.glo_ok inK G (c.fact 64 (f := .glo "NoNumber") rfl)
  g_NoKind := He.glo_ok inK G (c.fact 65 (f := .glo "NoKind") rfl)
  g_Unlike := He.glo_ok inK G (c.fact 66 (f := .glo "Unlike") rfl)
  g_Barred := He.glo_ok inK G (c.fact 67 (f := .glo "Barred") rfl)
  g_NoText := He.glo_ok inK G (c.fact 68 (f := .glo "NoText") rfl)
  x_NoGoing := c.fact 69 (f := .exc "NoGoing") rfl
  x_NoNet := c.fact 70 (f := .exc "NoNet") rfl
  xs := cx
abbrev R : PySem.W.OpenRow := PySem.W.OpenLaw.row PySem.Challenge.rw_kindtrails_k13_wrong_goings
abbrev hk : PySem.W.Hook := He.hookX 4 fa fn [] [] (Kd.excsB xsL)
def ob (s : PySem.W.SharedT) : He.AlX := He.obsX 4 fa fn [] [] (Kd.excsB xsL) (HandSHeadRun.getT s)
theorem ob_eq (s : PySem.W.SharedT) : ob s = hk.obs s.abs := He.obsX_eq (HandSHeadRun.getT_eq s)
def loose0 : List PySem.Str := ["TrailsError", "NoNet", "NoPlace", "NoEnd", "NoGoing", "NoPlan", "NoTable", "NoTurns", "NoCosts", "NoRoad", "NoNumber", "NoKind", "Unlike", "Barred", "NoText", "MOST_PLACES", "MOST_KINDS", "is_whole", "is_below", "is_point"]
def loose1 : List PySem.Str := ["is_road", "is_right_net", "is_right_end", "look_at_net", "place_at", "kind_at", "other_end", "is_right_going", "turns_in", "is_open", "shut_in", "look_at_going", "is_going", "turns_of", "shut_turns", "is_item", "is_right_plan", "is_plan", "_law_mixed", "_law_pile"]
def loose2 : List PySem.Str := ["_law_take", "_law_order_of", "_law_whole", "_law_net", "_law_place", "_law_far", "_law_ends", "_law_is_end", "_law_turns", "_law_is_turn", "_law_is_going", "_law_kinds", "_law_word", "_law_bad_nets", "_law_bad_ends", "_law_asked"]
def loose : List PySem.Str := loose0 ++ loose1 ++ loose2
theorem run (w : World) : HandSHeadRun.RunEq R (PySem.W.view R.prog [60]) hk ob 20000 loose w := by
  intro os
  kernel_rfl
end KHead
namespace KHead
open PySem PySem.Spec PyProof.Rows L2 Kd
abbrev nm_is_whole : List Str := ["thing"]
theorem sc_is_whole : FnScope nm_is_whole ["thing"] (defScope (top 19)) := ⟨rfl, rfl, rfl, by decide +kernel, rfl, by decide +kernel, by decide +kernel⟩
theorem ok_is_whole {K : PySem.W.Frag} {mg : Str → Option Value} (T : Tx K mg) (P : Program) (w : World) (base : Heap) : Cal P w K mg base 1 "is_whole" [] [] 1 m_is_whole false := by
  obtain ⟨fd, F⟩ := T.d_is_whole
  have scN := sc_is_whole
  refine ⟨_, fd, ["thing"], [], [], T.g_is_whole, F.kp, fun_ok [] false F sc_is_whole rfl rfl fun cdv A outer s H E B hr gd tk po hB hfr => ?_, F.bindsN fun _ _ _ _ _ _ us hl => match us, hl with | [_], _ => rfl, .nil, fun _ _ => .nil⟩
  exact (ds_one (ds_ret hfr (de_and (de_isi "int" (de_var 0) T.b_isinstance T.b_int) (de_one (de_not (de_isi "bool" (de_var 0) T.b_isinstance T.b_bool))))))

abbrev nm_place_at : List Str := ["net", "end"]
theorem sc_place_at : FnScope nm_place_at ["net", "end"] (defScope (top 26)) := ⟨rfl, rfl, rfl, by decide +kernel, rfl, by decide +kernel, by decide +kernel⟩
theorem ok_place_at {K : PySem.W.Frag} {mg : Str → Option Value} (T : Tx K mg) (P : Program) (w : World) (base : Heap) : Cal P w K mg base 1 "place_at" [] [] 2 m_place_at false := by
  obtain ⟨fd, F⟩ := T.d_place_at
  have scN := sc_place_at
  refine ⟨_, fd, ["net", "end"], [], [], T.g_place_at, F.kp, fun_ok [] false F sc_place_at rfl rfl fun cdv A outer s H E B hr gd tk po hB hfr => ?_, F.bindsN fun _ _ _ _ _ _ us hl => match us, hl with | [_, _], _ => rfl, .nil, fun _ _ => .nil⟩
  exact (ds_one (ds_ret hfr (de_ix ix_seq opd_ix (de_ix ix_seq opd_ix (de_ix ix_seq opd_ix (de_ix ix_seq opd_ix (de_var 0) de_int) (de_ix ix_seq opd_ix (de_var 1) de_int)) (de_ix ix_seq opd_ix (de_var 1) de_int)) de_int)))

abbrev nm_kind_at : List Str := ["net", "end"]
theorem sc_kind_at : FnScope nm_kind_at ["net", "end"] (defScope (top 27)) := ⟨rfl, rfl, rfl, by decide +kernel, rfl, by decide +kernel, by decide +kernel⟩
theorem ok_kind_at {K : PySem.W.Frag} {mg : Str → Option Value} (T : Tx K mg) (P : Program) (w : World) (base : Heap) : Cal P w K mg base 1 "kind_at" [] [] 2 m_kind_at false := by
  obtain ⟨fd, F⟩ := T.d_kind_at
  have scN := sc_kind_at
  refine ⟨_, fd, ["net", "end"], [], [], T.g_kind_at, F.kp, fun_ok [] false F sc_kind_at rfl rfl fun cdv A outer s H E B hr gd tk po hB hfr => ?_, F.bindsN fun _ _ _ _ _ _ us hl => match us, hl with | [_, _], _ => rfl, .nil, fun _ _ => .nil⟩
  exact (ds_one (ds_ret hfr (de_ix ix_seq opd_ix (de_ix ix_seq opd_ix (de_ix ix_seq opd_ix (de_ix ix_seq opd_ix (de_var 0) de_int) (de_ix ix_seq opd_ix (de_var 1) de_int)) (de_ix ix_seq opd_ix (de_var 1) de_int)) de_int)))

abbrev nm_other_end : List Str := ["end"]
theorem sc_other_end : FnScope nm_other_end ["end"] (defScope (top 28)) := ⟨rfl, rfl, rfl, by decide +kernel, rfl, by decide +kernel, by decide +kernel⟩
theorem ok_other_end {K : PySem.W.Frag} {mg : Str → Option Value} (T : Tx K mg) (P : Program) (w : World) (base : Heap) : Cal P w K mg base 1 "other_end" [] [] 1 m_other_end false := by
  obtain ⟨fd, F⟩ := T.d_other_end
  have scN := sc_other_end
  refine ⟨_, fd, ["end"], [], [], T.g_other_end, F.kp, fun_ok [] false F sc_other_end rfl rfl fun cdv A outer s H E B hr gd tk po hB hfr => ?_, F.bindsN fun _ _ _ _ _ _ us hl => match us, hl with | [_], _ => rfl, .nil, fun _ _ => .nil⟩
  exact (ds_one (ds_ret hfr (de_tup (da_cons (de_ix ix_seq opd_ix (de_var 0) de_int) (da_cons (de_op op_sub opd_sub de_int (de_ix ix_seq opd_ix (de_var 0) de_int)) da_nil)))))

abbrev nm__law_mixed : List Str := ["_law_cell", "_law_k", "_law_number"]
theorem sc__law_mixed : FnScope nm__law_mixed ["_law_cell", "_law_k"] (defScope (top 42)) := ⟨rfl, rfl, rfl, by decide +kernel, rfl, by decide +kernel, by decide +kernel⟩
theorem ok__law_mixed {K : PySem.W.Frag} {mg : Str → Option Value} (T : Tx K mg) (P : Program) (w : World) (base : Heap) : Cal P w K mg base 1 "_law_mixed" [] [] 2 m__law_mixed false := by
  obtain ⟨fd, F⟩ := T.d__law_mixed
  have scN := sc__law_mixed
  refine ⟨_, fd, ["_law_cell", "_law_k"], [], [], T.g__law_mixed, F.kp, fun_ok [] false F sc__law_mixed rfl rfl fun cdv A outer s H E B hr gd tk po hB hfr => ?_, F.bindsN fun _ _ _ _ _ _ us hl => match us, hl with | [_, _], _ => rfl, .nil, fun _ _ => .nil⟩
  exact (ds_cons (mid := []) (ds_set 2 scN.nd (de_op op_modN opd_mod (de_callT call_int1 fnd_int T.b_int (da_cons (de_op op_addG opd_add (de_op op_addG opd_add (de_op op_mulW opd_mul (de_op op_modN opd_mod (de_callT call_int1 fnd_int T.b_int (da_cons (de_var 0) da_nil)) de_int) de_int) (de_op op_mulW opd_mul (de_var 1) de_int)) de_int) da_nil)) de_int))
    (ds_cons (mid := []) (ds_set 2 scN.nd (de_op op_modN opd_mod (de_callT call_int1 fnd_int T.b_int (da_cons (de_op op_mulW opd_mul (de_var 2) (de_var 2)) da_nil)) de_int))
    (ds_one (ds_ret hfr (de_op op_modN opd_mod (de_callT call_int1 fnd_int T.b_int (da_cons (de_op op_mulW opd_mul (de_var 2) (de_op op_addG opd_add (de_var 2) de_int)) da_nil)) de_int)))))

abbrev nm__law_take : List Str := ["_law_pile_here", "_law_size", "_law_digit"]
theorem sc__law_take : FnScope nm__law_take ["_law_pile_here", "_law_size"] (defScope (top 44)) := ⟨rfl, rfl, rfl, by decide +kernel, rfl, by decide +kernel, by decide +kernel⟩
theorem ok__law_take {K : PySem.W.Frag} {mg : Str → Option Value} (T : Tx K mg) (P : Program) (w : World) (base : Heap) : Cal P w K mg base 1 "_law_take" [] [0] 2 m__law_take false := by
  obtain ⟨fd, F⟩ := T.d__law_take
  have scN := sc__law_take
  refine ⟨_, fd, ["_law_pile_here", "_law_size"], [], [], T.g__law_take, F.kp, fun_ok [0] false F sc__law_take rfl rfl fun cdv A outer s H E B hr gd tk po hB hfr => ?_, F.bindsN fun _ _ _ _ _ _ us hl => match us, hl with | [_, _], _ => rfl, .nil, fun _ _ => .nil⟩
  exact (ds_cons (mid := [0]) (ds_set 2 scN.nd (de_op op_modN opd_mod (de_callT call_int1 fnd_int T.b_int (da_cons (de_ixO 0 de_int) da_nil)) (de_var 1)))
    (ds_cons (mid := [0]) (ds_sto 0 (de_op op_fdivN opd_div (de_ixO 0 de_int) (de_var 1)) de_int)
    (ds_one (ds_ret hfr (de_var 2)))))

abbrev nm__law_whole : List Str := ["_law_thing"]
theorem sc__law_whole : FnScope nm__law_whole ["_law_thing"] (defScope (top 46)) := ⟨rfl, rfl, rfl, by decide +kernel, rfl, by decide +kernel, by decide +kernel⟩
theorem ok__law_whole {K : PySem.W.Frag} {mg : Str → Option Value} (T : Tx K mg) (P : Program) (w : World) (base : Heap) : Cal P w K mg base 1 "_law_whole" [] [] 1 m__law_whole false := by
  obtain ⟨fd, F⟩ := T.d__law_whole
  have scN := sc__law_whole
  refine ⟨_, fd, ["_law_thing"], [], [], T.g__law_whole, F.kp, fun_ok [] false F sc__law_whole rfl rfl fun cdv A outer s H E B hr gd tk po hB hfr => ?_, F.bindsN fun _ _ _ _ _ _ us hl => match us, hl with | [_], _ => rfl, .nil, fun _ _ => .nil⟩
  exact (ds_one (ds_ret hfr (de_and (de_isi "int" (de_var 0) T.b_isinstance T.b_int) (de_one (de_not (de_isi "bool" (de_var 0) T.b_isinstance T.b_bool))))))

abbrev nm__law_place : List Str := ["_law_net_here", "_law_end"]
theorem sc__law_place : FnScope nm__law_place ["_law_net_here", "_law_end"] (defScope (top 48)) := ⟨rfl, rfl, rfl, by decide +kernel, rfl, by decide +kernel, by decide +kernel⟩
theorem ok__law_place {K : PySem.W.Frag} {mg : Str → Option Value} (T : Tx K mg) (P : Program) (w : World) (base : Heap) : Cal P w K mg base 1 "_law_place" [] [] 2 m__law_place false := by
  obtain ⟨fd, F⟩ := T.d__law_place
  have scN := sc__law_place
  refine ⟨_, fd, ["_law_net_here", "_law_end"], [], [], T.g__law_place, F.kp, fun_ok [] false F sc__law_place rfl rfl fun cdv A outer s H E B hr gd tk po hB hfr => ?_, F.bindsN fun _ _ _ _ _ _ us hl => match us, hl with | [_, _], _ => rfl, .nil, fun _ _ => .nil⟩
  exact (ds_one (ds_ret hfr (de_ix ix_seq opd_ix (de_ix ix_seq opd_ix (de_ix ix_seq opd_ix (de_ix ix_seq opd_ix (de_var 0) de_int) (de_ix ix_seq opd_ix (de_var 1) de_int)) (de_ix ix_seq opd_ix (de_var 1) de_int)) de_int)))

abbrev nm__law_far : List Str := ["_law_end"]
theorem sc__law_far : FnScope nm__law_far ["_law_end"] (defScope (top 49)) := ⟨rfl, rfl, rfl, by decide +kernel, rfl, by decide +kernel, by decide +kernel⟩
theorem ok__law_far {K : PySem.W.Frag} {mg : Str → Option Value} (T : Tx K mg) (P : Program) (w : World) (base : Heap) : Cal P w K mg base 1 "_law_far" [] [] 1 m__law_far false := by
  obtain ⟨fd, F⟩ := T.d__law_far
  have scN := sc__law_far
  refine ⟨_, fd, ["_law_end"], [], [], T.g__law_far, F.kp, fun_ok [] false F sc__law_far rfl rfl fun cdv A outer s H E B hr gd tk po hB hfr => ?_, F.bindsN fun _ _ _ _ _ _ us hl => match us, hl with | [_], _ => rfl, .nil, fun _ _ => .nil⟩
  exact (ds_one (ds_ret hfr (de_tup (da_cons (de_ix ix_seq opd_ix (de_var 0) de_int) (da_cons (de_op op_sub opd_sub de_int (de_ix ix_seq opd_ix (de_var 0) de_int)) da_nil)))))

abbrev nm__law_ends : List Str := ["_law_net_here", "_law_found", "_law_road"]
theorem sc__law_ends : FnScope nm__law_ends ["_law_net_here"] (defScope (top 50)) := ⟨rfl, rfl, rfl, by decide +kernel, rfl, by decide +kernel, by decide +kernel⟩
theorem ok__law_ends {K : PySem.W.Frag} {mg : Str → Option Value} (T : Tx K mg) (P : Program) (w : World) (base : Heap) : Cal P w K mg base 1 "_law_ends" [] [] 1 m__law_ends false := by
  obtain ⟨fd, F⟩ := T.d__law_ends
  have scN := sc__law_ends
  refine ⟨_, fd, ["_law_net_here"], [], [], T.g__law_ends, F.kp, fun_ok [] false F sc__law_ends rfl rfl fun cdv A outer s H E B hr gd tk po hB hfr => ?_, F.bindsN fun _ _ _ _ _ _ us hl => match us, hl with | [_], _ => rfl, .nil, fun _ _ => .nil⟩
  exact (ds_cons (mid := []) (ds_set 1 scN.nd (de_lst da_nil))
    (ds_cons (mid := []) (ds_for po rfl (di_rng1 T.b_range (da_cons (de_callB call_len fnd_len T.b_len (da_cons (de_ix ix_seq opd_ix (de_var 0) de_int) da_nil)) da_nil)) (dg_name 2 scN.nd) (ds_one (ds_set 1 scN.nd (de_op op_addG opd_add (de_var 1) (de_lst (da_cons (de_tup (da_cons (de_var 2) (da_cons de_int da_nil))) (da_cons (de_tup (da_cons (de_var 2) (da_cons de_int da_nil))) da_nil)))))))
    (ds_one (ds_ret hfr (de_var 1)))))

abbrev nm__law_kinds : List Str := ["_law_error", "_law_found", "_law_words", "_law_word_here", "_law_truth"]
theorem sc__law_kinds : FnScope nm__law_kinds ["_law_error"] (defScope (top 55)) := ⟨rfl, rfl, rfl, by decide +kernel, rfl, by decide +kernel, by decide +kernel⟩
theorem ok__law_kinds {K : PySem.W.Frag} {mg : Str → Option Value} (T : Tx K mg) (P : Program) (w : World) (base : Heap) : Cal P w K mg base 1 "_law_kinds" [] [] 1 m__law_kinds false := by
  obtain ⟨fd, F⟩ := T.d__law_kinds
  have scN := sc__law_kinds
  refine ⟨_, fd, ["_law_error"], [], [], T.g__law_kinds, F.kp, fun_ok [] false F sc__law_kinds rfl rfl fun cdv A outer s H E B hr gd tk po hB hfr => ?_, F.bindsN fun _ _ _ _ _ _ us hl => match us, hl with | [_], _ => rfl, .nil, fun _ _ => .nil⟩
  exact (ds_cons (mid := []) (ds_set 1 scN.nd (de_lst (da_cons (de_isX xsL T.xs T.g_NoNet (de_var 0) T.b_isinstance (hx := (.tail _ (.head _)))) (da_cons (de_isX xsL T.xs T.g_NoPlace (de_var 0) T.b_isinstance (hx := (.tail _ (.tail _ (.head _))))) (da_cons (de_isX xsL T.xs T.g_NoEnd (de_var 0) T.b_isinstance (hx := (.tail _ (.tail _ (.tail _ (.head _)))))) da_nil)))))
    (ds_cons (mid := []) (ds_set 1 scN.nd (de_op op_addG opd_add (de_var 1) (de_lst (da_cons (de_isX xsL T.xs T.g_NoGoing (de_var 0) T.b_isinstance (hx := (.tail _ (.tail _ (.tail _ (.tail _ (.head _))))))) (da_cons (de_isX xsL T.xs T.g_NoPlan (de_var 0) T.b_isinstance (hx := (.tail _ (.tail _ (.tail _ (.tail _ (.tail _ (.head _)))))))) (da_cons (de_isX xsL T.xs T.g_NoTable (de_var 0) T.b_isinstance (hx := (.tail _ (.tail _ (.tail _ (.tail _ (.tail _ (.tail _ (.head _))))))))) da_nil))))))
    (ds_cons (mid := []) (ds_set 1 scN.nd (de_op op_addG opd_add (de_var 1) (de_lst (da_cons (de_isX xsL T.xs T.g_NoTurns (de_var 0) T.b_isinstance (hx := (.tail _ (.tail _ (.tail _ (.tail _ (.tail _ (.tail _ (.tail _ (.head _)))))))))) (da_cons (de_isX xsL T.xs T.g_NoCosts (de_var 0) T.b_isinstance (hx := (.tail _ (.tail _ (.tail _ (.tail _ (.tail _ (.tail _ (.tail _ (.tail _ (.head _))))))))))) (da_cons (de_isX xsL T.xs T.g_NoRoad (de_var 0) T.b_isinstance (hx := (.tail _ (.tail _ (.tail _ (.tail _ (.tail _ (.tail _ (.tail _ (.tail _ (.tail _ (.head _)))))))))))) da_nil))))))
    (ds_cons (mid := []) (ds_set 1 scN.nd (de_op op_addG opd_add (de_var 1) (de_lst (da_cons (de_isX xsL T.xs T.g_NoNumber (de_var 0) T.b_isinstance (hx := (.tail _ (.tail _ (.tail _ (.tail _ (.tail _ (.tail _ (.tail _ (.tail _ (.tail _ (.tail _ (.head _))))))))))))) (da_cons (de_isX xsL T.xs T.g_NoKind (de_var 0) T.b_isinstance (hx := (.tail _ (.tail _ (.tail _ (.tail _ (.tail _ (.tail _ (.tail _ (.tail _ (.tail _ (.tail _ (.tail _ (.head _)))))))))))))) (da_cons (de_isX xsL T.xs T.g_Unlike (de_var 0) T.b_isinstance (hx := (.tail _ (.tail _ (.tail _ (.tail _ (.tail _ (.tail _ (.tail _ (.tail _ (.tail _ (.tail _ (.tail _ (.tail _ (.head _))))))))))))))) da_nil))))))
    (ds_cons (mid := [1]) (ds_setO 1 scN.nd (do_addL (de_var 1) (de_lst (da_cons (de_isX xsL T.xs T.g_Barred (de_var 0) T.b_isinstance (hx := (.tail _ (.tail _ (.tail _ (.tail _ (.tail _ (.tail _ (.tail _ (.tail _ (.tail _ (.tail _ (.tail _ (.tail _ (.tail _ (.head _)))))))))))))))) (da_cons (de_isX xsL T.xs T.g_NoText (de_var 0) T.b_isinstance (hx := (.tail _ (.tail _ (.tail _ (.tail _ (.tail _ (.tail _ (.tail _ (.tail _ (.tail _ (.tail _ (.tail _ (.tail _ (.tail _ (.tail _ (.head _))))))))))))))))) (da_cons (de_isV xsL T.xs T.b_ValueError (de_var 0) T.b_isinstance) da_nil))))))
    (ds_cons (mid := []) (ds_out [1] (ds_e (de_mt 1 PySem.F.slot_list_append PySem.F.type_list_append mt_append mtd_app (da_cons (de_isX xsL T.xs T.g_TrailsError (de_var 0) T.b_isinstance (hx := (.head _))) da_nil))))
    (ds_cons (mid := []) (ds_set 2 scN.nd (de_lst (da_cons de_str (da_cons de_str (da_cons de_str (da_cons de_str (da_cons de_str (da_cons de_str (da_cons de_str (da_cons de_str (da_cons de_str (da_cons de_str (da_cons de_str (da_cons de_str da_nil))))))))))))))
    (ds_cons (mid := []) (ds_set 2 scN.nd (de_op op_addG opd_add (de_var 2) (de_lst (da_cons de_str (da_cons de_str (da_cons de_str (da_cons de_str da_nil)))))))
    (ds_one (ds_ret hfr (de_lc rfl scN.nd hB (di_zip T.b_zip (da_cons (de_var 2) (da_cons (de_var 1) da_nil))) (blkOk_by (own := [("_law_word_here", 3), ("_law_truth", 4)]) (N := nm__law_kinds) (sc := defScope (top 55)) (by decide +kernel)) (fun _ _ _ _ _ B hW hB => (dg_tup rfl (dgs_cons (dg_name 3 scN.nd) (dgs_cons (dg_name 4 scN.nd) dgs_nil)))) (fun _ _ _ _ _ B hW hB => (dts_one (dt_e (de_var 4)))) (fun _ _ _ _ _ B hW hB => (de_var 3)))))))))))))

abbrev nm__law_bad_nets : List Str := ["_law_net_here", "_law_many", "_law_roads", "_law_road", "_law_found", "_law_odds", "_law_odd"]
theorem sc__law_bad_nets : FnScope nm__law_bad_nets ["_law_net_here"] (defScope (top 57)) := ⟨rfl, rfl, rfl, by decide +kernel, rfl, by decide +kernel, by decide +kernel⟩
theorem ok__law_bad_nets {K : PySem.W.Frag} {mg : Str → Option Value} (T : Tx K mg) (P : Program) (w : World) (base : Heap) : Cal P w K mg base 1 "_law_bad_nets" [] [] 1 m__law_bad_nets false := by
  obtain ⟨fd, F⟩ := T.d__law_bad_nets
  have scN := sc__law_bad_nets
  refine ⟨_, fd, ["_law_net_here"], [], [], T.g__law_bad_nets, F.kp, fun_ok [] false F sc__law_bad_nets rfl rfl fun cdv A outer s H E B hr gd tk po hB hfr => ?_, F.bindsN fun _ _ _ _ _ _ us hl => match us, hl with | [_], _ => rfl, .nil, fun _ _ => .nil⟩
  exact (ds_cons (mid := []) (ds_as (de_var 0) (dg_tup rfl (dgs_cons (dg_name 1 scN.nd) (dgs_cons (dg_name 2 scN.nd) dgs_nil))))
    (ds_cons (mid := []) (ds_set 3 scN.nd (de_tup (da_cons (de_tup (da_cons de_int (da_cons de_int da_nil))) (da_cons (de_tup (da_cons de_int (da_cons de_int da_nil))) da_nil))))
    (ds_cons (mid := []) (ds_set 4 scN.nd (de_lst (da_cons de_non (da_cons de_int (da_cons de_bl (da_cons de_str (da_cons (de_tup da_nil) (da_cons (de_var 1) (da_cons (de_var 2) (da_cons (de_callT call_list_of fnd_list T.b_list (da_cons (de_var 0) da_nil)) (da_cons (de_tup (da_cons (de_var 1) da_nil)) (da_cons (de_tup (da_cons (de_var 1) (da_cons (de_var 2) (da_cons de_int da_nil)))) (da_cons (de_tup (da_cons (de_var 1) (da_cons (de_callT call_list_of fnd_list T.b_list (da_cons (de_var 2) da_nil)) da_nil))) da_nil)))))))))))))
    (ds_cons (mid := []) (ds_set 4 scN.nd (de_op op_addG opd_add (de_var 4) (de_lst (da_cons (de_tup (da_cons de_int (da_cons (de_var 2) da_nil))) (da_cons (de_tup (da_cons de_int (da_cons (de_var 2) da_nil))) (da_cons (de_tup (da_cons de_bl (da_cons (de_tup da_nil) da_nil))) (da_cons (de_tup (da_cons de_str (da_cons (de_var 2) da_nil))) (da_cons (de_tup (da_cons (de_un un_neg und_fneg de_int) (da_cons (de_tup da_nil) da_nil))) (da_cons (de_tup (da_cons de_non (da_cons (de_var 2) da_nil))) (da_cons (de_tup (da_cons (de_var 1) (da_cons de_non da_nil))) da_nil))))))))))
    (ds_cons (mid := []) (ds_set 5 scN.nd (de_lst (da_cons (de_tup (da_cons (de_tup (da_cons de_int (da_cons de_int da_nil))) da_nil)) (da_cons (de_tup (da_cons (de_tup (da_cons de_int (da_cons de_int da_nil))) (da_cons (de_tup (da_cons de_int (da_cons de_int da_nil))) (da_cons (de_tup (da_cons de_int (da_cons de_int da_nil))) da_nil)))) (da_cons (de_lst (da_cons (de_tup (da_cons de_int (da_cons de_int da_nil))) (da_cons (de_tup (da_cons de_int (da_cons de_int da_nil))) da_nil))) (da_cons (de_tup (da_cons (de_tup (da_cons de_int (da_cons de_int da_nil))) (da_cons (de_lst (da_cons de_int (da_cons de_int da_nil))) da_nil))) (da_cons (de_tup (da_cons (de_tup (da_cons de_int (da_cons de_int da_nil))) (da_cons (de_tup (da_cons de_int da_nil)) da_nil))) (da_cons (de_tup (da_cons (de_tup (da_cons de_int (da_cons de_int da_nil))) (da_cons de_non da_nil))) da_nil))))))))
    (ds_cons (mid := []) (ds_set 4 scN.nd (de_op op_addG opd_add (de_var 4) (de_lc rfl scN.nd hB (di_list (de_var 5)) (blkOk_by (own := [("_law_odd", 6)]) (N := nm__law_bad_nets) (sc := defScope (top 57)) (by decide +kernel)) (fun _ _ _ _ _ B hW hB => (dg_name 6 scN.nd)) (fun _ _ _ _ _ B hW hB => dts_nil) (fun _ _ _ _ _ B hW hB => (de_tup (da_cons (de_var 1) (da_cons (de_op op_addG opd_add (de_var 2) (de_tup (da_cons (de_var 6) da_nil))) da_nil)))))))
    (ds_cons (mid := []) (ds_set 5 scN.nd (de_lst (da_cons (de_tup (da_cons (de_var 1) (da_cons de_int da_nil))) (da_cons (de_tup (da_cons (de_un un_neg und_fneg de_int) (da_cons de_int da_nil))) (da_cons (de_tup (da_cons de_int (da_cons de_int da_nil))) (da_cons (de_tup (da_cons de_int (da_cons (de_un un_neg und_fneg de_int) da_nil))) (da_cons (de_tup (da_cons de_bl (da_cons de_int da_nil))) (da_cons (de_tup (da_cons de_int (da_cons de_bl da_nil))) (da_cons (de_tup (da_cons de_bl (da_cons de_int da_nil))) (da_cons (de_tup (da_cons de_str (da_cons de_int da_nil))) (da_cons (de_tup (da_cons de_int (da_cons de_non da_nil))) (da_cons (de_tup (da_cons de_int (da_cons de_int (da_cons de_int da_nil)))) da_nil))))))))))))
    (ds_cons (mid := []) (ds_for po rfl (di_list (de_var 5)) (dg_name 6 scN.nd) (ds_one (ds_set 4 scN.nd (de_op op_addG opd_add (de_var 4) (de_lst (da_cons (de_tup (da_cons (de_var 1) (da_cons (de_op op_addG opd_add (de_tup (da_cons (de_tup (da_cons (de_tup (da_cons de_int (da_cons de_int da_nil))) (da_cons (de_var 6) da_nil))) da_nil)) (de_var 2)) da_nil))) (da_cons (de_tup (da_cons (de_var 1) (da_cons (de_op op_addG opd_add (de_var 2) (de_tup (da_cons (de_tup (da_cons (de_var 6) (da_cons (de_tup (da_cons de_int (da_cons de_int da_nil))) da_nil))) da_nil))) da_nil))) da_nil)))))))
    (ds_one (ds_ret hfr (de_op op_addG opd_add (de_var 4) (de_lst (da_cons (de_tup (da_cons (de_var 1) (da_cons (de_op op_addG opd_add (de_var 2) (de_tup (da_cons (de_var 3) (da_cons de_non da_nil)))) da_nil))) (da_cons (de_tup (da_cons (de_var 1) (da_cons (de_tup (da_cons de_non da_nil)) da_nil))) (da_cons (de_lst (da_cons (de_var 1) (da_cons (de_var 2) da_nil))) (da_cons (de_tup (da_cons (de_var 2) (da_cons (de_var 1) da_nil))) da_nil))))))))))))))))

abbrev nm__law_bad_ends : List Str := ["_law_net_here", "_law_many", "_law_found"]
theorem sc__law_bad_ends : FnScope nm__law_bad_ends ["_law_net_here"] (defScope (top 58)) := ⟨rfl, rfl, rfl, by decide +kernel, rfl, by decide +kernel, by decide +kernel⟩
theorem ok__law_bad_ends {K : PySem.W.Frag} {mg : Str → Option Value} (T : Tx K mg) (P : Program) (w : World) (base : Heap) : Cal P w K mg base 1 "_law_bad_ends" [] [] 1 m__law_bad_ends false := by
  obtain ⟨fd, F⟩ := T.d__law_bad_ends
  have scN := sc__law_bad_ends
  refine ⟨_, fd, ["_law_net_here"], [], [], T.g__law_bad_ends, F.kp, fun_ok [] false F sc__law_bad_ends rfl rfl fun cdv A outer s H E B hr gd tk po hB hfr => ?_, F.bindsN fun _ _ _ _ _ _ us hl => match us, hl with | [_], _ => rfl, .nil, fun _ _ => .nil⟩
  exact (ds_cons (mid := []) (ds_set 1 scN.nd (de_callB call_len fnd_len T.b_len (da_cons (de_ix ix_seq opd_ix (de_var 0) de_int) da_nil)))
    (ds_cons (mid := []) (ds_set 2 scN.nd (de_lst (da_cons de_non (da_cons de_int (da_cons de_str (da_cons (de_tup da_nil) (da_cons (de_tup (da_cons de_int da_nil)) (da_cons (de_tup (da_cons de_int (da_cons de_int (da_cons de_int da_nil)))) (da_cons (de_lst (da_cons de_int (da_cons de_int da_nil))) (da_cons (de_tup (da_cons (de_var 1) (da_cons de_int da_nil))) (da_cons (de_tup (da_cons (de_var 1) (da_cons de_int da_nil))) (da_cons (de_tup (da_cons (de_un un_neg und_fneg de_int) (da_cons de_int da_nil))) (da_cons (de_tup (da_cons de_int (da_cons de_int da_nil))) (da_cons (de_tup (da_cons de_int (da_cons (de_un un_neg und_fneg de_int) da_nil))) (da_cons (de_tup (da_cons de_bl (da_cons de_int da_nil))) da_nil)))))))))))))))
    (ds_one (ds_ret hfr (de_op op_addG opd_add (de_var 2) (de_lst (da_cons (de_tup (da_cons de_int (da_cons de_bl da_nil))) (da_cons (de_tup (da_cons de_bl (da_cons de_int da_nil))) (da_cons (de_tup (da_cons de_int (da_cons de_bl da_nil))) (da_cons (de_tup (da_cons de_str (da_cons de_int da_nil))) (da_cons (de_tup (da_cons de_int (da_cons de_non da_nil))) (da_cons (de_tup (da_cons (de_tup (da_cons de_int (da_cons de_int da_nil))) (da_cons de_int da_nil))) (da_cons (de_tup (da_cons (de_op op_pow opd_pow de_int de_int) (da_cons de_int da_nil))) da_nil)))))))))))))

abbrev nm_is_below : List Str := ["thing", "many"]
theorem sc_is_below : FnScope nm_is_below ["thing", "many"] (defScope (top 20)) := ⟨rfl, rfl, rfl, by decide +kernel, rfl, by decide +kernel, by decide +kernel⟩
theorem ok_is_below {K : PySem.W.Frag} {mg : Str → Option Value} (T : Tx K mg) (P : Program) (w : World) (base : Heap) : Cal P w K mg base 2 "is_below" [] [] 2 m_is_below false := by
  obtain ⟨fd, F⟩ := T.d_is_below
  have scN := sc_is_below
  refine ⟨_, fd, ["thing", "many"], [], [], T.g_is_below, F.kp, fun_ok [] false F sc_is_below rfl rfl fun cdv A outer s H E B hr gd tk po hB hfr => ?_, F.bindsN fun _ _ _ _ _ _ us hl => match us, hl with | [_, _], _ => rfl, .nil, fun _ _ => .nil⟩
  exact (ds_one (ds_ret hfr (de_and (de_cal (ok_is_whole T P w base) hr gd tk hB (dr_e (de_var 0) dr_nil)) (de_and (de_cmp op_le opd_le de_int (de_var 0)) (de_one (de_cmp op_lt opd_lt (de_var 0) (de_var 1)))))))

abbrev nm_turns_in : List Str := ["going", "back", "found", "one", "other"]
theorem sc_turns_in : FnScope nm_turns_in ["going", "back"] (defScope (top 31)) := ⟨rfl, rfl, rfl, by decide +kernel, rfl, by decide +kernel, by decide +kernel⟩
theorem ok_turns_in {K : PySem.W.Frag} {mg : Str → Option Value} (T : Tx K mg) (P : Program) (w : World) (base : Heap) : Cal P w K mg base 2 "turns_in" [] [] 2 m_turns_in false := by
  obtain ⟨fd, F⟩ := T.d_turns_in
  have scN := sc_turns_in
  refine ⟨_, fd, ["going", "back"], [], [], T.g_turns_in, F.kp, fun_ok [] false F sc_turns_in rfl rfl fun cdv A outer s H E B hr gd tk po hB hfr => ?_, F.bindsN fun _ _ _ _ _ _ us hl => match us, hl with | [_, _], _ => rfl, .nil, fun _ _ => .nil⟩
  exact (ds_cons (mid := []) (ds_setLc rfl scN.nd hB (sw_true rfl rfl rfl (by decide +kernel)) (di_zip T.b_zip (da_cons (de_var 0) (da_cons (de_sl (de_var 0) (dp_some de_int) dp_none) da_nil))) (blkOk_by (own := [("one", 3), ("other", 4)]) (N := nm_turns_in) (sc := defScope (top 31)) (by decide +kernel)) (fun _ _ _ _ _ B hW hB => (dg_tup rfl (dgs_cons (dg_name 3 scN.nd) (dgs_cons (dg_name 4 scN.nd) dgs_nil)))) (fun _ _ _ _ _ B hW hB => dts_nil) (fun _ _ _ _ _ B hW hB => (de_tup (da_cons (de_cal (ok_other_end T P w base) hr gd (takes_q hW) hB (dr_e (de_var 3) dr_nil)) (da_cons (de_var 4) da_nil)))))
    (ds_one (ds_ret hfr (de_if (dt_e (de_var 1)) (de_op op_addG opd_add (de_var 2) (de_lst (da_cons (de_tup (da_cons (de_cal (ok_other_end T P w base) hr gd tk hB (dr_e (de_ix ix_seq opd_ix (de_var 0) (de_un un_neg und_fneg de_int)) dr_nil)) (da_cons (de_ix ix_seq opd_ix (de_var 0) de_int) da_nil))) da_nil))) (de_var 2)))))

abbrev nm_is_open : List Str := ["net", "turn"]
theorem sc_is_open : FnScope nm_is_open ["net", "turn"] (defScope (top 32)) := ⟨rfl, rfl, rfl, by decide +kernel, rfl, by decide +kernel, by decide +kernel⟩
theorem ok_is_open {K : PySem.W.Frag} {mg : Str → Option Value} (T : Tx K mg) (P : Program) (w : World) (base : Heap) : Cal P w K mg base 2 "is_open" [] [] 2 m_is_open false := by
  obtain ⟨fd, F⟩ := T.d_is_open
  have scN := sc_is_open
  refine ⟨_, fd, ["net", "turn"], [], [], T.g_is_open, F.kp, fun_ok [] false F sc_is_open rfl rfl fun cdv A outer s H E B hr gd tk po hB hfr => ?_, F.bindsN fun _ _ _ _ _ _ us hl => match us, hl with | [_, _], _ => rfl, .nil, fun _ _ => .nil⟩
  exact (ds_one (ds_ret hfr (de_cmp (op_neE hr.units) opd_ne (de_cal (ok_kind_at T P w base) hr gd tk hB (dr_e (de_var 0) (dr_e (de_ix ix_seq opd_ix (de_var 1) de_int) dr_nil))) (de_cal (ok_kind_at T P w base) hr gd tk hB (dr_e (de_var 0) (dr_e (de_ix ix_seq opd_ix (de_var 1) de_int) dr_nil))))))

abbrev nm__law_pile : List Str := ["_law_script", "_law_k", "_law_cell", "_law_found", "_law_j"]
theorem sc__law_pile : FnScope nm__law_pile ["_law_script", "_law_k"] (defScope (top 43)) := ⟨rfl, rfl, rfl, by decide +kernel, rfl, by decide +kernel, by decide +kernel⟩
theorem ok__law_pile {K : PySem.W.Frag} {mg : Str → Option Value} (T : Tx K mg) (P : Program) (w : World) (base : Heap) : Cal P w K mg base 2 "_law_pile" [] [] 2 m__law_pile true := by
  obtain ⟨fd, F⟩ := T.d__law_pile
  have scN := sc__law_pile
  refine ⟨_, fd, ["_law_script", "_law_k"], [], [], T.g__law_pile, F.kp, fun_ok [] true F sc__law_pile rfl rfl fun cdv A outer s H E B hr gd tk po hB hfr => ?_, F.bindsN fun _ _ _ _ _ _ us hl => match us, hl with | [_, _], _ => rfl, .nil, fun _ _ => .nil⟩
  exact (ds_cons (mid := []) (ds_set 2 scN.nd de_int)
    (ds_cons (mid := []) (ds_if (dt_cmp op_lt opd_lt (de_var 1) (de_callB call_len fnd_len T.b_len (da_cons (de_var 0) da_nil))) (ds_one (ds_set 2 scN.nd (de_ix ix_seq opd_ix (de_var 0) (de_var 1)))) ds_nil)
    (ds_cons (mid := []) (ds_if (dt_cmp op_ge opd_ge (de_var 2) (de_op op_pow opd_pow de_int de_int)) (ds_one (ds_retO hfr (do_lst (da_cons (de_op op_modN opd_mod (de_callT call_int1 fnd_int T.b_int (da_cons (de_op op_sub opd_sub (de_var 2) (de_op op_pow opd_pow de_int de_int)) da_nil)) (de_op op_mulW opd_mul (de_op op_mulW opd_mul (de_op op_mulW opd_mul (de_op op_pow opd_pow de_int de_int) (de_op op_pow opd_pow de_int de_int)) (de_op op_pow opd_pow de_int de_int)) (de_op op_pow opd_pow de_int de_int))) da_nil)))) ds_nil)
    (ds_cons (mid := []) (ds_set 3 scN.nd de_int)
    (ds_cons (mid := []) (ds_for po rfl (di_rng1 T.b_range (da_cons de_int da_nil)) (dg_name 4 scN.nd) (ds_one (ds_set 3 scN.nd (de_op op_addG opd_add (de_op op_mulW opd_mul (de_var 3) de_int) (de_cal (ok__law_mixed T P w base) hr gd tk hB (dr_e (de_var 2) (dr_e (de_op op_addG opd_add (de_op op_addG opd_add (de_op op_mulW opd_mul de_int (de_var 1)) (de_op op_mulW opd_mul de_int (de_var 4))) (de_op op_mulW opd_mul (de_var 4) (de_var 4))) dr_nil)))))))
    (ds_one (ds_retO hfr (do_lst (da_cons (de_var 3) da_nil)))))))))

abbrev nm__law_order_of : List Str := ["_law_pile_here", "_law_many", "_law_order", "_law_k"]
theorem sc__law_order_of : FnScope nm__law_order_of ["_law_pile_here", "_law_many"] (defScope (top 45)) := ⟨rfl, rfl, rfl, by decide +kernel, rfl, by decide +kernel, by decide +kernel⟩
theorem ok__law_order_of {K : PySem.W.Frag} {mg : Str → Option Value} (T : Tx K mg) (P : Program) (w : World) (base : Heap) : Cal P w K mg base 2 "_law_order_of" [] [0] 2 m__law_order_of false := by
  obtain ⟨fd, F⟩ := T.d__law_order_of
  have scN := sc__law_order_of
  refine ⟨_, fd, ["_law_pile_here", "_law_many"], [], [], T.g__law_order_of, F.kp, fun_ok [0] false F sc__law_order_of rfl rfl fun cdv A outer s H E B hr gd tk po hB hfr => ?_, F.bindsN fun _ _ _ _ _ _ us hl => match us, hl with | [_, _], _ => rfl, .nil, fun _ _ => .nil⟩
  exact (ds_cons (mid := [0, 2]) (ds_out [2, 0] (ds_setO 2 scN.nd (do_lst da_nil)))
    (ds_cons (mid := [0]) (ds_out [0, 2] (ds_for po rfl (di_rng1 T.b_range (da_cons (de_var 1) da_nil)) (dg_name 3 scN.nd) (ds_one (ds_e (de_mt 2 PySem.F.slot_list_insert PySem.F.type_list_insert mt_insert mtd_ins (da_cons (de_cal (ok__law_take T P w base) hr gd tk hB (dr_io 0 (dr_e (de_op op_addG opd_add (de_var 3) de_int) dr_nil))) (da_cons (de_var 3) da_nil)))))))
    (ds_one (ds_ret hfr (de_var 2)))))

abbrev nm__law_is_end : List Str := ["_law_net_here", "_law_thing"]
theorem sc__law_is_end : FnScope nm__law_is_end ["_law_net_here", "_law_thing"] (defScope (top 51)) := ⟨rfl, rfl, rfl, by decide +kernel, rfl, by decide +kernel, by decide +kernel⟩
theorem ok__law_is_end {K : PySem.W.Frag} {mg : Str → Option Value} (T : Tx K mg) (P : Program) (w : World) (base : Heap) : Cal P w K mg base 2 "_law_is_end" [] [] 2 m__law_is_end false := by
  obtain ⟨fd, F⟩ := T.d__law_is_end
  have scN := sc__law_is_end
  refine ⟨_, fd, ["_law_net_here", "_law_thing"], [], [], T.g__law_is_end, F.kp, fun_ok [] false F sc__law_is_end rfl rfl fun cdv A outer s H E B hr gd tk po hB hfr => ?_, F.bindsN fun _ _ _ _ _ _ us hl => match us, hl with | [_, _], _ => rfl, .nil, fun _ _ => .nil⟩
  exact (ds_cons (mid := []) (ds_if (dt_w (dw_or (dt_not (dt_e (de_isi "tuple" (de_var 1) T.b_isinstance T.b_tuple))) (dw_or (dt_cmp (op_neE hr.units) opd_ne (de_callB call_len fnd_len T.b_len (da_cons (de_var 1) da_nil)) de_int) (dw_or (dt_not (dt_e (de_cal (ok__law_whole T P w base) hr gd tk hB (dr_e (de_ix ix_seq opd_ix (de_var 1) de_int) dr_nil)))) (dw_or1 (dt_not (dt_e (de_cal (ok__law_whole T P w base) hr gd tk hB (dr_e (de_ix ix_seq opd_ix (de_var 1) de_int) dr_nil))))))))) (ds_one (ds_ret hfr de_bl)) ds_nil)
    (ds_one (ds_ret hfr (de_and (de_cmp op_ge opd_ge (de_ix ix_seq opd_ix (de_var 1) de_int) de_int) (de_and (de_cmp op_lt opd_lt (de_ix ix_seq opd_ix (de_var 1) de_int) (de_callB call_len fnd_len T.b_len (da_cons (de_ix ix_seq opd_ix (de_var 0) de_int) da_nil))) (de_one (de_cmp (op_inD (u65 hr)) opd_in (de_ix ix_seq opd_ix (de_var 1) de_int) (de_lst (da_cons de_int (da_cons de_int da_nil))))))))))

abbrev nm__law_turns : List Str := ["_law_going", "_law_back", "_law_found", "_law_k"]
theorem sc__law_turns : FnScope nm__law_turns ["_law_going", "_law_back"] (defScope (top 52)) := ⟨rfl, rfl, rfl, by decide +kernel, rfl, by decide +kernel, by decide +kernel⟩
theorem ok__law_turns {K : PySem.W.Frag} {mg : Str → Option Value} (T : Tx K mg) (P : Program) (w : World) (base : Heap) : Cal P w K mg base 2 "_law_turns" [] [] 2 m__law_turns false := by
  obtain ⟨fd, F⟩ := T.d__law_turns
  have scN := sc__law_turns
  refine ⟨_, fd, ["_law_going", "_law_back"], [], [], T.g__law_turns, F.kp, fun_ok [] false F sc__law_turns rfl rfl fun cdv A outer s H E B hr gd tk po hB hfr => ?_, F.bindsN fun _ _ _ _ _ _ us hl => match us, hl with | [_, _], _ => rfl, .nil, fun _ _ => .nil⟩
  exact (ds_cons (mid := [2]) (ds_setO 2 scN.nd (do_lst da_nil))
    (ds_cons (mid := [2]) (ds_for po rfl (di_rng2 T.b_range (da_cons de_int (da_cons (de_callB call_len fnd_len T.b_len (da_cons (de_var 0) da_nil)) da_nil))) (dg_name 3 scN.nd) (ds_one (ds_e (de_mt 2 PySem.F.slot_list_append PySem.F.type_list_append mt_append mtd_app (da_cons (de_tup (da_cons (de_cal (ok__law_far T P w base) hr gd tk hB (dr_e (de_ix ix_seq opd_ix (de_var 0) (de_op op_sub opd_sub (de_var 3) de_int)) dr_nil)) (da_cons (de_ix ix_seq opd_ix (de_var 0) (de_var 3)) da_nil))) da_nil)))))
    (ds_cons (mid := []) (ds_if (dt_e (de_var 1)) (ds_one (ds_out [2] (ds_e (de_mt 2 PySem.F.slot_list_append PySem.F.type_list_append mt_append mtd_app (da_cons (de_tup (da_cons (de_cal (ok__law_far T P w base) hr gd tk hB (dr_e (de_ix ix_seq opd_ix (de_var 0) (de_un un_neg und_fneg de_int)) dr_nil)) (da_cons (de_ix ix_seq opd_ix (de_var 0) de_int) da_nil))) da_nil))))) (dss_frz (pre' := []) ds_nil))
    (ds_one (ds_ret hfr (de_var 2))))))

abbrev nm__law_word : List Str := ["_law_error", "_law_found"]
theorem sc__law_word : FnScope nm__law_word ["_law_error"] (defScope (top 56)) := ⟨rfl, rfl, rfl, by decide +kernel, rfl, by decide +kernel, by decide +kernel⟩
theorem ok__law_word {K : PySem.W.Frag} {mg : Str → Option Value} (T : Tx K mg) (P : Program) (w : World) (base : Heap) : Cal P w K mg base 2 "_law_word" [] [] 1 m__law_word false := by
  obtain ⟨fd, F⟩ := T.d__law_word
  have scN := sc__law_word
  refine ⟨_, fd, ["_law_error"], [], [], T.g__law_word, F.kp, fun_ok [] false F sc__law_word rfl rfl fun cdv A outer s H E B hr gd tk po hB hfr => ?_, F.bindsN fun _ _ _ _ _ _ us hl => match us, hl with | [_], _ => rfl, .nil, fun _ _ => .nil⟩
  exact (ds_cons (mid := []) (ds_set 1 scN.nd (de_cal (ok__law_kinds T P w base) hr gd tk hB (dr_e (de_var 0) dr_nil)))
    (ds_cons (mid := []) (ds_if (dt_cmp (op_eqE hr.units) opd_eq (de_var 1) (de_lst da_nil)) (ds_one (ds_ret hfr de_str)) ds_nil)
    (ds_one (ds_ret hfr (de_ix ix_seq opd_ix (de_lst (da_cons (de_ix ix_seq opd_ix (de_var 1) de_int) (da_cons de_str da_nil))) (de_callT call_int1 fnd_int T.b_int (da_cons (de_cmp (op_neE hr.units) opd_ne (de_sl (de_var 1) (dp_some de_int) dp_none) (de_lst (da_cons de_str (da_cons de_str da_nil)))) da_nil)))))))

abbrev nm_is_point : List Str := ["thing", "many"]
theorem sc_is_point : FnScope nm_is_point ["thing", "many"] (defScope (top 21)) := ⟨rfl, rfl, rfl, by decide +kernel, rfl, by decide +kernel, by decide +kernel⟩
theorem ok_is_point {K : PySem.W.Frag} {mg : Str → Option Value} (T : Tx K mg) (P : Program) (w : World) (base : Heap) : Cal P w K mg base 3 "is_point" [] [] 2 m_is_point false := by
  obtain ⟨fd, F⟩ := T.d_is_point
  have scN := sc_is_point
  refine ⟨_, fd, ["thing", "many"], [], [], T.g_is_point, F.kp, fun_ok [] false F sc_is_point rfl rfl fun cdv A outer s H E B hr gd tk po hB hfr => ?_, F.bindsN fun _ _ _ _ _ _ us hl => match us, hl with | [_, _], _ => rfl, .nil, fun _ _ => .nil⟩
  exact (ds_one (ds_ret hfr (de_and (de_isi "tuple" (de_var 0) T.b_isinstance T.b_tuple) (de_and (de_cmp (op_eqE hr.units) opd_eq (de_callB call_len fnd_len T.b_len (da_cons (de_var 0) da_nil)) de_int) (de_and (de_cal (ok_is_below T P w base) hr gd tk hB (dr_e (de_ix ix_seq opd_ix (de_var 0) de_int) (dr_e (de_var 1) dr_nil))) (de_one (de_cal (ok_is_below T P w base) hr gd tk hB (dr_e (de_ix ix_seq opd_ix (de_var 0) de_int) (dr_e (de_gint T.c_MOST_KINDS) dr_nil)))))))))

abbrev nm_is_right_end : List Str := ["net", "thing"]
theorem sc_is_right_end : FnScope nm_is_right_end ["net", "thing"] (defScope (top 24)) := ⟨rfl, rfl, rfl, by decide +kernel, rfl, by decide +kernel, by decide +kernel⟩
theorem ok_is_right_end {K : PySem.W.Frag} {mg : Str → Option Value} (T : Tx K mg) (P : Program) (w : World) (base : Heap) : Cal P w K mg base 3 "is_right_end" [] [] 2 m_is_right_end false := by
  obtain ⟨fd, F⟩ := T.d_is_right_end
  have scN := sc_is_right_end
  refine ⟨_, fd, ["net", "thing"], [], [], T.g_is_right_end, F.kp, fun_ok [] false F sc_is_right_end rfl rfl fun cdv A outer s H E B hr gd tk po hB hfr => ?_, F.bindsN fun _ _ _ _ _ _ us hl => match us, hl with | [_, _], _ => rfl, .nil, fun _ _ => .nil⟩
  exact (ds_one (ds_ret hfr (de_and (de_isi "tuple" (de_var 1) T.b_isinstance T.b_tuple) (de_and (de_cmp (op_eqE hr.units) opd_eq (de_callB call_len fnd_len T.b_len (da_cons (de_var 1) da_nil)) de_int) (de_and (de_cal (ok_is_below T P w base) hr gd tk hB (dr_e (de_ix ix_seq opd_ix (de_var 1) de_int) (dr_e (de_callB call_len fnd_len T.b_len (da_cons (de_ix ix_seq opd_ix (de_var 0) de_int) da_nil)) dr_nil))) (de_one (de_cal (ok_is_below T P w base) hr gd tk hB (dr_e (de_ix ix_seq opd_ix (de_var 1) de_int) (dr_e de_int dr_nil)))))))))

abbrev nm_shut_in : List Str := ["net", "going", "back", "turn"]
theorem sc_shut_in : FnScope nm_shut_in ["net", "going", "back"] (defScope (top 33)) := ⟨rfl, rfl, rfl, by decide +kernel, rfl, by decide +kernel, by decide +kernel⟩
theorem ok_shut_in {K : PySem.W.Frag} {mg : Str → Option Value} (T : Tx K mg) (P : Program) (w : World) (base : Heap) : Cal P w K mg base 3 "shut_in" [] [] 3 m_shut_in false := by
  obtain ⟨fd, F⟩ := T.d_shut_in
  have scN := sc_shut_in
  refine ⟨_, fd, ["net", "going", "back"], [], [], T.g_shut_in, F.kp, fun_ok [] false F sc_shut_in rfl rfl fun cdv A outer s H E B hr gd tk po hB hfr => ?_, F.bindsN fun _ _ _ _ _ _ us hl => match us, hl with | [_, _, _], _ => rfl, .nil, fun _ _ => .nil⟩
  exact (ds_one (ds_ret hfr (de_lc rfl scN.nd hB (di_seq (de_cal (ok_turns_in T P w base) hr gd tk hB (dr_e (de_var 1) (dr_e (de_var 2) dr_nil)))) (blkOk_by (own := [("turn", 3)]) (N := nm_shut_in) (sc := defScope (top 33)) (by decide +kernel)) (fun _ _ _ _ _ B hW hB => (dg_name 3 scN.nd)) (fun _ _ _ _ _ B hW hB => (dts_one (dt_not (dt_e (de_cal (ok_is_open T P w base) hr gd (takes_q hW) hB (dr_e (de_var 0) (dr_e (de_var 3) dr_nil))))))) (fun _ _ _ _ _ B hW hB => (de_var 3)))))

abbrev nm__law_net : List Str := ["_law_pile_here", "_law_most", "_law_many", "_law_way", "_law_kinds_here", "_law_count", "_law_spots", "_law_j", "_law_last", "_law_first", "_law_roads", "_law_p", "_law_q", "_law_k"]
theorem sc__law_net : FnScope nm__law_net ["_law_pile_here", "_law_most"] (defScope (top 47)) := ⟨rfl, rfl, rfl, by decide +kernel, rfl, by decide +kernel, by decide +kernel⟩
theorem ok__law_net {K : PySem.W.Frag} {mg : Str → Option Value} (T : Tx K mg) (P : Program) (w : World) (base : Heap) : Cal P w K mg base 3 "_law_net" [] [0] 2 m__law_net false := by
  obtain ⟨fd, F⟩ := T.d__law_net
  have scN := sc__law_net
  refine ⟨_, fd, ["_law_pile_here", "_law_most"], [], [], T.g__law_net, F.kp, fun_ok [0] false F sc__law_net rfl rfl fun cdv A outer s H E B hr gd tk po hB hfr => ?_, F.bindsN fun _ _ _ _ _ _ us hl => match us, hl with | [_, _], _ => rfl, .nil, fun _ _ => .nil⟩
  exact (ds_cons (mid := [0]) (ds_set 2 scN.nd (de_ix ix_seq opd_ix (de_lst (da_cons de_int (da_cons de_int (da_cons de_int (da_cons de_int (da_cons de_int (da_cons de_int (da_cons de_int (da_cons de_int da_nil))))))))) (de_cal (ok__law_take T P w base) hr gd tk hB (dr_io 0 (dr_e de_int dr_nil)))))
    (ds_cons (mid := [0]) (ds_par 3 4 rfl scN.nd (de_cal (ok__law_take T P w base) hr gd tk hB (dr_io 0 (dr_e de_int dr_nil))) (de_ix ix_seq opd_ix (de_lst (da_cons de_int (da_cons de_int (da_cons de_int (da_cons de_int (da_cons de_int da_nil)))))) (de_cal (ok__law_take T P w base) hr gd tk hB (dr_io 0 (dr_e de_int dr_nil)))) (hp := (ps_par rfl scN.nd rfl rfl (by decide) rfl rfl (da_cons (de_cal (ok__law_take T P w base) hr gd tk hB (dr_io 0 (dr_e de_int dr_nil))) (da_cons (de_ix ix_seq opd_ix (de_lst (da_cons de_int (da_cons de_int (da_cons de_int (da_cons de_int (da_cons de_int da_nil)))))) (de_cal (ok__law_take T P w base) hr gd tk hB (dr_io 0 (dr_e de_int dr_nil)))) da_nil)) rfl)))
    (ds_cons (mid := [0]) (ds_set 5 scN.nd (de_cal (ok__law_take T P w base) hr gd tk hB (dr_io 0 (dr_e (de_op op_addG opd_add (de_var 1) de_int) dr_nil))))
    (ds_cons (mid := [0]) (ds_setLc rfl scN.nd hB (sw_true rfl rfl rfl (by decide +kernel)) (di_rng1 T.b_range (da_cons (de_op op_addG opd_add (de_var 5) de_int) da_nil)) (blkOk_by (own := [("_law_j", 7)]) (N := nm__law_net) (sc := defScope (top 47)) (by decide +kernel)) (fun _ _ _ _ _ B hW hB => (dg_name 7 scN.nd)) (fun _ _ _ _ _ B hW hB => dts_nil) (fun _ _ _ _ _ B hW hB => (de_cal (ok__law_take T P w base) hr gd (takes_q hW) hB (dr_io 0 (dr_e (de_var 2) dr_nil)))))
    (ds_cons (mid := [0]) (ds_set 8 scN.nd (de_cal (ok__law_take T P w base) hr gd tk hB (dr_io 0 (dr_e (de_var 4) dr_nil))))
    (ds_cons (mid := [0]) (ds_set 9 scN.nd (de_var 8))
    (ds_cons (mid := [0, 10]) (ds_out [10, 0] (ds_setO 10 scN.nd (do_lst da_nil)))
    (ds_cons (mid := [0]) (ds_out [0, 10] (ds_for po rfl (di_rng1 T.b_range (da_cons (de_var 5) da_nil)) (dg_name 7 scN.nd) (ds_cons (mid := [0, 10]) (ds_par 11 12 rfl scN.nd (de_ix ix_seq opd_ix (de_var 6) (de_var 7)) (de_ix ix_seq opd_ix (de_var 6) (de_op op_addG opd_add (de_var 7) de_int)) (hp := (ps_par rfl scN.nd rfl rfl (by decide) rfl rfl (da_cons (de_ix ix_seq opd_ix (de_var 6) (de_var 7)) (da_cons (de_ix ix_seq opd_ix (de_var 6) (de_op op_addG opd_add (de_var 7) de_int)) da_nil)) rfl)))
    (ds_cons (mid := [0, 10]) (ds_if (dt_cmp (op_eqE hr.units) opd_eq (de_var 3) de_int) (ds_one (ds_set 11 scN.nd (de_cal (ok__law_take T P w base) hr gd tk hB (dr_io 0 (dr_e (de_var 2) dr_nil))))) ds_nil)
    (ds_cons (mid := [0, 10]) (ds_if (dt_w (dw_and (dt_cmp op_gt opd_gt (de_var 3) de_int) (dw_and1 (dt_cmp (op_eqE hr.units) opd_eq (de_var 7) (de_op op_sub opd_sub (de_var 5) de_int))))) (ds_one (ds_set 12 scN.nd (de_ix ix_seq opd_ix (de_var 6) de_int))) ds_nil)
    (ds_cons (mid := [0, 10]) (ds_set 13 scN.nd (de_cal (ok__law_take T P w base) hr gd tk hB (dr_io 0 (dr_e (de_var 4) dr_nil))))
    (ds_cons (mid := [0, 10]) (ds_if (dt_cmp op_gt opd_gt (de_var 3) de_int) (ds_one (ds_set 13 scN.nd (de_op op_modN opd_mod (de_callT call_int1 fnd_int T.b_int (da_cons (de_op op_addG opd_add (de_op op_addG opd_add (de_var 8) de_int) (de_cal (ok__law_take T P w base) hr gd tk hB (dr_io 0 (dr_e (de_op op_sub opd_sub (de_var 4) de_int) dr_nil)))) da_nil)) (de_var 4)))) ds_nil)
    (ds_cons (mid := [0, 10]) (ds_if (dt_cmp (op_eqE hr.units) opd_eq (de_var 7) de_int) (ds_one (ds_set 9 scN.nd (de_var 13))) ds_nil)
    (ds_cons (mid := [0, 10]) (ds_set 8 scN.nd (de_cal (ok__law_take T P w base) hr gd tk hB (dr_io 0 (dr_e (de_var 4) dr_nil))))
    (ds_cons (mid := [0, 10]) (ds_if (dt_w (dw_and (dt_cmp op_gt opd_gt (de_var 3) de_int) (dw_and1 (dt_cmp (op_eqE hr.units) opd_eq (de_var 7) (de_op op_sub opd_sub (de_var 5) de_int))))) (ds_one (ds_set 8 scN.nd (de_op op_modN opd_mod (de_callT call_int1 fnd_int T.b_int (da_cons (de_op op_addG opd_add (de_op op_addG opd_add (de_var 9) de_int) (de_cal (ok__law_take T P w base) hr gd tk hB (dr_io 0 (dr_e (de_op op_sub opd_sub (de_var 4) de_int) dr_nil)))) da_nil)) (de_var 4)))) ds_nil)
    (ds_one (ds_e (de_mt 10 PySem.F.slot_list_append PySem.F.type_list_append mt_append mtd_app (da_cons (de_tup (da_cons (de_tup (da_cons (de_var 11) (da_cons (de_var 13) da_nil))) (da_cons (de_tup (da_cons (de_var 12) (da_cons (de_var 8) da_nil))) da_nil))) da_nil))))))))))))))
    (ds_one (ds_ret hfr (de_tup (da_cons (de_var 2) (da_cons (de_callT call_tuple_of fnd_tuple T.b_tuple (da_cons (de_lc rfl scN.nd hB (di_list (de_cal (ok__law_order_of T P w base) hr gd tk hB (dr_io 0 (dr_e (de_var 5) dr_nil)))) (blkOk_by (own := [("_law_j", 7)]) (N := nm__law_net) (sc := defScope (top 47)) (by decide +kernel)) (fun _ _ _ _ _ B hW hB => (dg_name 7 scN.nd)) (fun _ _ _ _ _ B hW hB => dts_nil) (fun _ _ _ _ _ B hW hB => (de_ix ix_seq opd_ix (de_var 10) (de_var 7)))) da_nil)) da_nil)))))))))))))

abbrev nm__law_is_turn : List Str := ["_law_net_here", "_law_thing"]
theorem sc__law_is_turn : FnScope nm__law_is_turn ["_law_net_here", "_law_thing"] (defScope (top 53)) := ⟨rfl, rfl, rfl, by decide +kernel, rfl, by decide +kernel, by decide +kernel⟩
theorem ok__law_is_turn {K : PySem.W.Frag} {mg : Str → Option Value} (T : Tx K mg) (P : Program) (w : World) (base : Heap) : Cal P w K mg base 3 "_law_is_turn" [] [] 2 m__law_is_turn false := by
  obtain ⟨fd, F⟩ := T.d__law_is_turn
  have scN := sc__law_is_turn
  refine ⟨_, fd, ["_law_net_here", "_law_thing"], [], [], T.g__law_is_turn, F.kp, fun_ok [] false F sc__law_is_turn rfl rfl fun cdv A outer s H E B hr gd tk po hB hfr => ?_, F.bindsN fun _ _ _ _ _ _ us hl => match us, hl with | [_, _], _ => rfl, .nil, fun _ _ => .nil⟩
  exact (ds_cons (mid := []) (ds_if (dt_w (dw_or (dt_not (dt_e (de_isi "tuple" (de_var 1) T.b_isinstance T.b_tuple))) (dw_or1 (dt_cmp (op_neE hr.units) opd_ne (de_callB call_len fnd_len T.b_len (da_cons (de_var 1) da_nil)) de_int)))) (ds_one (ds_ret hfr de_bl)) ds_nil)
    (ds_cons (mid := []) (ds_if (dt_w (dw_or (dt_not (dt_e (de_cal (ok__law_is_end T P w base) hr gd tk hB (dr_e (de_var 0) (dr_e (de_ix ix_seq opd_ix (de_var 1) de_int) dr_nil))))) (dw_or (dt_not (dt_e (de_cal (ok__law_is_end T P w base) hr gd tk hB (dr_e (de_var 0) (dr_e (de_ix ix_seq opd_ix (de_var 1) de_int) dr_nil))))) (dw_or1 (dt_cmp (op_eqE hr.units) opd_eq (de_ix ix_seq opd_ix (de_var 1) de_int) (de_ix ix_seq opd_ix (de_var 1) de_int)))))) (ds_one (ds_ret hfr de_bl)) ds_nil)
    (ds_one (ds_ret hfr (de_cmp (op_eqE hr.units) opd_eq (de_cal (ok__law_place T P w base) hr gd tk hB (dr_e (de_var 0) (dr_e (de_ix ix_seq opd_ix (de_var 1) de_int) dr_nil))) (de_cal (ok__law_place T P w base) hr gd tk hB (dr_e (de_var 0) (dr_e (de_ix ix_seq opd_ix (de_var 1) de_int) dr_nil))))))))

abbrev nm_is_road : List Str := ["thing", "many"]
theorem sc_is_road : FnScope nm_is_road ["thing", "many"] (defScope (top 22)) := ⟨rfl, rfl, rfl, by decide +kernel, rfl, by decide +kernel, by decide +kernel⟩
theorem ok_is_road {K : PySem.W.Frag} {mg : Str → Option Value} (T : Tx K mg) (P : Program) (w : World) (base : Heap) : Cal P w K mg base 4 "is_road" [] [] 2 m_is_road false := by
  obtain ⟨fd, F⟩ := T.d_is_road
  have scN := sc_is_road
  refine ⟨_, fd, ["thing", "many"], [], [], T.g_is_road, F.kp, fun_ok [] false F sc_is_road rfl rfl fun cdv A outer s H E B hr gd tk po hB hfr => ?_, F.bindsN fun _ _ _ _ _ _ us hl => match us, hl with | [_, _], _ => rfl, .nil, fun _ _ => .nil⟩
  exact (ds_one (ds_ret hfr (de_and (de_isi "tuple" (de_var 0) T.b_isinstance T.b_tuple) (de_and (de_cmp (op_eqE hr.units) opd_eq (de_callB call_len fnd_len T.b_len (da_cons (de_var 0) da_nil)) de_int) (de_and (de_cal (ok_is_point T P w base) hr gd tk hB (dr_e (de_ix ix_seq opd_ix (de_var 0) de_int) (dr_e (de_var 1) dr_nil))) (de_one (de_cal (ok_is_point T P w base) hr gd tk hB (dr_e (de_ix ix_seq opd_ix (de_var 0) de_int) (dr_e (de_var 1) dr_nil)))))))))

abbrev nm_is_right_going : List Str := ["net", "thing", "back", "end", "one", "other"]
theorem sc_is_right_going : FnScope nm_is_right_going ["net", "thing", "back"] (defScope (top 30)) := ⟨rfl, rfl, rfl, by decide +kernel, rfl, by decide +kernel, by decide +kernel⟩
theorem ok_is_right_going {K : PySem.W.Frag} {mg : Str → Option Value} (T : Tx K mg) (P : Program) (w : World) (base : Heap) : Cal P w K mg base 4 "is_right_going" [] [] 3 m_is_right_going false := by
  obtain ⟨fd, F⟩ := T.d_is_right_going
  have scN := sc_is_right_going
  refine ⟨_, fd, ["net", "thing", "back"], [], [], T.g_is_right_going, F.kp, fun_ok [] false F sc_is_right_going rfl rfl fun cdv A outer s H E B hr gd tk po hB hfr => ?_, F.bindsN fun _ _ _ _ _ _ us hl => match us, hl with | [_, _, _], _ => rfl, .nil, fun _ _ => .nil⟩
  exact (ds_cons (mid := []) (ds_if (dt_w (dw_or (dt_not (dt_e (de_isi "list" (de_var 1) T.b_isinstance T.b_list))) (dw_or (dt_cmp (op_eqE hr.units) opd_eq (de_var 1) (de_lst da_nil)) (dw_or1 (dt_not (dt_e (de_callB (cr_all rfl) fnd_all T.b_all (da_cons (de_lc rfl scN.nd hB (di_seq (de_var 1)) (blkOk_by (own := [("end", 3)]) (N := nm_is_right_going) (sc := defScope (top 30)) (by decide +kernel)) (fun _ _ _ _ _ B hW hB => (dg_name 3 scN.nd)) (fun _ _ _ _ _ B hW hB => dts_nil) (fun _ _ _ _ _ B hW hB => (de_cal (ok_is_right_end T P w base) hr gd (takes_q hW) hB (dr_e (de_var 0) (dr_e (de_var 3) dr_nil))))) da_nil)))))))) (ds_one (ds_ret hfr de_bl)) ds_nil)
    (ds_cons (mid := []) (ds_for po rfl (di_seq (de_cal (ok_turns_in T P w base) hr gd tk hB (dr_e (de_var 1) (dr_e (de_var 2) dr_nil)))) (dg_tup rfl (dgs_cons (dg_name 4 scN.nd) (dgs_cons (dg_name 5 scN.nd) dgs_nil))) (ds_one (ds_if (dt_w (dw_or (dt_cmp (op_eqE hr.units) opd_eq (de_var 4) (de_var 5)) (dw_or1 (dt_cmp (op_neE hr.units) opd_ne (de_cal (ok_place_at T P w base) hr gd tk hB (dr_e (de_var 0) (dr_e (de_var 4) dr_nil))) (de_cal (ok_place_at T P w base) hr gd tk hB (dr_e (de_var 0) (dr_e (de_var 5) dr_nil))))))) (ds_one (ds_ret hfr de_bl)) ds_nil)))
    (ds_one (ds_ret hfr de_bl))))

abbrev nm__law_is_going : List Str := ["_law_net_here", "_law_thing", "_law_back", "_law_end", "_law_turn"]
theorem sc__law_is_going : FnScope nm__law_is_going ["_law_net_here", "_law_thing", "_law_back"] (defScope (top 54)) := ⟨rfl, rfl, rfl, by decide +kernel, rfl, by decide +kernel, by decide +kernel⟩
theorem ok__law_is_going {K : PySem.W.Frag} {mg : Str → Option Value} (T : Tx K mg) (P : Program) (w : World) (base : Heap) : Cal P w K mg base 4 "_law_is_going" [] [] 3 m__law_is_going false := by
  obtain ⟨fd, F⟩ := T.d__law_is_going
  have scN := sc__law_is_going
  refine ⟨_, fd, ["_law_net_here", "_law_thing", "_law_back"], [], [], T.g__law_is_going, F.kp, fun_ok [] false F sc__law_is_going rfl rfl fun cdv A outer s H E B hr gd tk po hB hfr => ?_, F.bindsN fun _ _ _ _ _ _ us hl => match us, hl with | [_, _, _], _ => rfl, .nil, fun _ _ => .nil⟩
  exact (ds_cons (mid := []) (ds_if (dt_w (dw_or (dt_not (dt_e (de_isi "list" (de_var 1) T.b_isinstance T.b_list))) (dw_or (dt_cmp (op_eqE hr.units) opd_eq (de_var 1) (de_lst da_nil)) (dw_or1 (dt_cmp (op_neE hr.units) opd_ne (de_lc rfl scN.nd hB (di_seq (de_var 1)) (blkOk_by (own := [("_law_end", 3)]) (N := nm__law_is_going) (sc := defScope (top 54)) (by decide +kernel)) (fun _ _ _ _ _ B hW hB => (dg_name 3 scN.nd)) (fun _ _ _ _ _ B hW hB => (dts_one (dt_not (dt_e (de_cal (ok__law_is_end T P w base) hr gd (takes_q hW) hB (dr_e (de_var 0) (dr_e (de_var 3) dr_nil))))))) (fun _ _ _ _ _ B hW hB => (de_var 3))) (de_lst da_nil)))))) (ds_one (ds_ret hfr de_bl)) ds_nil)
    (ds_one (ds_ret hfr (de_cmp (op_eqE hr.units) opd_eq (de_lc rfl scN.nd hB (di_seq (de_cal (ok__law_turns T P w base) hr gd tk hB (dr_e (de_var 1) (dr_e (de_var 2) dr_nil)))) (blkOk_by (own := [("_law_turn", 4)]) (N := nm__law_is_going) (sc := defScope (top 54)) (by decide +kernel)) (fun _ _ _ _ _ B hW hB => (dg_name 4 scN.nd)) (fun _ _ _ _ _ B hW hB => (dts_one (dt_not (dt_e (de_cal (ok__law_is_turn T P w base) hr gd (takes_q hW) hB (dr_e (de_var 0) (dr_e (de_var 4) dr_nil))))))) (fun _ _ _ _ _ B hW hB => (de_var 4))) (de_lst da_nil)))))

abbrev nm_is_right_net : List Str := ["thing", "road"]
theorem sc_is_right_net : FnScope nm_is_right_net ["thing"] (defScope (top 23)) := ⟨rfl, rfl, rfl, by decide +kernel, rfl, by decide +kernel, by decide +kernel⟩
theorem ok_is_right_net {K : PySem.W.Frag} {mg : Str → Option Value} (T : Tx K mg) (P : Program) (w : World) (base : Heap) : Cal P w K mg base 5 "is_right_net" [] [] 1 m_is_right_net false := by
  obtain ⟨fd, F⟩ := T.d_is_right_net
  have scN := sc_is_right_net
  refine ⟨_, fd, ["thing"], [], [], T.g_is_right_net, F.kp, fun_ok [] false F sc_is_right_net rfl rfl fun cdv A outer s H E B hr gd tk po hB hfr => ?_, F.bindsN fun _ _ _ _ _ _ us hl => match us, hl with | [_], _ => rfl, .nil, fun _ _ => .nil⟩
  exact (ds_cons (mid := []) (ds_if (dt_w (dw_or (dt_not (dt_e (de_isi "tuple" (de_var 0) T.b_isinstance T.b_tuple))) (dw_or (dt_cmp (op_neE hr.units) opd_ne (de_callB call_len fnd_len T.b_len (da_cons (de_var 0) da_nil)) de_int) (dw_or1 (dt_not (dt_e (de_isi "tuple" (de_ix ix_seq opd_ix (de_var 0) de_int) T.b_isinstance T.b_tuple))))))) (ds_one (ds_ret hfr de_bl)) ds_nil)
    (ds_cons (mid := []) (ds_if (dt_w (dw_or (dt_not (dt_e (de_cal (ok_is_whole T P w base) hr gd tk hB (dr_e (de_ix ix_seq opd_ix (de_var 0) de_int) dr_nil)))) (dw_or (dt_cmp op_lt opd_lt (de_ix ix_seq opd_ix (de_var 0) de_int) de_int) (dw_or1 (dt_cmp op_gt opd_gt (de_ix ix_seq opd_ix (de_var 0) de_int) (de_gint T.c_MOST_PLACES)))))) (ds_one (ds_ret hfr de_bl)) ds_nil)
    (ds_one (ds_ret hfr (de_callB (cr_all rfl) fnd_all T.b_all (da_cons (de_lc rfl scN.nd hB (di_tup (de_ix ix_seq opd_ix (de_var 0) de_int)) (blkOk_by (own := [("road", 1)]) (N := nm_is_right_net) (sc := defScope (top 23)) (by decide +kernel)) (fun _ _ _ _ _ B hW hB => (dg_name 1 scN.nd)) (fun _ _ _ _ _ B hW hB => dts_nil) (fun _ _ _ _ _ B hW hB => (de_cal (ok_is_road T P w base) hr gd (takes_q hW) hB (dr_e (de_var 1) (dr_e (de_ix ix_seq opd_ix (de_var 0) de_int) dr_nil))))) da_nil))))))

abbrev nm_look_at_going : List Str := ["net", "going", "back"]
theorem sc_look_at_going : FnScope nm_look_at_going ["net", "going", "back"] (defScope (top 34)) := ⟨rfl, rfl, rfl, by decide +kernel, rfl, by decide +kernel, by decide +kernel⟩
theorem ok_look_at_going {K : PySem.W.Frag} {mg : Str → Option Value} (T : Tx K mg) (P : Program) (w : World) (base : Heap) : Cal P w K mg base 5 "look_at_going" [] [] 3 m_look_at_going false := by
  obtain ⟨fd, F⟩ := T.d_look_at_going
  have scN := sc_look_at_going
  refine ⟨_, fd, ["net", "going", "back"], [], [], T.g_look_at_going, F.kp, fun_ok [] false F sc_look_at_going rfl rfl fun cdv A outer s H E B hr gd tk po hB hfr => ?_, F.bindsN fun _ _ _ _ _ _ us hl => match us, hl with | [_, _, _], _ => rfl, .nil, fun _ _ => .nil⟩
  exact (ds_one (ds_if (dt_not (dt_e (de_cal (ok_is_right_going T P w base) hr gd tk hB (dr_e (de_var 0) (dr_e (de_var 1) (dr_e (de_var 2) dr_nil)))))) (ds_one (ds_raise T.x_NoGoing T.g_NoGoing tk)) ds_nil))

abbrev nm_is_item : List Str := ["net", "thing"]
theorem sc_is_item : FnScope nm_is_item ["net", "thing"] (defScope (top 38)) := ⟨rfl, rfl, rfl, by decide +kernel, rfl, by decide +kernel, by decide +kernel⟩
theorem ok_is_item {K : PySem.W.Frag} {mg : Str → Option Value} (T : Tx K mg) (P : Program) (w : World) (base : Heap) : Cal P w K mg base 5 "is_item" [] [] 2 m_is_item false := by
  obtain ⟨fd, F⟩ := T.d_is_item
  have scN := sc_is_item
  refine ⟨_, fd, ["net", "thing"], [], [], T.g_is_item, F.kp, fun_ok [] false F sc_is_item rfl rfl fun cdv A outer s H E B hr gd tk po hB hfr => ?_, F.bindsN fun _ _ _ _ _ _ us hl => match us, hl with | [_, _], _ => rfl, .nil, fun _ _ => .nil⟩
  exact (ds_cons (mid := []) (ds_if (dt_w (dw_or (dt_not (dt_e (de_isi "tuple" (de_var 1) T.b_isinstance T.b_tuple))) (dw_or (dt_cmp (op_neE hr.units) opd_ne (de_callB call_len fnd_len T.b_len (da_cons (de_var 1) da_nil)) de_int) (dw_or1 (dt_not (dt_e (de_isi "bool" (de_ix ix_seq opd_ix (de_var 1) de_int) T.b_isinstance T.b_bool))))))) (ds_one (ds_ret hfr de_bl)) ds_nil)
    (ds_one (ds_ret hfr (de_and (de_cal (ok_is_right_going T P w base) hr gd tk hB (dr_e (de_var 0) (dr_e (de_ix ix_seq opd_ix (de_var 1) de_int) (dr_e (de_ix ix_seq opd_ix (de_var 1) de_int) dr_nil)))) (de_one (de_cmp (op_eqE hr.units) opd_eq (de_cal (ok_shut_in T P w base) hr gd tk hB (dr_e (de_var 0) (dr_e (de_ix ix_seq opd_ix (de_var 1) de_int) (dr_e (de_ix ix_seq opd_ix (de_var 1) de_int) dr_nil)))) (de_lst da_nil)))))))

abbrev nm_look_at_net : List Str := ["net"]
theorem sc_look_at_net : FnScope nm_look_at_net ["net"] (defScope (top 25)) := ⟨rfl, rfl, rfl, by decide +kernel, rfl, by decide +kernel, by decide +kernel⟩
theorem ok_look_at_net {K : PySem.W.Frag} {mg : Str → Option Value} (T : Tx K mg) (P : Program) (w : World) (base : Heap) : Cal P w K mg base 6 "look_at_net" [] [] 1 m_look_at_net false := by
  obtain ⟨fd, F⟩ := T.d_look_at_net
  have scN := sc_look_at_net
  refine ⟨_, fd, ["net"], [], [], T.g_look_at_net, F.kp, fun_ok [] false F sc_look_at_net rfl rfl fun cdv A outer s H E B hr gd tk po hB hfr => ?_, F.bindsN fun _ _ _ _ _ _ us hl => match us, hl with | [_], _ => rfl, .nil, fun _ _ => .nil⟩
  exact (ds_one (ds_if (dt_not (dt_e (de_cal (ok_is_right_net T P w base) hr gd tk hB (dr_e (de_var 0) dr_nil)))) (ds_one (ds_raise T.x_NoNet T.g_NoNet tk)) ds_nil))

abbrev nm_is_right_plan : List Str := ["net", "thing", "item", "back", "going", "end"]
theorem sc_is_right_plan : FnScope nm_is_right_plan ["net", "thing"] (defScope (top 39)) := ⟨rfl, rfl, rfl, by decide +kernel, rfl, by decide +kernel, by decide +kernel⟩
theorem ok_is_right_plan {K : PySem.W.Frag} {mg : Str → Option Value} (T : Tx K mg) (P : Program) (w : World) (base : Heap) : Cal P w K mg base 6 "is_right_plan" [] [] 2 m_is_right_plan false := by
  obtain ⟨fd, F⟩ := T.d_is_right_plan
  have scN := sc_is_right_plan
  refine ⟨_, fd, ["net", "thing"], [], [], T.g_is_right_plan, F.kp, fun_ok [] false F sc_is_right_plan rfl rfl fun cdv A outer s H E B hr gd tk po hB hfr => ?_, F.bindsN fun _ _ _ _ _ _ us hl => match us, hl with | [_, _], _ => rfl, .nil, fun _ _ => .nil⟩
  exact (ds_cons (mid := []) (ds_if (dt_w (dw_or (dt_not (dt_e (de_isi "list" (de_var 1) T.b_isinstance T.b_list))) (dw_or1 (dt_not (dt_e (de_callB (cr_all rfl) fnd_all T.b_all (da_cons (de_lc rfl scN.nd hB (di_seq (de_var 1)) (blkOk_by (own := [("item", 2)]) (N := nm_is_right_plan) (sc := defScope (top 39)) (by decide +kernel)) (fun _ _ _ _ _ B hW hB => (dg_name 2 scN.nd)) (fun _ _ _ _ _ B hW hB => dts_nil) (fun _ _ _ _ _ B hW hB => (de_cal (ok_is_item T P w base) hr gd (takes_q hW) hB (dr_e (de_var 0) (dr_e (de_var 2) dr_nil))))) da_nil))))))) (ds_one (ds_ret hfr de_bl)) ds_nil)
    (ds_one (ds_ret hfr (de_cmp (op_eqE hr.units) opd_eq (de_of_do (do_srtI T.b_sorted (de_lc2 (vs1 := [5]) rfl scN.nd hB (di_seq (de_var 1)) (blkOk_by (own := [("back", 3), ("going", 4), ("end", 5)]) (N := nm_is_right_plan) (sc := defScope (top 39)) (by decide +kernel)) (fun _ _ _ _ _ B hW hB => (dg_tup rfl (dgs_cons (dg_name 3 scN.nd) (dgs_cons (dg_name 4 scN.nd) dgs_nil)))) (fun _ _ _ _ _ B hW hB => dts_nil) (fun _ _ _ _ _ B hW hB => (di_seq (de_var 4))) (fun _ _ _ _ _ B hW hB => (dg_name 5 scN.nd)) (fun _ _ _ _ _ B hW hB => dts_nil) (fun _ _ _ _ _ B hW hB => (de_ix ix_seq opd_ix (de_var 5) de_int))))) (de_of_do (do_lrng T.b_list T.b_range (de_callB call_len fnd_len T.b_len (da_cons (de_ix ix_seq opd_ix (de_var 0) de_int) da_nil))))))))

abbrev nm_is_going : List Str := ["net", "thing", "back"]
theorem sc_is_going : FnScope nm_is_going ["net", "thing", "back"] (defScope (top 35)) := ⟨rfl, rfl, rfl, by decide +kernel, rfl, by decide +kernel, by decide +kernel⟩
theorem fg_is_going {K : PySem.W.Frag} {mg : Str → Option Value} (T : Tx K mg) (P : Program) (w : World) (base : Heap) {fd : FuncData} (F : FunD K "is_going" "is_going" (defArgs (top 35)) (defBody (top 35)) (defScope (top 35)) [(.bl false : V)] [] (He.ga K "is_going") fd) :
    FnG P w K mg base 7 (He.ga K "is_going") fd ["net", "thing", "back"] (spD K mg [] 3 false m_is_going) := by
  have scN := sc_is_going
  refine fun_ok [] false F sc_is_going rfl rfl fun cdv A outer s H E B hr gd tk po hB hfr => ?_
  exact (ds_cons (mid := []) (ds_e (de_cal (ok_look_at_net T P w base) hr gd tk hB (dr_e (de_var 0) dr_nil)))
    (ds_one (ds_ret hfr (de_cal (ok_is_right_going T P w base) hr gd tk hB (dr_e (de_var 0) (dr_e (de_var 1) (dr_e (de_var 2) dr_nil)))))))
theorem ok_is_going_2 {K : PySem.W.Frag} {mg : Str → Option Value} (T : Tx K mg) (P : Program) (w : World) (base : Heap) : Cal P w K mg base 7 "is_going" [.bool false] [] 3 m_is_going false := by
  obtain ⟨fd, F⟩ := T.d_is_going
  obtain ⟨ds, hv, hb⟩ := F.binds1 2 0 (ps := ["net", "thing", "back"]) (by simp) rfl fun _ _ _ _ _ _ _ us its h1 h2 => match us, its, h1, h2 with | [_, _], [_], _, _ => ⟨_, rfl, rfl⟩
  exact ⟨_, fd, ["net", "thing", "back"], _, ds, T.g_is_going, F.kp, fg_is_going T P w base F, hb, hv, fun _ _ => .cons (.bl _) (.nil)⟩
theorem ok_is_going {K : PySem.W.Frag} {mg : Str → Option Value} (T : Tx K mg) (P : Program) (w : World) (base : Heap) : Cal P w K mg base 7 "is_going" [] [] 3 m_is_going false := by
  obtain ⟨fd, F⟩ := T.d_is_going
  obtain ⟨ds, hv, hb⟩ := F.binds1 3 1 (ps := ["net", "thing", "back"]) (by simp) rfl fun _ _ _ _ _ _ _ us its h1 h2 => match us, its, h1, h2 with | [_, _, _], [_], _, _ => ⟨_, rfl, rfl⟩
  exact ⟨_, fd, ["net", "thing", "back"], _, ds, T.g_is_going, F.kp, fg_is_going T P w base F, hb, hv, fun _ _ => .nil⟩

abbrev nm_turns_of : List Str := ["net", "going", "back"]
theorem sc_turns_of : FnScope nm_turns_of ["net", "going", "back"] (defScope (top 36)) := ⟨rfl, rfl, rfl, by decide +kernel, rfl, by decide +kernel, by decide +kernel⟩
theorem fg_turns_of {K : PySem.W.Frag} {mg : Str → Option Value} (T : Tx K mg) (P : Program) (w : World) (base : Heap) {fd : FuncData} (F : FunD K "turns_of" "turns_of" (defArgs (top 36)) (defBody (top 36)) (defScope (top 36)) [(.bl false : V)] [] (He.ga K "turns_of") fd) :
    FnG P w K mg base 7 (He.ga K "turns_of") fd ["net", "going", "back"] (spD K mg [] 3 false m_turns_of) := by
  have scN := sc_turns_of
  refine fun_ok [] false F sc_turns_of rfl rfl fun cdv A outer s H E B hr gd tk po hB hfr => ?_
  exact (ds_cons (mid := []) (ds_e (de_cal (ok_look_at_net T P w base) hr gd tk hB (dr_e (de_var 0) dr_nil)))
    (ds_cons (mid := []) (ds_e (de_cal (ok_look_at_going T P w base) hr gd tk hB (dr_e (de_var 0) (dr_e (de_var 1) (dr_e (de_var 2) dr_nil)))))
    (ds_one (ds_ret hfr (de_cal (ok_turns_in T P w base) hr gd tk hB (dr_e (de_var 1) (dr_e (de_var 2) dr_nil)))))))
theorem ok_turns_of_2 {K : PySem.W.Frag} {mg : Str → Option Value} (T : Tx K mg) (P : Program) (w : World) (base : Heap) : Cal P w K mg base 7 "turns_of" [.bool false] [] 3 m_turns_of false := by
  obtain ⟨fd, F⟩ := T.d_turns_of
  obtain ⟨ds, hv, hb⟩ := F.binds1 2 0 (ps := ["net", "going", "back"]) (by simp) rfl fun _ _ _ _ _ _ _ us its h1 h2 => match us, its, h1, h2 with | [_, _], [_], _, _ => ⟨_, rfl, rfl⟩
  exact ⟨_, fd, ["net", "going", "back"], _, ds, T.g_turns_of, F.kp, fg_turns_of T P w base F, hb, hv, fun _ _ => .cons (.bl _) (.nil)⟩
theorem ok_turns_of {K : PySem.W.Frag} {mg : Str → Option Value} (T : Tx K mg) (P : Program) (w : World) (base : Heap) : Cal P w K mg base 7 "turns_of" [] [] 3 m_turns_of false := by
  obtain ⟨fd, F⟩ := T.d_turns_of
  obtain ⟨ds, hv, hb⟩ := F.binds1 3 1 (ps := ["net", "going", "back"]) (by simp) rfl fun _ _ _ _ _ _ _ us its h1 h2 => match us, its, h1, h2 with | [_, _, _], [_], _, _ => ⟨_, rfl, rfl⟩
  exact ⟨_, fd, ["net", "going", "back"], _, ds, T.g_turns_of, F.kp, fg_turns_of T P w base F, hb, hv, fun _ _ => .nil⟩

abbrev nm_shut_turns : List Str := ["net", "going", "back"]
theorem sc_shut_turns : FnScope nm_shut_turns ["net", "going", "back"] (defScope (top 37)) := ⟨rfl, rfl, rfl, by decide +kernel, rfl, by decide +kernel, by decide +kernel⟩
theorem fg_shut_turns {K : PySem.W.Frag} {mg : Str → Option Value} (T : Tx K mg) (P : Program) (w : World) (base : Heap) {fd : FuncData} (F : FunD K "shut_turns" "shut_turns" (defArgs (top 37)) (defBody (top 37)) (defScope (top 37)) [(.bl false : V)] [] (He.ga K "shut_turns") fd) :
    FnG P w K mg base 7 (He.ga K "shut_turns") fd ["net", "going", "back"] (spD K mg [] 3 false m_shut_turns) := by
  have scN := sc_shut_turns
  refine fun_ok [] false F sc_shut_turns rfl rfl fun cdv A outer s H E B hr gd tk po hB hfr => ?_
  exact (ds_cons (mid := []) (ds_e (de_cal (ok_look_at_net T P w base) hr gd tk hB (dr_e (de_var 0) dr_nil)))
    (ds_cons (mid := []) (ds_e (de_cal (ok_look_at_going T P w base) hr gd tk hB (dr_e (de_var 0) (dr_e (de_var 1) (dr_e (de_var 2) dr_nil)))))
    (ds_one (ds_ret hfr (de_cal (ok_shut_in T P w base) hr gd tk hB (dr_e (de_var 0) (dr_e (de_var 1) (dr_e (de_var 2) dr_nil))))))))
theorem ok_shut_turns_2 {K : PySem.W.Frag} {mg : Str → Option Value} (T : Tx K mg) (P : Program) (w : World) (base : Heap) : Cal P w K mg base 7 "shut_turns" [.bool false] [] 3 m_shut_turns false := by
  obtain ⟨fd, F⟩ := T.d_shut_turns
  obtain ⟨ds, hv, hb⟩ := F.binds1 2 0 (ps := ["net", "going", "back"]) (by simp) rfl fun _ _ _ _ _ _ _ us its h1 h2 => match us, its, h1, h2 with | [_, _], [_], _, _ => ⟨_, rfl, rfl⟩
  exact ⟨_, fd, ["net", "going", "back"], _, ds, T.g_shut_turns, F.kp, fg_shut_turns T P w base F, hb, hv, fun _ _ => .cons (.bl _) (.nil)⟩
theorem ok_shut_turns {K : PySem.W.Frag} {mg : Str → Option Value} (T : Tx K mg) (P : Program) (w : World) (base : Heap) : Cal P w K mg base 7 "shut_turns" [] [] 3 m_shut_turns false := by
  obtain ⟨fd, F⟩ := T.d_shut_turns
  obtain ⟨ds, hv, hb⟩ := F.binds1 3 1 (ps := ["net", "going", "back"]) (by simp) rfl fun _ _ _ _ _ _ _ us its h1 h2 => match us, its, h1, h2 with | [_, _, _], [_], _, _ => ⟨_, rfl, rfl⟩
  exact ⟨_, fd, ["net", "going", "back"], _, ds, T.g_shut_turns, F.kp, fg_shut_turns T P w base F, hb, hv, fun _ _ => .nil⟩

abbrev nm_is_plan : List Str := ["net", "thing"]
theorem sc_is_plan : FnScope nm_is_plan ["net", "thing"] (defScope (top 40)) := ⟨rfl, rfl, rfl, by decide +kernel, rfl, by decide +kernel, by decide +kernel⟩
theorem ok_is_plan {K : PySem.W.Frag} {mg : Str → Option Value} (T : Tx K mg) (P : Program) (w : World) (base : Heap) : Cal P w K mg base 7 "is_plan" [] [] 2 m_is_plan false := by
  obtain ⟨fd, F⟩ := T.d_is_plan
  have scN := sc_is_plan
  refine ⟨_, fd, ["net", "thing"], [], [], T.g_is_plan, F.kp, fun_ok [] false F sc_is_plan rfl rfl fun cdv A outer s H E B hr gd tk po hB hfr => ?_, F.bindsN fun _ _ _ _ _ _ us hl => match us, hl with | [_, _], _ => rfl, .nil, fun _ _ => .nil⟩
  exact (ds_cons (mid := []) (ds_e (de_cal (ok_look_at_net T P w base) hr gd tk hB (dr_e (de_var 0) dr_nil)))
    (ds_one (ds_ret hfr (de_cal (ok_is_right_plan T P w base) hr gd tk hB (dr_e (de_var 0) (dr_e (de_var 1) dr_nil))))))

abbrev nm__law_asked : List Str := ["_law_which", "_law_net_here", "_law_thing", "_law_back", "_law_kept", "_law_error", "e"]
theorem sc__law_asked : FnScope nm__law_asked ["_law_which", "_law_net_here", "_law_thing", "_law_back"] (defScope (top 59)) := ⟨rfl, rfl, rfl, by decide +kernel, rfl, by decide +kernel, by decide +kernel⟩
theorem ok__law_asked {K : PySem.W.Frag} {mg : Str → Option Value} (T : Tx K mg) (P : Program) (w : World) (base : Heap) : Cal P w K mg base 8 "_law_asked" [] [] 4 m__law_asked false := by
  obtain ⟨fd, F⟩ := T.d__law_asked
  have scN := sc__law_asked
  refine ⟨_, fd, ["_law_which", "_law_net_here", "_law_thing", "_law_back"], [], [], T.g__law_asked, F.kp, fun_ok [] false F sc__law_asked rfl rfl fun cdv A outer s H E B hr gd tk po hB hfr => ?_, F.bindsN fun _ _ _ _ _ _ us hl => match us, hl with | [_, _, _, _], _ => rfl, .nil, fun _ _ => .nil⟩
  exact (ds_cons (mid := []) (ds_set 4 scN.nd (de_callB (call_reprG hr gd) fnd_repr T.b_repr (da_cons (de_lst (da_cons (de_var 1) (da_cons (de_var 2) da_nil))) da_nil)))
    (ds_cons (mid := []) (ds_set 5 scN.nd de_non)
    (ds_cons (mid := []) (ds_try xsL 6 5 scN.nd (fun _ hc => excs_m T.xs hc) ⟨by rfl, by decide, .inl T.g_TrailsError⟩ (fun W pn xe tkW poW => (pss_one (dx_if (dt_cmp (op_eqE hr.units) opd_eq (de_var 0) de_int) (pss_one (dx_e (ok_is_going T P w base) hr gd tkW hB (dr_e (de_var 1) (dr_e (de_var 2) (dr_e (de_var 3) dr_nil))))) (pss_one (dx_if (dt_cmp (op_eqE hr.units) opd_eq (de_var 0) de_int) (pss_one (dx_e (ok_is_plan T P w base) hr gd tkW hB (dr_e (de_var 1) (dr_e (de_var 2) dr_nil)))) (pss_one (dx_if (dt_cmp (op_eqE hr.units) opd_eq (de_var 0) de_int) (pss_one (dx_e (ok_turns_of T P w base) hr gd tkW hB (dr_e (de_var 1) (dr_e (de_var 2) (dr_e (de_var 3) dr_nil))))) (pss_one (dx_e (ok_shut_turns T P w base) hr gd tkW hB (dr_e (de_var 1) (dr_e (de_var 2) (dr_e (de_var 3) dr_nil)))))))))))))
    (ds_cons (mid := []) (ds_if (dt_cmp (op_neE hr.units) opd_ne (de_callB (call_reprG hr gd) fnd_repr T.b_repr (da_cons (de_lst (da_cons (de_var 1) (da_cons (de_var 2) da_nil))) da_nil)) (de_var 4)) (ds_one (ds_ret hfr de_str)) ds_nil)
    (ds_one (ds_ret hfr (de_cal (ok__law_word T P w base) hr gd tk hB (dr_e (de_var 5) dr_nil))))))))

abbrev nm_law : List Str := ["_law_script", "_law_pile_here", "_law_net_here", "_law_going", "_law_bad", "_law_thing", "_law_which", "_law_far_here", "_law_end", "_law_due", "_law_back", "_law_word_here", "_law_one", "_law_other", "_law_there", "_law_round_net"]
theorem sc_law : FnScope nm_law ["_law_script"] (defScope (top 60)) := ⟨rfl, rfl, rfl, by decide +kernel, rfl, by decide +kernel, by decide +kernel⟩
theorem fn_law {K : PySem.W.Frag} {mg : Str → Option Value} (T : Tx K mg) {fd : FuncData} (F : FunD K "law" "law" (defArgs (top 60)) (defBody (top 60)) (defScope (top 60)) [] [] (He.ga K "law") fd) (P : Program) (w : World) (base : Heap) :
    FnG P w K mg base 9 (He.ga K "law") fd ["_law_script"] (spD K mg [] 1 false m_law) := by
  have scN := sc_law
  refine fun_ok [] false F sc_law rfl rfl fun cdv A outer s H E B hr gd tk po hB hfr => ?_
  exact (ds_cons (mid := [1]) (ds_setO 1 scN.nd (do_cal (ok__law_pile T P w base) hr gd tk hB (dr_e (de_var 0) (dr_e de_int dr_nil))))
    (ds_cons (mid := []) (ds_out [1] (ds_set 2 scN.nd (de_cal (ok__law_net T P w base) hr gd tk hB (dr_io 1 (dr_e de_int dr_nil)))))
    (ds_cons (mid := []) (ds_set 3 scN.nd (de_lst (da_cons (de_tup (da_cons de_int (da_cons de_int da_nil))) da_nil)))
    (ds_cons (mid := []) (ds_if (dt_cmp (op_eqE hr.units) opd_eq (de_ix ix_seq opd_ix (de_var 2) de_int) (de_tup da_nil)) (ds_one (ds_set 2 scN.nd (de_tup (da_cons de_int (da_cons (de_tup (da_cons (de_tup (da_cons (de_tup (da_cons de_int (da_cons de_int da_nil))) (da_cons (de_tup (da_cons de_int (da_cons de_int da_nil))) da_nil))) (da_cons (de_tup (da_cons (de_tup (da_cons de_int (da_cons de_int da_nil))) (da_cons (de_tup (da_cons de_int (da_cons de_int da_nil))) da_nil))) da_nil))) da_nil))))) ds_nil)
    (ds_cons (mid := []) (ds_for po rfl (di_list (de_cal (ok__law_bad_nets T P w base) hr gd tk hB (dr_e (de_var 2) dr_nil))) (dg_name 4 scN.nd) (ds_one (ds_for po rfl (di_list (de_lst (da_cons (de_var 3) (da_cons de_non da_nil)))) (dg_name 5 scN.nd) (ds_one (ds_if (dt_cmp (op_neE hr.units) opd_ne (de_lc rfl scN.nd hB (di_rng1 T.b_range (da_cons de_int da_nil)) (blkOk_by (own := [("_law_which", 6)]) (N := nm_law) (sc := defScope (top 60)) (by decide +kernel)) (fun _ _ _ _ _ B hW hB => (dg_name 6 scN.nd)) (fun _ _ _ _ _ B hW hB => dts_nil) (fun _ _ _ _ _ B hW hB => (de_cal (ok__law_asked T P w base) hr gd (takes_q hW) hB (dr_e (de_var 6) (dr_e (de_var 4) (dr_e (de_var 5) (dr_e de_bl dr_nil))))))) (de_of_do (do_repL (do_lst (da_cons de_str da_nil)) de_int))) (ds_one (ds_ret hfr de_bl)) ds_nil)))))
    (ds_cons (mid := []) (ds_set 7 scN.nd (de_lst (da_cons (de_lst (da_cons (de_tup (da_cons de_int (da_cons de_int da_nil))) (da_cons (de_tup (da_cons de_int (da_cons de_int da_nil))) da_nil))) (da_cons (de_lst (da_cons (de_tup (da_cons de_int (da_cons de_int da_nil))) (da_cons (de_tup (da_cons de_int (da_cons de_int da_nil))) (da_cons (de_tup (da_cons de_int (da_cons de_int da_nil))) da_nil)))) (da_cons (de_lst da_nil) (da_cons de_non (da_cons de_int (da_cons de_str (da_cons (de_tup (da_cons (de_tup (da_cons de_int (da_cons de_int da_nil))) da_nil)) (da_cons (de_lst (da_cons (de_tup (da_cons de_int (da_cons de_int da_nil))) (da_cons de_non da_nil))) (da_cons (de_lst (da_cons (de_lst (da_cons de_int (da_cons de_int da_nil))) da_nil)) (da_cons (de_tup (da_cons de_int (da_cons de_int da_nil))) da_nil))))))))))))
    (ds_cons (mid := []) (ds_for po rfl (di_seq (de_op op_addG opd_add (de_op op_addG opd_add (de_var 7) (de_lc rfl scN.nd hB (di_list (de_cal (ok__law_bad_ends T P w base) hr gd tk hB (dr_e (de_var 2) dr_nil))) (blkOk_by (own := [("_law_end", 8)]) (N := nm_law) (sc := defScope (top 60)) (by decide +kernel)) (fun _ _ _ _ _ B hW hB => (dg_name 8 scN.nd)) (fun _ _ _ _ _ B hW hB => dts_nil) (fun _ _ _ _ _ B hW hB => (de_lst (da_cons (de_var 8) da_nil))))) (de_lc rfl scN.nd hB (di_list (de_cal (ok__law_bad_ends T P w base) hr gd tk hB (dr_e (de_var 2) dr_nil))) (blkOk_by (own := [("_law_end", 8)]) (N := nm_law) (sc := defScope (top 60)) (by decide +kernel)) (fun _ _ _ _ _ B hW hB => (dg_name 8 scN.nd)) (fun _ _ _ _ _ B hW hB => dts_nil) (fun _ _ _ _ _ B hW hB => (de_op op_addG opd_add (de_var 3) (de_lst (da_cons (de_var 8) da_nil))))))) (dg_name 4 scN.nd) (ds_cons (mid := []) (ds_set 9 scN.nd (de_ix ix_seq opd_ix (de_lst (da_cons (de_of_do (do_repL (do_lst (da_cons de_str da_nil)) de_int)) (da_cons (de_of_do (do_repL (do_lst (da_cons de_str da_nil)) de_int)) da_nil))) (de_callT call_int1 fnd_int T.b_int (da_cons (de_cal (ok__law_is_going T P w base) hr gd tk hB (dr_e (de_var 2) (dr_e (de_var 4) (dr_e de_bl dr_nil)))) da_nil))))
    (ds_cons (mid := []) (ds_if (dt_cmp (op_neE hr.units) opd_ne (de_lc rfl scN.nd hB (di_list (de_lst (da_cons de_int (da_cons de_int da_nil)))) (blkOk_by (own := [("_law_which", 6)]) (N := nm_law) (sc := defScope (top 60)) (by decide +kernel)) (fun _ _ _ _ _ B hW hB => (dg_name 6 scN.nd)) (fun _ _ _ _ _ B hW hB => dts_nil) (fun _ _ _ _ _ B hW hB => (de_cal (ok__law_asked T P w base) hr gd (takes_q hW) hB (dr_e (de_var 6) (dr_e (de_var 2) (dr_e (de_var 4) (dr_e de_bl dr_nil))))))) (de_var 9)) (ds_one (ds_ret hfr de_bl)) ds_nil)
    (ds_cons (mid := []) (ds_set 9 scN.nd (de_ix ix_seq opd_ix (de_lst (da_cons (de_of_do (do_repL (do_lst (da_cons de_str da_nil)) de_int)) (da_cons (de_of_do (do_repL (do_lst (da_cons de_str da_nil)) de_int)) da_nil))) (de_callT call_int1 fnd_int T.b_int (da_cons (de_cal (ok__law_is_going T P w base) hr gd tk hB (dr_e (de_var 2) (dr_e (de_var 4) (dr_e de_bl dr_nil)))) da_nil))))
    (ds_one (ds_if (dt_cmp (op_neE hr.units) opd_ne (de_lc rfl scN.nd hB (di_list (de_lst (da_cons de_int (da_cons de_int da_nil)))) (blkOk_by (own := [("_law_which", 6)]) (N := nm_law) (sc := defScope (top 60)) (by decide +kernel)) (fun _ _ _ _ _ B hW hB => (dg_name 6 scN.nd)) (fun _ _ _ _ _ B hW hB => dts_nil) (fun _ _ _ _ _ B hW hB => (de_cal (ok__law_asked T P w base) hr gd (takes_q hW) hB (dr_e (de_var 6) (dr_e (de_var 2) (dr_e (de_var 4) (dr_e de_bl dr_nil))))))) (de_var 9)) (ds_one (ds_ret hfr de_bl)) ds_nil))))))
    (ds_cons (mid := []) (ds_for po rfl (di_list (de_lst (da_cons de_bl (da_cons de_bl da_nil)))) (dg_name 10 scN.nd) (ds_cons (mid := []) (ds_set 11 scN.nd (de_ix ix_seq opd_ix (de_lst (da_cons de_str (da_cons de_str da_nil))) (de_callT call_int1 fnd_int T.b_int (da_cons (de_cal (ok__law_is_going T P w base) hr gd tk hB (dr_e (de_var 2) (dr_e (de_var 3) (dr_e (de_var 10) dr_nil)))) da_nil))))
    (ds_one (ds_if (dt_cmp (op_neE hr.units) opd_ne (de_lc rfl scN.nd hB (di_rng1 T.b_range (da_cons de_int da_nil)) (blkOk_by (own := [("_law_which", 6)]) (N := nm_law) (sc := defScope (top 60)) (by decide +kernel)) (fun _ _ _ _ _ B hW hB => (dg_name 6 scN.nd)) (fun _ _ _ _ _ B hW hB => dts_nil) (fun _ _ _ _ _ B hW hB => (de_cal (ok__law_asked T P w base) hr gd (takes_q hW) hB (dr_e (de_var 6) (dr_e (de_var 2) (dr_e (de_var 3) (dr_e (de_var 10) dr_nil))))))) (de_lst (da_cons de_str (da_cons de_str (da_cons (de_var 11) (da_cons (de_var 11) da_nil)))))) (ds_one (ds_ret hfr de_bl)) ds_nil))))
    (ds_cons (mid := []) (ds_for po rfl (di_list (de_cal (ok__law_ends T P w base) hr gd tk hB (dr_e (de_var 2) dr_nil))) (dg_name 12 scN.nd) (ds_one (ds_for po rfl (di_list (de_cal (ok__law_ends T P w base) hr gd tk hB (dr_e (de_var 2) dr_nil))) (dg_name 13 scN.nd) (ds_one (ds_for po rfl (di_list (de_lst (da_cons de_bl (da_cons de_bl da_nil)))) (dg_name 10 scN.nd) (ds_cons (mid := []) (ds_set 11 scN.nd (de_ix ix_seq opd_ix (de_lst (da_cons de_str (da_cons de_str da_nil))) (de_callT call_int1 fnd_int T.b_int (da_cons (de_cal (ok__law_is_going T P w base) hr gd tk hB (dr_e (de_var 2) (dr_e (de_lst (da_cons (de_var 12) (da_cons (de_var 13) da_nil))) (dr_e (de_var 10) dr_nil)))) da_nil))))
    (ds_cons (mid := []) (ds_if (dt_cmp (op_neE hr.units) opd_ne (de_lc rfl scN.nd hB (di_list (de_lst (da_cons de_int (da_cons de_int da_nil)))) (blkOk_by (own := [("_law_which", 6)]) (N := nm_law) (sc := defScope (top 60)) (by decide +kernel)) (fun _ _ _ _ _ B hW hB => (dg_name 6 scN.nd)) (fun _ _ _ _ _ B hW hB => dts_nil) (fun _ _ _ _ _ B hW hB => (de_cal (ok__law_asked T P w base) hr gd (takes_q hW) hB (dr_e (de_var 6) (dr_e (de_var 2) (dr_e (de_lst (da_cons (de_var 12) (da_cons (de_var 13) da_nil))) (dr_e (de_var 10) dr_nil))))))) (de_lst (da_cons (de_var 11) (da_cons (de_var 11) da_nil)))) (ds_one (ds_ret hfr de_bl)) ds_nil)
    (ds_cons (mid := []) (ds_set 14 scN.nd (de_lst (da_cons (de_var 12) (da_cons (de_var 13) (da_cons (de_cal (ok__law_far T P w base) hr gd tk hB (dr_e (de_var 12) dr_nil)) da_nil)))))
    (ds_cons (mid := []) (ds_set 11 scN.nd (de_ix ix_seq opd_ix (de_lst (da_cons de_str (da_cons de_str da_nil))) (de_callT call_int1 fnd_int T.b_int (da_cons (de_cal (ok__law_is_going T P w base) hr gd tk hB (dr_e (de_var 2) (dr_e (de_var 14) (dr_e (de_var 10) dr_nil)))) da_nil))))
    (ds_one (ds_if (dt_cmp (op_neE hr.units) opd_ne (de_lc rfl scN.nd hB (di_list (de_lst (da_cons de_int (da_cons de_int da_nil)))) (blkOk_by (own := [("_law_which", 6)]) (N := nm_law) (sc := defScope (top 60)) (by decide +kernel)) (fun _ _ _ _ _ B hW hB => (dg_name 6 scN.nd)) (fun _ _ _ _ _ B hW hB => dts_nil) (fun _ _ _ _ _ B hW hB => (de_cal (ok__law_asked T P w base) hr gd (takes_q hW) hB (dr_e (de_var 6) (dr_e (de_var 2) (dr_e (de_var 14) (dr_e (de_var 10) dr_nil))))))) (de_lst (da_cons (de_var 11) (da_cons (de_var 11) da_nil)))) (ds_one (ds_ret hfr de_bl)) ds_nil)))))))))))
    (ds_cons (mid := []) (ds_set 15 scN.nd (de_tup (da_cons de_int (da_cons (de_tup (da_cons (de_tup (da_cons (de_tup (da_cons de_int (da_cons de_int da_nil))) (da_cons (de_tup (da_cons de_int (da_cons de_int da_nil))) da_nil))) (da_cons (de_tup (da_cons (de_tup (da_cons de_int (da_cons de_int da_nil))) (da_cons (de_tup (da_cons de_int (da_cons de_int da_nil))) da_nil))) da_nil))) da_nil))))
    (ds_one (ds_ret hfr (de_cmp (op_eqE hr.units) opd_eq (de_cal (ok__law_asked T P w base) hr gd tk hB (dr_e de_int (dr_e (de_var 15) (dr_e (de_lst (da_cons (de_tup (da_cons de_int (da_cons de_int da_nil))) (da_cons (de_tup (da_cons de_int (da_cons de_int da_nil))) (da_cons (de_tup (da_cons de_int (da_cons de_int da_nil))) da_nil)))) (dr_e de_bl dr_nil))))) de_str)))))))))))))

end KHead

end T_Wlk_k13
section T_Ma_k13
namespace KHead
open PySem PySem.Spec PyProof.Rows L2 Kd
/-! ### what is drawn -/
def nI (n : Nat) : PyData := .int (n : Int)
theorem take_eq (p n : Int) (h0 : 0 < n) (h1 : n < 1073741824) : m__law_take [.list [.int p], .int n] = .ok ([.list [.int (p.fdiv n)]], .int (p.fmod n)) := by
  have q1 : ¬ n = 0 := by omega
  have q2 : n.natAbs < 1073741824 := by omega
  simp [m__law_take, q1, q2, ixN]
theorem w_take (p : Int) (n : Nat) (h0 : 0 < n) (h1 : n < 1073741824) : ∃ (q : Int) (k : Nat), m__law_take [.list [.int p], .int (n : Int)] = .ok ([.list [.int q]], .int (k : Int)) ∧ k < n := by
  have h2 := Int.fmod_nonneg_of_pos p (b := (n : Int)) (by omega)
  have h3 := Int.fmod_lt_of_pos p (b := (n : Int)) (by omega)
  obtain ⟨k, hk⟩ := Int.eq_ofNat_of_zero_le h2
  exact ⟨_, k, by rw [take_eq p n (by omega) (by omega), hk], by rw [hk] at h3; omega⟩
theorem w_mixed (a b : Int) (hb : b.natAbs < 2 ^ 64) : W (m__law_mixed [.int a, .int b]) fun y => ∃ q : Int, y = ([], .int q) ∧ 0 ≤ q ∧ q < 2147483579 := by
  have hm : ∀ x m : Int, 0 < m → 0 ≤ x.fmod m ∧ x.fmod m < m := fun x m h => ⟨Int.fmod_nonneg_of_pos x h, Int.fmod_lt_of_pos x h⟩
  have c1 : mulOk (a.fmod 2147483647) 48271 = true := mulOk_of (a := 32) (b := 32) (by have := hm a 2147483647 (by decide); omega) (by decide) (by decide)
  have c2 : mulOk b 69621 = true := mulOk_of (a := 64) (b := 32) hb (by decide) (by decide)
  refine W_fn (W_seq ?_)
  simp [c1, c2, -sSeq_]
  have g1 := hm (a.fmod 2147483647 * 48271 + b * 69621 + 1048583) 2147483629 (by decide)
  generalize (a.fmod 2147483647 * 48271 + b * 69621 + 1048583).fmod 2147483629 = u at *
  have c3 : mulOk u u = true := mulOk_of (a := 32) (b := 32) (by omega) (by omega) (by decide)
  refine W_seq ?_
  simp [c3]
  have g2 := hm (u * u) 2147483587 (by decide)
  generalize (u * u).fmod 2147483587 = v at *
  have c4 : mulOk v (v + 2) = true := mulOk_of (a := 32) (b := 33) (by omega) (by omega) (by decide)
  simp [c4]
  exact hm _ 2147483579 (by decide)
theorem w_pile (ns : List Int) (k : Nat) (hk : k < 1000) : ∃ p : Int, m__law_pile [.list (ns.map .int), .int (k : Int)] = .ok ([], .list [.int p]) := by
  suffices h : W (m__law_pile [.list (ns.map .int), .int (k : Int)]) fun y => ∃ p : Int, y = ([], .list [.int p]) by
    obtain ⟨y, h1, p, h2⟩ := h
    exact ⟨p, by rw [h1, h2]⟩
  refine W_fn (W_seq ?_)
  simp [-sSeq_]
  refine W_seq ?_
  have h1 : ∃ c : Int, sIf (Kd.tB (m2 fLt (mV 1) (mN fLen [(mV 0)]))) (sSet 2 (m2 fIx (mV 0) (mV 1))) sNx [some (PyData.list (ns.map .int)), some (.int (k : Int)), some (.int 0), none, none] = .ok (.nx [some (PyData.list (ns.map .int)), some (.int (k : Int)), some (.int c), none, none]) := by
    by_cases hl : k < ns.length
    · refine ⟨ns[k], ?_⟩
      simp [hl]
    · refine ⟨0, ?_⟩
      simp [hl]
  obtain ⟨c, h1⟩ := h1
  rw [h1]
  simp [-sSeq_]
  refine W_seq ?_
  by_cases hc : (10 : Int) ^ 18 ≤ c
  · have c1 : mulOk ((10 : Int) ^ 60) ((10 : Int) ^ 60) = true := mulOk_of (a := 200) (b := 200) (by decide) (by decide) (by decide)
    have c2 : mulOk ((10 : Int) ^ 60 * (10 : Int) ^ 60) ((10 : Int) ^ 60) = true := mulOk_of (a := 400) (b := 200) (by decide) (by decide) (by decide)
    have c3 : mulOk ((10 : Int) ^ 60 * (10 : Int) ^ 60 * (10 : Int) ^ 60) ((10 : Int) ^ 60) = true := mulOk_of (a := 600) (b := 200) (by decide) (by decide) (by decide)
    simp [-Int.reducePow, -Int.reduceMul, hc, c1, c2, c3, sl]
    rw [show (!decide ((10 : Int) ^ 60 * 10 ^ 60 * 10 ^ 60 * 10 ^ 60 = 0)) = true by decide +kernel]
    simp [-Int.reducePow, -Int.reduceMul]
  · simp [-Int.reducePow, hc, -sSeq_]
    refine W_seq ?_
    simp [-sSeq_]
    refine W_seq ?_
    refine W_rng 24 (fun j ρ => ∃ x f, ρ = [some (PyData.list (ns.map .int)), some (.int (k : Int)), some (.int c), some (.int f), x] ∧ 0 ≤ f ∧ f < ((2147483579 ^ j : Nat) : Int)) rfl ⟨_, 0, rfl, by decide, by decide⟩ ?_ ?_
    · rintro j ρ hj ⟨x, f, rfl, f1, f2⟩
      refine ⟨_, rfl, ?_⟩
      have c1 : mulOk 7 (k : Int) = true := mulOk_of (a := 10) (b := 10) (by decide) (by omega) (by decide)
      have c2 : mulOk 100 (j : Int) = true := mulOk_of (a := 10) (b := 10) (by decide) (by omega) (by decide)
      have c3 : mulOk (j : Int) (j : Int) = true := mulOk_of (a := 10) (b := 10) (by omega) (by omega) (by decide)
      have c4 : mulOk f 2147483579 = true := by
        refine mulOk_of (a := 1000) (b := 32) ?_ (by decide) (by decide)
        have e : 2147483579 ^ j ≤ 2147483579 ^ 24 := Nat.pow_le_pow_right (by decide) (by omega)
        have e2 : 2147483579 ^ 24 < 2 ^ 1000 := by decide +kernel
        generalize 2147483579 ^ j = g at *
        generalize 2147483579 ^ 24 = g2 at *
        generalize 2 ^ 1000 = g3 at *
        omega
      have hjj : (j : Int) * j < 1000 := by
        have : (j : Int) * j ≤ 24 * 24 := Int.mul_le_mul (by omega) (by omega) (by omega) (by omega)
        omega
      have hj0 : 0 ≤ (j : Int) * j := Int.mul_nonneg (by omega) (by omega)
      obtain ⟨y, e, q, rfl, q1, q2⟩ := w_mixed c (7 * (k : Int) + 100 * (j : Int) + (j : Int) * j) (by omega)
      simp [c1, c2, c3, c4, e]
      refine ⟨_, _, ⟨rfl, rfl⟩, ?_, ?_⟩
      · have : 0 ≤ f * 2147483579 := Int.mul_nonneg f1 (by decide)
        omega
      · have e3 : ((2147483579 : Int)) ^ (j + 1) = 2147483579 ^ j * 2147483579 := Int.pow_succ _ _
        rw [e3]
        have f3 : f < (2147483579 : Int) ^ j := by simpa using f2
        generalize (2147483579 : Int) ^ j = g at *
        omega
    · rintro ρ ⟨x, f, rfl, f1, f2⟩
      simp [sl]
theorem w_takeI (p n : Int) (h0 : 0 < n) (h1 : n < 1073741824) : ∃ (q : Int) (k : Nat), m__law_take [.list [.int p], .int n] = .ok ([.list [.int q]], .int (k : Int)) ∧ (k : Int) < n := by
  obtain ⟨q, k, e, h⟩ := w_take p n.toNat (by omega) (by omega)
  rw [Int.toNat_of_nonneg (by omega)] at e
  exact ⟨q, k, e, by omega⟩
abbrev Pt := Nat × Nat
abbrev Rd := Pt × Pt
def ptD (p : Pt) : PyData := .tuple [.int (p.1 : Int), .int (p.2 : Int)]
def rdD (r : Rd) : PyData := .tuple [ptD r.1, ptD r.2]
def netD (c : Nat) (rs : List Rd) : PyData := .tuple [.int (c : Int), .tuple (rs.map rdD)]
def rdOk (c : Nat) (r : Rd) : Prop := r.1.1 < c ∧ r.1.2 < 10 ∧ r.2.1 < c ∧ r.2.2 < 10
theorem w_order (p : Int) (m : Nat) (hm : m < 1000) : ∃ (q : Int) (ns : List Nat), m__law_order_of [.list [.int p], .int (m : Int)] = .ok ([.list [.int q]], .list (ns.map nI)) ∧ ns.Perm (List.range m) := by
  suffices h : W (m__law_order_of [.list [.int p], .int (m : Int)]) fun y => ∃ (q : Int) (ns : List Nat), y = ([.list [.int q]], .list (ns.map nI)) ∧ ns.Perm (List.range m) by
    obtain ⟨y, h1, q, ns, h2, h3⟩ := h
    exact ⟨q, ns, by rw [h1, h2], h3⟩
  refine W_fn (W_seq ?_)
  simp [-sSeq_]
  refine W_seq ?_
  refine W_rng m (fun j ρ => ∃ q ns x, ρ = [some (.list [.int q]), some (.int (m : Int)), some (.list (ns.map nI)), x] ∧ ns.Perm (List.range j)) (ρ1 := [some (.list [.int p]), some (.int (m : Int)), some (.list []), none]) ?_ ⟨p, [], none, rfl, List.Perm.refl _⟩ ?_ ?_
  · exact it_rng (by simp) (by rw [sl]; omega)
  · rintro j ρ hj ⟨q, ns, x, rfl, hp⟩
    refine ⟨_, rfl, ?_⟩
    obtain ⟨q2, i, e, hi⟩ := w_take q (j + 1) (by omega) (by omega)
    have e' : m__law_take [.list [.int q], .int ((j : Int) + 1)] = .ok ([.list [.int q2]], .int (i : Int)) := by simpa using e
    have hlen : ns.length = j := by simpa using hp.length_eq
    have c1 : 0 ≤ (i : Int) ∧ (i : Int) < 2 ^ 63 := by omega
    have c2 : ns.length < 16777216 := by omega
    have c2 : (ns.map nI).length < sizeLine := by rw [List.length_map, sl]; omega
    simp only [sE_, mMt_, gt_succ, gt_zero, List.set_cons_succ, List.set_cons_zero, opt_some, Option.bind_some, asL_l, mArgs_cons, mArgs_nil, mCall_, evA_io, evA_e, m2_, mV_, mC_, fAdd_i, bind_ok', evA_nil, res_inr, res_inl, res_nil, Option.map_some, List.append_nil, js_io, js_e, js_nil, List.isEmpty, e', Bool.false_eq_true, if_false, quiet_ok', setL_cons, setL_nil, fIns_, decide_eq_true c2, Bool.true_and, decide_eq_true c1, Kd.iff_true, W_ok]
    refine ⟨q2, ns.take i ++ j :: ns.drop i, some (.int j), by simp [nI], ?_⟩
    refine List.perm_middle.trans ?_
    rw [List.take_append_drop, List.range_succ]
    refine (hp.cons j).trans ?_
    exact (List.perm_append_singleton j (List.range j)).symm
  · rintro ρ ⟨q, ns, x, rfl, hp⟩
    simp
    exact ⟨q, ns, ⟨rfl, rfl⟩, hp⟩
theorem pick8 (k : Nat) (h : k < 8) : ∃ c : Nat, ([.int 1, .int 2, .int 2, .int 3, .int 3, .int 4, .int 5, .int 6] : List PyData)[k]? = some (.int (c : Int)) ∧ 1 ≤ c ∧ c ≤ 6 := by
  match k, h with
  | 0, _ => exact ⟨1, rfl, by decide, by decide⟩
  | 1, _ => exact ⟨2, rfl, by decide, by decide⟩
  | 2, _ => exact ⟨2, rfl, by decide, by decide⟩
  | 3, _ => exact ⟨3, rfl, by decide, by decide⟩
  | 4, _ => exact ⟨3, rfl, by decide, by decide⟩
  | 5, _ => exact ⟨4, rfl, by decide, by decide⟩
  | 6, _ => exact ⟨5, rfl, by decide, by decide⟩
  | 7, _ => exact ⟨6, rfl, by decide, by decide⟩
theorem pick5 (k : Nat) (h : k < 5) : ∃ c : Nat, ([.int 2, .int 3, .int 3, .int 4, .int 10] : List PyData)[k]? = some (.int (c : Int)) ∧ 2 ≤ c ∧ c ≤ 10 := by
  match k, h with
  | 0, _ => exact ⟨2, rfl, by decide, by decide⟩
  | 1, _ => exact ⟨3, rfl, by decide, by decide⟩
  | 2, _ => exact ⟨3, rfl, by decide, by decide⟩
  | 3, _ => exact ⟨4, rfl, by decide, by decide⟩
  | 4, _ => exact ⟨10, rfl, by decide, by decide⟩
def stN (n c k2 m t : Nat) (ss : List Nat) (q : Int) (j : Option PyData) (last first : Nat) (rs : List Rd) (x y z : Option PyData) : Ev := [some (.list [.int q]), some (.int (n : Int)), some (.int (c : Int)), some (.int (k2 : Int)), some (.int (m : Int)), some (.int (t : Int)), some (.list (ss.map nI)), j, some (.int (last : Int)), some (.int (first : Int)), some (.list (rs.map rdD)), x, y, z]
theorem w_net (p : Int) (n : Nat) (hn : n ≤ 20) : ∃ (q : Int) (c : Nat) (rs : List Rd), m__law_net [.list [.int p], .int (n : Int)] = .ok ([.list [.int q]], netD c rs) ∧ 1 ≤ c ∧ c ≤ 6 ∧ rs.length ≤ n ∧ ∀ r ∈ rs, rdOk c r := by
  suffices h : W (m__law_net [.list [.int p], .int (n : Int)]) fun y => ∃ (q : Int) (c : Nat) (rs : List Rd), y = ([.list [.int q]], netD c rs) ∧ 1 ≤ c ∧ c ≤ 6 ∧ rs.length ≤ n ∧ ∀ r ∈ rs, rdOk c r by
    obtain ⟨y, h1, q, c, rs, h2, h3⟩ := h
    exact ⟨q, c, rs, by rw [h1, h2], h3⟩
  refine W_fn (W_seq ?_)
  obtain ⟨q1, k1, e1, h1⟩ := w_takeI p 8 (by decide) (by decide)
  obtain ⟨c, hc, hc1, hc2⟩ := pick8 k1 (by omega)
  simp [-sSeq_, e1, hc, sl]
  refine W_seq ?_
  obtain ⟨q2, k2, e2, h2⟩ := w_takeI q1 5 (by decide) (by decide)
  obtain ⟨q3, k3, e3, h3⟩ := w_takeI q2 5 (by decide) (by decide)
  obtain ⟨m, hm, hm1, hm2⟩ := pick5 k3 (by omega)
  simp [-sSeq_, e2, e3, hm, sl]
  refine W_seq ?_
  obtain ⟨q4, t, e4, ht⟩ := w_takeI q3 (n + 1) (by omega) (by omega)
  simp [-sSeq_, e4]
  refine W_seq (W_bind ?_)
  refine W_mLc (fun acc r ρ => ∃ q ss x, ρ = [some (.list [.int q]), some (.int (n : Int)), some (.int (c : Int)), some (.int (k2 : Int)), some (.int (m : Int)), some (.int (t : Int)), none, x, none, none, none, none, none, none] ∧ acc = ss.map nI ∧ acc.length + r.length = t + 1 ∧ ∀ s ∈ ss, s < c)
    (it_rng (n := t + 1) (by simp) (by rw [sl]; omega)) (by simp) (by rw [numL_len', sl]; omega) ⟨q4, [], none, rfl, rfl, by rw [numL_len']; simp, by simp⟩ ?_ ?_ ?_
  · rintro acc d r ρ ⟨q, ss, x, rfl, rfl, hl, hs⟩
    obtain ⟨q5, s, e5, h5⟩ := w_takeI q c (by omega) (by omega)
    refine ⟨_, rfl, ?_⟩
    simp [e5]
    refine ⟨ss ++ [s], by simp [nI], by simp at hl ⊢; omega, ?_⟩
    intro s' h'
    rcases List.mem_append.mp h' with h' | h'
    · exact hs s' h'
    · simp at h'; omega
  · rintro acc ρ ⟨q, ss, x, rfl, rfl, hl, hs⟩
    simp at hl ⊢
    rw [sl]; omega
  rintro acc ρ ⟨q5, ss, x, rfl, rfl, hl, hs⟩
  have hss : ss.length = t + 1 := by simpa using hl
  simp [-sSeq_]
  refine W_seq ?_
  obtain ⟨q6, l6, e6, h6⟩ := w_takeI q5 m (by omega) (by omega)
  simp [-sSeq_, e6]
  refine W_seq ?_
  simp [-sSeq_]
  refine W_seq ?_
  simp [-sSeq_, sl]
  refine W_seq ?_
  obtain ⟨P, hP⟩ : ∃ P : Nat → Ev → Prop, ∀ j ρ, P j ρ ↔ ∃ q last first rs v x y z, ρ = stN n c k2 m t ss q v last first rs x y z ∧ last < m ∧ first < m ∧ rs.length = j ∧ ∀ r ∈ rs, rdOk c r := ⟨_, fun _ _ => Iff.rfl⟩
  refine W_rng' t P (it_rng (by simp) (by rw [sl]; omega)) ((hP _ _).mpr ⟨q6, l6, l6, [], none, none, none, none, rfl, by omega, by omega, rfl, by simp⟩) ?_ ?_
  · intro j ρ hj hρ
    obtain ⟨q, last, first, rs, v, x, y, z, rfl, g1, g2, g3, g4⟩ := (hP _ _).mp hρ
    refine ⟨stN n c k2 m t ss q (some (.int (j : Int))) last first rs x y z, rfl, ?_⟩
    have i1 : j < ss.length := by omega
    have i2 : j + 1 < ss.length := by omega
    have i0 : 0 < ss.length := by omega
    have hb : ∀ i (h : i < ss.length), ss[i] < c := fun i h => hs _ (List.getElem_mem h)
    refine W_seq (W.mono (P := fun fl => ∃ a b, a < c ∧ b < c ∧ fl = .nx (stN n c k2 m t ss q (some (.int (j : Int))) last first rs (some (.int (a : Nat))) (some (.int (b : Nat))) z)) ?_ ?_)
    · simp [stN, nI, i1, i2]
      exact ⟨_, hb j i1, _, hb (j + 1) i2, rfl, rfl⟩
    rintro _ ⟨a, b, ha, hb', rfl⟩
    rw [KS_nx]
    refine W_seq (W.mono (P := fun fl => ∃ q a, a < c ∧ fl = .nx (stN n c k2 m t ss q (some (.int (j : Int))) last first rs (some (.int (a : Nat))) (some (.int (b : Nat))) z)) ?_ ?_)
    · obtain ⟨q7, s, e7, h7⟩ := w_takeI q c (by omega) (by omega)
      by_cases h : (k2 : Int) = 0
      · simp [stN, h, e7]
        exact ⟨_, s, by omega, rfl, rfl⟩
      · have h0 : ¬ k2 = 0 := by omega
        simp [stN, h0]
        exact ⟨_, a, ha, rfl, rfl⟩
    clear ha a q hρ
    rintro _ ⟨q, a, ha, rfl⟩
    rw [KS_nx]
    refine W_seq (W.mono (P := fun fl => ∃ b, b < c ∧ fl = .nx (stN n c k2 m t ss q (some (.int (j : Int))) last first rs (some (.int (a : Nat))) (some (.int (b : Nat))) z)) ?_ ?_)
    · by_cases h : (1 : Int) < k2
      · by_cases h' : (j : Int) = t - 1
        · simp [stN, h, h', i0, nI]
          exact ⟨_, hb 0 i0, rfl⟩
        · simp [stN, h, h']
          exact ⟨_, hb', rfl⟩
      · simp [stN, h]
        exact ⟨_, hb', rfl⟩
    clear hb' b
    rintro _ ⟨b, hb', rfl⟩
    rw [KS_nx]
    obtain ⟨q8, k8, e8, h8⟩ := w_takeI q m (by omega) (by omega)
    refine W_seq (W.mono (P := fun fl => ∃ q k, k < m ∧ fl = .nx (stN n c k2 m t ss q (some (.int (j : Int))) last first rs (some (.int (a : Nat))) (some (.int (b : Nat))) (some (.int (k : Nat))))) ?_ ?_)
    · simp [stN, e8]
      exact ⟨_, k8, by omega, rfl, rfl⟩
    clear e8 q8 h8 k8 q
    rintro _ ⟨q, k, hk, rfl⟩
    rw [KS_nx]
    have mid : ∀ last k : Nat, ∃ l, l < m ∧ ((last : Int) + 1 + k).fmod m = (l : Nat) := fun last k => by
      have h2 := Int.fmod_nonneg_of_pos ((last : Int) + 1 + k) (b := (m : Int)) (by omega)
      have h3 := Int.fmod_lt_of_pos ((last : Int) + 1 + k) (b := (m : Int)) (by omega)
      exact ⟨(((last : Int) + 1 + k).fmod m).toNat, by omega, by omega⟩
    have hm0 : ¬ m = 0 := by omega
    refine W_seq (W.mono (P := fun fl => ∃ q k, k < m ∧ fl = .nx (stN n c k2 m t ss q (some (.int (j : Int))) last first rs (some (.int (a : Nat))) (some (.int (b : Nat))) (some (.int (k : Nat))))) ?_ ?_)
    · by_cases h : (2 : Int) < k2
      · obtain ⟨q7, s, e7, h7⟩ := w_takeI q ((m : Int) - 1) (by omega) (by omega)
        obtain ⟨l, hl1, hl2⟩ := mid last s
        simp [stN, h, e7, hm0, hl2]
        exact ⟨_, l, hl1, rfl, rfl⟩
      · simp [stN, h]
        exact ⟨_, k, hk, rfl, rfl⟩
    clear hk k q
    rintro _ ⟨q, k, hk, rfl⟩
    rw [KS_nx]
    refine W_seq (W.mono (P := fun fl => ∃ first, first < m ∧ fl = .nx (stN n c k2 m t ss q (some (.int (j : Int))) last first rs (some (.int (a : Nat))) (some (.int (b : Nat))) (some (.int (k : Nat))))) ?_ ?_)
    · by_cases h : (j : Int) = 0
      · simp [stN, h]
        exact ⟨k, hk, rfl⟩
      · have h0 : ¬ j = 0 := by omega
        simp [stN, h0]
        exact ⟨first, g2, rfl⟩
    clear g2 first
    rintro _ ⟨first, g2, rfl⟩
    rw [KS_nx]
    obtain ⟨q8, k8, e8, h8⟩ := w_takeI q m (by omega) (by omega)
    refine W_seq (W.mono (P := fun fl => ∃ q last, last < m ∧ fl = .nx (stN n c k2 m t ss q (some (.int (j : Int))) last first rs (some (.int (a : Nat))) (some (.int (b : Nat))) (some (.int (k : Nat))))) ?_ ?_)
    · simp [stN, e8]
      exact ⟨_, k8, by omega, rfl, rfl⟩
    clear e8 q8 h8 k8 q g1 last
    rintro _ ⟨q, last, g1, rfl⟩
    rw [KS_nx]
    refine W_seq (W.mono (P := fun fl => ∃ q last, last < m ∧ fl = .nx (stN n c k2 m t ss q (some (.int (j : Int))) last first rs (some (.int (a : Nat))) (some (.int (b : Nat))) (some (.int (k : Nat))))) ?_ ?_)
    · by_cases h : (2 : Int) < k2
      · by_cases h' : (j : Int) = t - 1
        · obtain ⟨q7, s, e7, h7⟩ := w_takeI q ((m : Int) - 1) (by omega) (by omega)
          obtain ⟨l, hl1, hl2⟩ := mid first s
          simp [stN, h, h', e7, hm0, hl2]
          exact ⟨_, l, hl1, rfl, rfl⟩
        · simp [stN, h, h']
          exact ⟨_, last, g1, rfl, rfl⟩
      · simp [stN, h]
        exact ⟨_, last, g1, rfl, rfl⟩
    clear g1 last q
    rintro _ ⟨q, last, g1, rfl⟩
    rw [KS_nx]
    have c1 : (rs.map rdD).length < sizeLine := by rw [List.length_map, sl]; omega
    simp [stN, sl] at c1 ⊢
    simp [c1]
    refine (hP _ _).mpr ⟨q, last, first, rs ++ [((a, k), (b, last))], _, _, _, _, by simp [stN, rdD, ptD]; exact ⟨rfl, rfl, rfl, rfl⟩, g1, g2, by simp [g3], ?_⟩
    intro r hr
    rcases List.mem_append.mp hr with hr | hr
    · exact g4 r hr
    · simp at hr
      subst hr
      exact ⟨ha, by show k < 10; omega, hb', by show last < 10; omega⟩
  · intro ρ hρ
    obtain ⟨q, last, first, rs, v, x, y, z, rfl, g1, g2, g3, g4⟩ := (hP _ _).mp hρ
    obtain ⟨q7, os, e7, h7⟩ := w_order q t (by omega)
    have hl : os.length = t := by simpa using h7.length_eq
    have hL : mLc [0] (iOf asL (mCall m__law_order_of [.io 0, .e (mV 5)] [])) (gN 7) tTrue (m2 fIx (mV 10) (mV 7)) [7] (stN n c k2 m t ss q v last first rs x y z) = .ok (stN n c k2 m t ss q7 v last first rs x y z, .list ((os.map nI).map fun d => match d with | .int i => ((rs.map rdD)[i.toNat]?).getD .none | _ => .none)) := by
      refine mLc_map1 _ (by simp [stN]) ?_ (by simp [stN]) (by rw [List.length_map, hl, sl]; omega) ?_
      · simp [stN, e7]
      · intro d hd
        obtain ⟨o, ho, rfl⟩ := List.mem_map.mp hd
        have ho' : o < rs.length := by
          have := h7.mem_iff.mp ho
          rw [g3]; simpa using this
        simp [stN, nI, ho']
    rw [KS_nx]
    obtain ⟨w, hw⟩ : ∃ w : PyData → PyData, w = fun d => match d with | .int i => ((rs.map rdD)[i.toNat]?).getD .none | _ => .none := ⟨_, rfl⟩
    rw [← hw] at hL
    have hrs : ∃ rs' : List Rd, (os.map nI).map w = rs'.map rdD ∧ rs'.length = t ∧ ∀ r ∈ rs', r ∈ rs := by
      refine ⟨os.map fun o => rs[o]?.getD default, ?_, by simp [hl], ?_⟩
      · rw [List.map_map, List.map_map]
        refine List.map_congr_left fun o ho => ?_
        have ho' : o < rs.length := by
          have := h7.mem_iff.mp ho
          rw [g3]; simpa using this
        simp [hw, nI, ho']
      · intro r hr
        obtain ⟨o, ho, rfl⟩ := List.mem_map.mp hr
        have ho' : o < rs.length := by
          have := h7.mem_iff.mp ho
          rw [g3]; simpa using this
        simp [ho']
    obtain ⟨rs', k1, k2', k3'⟩ := hrs
    have hg : gt (stN n c k2 m t ss q v last first rs x y z) 2 = some (.int (c : Int)) := rfl
    simp [hL, -mLc_, hg, k1]
    rw [sl]
    simp [stN]
    exact ⟨q7, c, rs', ⟨rfl, rfl⟩, hc1, hc2, by omega, fun a b a' b' h => g4 _ (k3' _ h)⟩
end KHead

end T_Ma_k13
section T_Mb_k13
namespace KHead
open PySem PySem.Spec PyProof.Rows L2 Kd
def whole : PyData → Bool
  | .int _ => true
  | _ => false
def below (d : PyData) (n : Int) : Bool := match d with
  | .int i => decide (0 ≤ i) && decide (i < n)
  | _ => false
def point (d : PyData) (n : Int) : Bool := match d with
  | .tuple [a, b] => below a n && below b 10
  | _ => false
def road (d : PyData) (n : Int) : Bool := match d with
  | .tuple [a, b] => point a n && point b n
  | _ => false
theorem e_whole (d : PyData) (h : d.canLay0 = true) : m_is_whole [d] = .ok ([], .bool (whole d)) := by
  cases d <;> first | (simp [PyData.canLay0] at h; done) | simp [m_is_whole, isB, whole]
theorem e_below (d : PyData) (n : Int) (h : d.canLay0 = true) : m_is_below [d, .int n] = .ok ([], .bool (below d n)) := by
  cases d with
  | int i =>
    simp [m_is_below, e_whole (.int i) rfl, whole, below]
    by_cases h : 0 ≤ i <;> simp [h]
  | dict _ => simp [PyData.canLay0] at h
  | _ => simp [m_is_below, e_whole _ h, whole, below]
theorem lay_t {a : PyData} {xs : List PyData} (h : (PyData.tuple (a :: xs)).canLay0 = true) : a.canLay0 = true ∧ (PyData.tuple xs).canLay0 = true := by
  simpa [PyData.canLay0, PyData.canLayAll0] using h
theorem e_point (d : PyData) (n : Int) (h : d.canLay0 = true) : m_is_point [d, .int n] = .ok ([], .bool (point d n)) := by
  cases d with
  | tuple xs =>
    match xs, h with
    | [], h => simp [m_is_point, isB, point]
    | [a], h => simp [m_is_point, isB, point]
    | [a, b], h =>
      obtain ⟨h1, h2⟩ := lay_t h
      obtain ⟨h2, _⟩ := lay_t h2
      simp [m_is_point, isB, point, e_below a n h1, e_below b 10 h2]
      cases below a n <;> simp
    | a :: b :: c :: r, h =>
      have q : ¬ ((r.length : Int) + 1 + 1 + 1 = 2) := by omega
      simp [m_is_point, isB, point, q]
  | dict _ => simp [PyData.canLay0] at h
  | _ => simp [m_is_point, isB, point]
theorem e_road (d : PyData) (n : Int) (h : d.canLay0 = true) : m_is_road [d, .int n] = .ok ([], .bool (road d n)) := by
  cases d with
  | tuple xs =>
    match xs, h with
    | [], h => simp [m_is_road, isB, road]
    | [a], h => simp [m_is_road, isB, road]
    | [a, b], h =>
      obtain ⟨h1, h2⟩ := lay_t h
      obtain ⟨h2, _⟩ := lay_t h2
      simp [m_is_road, isB, road, e_point a n h1, e_point b n h2]
      cases point a n <;> simp
    | a :: b :: c :: r, h =>
      have q : ¬ ((r.length : Int) + 1 + 1 + 1 = 2) := by omega
      simp [m_is_road, isB, road, q]
  | dict _ => simp [PyData.canLay0] at h
  | _ => simp [m_is_road, isB, road]
def net (d : PyData) : Bool := match d with
  | .tuple [.int n, .tuple rs] => decide (1 ≤ n) && decide (n ≤ 12) && rs.all fun r => road r n
  | _ => false
theorem e_net (d : PyData) (h : d.canLay0 = true) (hl : ∀ a rs, d = .tuple [a, .tuple rs] → rs.length ≤ sizeLine) : m_is_right_net [d] = .ok ([], .bool (net d)) := by
  cases d with
  | tuple xs =>
    match xs, h, hl with
    | [], h, hl => simp [m_is_right_net, isB, net]
    | [a], h, hl => simp [m_is_right_net, isB, net]
    | a :: b :: c :: r, h, hl =>
      have q : ¬ ((r.length : Int) + 1 + 1 + 1 = 2) := by omega
      simp [m_is_right_net, isB, net, q]
    | [a, b], h, hl =>
      obtain ⟨h1, h2⟩ := lay_t h
      obtain ⟨h2, _⟩ := lay_t h2
      cases b with
      | tuple rs =>
        have hrs := hl a rs rfl
        cases a with
        | int n =>
          have hc : mLc [] (iOf asT (m2 fIx (mV 0) (mC (.int 1)))) (gN 1) tTrue (mCall m_is_road [.e (mV 1), .e (m2 fIx (mV 0) (mC (.int 0)))] []) [1] [some (.tuple [.int n, .tuple rs]), none] = .ok ([some (.tuple [.int n, .tuple rs]), none], .list (rs.map fun r => .bool (road r n))) :=
            mLc_map _ (by simp) (by simp) hrs fun d hd => by simp [e_road d n (lay_tup h2 d hd)]
          simp only [m_is_right_net]
          simp [isB, net, e_whole (.int n) rfl, whole, hc, -mLc_]
          by_cases c1 : n < 1
          · simp [c1, show ¬ (1 ≤ n) by omega]
          · by_cases c2 : 12 < n
            · simp [c1, c2, show ¬ (n ≤ 12) by omega]
            · simp [c1, c2, show 1 ≤ n by omega, show n ≤ 12 by omega]
        | dict _ => simp [PyData.canLay0] at h1
        | _ => simp [m_is_right_net, isB, net, e_whole _ h1, whole]
      | dict _ => simp [PyData.canLay0] at h2
      | _ => simp [m_is_right_net, isB, net]
  | dict _ => simp [PyData.canLay0] at h
  | _ => simp [m_is_right_net, isB, net]
def endB (n : Nat) (d : PyData) : Bool := match d with
  | .tuple [a, b] => below a (n : Int) && below b 2
  | _ => false
theorem bulkAll_len : ∀ xs : List PyData, xs.length ≤ PyData.bulkAll xs
  | [] => Nat.zero_le _
  | x :: xs => by
    have := bulkAll_len xs
    simp only [PyData.bulkAll, List.length_cons]
    omega
theorem sm_len {k n : Nat} {a : PyData} {rs : List PyData} (h : Sm k n (.tuple [a, .tuple rs])) : rs.length ≤ n := by
  have h1 := h.2.2
  have h2 := bulkAll_len rs
  simp only [PyData.bulk, PyData.bulkAll] at h1
  omega
theorem e_rend (a : PyData) (rs : List PyData) (d : PyData) (h : d.canLay0 = true) : m_is_right_end [.tuple [a, .tuple rs], d] = .ok ([], .bool (endB rs.length d)) := by
  cases d with
  | tuple xs =>
    match xs, h with
    | [], h => simp [m_is_right_end, isB, endB]
    | [x], h => simp [m_is_right_end, isB, endB]
    | [x, y], h =>
      obtain ⟨h1, h2⟩ := lay_t h
      obtain ⟨h2, _⟩ := lay_t h2
      simp [m_is_right_end, isB, endB, e_below x _ h1, e_below y 2 h2]
      cases below x rs.length <;> simp
    | x :: y :: z :: r, h =>
      have q : ¬ ((r.length : Int) + 1 + 1 + 1 = 2) := by omega
      simp [m_is_right_end, isB, endB, q]
  | dict _ => simp [PyData.canLay0] at h
  | _ => simp [m_is_right_end, isB, endB]
theorem e_look {k n : Nat} (d : PyData) (h : Sm k n d) (hn : n ≤ 600000) (hd : net d = true) : m_look_at_net [d] = .ok ([], .none) := by
  have e := e_net d h.lay fun a rs hd => by
    subst hd
    have := sm_len h
    rw [sl]; omega
  simp [m_look_at_net, e, hd]
theorem below_i (i n : Int) : below (.int i) n = (decide (0 ≤ i) && decide (i < n)) := rfl
theorem net_D {c : Nat} {rs : List Rd} (h1 : 1 ≤ c) (h2 : c ≤ 12) (h : ∀ r ∈ rs, rdOk c r) : net (netD c rs) = true := by
  simp only [netD, net, List.all_map, Bool.and_eq_true, decide_eq_true_eq, List.all_eq_true]
  refine ⟨⟨by omega, by omega⟩, fun r hr => ?_⟩
  obtain ⟨q1, q2, q3, q4⟩ := h r hr
  simp only [Function.comp, rdD, road, ptD, point, below_i, Bool.and_eq_true, decide_eq_true_eq]
  omega
theorem sm_pt {c : Nat} {p : Pt} (h1 : p.1 < c) (h2 : p.2 < 10) (hc : c ≤ 12) : Sm 1 2 (ptD p) := by
  refine ((sm_tup (k := 0) (n := 0) (l := 2) ?_ (by simp)).mono (by omega) (by omega) : Sm 1 2 (.tuple [.int (p.1 : Int), .int (p.2 : Int)]))
  intro x hx
  simp at hx
  rcases hx with rfl | rfl <;> exact sm_int (by omega)
theorem sm_rd {c : Nat} {r : Rd} (h : rdOk c r) (hc : c ≤ 12) : Sm 2 6 (rdD r) := by
  obtain ⟨q1, q2, q3, q4⟩ := h
  refine (sm_tup (k := 1) (n := 2) (l := 2) ?_ (by simp) : Sm 2 6 (.tuple [ptD r.1, ptD r.2]))
  intro x hx
  simp at hx
  rcases hx with rfl | rfl
  · exact sm_pt q1 q2 hc
  · exact sm_pt q3 q4 hc
theorem sm_rds {c : Nat} {rs : List Rd} (h : ∀ r ∈ rs, rdOk c r) (hc : c ≤ 12) (hl : rs.length ≤ 20) : Sm 3 140 (.tuple (rs.map rdD)) := by
  refine sm_tup (k := 2) (n := 6) (l := 20) ?_ (by simpa using hl)
  intro x hx
  obtain ⟨r, hr, rfl⟩ := List.mem_map.mp hx
  exact sm_rd (h r hr) hc
theorem sm_net {c : Nat} {rs : List Rd} (h : ∀ r ∈ rs, rdOk c r) (hc : c ≤ 12) (hl : rs.length ≤ 20) : Sm 4 282 (netD c rs) := by
  refine (sm_tup (k := 3) (n := 140) (l := 2) ?_ (by simp) : Sm 4 282 (.tuple [.int (c : Int), .tuple (rs.map rdD)]))
  intro x hx
  simp at hx
  rcases hx with rfl | rfl
  · exact (sm_int (by omega)).mono (by omega) (by omega)
  · exact sm_rds h hc hl
theorem e_lwhole (d : PyData) (h : d.canLay0 = true) : m__law_whole [d] = .ok ([], .bool (whole d)) := by
  cases d <;> first | (simp [PyData.canLay0] at h; done) | simp [m__law_whole, isB, whole]
theorem whole_i {d : PyData} (h : whole d = true) : ∃ i, d = .int i := by
  cases d <;> first | (cases h; done) | exact ⟨_, rfl⟩
theorem below_w {d : PyData} {n : Int} (h : whole d = false) : below d n = false := by
  cases d <;> first | (cases h; done) | rfl
theorem e_lend (a : PyData) (rs : List PyData) (d : PyData) (h : d.canLay0 = true) : m__law_is_end [.tuple [a, .tuple rs], d] = .ok ([], .bool (endB rs.length d)) := by
  cases d with
  | tuple xs =>
    match xs, h with
    | [], h => simp [m__law_is_end, isB, endB]
    | [x], h => simp [m__law_is_end, isB, endB]
    | [x, y], h =>
      obtain ⟨h1, h2⟩ := lay_t h
      obtain ⟨h2, _⟩ := lay_t h2
      cases wa : whole x with
      | false => simp [m__law_is_end, isB, endB, e_lwhole x h1, wa, below_w wa]
      | true =>
        cases wb : whole y with
        | false => simp [m__law_is_end, isB, endB, e_lwhole x h1, e_lwhole y h2, wa, wb, below_w wb]
        | true =>
          obtain ⟨i, rfl⟩ := whole_i wa
          obtain ⟨j, rfl⟩ := whole_i wb
          have hm : ∀ j : Int, memD (.int j) [.int 0, .int 1] = (decide (0 ≤ j) && decide (j < 2)) := fun j => by
            simp only [memD, List.any, PyData.eqv]
            by_cases q1 : j = 0
            · subst q1; rfl
            · by_cases q2 : j = 1
              · subst q2; rfl
              · have e1 : ((0 : Int) == j) = false := by simp; omega
                have e2 : ((1 : Int) == j) = false := by simp; omega
                rw [e1, e2]
                by_cases q3 : 0 ≤ j
                · simp [q3]; omega
                · simp [q3]
          have hs : (SeqAt.shaped (.int j) && SeqAt.shaped (.list [.int 0, .int 1])) = true := by
            rw [sh_i]; rfl
          have hf : fIn (.int j) (.list [.int 0, .int 1]) = some (.bool (decide (0 ≤ j) && decide (j < 2))) := by
            rw [← hm j]
            show iff' _ _ = _
            rw [hs]; rfl
          simp [m__law_is_end, isB, endB, e_lwhole _ h1, e_lwhole _ h2, whole, below, sl, hf]
          by_cases q1 : 0 ≤ i <;> by_cases q2 : i < rs.length <;> simp [q1, q2]
    | x :: y :: z :: r, h =>
      have q : ¬ ((r.length : Int) + 1 + 1 + 1 = 2) := by omega
      simp [m__law_is_end, isB, endB, q]
  | dict _ => simp [PyData.canLay0] at h
  | _ => simp [m__law_is_end, isB, endB]
def endsL (n : Nat) : List PyData := (List.range n).flatMap fun r => [.tuple [nI r, .int 0], .tuple [nI r, .int 1]]
theorem endsL_succ (n : Nat) : endsL (n + 1) = endsL n ++ [.tuple [nI n, .int 0], .tuple [nI n, .int 1]] := by
  unfold endsL
  rw [List.range_succ, List.flatMap_append]
  rfl
theorem endsL_len : ∀ n : Nat, (endsL n).length = 2 * n
  | 0 => rfl
  | n + 1 => by rw [endsL_succ, List.length_append, endsL_len n]; simp; omega
theorem endsL_ok (n : Nat) : ∀ d ∈ endsL n, d.canLay0 = true ∧ endB n d = true := by
  intro d hd
  obtain ⟨r, hr, hd⟩ := List.mem_flatMap.mp hd
  have hr := List.mem_range.mp hr
  simp at hd
  rcases hd with rfl | rfl <;> simp [nI, PyData.canLay0, PyData.canLayAll0, endB, below, hr]
theorem e_ends (a : PyData) (rs : List PyData) (h : rs.length ≤ 1000) : m__law_ends [.tuple [a, .tuple rs]] = .ok ([], .list (endsL rs.length)) := by
  suffices hW : W (m__law_ends [.tuple [a, .tuple rs]]) fun y => y = ([], .list (endsL rs.length)) by
    obtain ⟨y, e, rfl⟩ := hW
    exact e
  refine W_fn (W_seq ?_)
  simp [sl, -sSeq_]
  refine W_seq ?_
  refine W_rng' rs.length (fun j ρ => ∃ x, ρ = [some (.tuple [a, .tuple rs]), some (.list (endsL j)), x]) (ρ1 := [some (.tuple [a, .tuple rs]), some (.list []), none]) (it_rng (by simp) (by rw [sl]; omega)) ⟨none, rfl⟩ ?_ ?_
  · rintro j ρ hj ⟨x, rfl⟩
    refine ⟨_, rfl, ?_⟩
    have hl := endsL_len j
    have c1 : (endsL j).length + 2 ≤ 16777216 := by omega
    simp [sl, c1, endsL_succ, nI]
  · rintro ρ ⟨x, rfl⟩
    simp
theorem w_bad_ends (a : PyData) (rs : List PyData) : ∃ xs, m__law_bad_ends [.tuple [a, .tuple rs]] = .ok ([], .list xs) ∧ ∀ x ∈ xs, x.canLay0 = true := by
  suffices hW : W (m__law_bad_ends [.tuple [a, .tuple rs]]) fun y => ∃ xs, y = ([], .list xs) ∧ ∀ x ∈ xs, x.canLay0 = true by
    obtain ⟨y, e, xs, rfl, h⟩ := hW
    exact ⟨xs, e, h⟩
  have s1 : (PyData.str (PySem.Str.ofString "")).canLay0 = true := by decide +kernel
  have s2 : (PyData.str (PySem.Str.ofString "0")).canLay0 = true := by decide +kernel
  have p : ∀ b : Bool, (PyData.bool b).canLay0 = true := fun _ => rfl
  have p2 : ∀ b : Int, (PyData.int b).canLay0 = true := fun _ => rfl
  have p3 : PyData.none.canLay0 = true := rfl
  have p4 : ∀ b, (PyData.tuple b).canLay0 = PyData.canLayAll0 b := fun _ => by simp [PyData.canLay0]
  have p5 : ∀ b, (PyData.list b).canLay0 = PyData.canLayAll0 b := fun _ => by simp [PyData.canLay0]
  refine W_fn (W_seq ?_)
  simp [-sSeq_]
  refine W_seq ?_
  simp [-sSeq_, sl]
  simp [s1, s2, p, p2, p3, p4, p5, PyData.canLayAll0]
end KHead

end T_Mb_k13
section T_Mc_k13
namespace KHead
open PySem PySem.Spec PyProof.Rows L2 Kd
/-! ### ends -/
abbrev En := Nat × Nat
def enOk (rs : List Rd) (e : En) : Prop := e.1 < rs.length ∧ e.2 < 2
def plc (rs : List Rd) (e : En) : Nat := match rs[e.1]? with
  | some r => if e.2 = 0 then r.1.1 else r.2.1
  | none => 0
def farE (e : En) : En := (e.1, 1 - e.2)
theorem farE_ok {rs : List Rd} {e : En} (h : enOk rs e) : enOk rs (farE e) := ⟨h.1, by show 1 - e.2 < 2; omega⟩
theorem sh_pt (a : Pt) : SeqAt.shaped (ptD a) = true := shaped_of rfl (by simp [ptD])
theorem fEq_pt (a b : Pt) : fEq (ptD a) (ptD b) = some (.bool (decide (a = b))) := by
  show iff' (sh2 _ _) _ = _
  rw [sh2, sh_pt, sh_pt]
  simp only [Bool.and_self, Kd.iff_true, ptD, PyData.eqv, PyData.eqvAll]
  congr 2
  obtain ⟨a1, a2⟩ := a
  obtain ⟨b1, b2⟩ := b
  by_cases h1 : a1 = b1
  · by_cases h2 : a2 = b2
    · simp [h1, h2]
    · simp [h1, h2]
      omega
  · simp [h1]
    omega
theorem fNe_pt (a b : Pt) : fNe (ptD a) (ptD b) = some (.bool (!decide (a = b))) := by
  have h := fEq_pt a b
  show iff' (sh2 _ _) _ = _
  have h : iff' (sh2 (ptD a) (ptD b)) (PyData.bool (PyData.eqv (ptD a) (ptD b))) = some (.bool (decide (a = b))) := h
  rw [sh2, sh_pt, sh_pt] at h ⊢
  simp only [Bool.and_self, Kd.iff_true, Option.some.injEq, PyData.bool.injEq] at h ⊢
  rw [h]
theorem endB_pt {n : Nat} {e : En} : endB n (ptD e) = (decide (e.1 < n) && decide (e.2 < 2)) := by
  simp [endB, ptD, below]
  congr 1
  exact decide_eq_decide.mpr (by omega)
theorem endB_en {n : Nat} {d : PyData} (h : endB n d = true) : ∃ e : En, d = ptD e ∧ e.1 < n ∧ e.2 < 2 := by
  unfold endB at h
  split at h
  · rename_i a b
    obtain ⟨h1, h2⟩ := Bool.and_eq_true_iff.mp h
    cases a <;> first | (cases h1; done) | skip
    cases b <;> first | (cases h2; done) | skip
    rename_i i j
    simp [below] at h1 h2
    refine ⟨(i.toNat, j.toNat), ?_, by simp; omega, by simp; omega⟩
    simp [ptD]
    omega
  · cases h
theorem e_place {c : Nat} {rs : List Rd} {e : En} (h : enOk rs e) : m_place_at [netD c rs, ptD e] = .ok ([], .int (plc rs e : Nat)) := by
  obtain ⟨i, j⟩ := e
  obtain ⟨h1, h2⟩ := h
  simp at h1 h2
  match j, h2 with
  | 0, _ => simp [m_place_at, netD, ptD, h1, rdD, plc]
  | 1, _ => simp [m_place_at, netD, ptD, h1, rdD, plc]
theorem e_far {e : En} (h : e.2 < 2) : m_other_end [ptD e] = .ok ([], ptD (farE e)) := by
  obtain ⟨i, j⟩ := e
  simp at h
  match j, h with
  | 0, _ => simp [m_other_end, ptD, sl, farE]
  | 1, _ => simp [m_other_end, ptD, sl, farE]
theorem e_lplace {c : Nat} {rs : List Rd} {e : En} (h : enOk rs e) : m__law_place [netD c rs, ptD e] = .ok ([], .int (plc rs e : Nat)) := by
  obtain ⟨i, j⟩ := e
  obtain ⟨h1, h2⟩ := h
  simp at h1 h2
  match j, h2 with
  | 0, _ => simp [m__law_place, netD, ptD, h1, rdD, plc]
  | 1, _ => simp [m__law_place, netD, ptD, h1, rdD, plc]
theorem e_lfar {e : En} (h : e.2 < 2) : m__law_far [ptD e] = .ok ([], ptD (farE e)) := by
  obtain ⟨i, j⟩ := e
  simp at h
  match j, h with
  | 0, _ => simp [m__law_far, ptD, sl, farE]
  | 1, _ => simp [m__law_far, ptD, sl, farE]
/-- the turns of a going -/
def tsD (es : List En) (back : Bool) : List (En × En) := (es.zip es.tail).map (fun p => (farE p.1, p.2)) ++ (if back then [(farE (es.getLastD (0, 0)), es.headD (0, 0))] else [])
def tnD (t : En × En) : PyData := .tuple [ptD t.1, ptD t.2]
end KHead

end T_Mc_k13
section T_Md_k13
namespace KHead
open PySem PySem.Spec PyProof.Rows L2 Kd
theorem tsD_len {es : List En} {back : Bool} (h0 : es ≠ []) : (tsD es back).length ≤ es.length := by
  cases es with
  | nil => exact absurd rfl h0
  | cons e r => cases back <;> simp [tsD] <;> omega
theorem zip_pt (es : List En) : (es.map ptD).zip (es.map ptD).tail = (es.zip es.tail).map (fun p => (ptD p.1, ptD p.2)) := by
  rw [← List.map_tail, List.zip_map]
  rfl
theorem zip_mem {es : List En} {p : En × En} (h : p ∈ es.zip es.tail) : p.1 ∈ es ∧ p.2 ∈ es := by
  obtain ⟨a, b⟩ := p
  have := List.of_mem_zip h
  exact ⟨this.1, List.mem_of_mem_tail this.2⟩
theorem last_at (es : List En) (h : es ≠ []) : atI (es.map ptD) (-1) = some (ptD (es.getLastD (0, 0))) := by
  obtain ⟨r, a, rfl⟩ : ∃ r a, es = r ++ [a] := ⟨es.dropLast, es.getLast h, (List.dropLast_concat_getLast h).symm⟩
  rw [List.map_append]
  show atI (r.map ptD ++ [ptD a]) (-1) = _
  rw [atI_m1]
  simp
theorem last_mem (es : List En) (h : es ≠ []) : es.getLastD (0, 0) ∈ es := by
  obtain ⟨r, a, rfl⟩ : ∃ r a, es = r ++ [a] := ⟨es.dropLast, es.getLast h, (List.dropLast_concat_getLast h).symm⟩
  simp
theorem e_turns_in {es : List En} {back : Bool} (h0 : es ≠ []) (h : ∀ e ∈ es, e.2 < 2) (hl : es.length ≤ 10000) : m_turns_in [.list (es.map ptD), .bool back] = .ok ([], .list ((tsD es back).map tnD)) := by
  have hz : ((es.map ptD).zip (es.map ptD).tail).map (fun p => PyData.tuple [p.1, p.2]) = (es.zip es.tail).map fun p => PyData.tuple [ptD p.1, ptD p.2] := by
    rw [zip_pt, List.map_map]; rfl
  have hc : mLc [] (iNg zipD [(mV 0), (mSl (mV 0) (some (mC (.int 1))) none)]) (gT [(gN 3), (gN 4)]) tTrue (mN fTup [(mCall m_other_end [.e (mV 3)] []), (mV 4)]) [3, 4] [some (.list (es.map ptD)), some (.bool back), none, none, none]
      = .ok ([some (.list (es.map ptD)), some (.bool back), none, none, none], .list (((es.zip es.tail).map fun p => PyData.tuple [ptD p.1, ptD p.2]).map fun d => match d with | .tuple [.tuple [x, .int y], b] => .tuple [.tuple [x, .int (1 - y)], b] | _ => .none)) := by
    refine mLc_mapV (fun d => match d with | .tuple [a, b] => [some (.list (es.map ptD)), some (.bool back), none, some a, some b] | _ => []) _ ?_ rfl ?_ ?_
    · simp [cut_1, hz]
    · simp
      rw [sl]; omega
    · intro d hd
      obtain ⟨p, hp, rfl⟩ := List.mem_map.mp hd
      obtain ⟨q1, q2⟩ := zip_mem hp
      have e1 := e_far (h _ q1)
      have e2 : m_other_end [ptD p.1] = .ok ([], .tuple [.int (p.1.1 : Int), .int (1 - (p.1.2 : Int))]) := by
        rw [e1]
        have := h _ q1
        simp [ptD, farE]
        omega
      refine ⟨by simp, ?_, by simp⟩
      simp [e2, sl]
      simp [ptD]
  have hmap : (((es.zip es.tail).map fun p => PyData.tuple [ptD p.1, ptD p.2]).map fun d => match d with | .tuple [.tuple [x, .int y], b] => .tuple [.tuple [x, .int (1 - y)], b] | _ => .none) = ((es.zip es.tail).map fun p => (farE p.1, p.2)).map tnD := by
    rw [List.map_map, List.map_map]
    refine List.map_congr_left fun p hp => ?_
    have := h _ (zip_mem hp).1
    simp [ptD, tnD, farE]
    omega
  rw [hmap] at hc
  have e1 := e_far (h _ (last_mem es h0))
  have hh : atI (es.map ptD) 0 = some (ptD (es.headD (0, 0))) := by
    cases es with
    | nil => exact absurd rfl h0
    | cons a r => simp
  have hlen : (es.zip es.tail).length ≤ 10000 := by simp; omega
  have c1 : (es.zip es.tail).length + 1 ≤ 16777216 := by omega
  cases back with
  | false => simp [m_turns_in, hc, tsD, -mLc_]
  | true =>
    have hla := last_at es h0
    rw [show tsD es true = (es.zip es.tail).map (fun p => (farE p.1, p.2)) ++ [(farE (es.getLastD (0, 0)), es.headD (0, 0))] from rfl]
    generalize es.getLastD (0, 0) = la at *
    generalize es.headD (0, 0) = hd at *
    have c2 : es.length ≤ 16777216 := by omega
    simp [m_turns_in, hc, -mLc_, hla, e1, hh, sl, -atI_z, c2]
    simp [tnD]
theorem e_lturns {es : List En} {back : Bool} (h0 : es ≠ []) (h : ∀ e ∈ es, e.2 < 2) (hl : es.length ≤ 10000) : m__law_turns [.list (es.map ptD), .bool back] = .ok ([], .list ((tsD es back).map tnD)) := by
  suffices hW : W (m__law_turns [.list (es.map ptD), .bool back]) fun y => y = ([], .list ((tsD es back).map tnD)) by
    obtain ⟨y, e, rfl⟩ := hW
    exact e
  have hpos : 0 < es.length := List.length_pos_iff.mpr h0
  refine W_fn (W_seq ?_)
  simp [sl, -sSeq_]
  refine W_seq ?_
  obtain ⟨zs, hzs⟩ : ∃ zs, zs = (es.zip es.tail).map (fun p => (farE p.1, p.2)) := ⟨_, rfl⟩
  have hzl : zs.length = es.length - 1 := by rw [hzs]; simp
  refine W_rngA 1 (es.length - 1) (fun j ρ => ∃ x, ρ = [some (.list (es.map ptD)), some (.bool back), some (.list ((zs.take j).map tnD)), x]) (ρ1 := [some (.list (es.map ptD)), some (.bool back), some (.list []), none]) (it_rng2 (a := 1) (by simp) (by simp) (by rw [sl]; omega) (by rw [sl]; omega)) ⟨none, by simp⟩ ?_ ?_
  · rintro j ρ hj ⟨x, rfl⟩
    refine ⟨_, rfl, ?_⟩
    have j1 : j < es.length := by omega
    have j2 : j + 1 < es.length := by omega
    have e1 := e_lfar (h _ (List.getElem_mem j1))
    have hz : zs[j]? = some (farE es[j], es[j + 1]) := by
      have hz0 : (es.zip es.tail)[j]? = some (es[j], es[j + 1]) := by
        rw [List.getElem?_eq_getElem (by simp; omega)]
        simp
      rw [hzs, List.getElem?_map, hz0]
      rfl
    have ht : zs.take (j + 1) = zs.take j ++ [(farE es[j], es[j + 1])] := by
      rw [List.take_add_one, hz]; rfl
    have i1 : (1 : Int) + (j : Int) - 1 = (j : Int) := by omega
    have i2 : (1 : Int) + (j : Int) = ((j + 1 : Nat) : Int) := by omega
    have c1 : min j zs.length < 16777216 := by omega
    have a1 : atI (es.map ptD) ((1 : Int) + (j : Int)) = some (ptD es[j + 1]) := by
      rw [i2, atI_n]; simp [j2]
    rw [ht]
    simp [i1, j1, a1, e1, sl, c1, tnD]
  · rintro ρ ⟨x, rfl⟩
    rw [List.take_of_length_le (by omega)]
    have hla := last_at es h0
    have hd : atI (es.map ptD) 0 = some (ptD (es.headD (0, 0))) := by
      cases es with
      | nil => exact absurd rfl h0
      | cons a r => simp
    have e1 := e_lfar (h _ (last_mem es h0))
    have ht : tsD es back = zs ++ (if back then [(farE (es.getLastD (0, 0)), es.headD (0, 0))] else []) := by rw [hzs]; rfl
    rw [ht]
    generalize es.getLastD (0, 0) = la at *
    generalize es.headD (0, 0) = hd' at *
    have c1 : zs.length < 16777216 := by omega
    rw [KS_nx]
    refine W_seq ?_
    cases back with
    | false => simp
    | true => simp [hla, e1, hd, sl, c1, tnD, -atI_z]
end KHead

end T_Md_k13
section T_Me_k13
namespace KHead
open PySem PySem.Spec PyProof.Rows L2 Kd
/-! ### goings -/
def toEn (d : PyData) : En := match d with
  | .tuple [.int a, .int b] => (a.toNat, b.toNat)
  | _ => (0, 0)
theorem toEn_pt (e : En) : toEn (ptD e) = e := by simp [toEn, ptD]
def turnB (rs : List Rd) (t : En × En) : Bool := !decide (t.1 = t.2) && decide (plc rs t.1 = plc rs t.2)
def goB (rs : List Rd) (d : PyData) (back : Bool) : Bool := match d with
  | .list xs => !xs.isEmpty && xs.all (endB rs.length) && (tsD (xs.map toEn) back).all (turnB rs)
  | _ => false
theorem ends_of {n : Nat} {xs : List PyData} (h : xs.all (endB n) = true) : xs = (xs.map toEn).map ptD ∧ ∀ e ∈ xs.map toEn, e.1 < n ∧ e.2 < 2 := by
  induction xs with
  | nil => exact ⟨rfl, by simp⟩
  | cons x r ih =>
    simp only [List.all_cons, Bool.and_eq_true] at h
    obtain ⟨e, rfl, h1, h2⟩ := endB_en h.1
    obtain ⟨i1, i2⟩ := ih h.2
    refine ⟨by simp only [List.map_cons, toEn_pt]; rw [← i1], ?_⟩
    intro e' he
    simp only [List.map_cons, toEn_pt, List.mem_cons] at he
    rcases he with rfl | he
    · exact ⟨h1, h2⟩
    · exact i2 e' he
theorem tsD_ok {es : List En} {back : Bool} {P : En → Prop} (h0 : es ≠ []) (h : ∀ e ∈ es, P e) (hf : ∀ e, P e → P (farE e)) : ∀ t ∈ tsD es back, P t.1 ∧ P t.2 := by
  intro t ht
  rcases List.mem_append.mp ht with ht | ht
  · obtain ⟨p, hp, rfl⟩ := List.mem_map.mp ht
    exact ⟨hf _ (h _ (zip_mem hp).1), h _ (zip_mem hp).2⟩
  · cases back with
    | false => simp at ht
    | true =>
      have hh : es.headD (0, 0) ∈ es := by
        cases es with
        | nil => exact absurd rfl h0
        | cons a r => simp
      simp only [if_true, List.mem_singleton] at ht
      subst ht
      exact ⟨hf _ (h _ (last_mem es h0)), h _ hh⟩
theorem fEq_nil {xs : List PyData} (h : SeqAt.shaped (.list xs) = true) : fEq (.list xs) (.list []) = some (.bool xs.isEmpty) := by
  show iff' (sh2 _ _) _ = _
  rw [sh2, h]
  show iff' true _ = _
  cases xs <;> rfl
theorem fNe_nil {xs : List PyData} (h : SeqAt.shaped (.list xs) = true) : fNe (.list xs) (.list []) = some (.bool (!xs.isEmpty)) := by
  show iff' (sh2 _ _) _ = _
  rw [sh2, h]
  show iff' true _ = _
  cases xs <;> rfl
theorem e_rgoing {c : Nat} {rs : List Rd} (d : PyData) (back : Bool) (hs : SeqAt.shaped d = true) (hl : ∀ xs, d = .list xs → xs.length ≤ 10000) : m_is_right_going [netD c rs, d, .bool back] = .ok ([], .bool (goB rs d back)) := by
  have hlay := SeqAt.canLay_of_shaped hs
  cases d with
  | list xs =>
    have hx := hl xs rfl
    have e1 := fEq_nil hs
    have hN : netD c rs = .tuple [.int (c : Int), .tuple (rs.map rdD)] := rfl
    have hc : mLc [] (iOf asQ (mV 1)) (gN 3) tTrue (mCall m_is_right_end [.e (mV 0), .e (mV 3)] []) [3] [some (netD c rs), some (.list xs), some (.bool back), none, none, none] = .ok ([some (netD c rs), some (.list xs), some (.bool back), none, none, none], .list (xs.map fun d => .bool (endB rs.length d))) :=
      mLc_map _ (by simp) (by simp) (by rw [sl]; omega) fun d hd => by
        have := e_rend (.int (c : Int)) (rs.map rdD) d (lay_lst hlay d hd)
        rw [List.length_map] at this
        simp [hN, this]
    suffices hW : W (m_is_right_going [netD c rs, .list xs, .bool back]) fun y => y = ([], .bool (goB rs (.list xs) back)) by
      obtain ⟨y, e, rfl⟩ := hW
      exact e
    refine W_fn (W_seq ?_)
    cases hE : xs.isEmpty with
    | true => simp [isB, e1, hE, sl, goB]
    | false =>
      cases hA : xs.all (endB rs.length) with
      | false => simp [isB, e1, hE, sl, goB, hc, -mLc_, hA]
      | true =>
        obtain ⟨q1, q2⟩ := ends_of hA
        have hg : goB rs (.list xs) back = (tsD (xs.map toEn) back).all (turnB rs) := by simp [goB, hE, hA]
        simp [isB, e1, hE, sl, hc, -mLc_, hA, -sSeq_]
        rw [hg]
        have hne : xs.map toEn ≠ [] := by
          intro z
          have : xs = [] := by simpa using z
          rw [this] at hE; cases hE
        have hlen : (xs.map toEn).length ≤ 10000 := by simpa using hx
        generalize xs.map toEn = es at *
        subst q1
        have e2 := e_turns_in (back := back) hne (fun e he => (q2 e he).2) hlen
        have hok := tsD_ok (back := back) (P := enOk rs) hne (fun e he => q2 e he) fun e he => farE_ok he
        refine W_seq ?_
        refine W_for (fun r ρ => ∃ (x y z : Option PyData) (ts : List (En × En)), ρ = [some (netD c rs), some (.list (es.map ptD)), some (.bool back), x, y, z] ∧ r = ts.map tnD ∧ (∀ t ∈ ts, enOk rs t.1 ∧ enOk rs t.2) ∧ (tsD es back).all (turnB rs) = ts.all (turnB rs)) (ρ1 := [some (netD c rs), some (.list (es.map ptD)), some (.bool back), none, none, none]) (ds := (tsD es back).map tnD) (by simp [e2]) ⟨_, _, _, _, rfl, rfl, hok, rfl⟩ ?_ ?_
        · rintro d r ρ ⟨x, y, z, ts, rfl, hr, ho, ha⟩
          cases ts with
          | nil => cases hr
          | cons t ts =>
            simp only [List.map_cons, List.cons.injEq] at hr
            obtain ⟨rfl, rfl⟩ := hr
            obtain ⟨⟨o1, o2⟩, ho⟩ := List.forall_mem_cons.mp ho
            have e3 := e_place (c := c) o1
            have e4 := e_place (c := c) o2
            refine ⟨[some (netD c rs), some (.list (es.map ptD)), some (.bool back), x, some (ptD t.1), some (ptD t.2)], by simp [tnD], ?_⟩
            rw [List.all_cons] at ha
            by_cases h1 : t.1 = t.2
            · have : turnB rs t = false := by simp [turnB, h1]
              rw [this, Bool.false_and] at ha
              simp [fEq_pt, h1, ha]
            · by_cases h2 : plc rs t.1 = plc rs t.2
              · have : turnB rs t = true := by simp [turnB, h1, h2]
                rw [this, Bool.true_and] at ha
                simp [fEq_pt, h1, e3, e4, h2]
                exact ⟨ts, rfl, fun a b a1 b1 ht => ho ((a, b), (a1, b1)) ht, ha⟩
              · have : turnB rs t = false := by simp [turnB, h1, h2]
                rw [this, Bool.false_and] at ha
                have h2' : ¬ ((plc rs t.1 : Int) = (plc rs t.2 : Int)) := by omega
                simp [fEq_pt, h1, e3, e4, h2', h2, ha]
        · rintro ρ ⟨x, y, z, ts, rfl, hr, ho, ha⟩
          have : ts = [] := by simpa using hr.symm
          subst this
          rw [ha]
          simp
  | dict _ => simp [PyData.canLay0] at hlay
  | _ => simp [m_is_right_going, isB, goB]
end KHead

end T_Me_k13
section T_Mf_k13
namespace KHead
open PySem PySem.Spec PyProof.Rows L2 Kd
theorem e_listurn {c : Nat} {rs : List Rd} {t : En × En} (h1 : enOk rs t.1) (h2 : enOk rs t.2) : m__law_is_turn [netD c rs, tnD t] = .ok ([], .bool (turnB rs t)) := by
  have q : ∀ e : En, enOk rs e → m__law_is_end [netD c rs, ptD e] = .ok ([], .bool true) := fun e he => by
    have := e_lend (.int (c : Int)) (rs.map rdD) (ptD e) (sh_pt e |> SeqAt.canLay_of_shaped)
    rw [List.length_map, endB_pt, decide_eq_true he.1, decide_eq_true he.2] at this
    exact this
  have q1 := q _ h1
  have q2 := q _ h2
  have e3 := e_lplace (c := c) h1
  have e4 := e_lplace (c := c) h2
  by_cases e : t.1 = t.2
  · have : turnB rs t = false := by simp [turnB, e]
    rw [this]
    simp [m__law_is_turn, tnD, isB, q1, q2, fEq_pt, e]
  · by_cases e' : plc rs t.1 = plc rs t.2
    · simp [m__law_is_turn, tnD, isB, q1, q2, fEq_pt, e, e3, e4, turnB, e']
    · have e'' : ¬ ((plc rs t.1 : Int) = (plc rs t.2 : Int)) := by omega
      simp [m__law_is_turn, tnD, isB, q1, q2, fEq_pt, e, e3, e4, turnB, e', e'']
theorem filt_nil {α : Type} (p : α → Bool) : ∀ xs : List α, (xs.filter fun x => !p x).isEmpty = xs.all p
  | [] => rfl
  | x :: r => by
    rw [List.filter_cons, List.all_cons]
    cases h : p x
    · simp
    · simpa using filt_nil p r
theorem shaped_all {xs : List PyData} (h : ∀ x ∈ xs, x.canLay0 = true ∧ x.depth ≤ 60) : SeqAt.shaped (.list xs) = true := by
  refine shaped_of ?_ ?_
  · induction xs with
    | nil => rfl
    | cons x r ih =>
      have := ih fun y hy => h y (List.mem_cons_of_mem _ hy)
      simp [PyData.canLay0, PyData.canLayAll0] at this ⊢
      exact ⟨(h x List.mem_cons_self).1, this⟩
  · have : PyData.depthAll xs ≤ 60 := by
      induction xs with
      | nil => simp
      | cons x r ih =>
        have := ih fun y hy => h y (List.mem_cons_of_mem _ hy)
        have := (h x List.mem_cons_self).2
        simp only [depAll_c]; omega
    simp; omega
theorem dep_mem {k : Nat} : ∀ {xs : List PyData}, PyData.depthAll xs ≤ k → ∀ x ∈ xs, x.depth ≤ k
  | y :: r, h, x, hx => by
    simp only [depAll_c] at h
    rcases List.mem_cons.mp hx with rfl | hx
    · omega
    · exact dep_mem (by omega) x hx
theorem e_lgoing {c : Nat} {rs : List Rd} (d : PyData) (back : Bool) (hs : d.canLay0 = true) (hd : d.depth ≤ 60) (hl : ∀ xs, d = .list xs → xs.length ≤ 10000) : m__law_is_going [netD c rs, d, .bool back] = .ok ([], .bool (goB rs d back)) := by
  have hlay := hs
  have hsh : SeqAt.shaped d = true := shaped_of hs (by omega)
  cases d with
  | list xs =>
    have hx := hl xs rfl
    have e1 := fEq_nil hsh
    have hN : netD c rs = .tuple [.int (c : Int), .tuple (rs.map rdD)] := rfl
    have hc : mLc [] (iOf asQ (mV 1)) (gN 3) (tNot (tE (mCall m__law_is_end [.e (mV 0), .e (mV 3)] []))) (mV 3) [3] [some (netD c rs), some (.list xs), some (.bool back), none, none] = .ok ([some (netD c rs), some (.list xs), some (.bool back), none, none], .list ((xs.filter fun d => !endB rs.length d).map fun d => d)) :=
      mLc_filter _ _ (by simp) (by simp) (by rw [sl]; omega) (fun d hd => by
        have := e_lend (.int (c : Int)) (rs.map rdD) d (lay_lst hlay d hd)
        rw [List.length_map] at this
        simp [hN, this]) fun d hd _ => by simp
    rw [List.map_id'] at hc
    have e2 : fNe (.list (xs.filter fun d => !endB rs.length d)) (.list []) = some (.bool (!xs.all (endB rs.length))) := by
      rw [fNe_nil, filt_nil]
      refine shaped_all fun x hx => ?_
      have hx := (List.mem_filter.mp hx).1
      refine ⟨lay_lst hlay x hx, ?_⟩
      exact dep_mem (k := 60) (by simp at hd; omega) x hx
    cases hE : xs.isEmpty with
    | true => simp [m__law_is_going, isB, e1, hE, sl, goB]
    | false =>
      cases hA : xs.all (endB rs.length) with
      | false => simp [m__law_is_going, isB, e1, hE, sl, goB, hc, -mLc_, hA, e2]
      | true =>
        obtain ⟨q1, q2⟩ := ends_of hA
        have hg : goB rs (.list xs) back = (tsD (xs.map toEn) back).all (turnB rs) := by simp [goB, hE, hA]
        rw [hg]
        rw [hA] at e2
        have hne : xs.map toEn ≠ [] := by
          intro z
          have : xs = [] := by simpa using z
          rw [this] at hE; cases hE
        have hlen : (xs.map toEn).length ≤ 10000 := by simpa using hx
        generalize xs.map toEn = es at *
        subst q1
        have e3 := e_lturns (back := back) hne (fun e he => (q2 e he).2) hlen
        have hok := tsD_ok (back := back) (P := enOk rs) hne (fun e he => q2 e he) fun e he => farE_ok he
        have htl := tsD_len (back := back) hne
        have hc2 : mLc [] (iOf asQ (mCall m__law_turns [.e (mV 1), .e (mV 2)] [])) (gN 4) (tNot (tE (mCall m__law_is_turn [.e (mV 0), .e (mV 4)] []))) (mV 4) [4] [some (netD c rs), some (.list (es.map ptD)), some (.bool back), none, none] = .ok ([some (netD c rs), some (.list (es.map ptD)), some (.bool back), none, none], .list (((tsD es back).filter fun t => !turnB rs t).map tnD)) := by
          have hm := mLc_filter (it := iOf asQ (mCall m__law_turns [.e (mV 1), .e (mV 2)] [])) (t := tNot (tE (mCall m__law_is_turn [.e (mV 0), .e (mV 4)] []))) (m := mV 4) (i := 4) (ρ := [some (netD c rs), some (.list (es.map ptD)), some (.bool back), none, none]) (ds := (tsD es back).map tnD)
            (fun d => match d with | .tuple [x, y] => !turnB rs (toEn x, toEn y) | _ => false) (fun d => d) (by simp) (by simp [e3]) (by rw [List.length_map, sl]; omega) (fun d hd => by
              obtain ⟨t, ht, rfl⟩ := List.mem_map.mp hd
              obtain ⟨o1, o2⟩ := hok t ht
              have e5 := e_listurn (c := c) o1 o2
              simp [e5]
              simp [tnD, toEn_pt]) fun d hd _ => by simp
          rw [hm, List.map_id', List.filter_map]
          have hf : (tsD es back).filter ((fun d => match d with | .tuple [x, y] => !turnB rs (toEn x, toEn y) | _ => false) ∘ tnD) = (tsD es back).filter fun t => !turnB rs t := List.filter_congr fun t ht => by simp [tnD, toEn_pt]
          rw [hf]
        have e4 : fEq (.list (((tsD es back).filter fun t => !turnB rs t).map tnD)) (.list []) = some (.bool ((tsD es back).all (turnB rs))) := by
          rw [fEq_nil]
          · rw [← filt_nil]
            simp
          · refine shaped_all fun x hx => ?_
            obtain ⟨t, ht, rfl⟩ := List.mem_map.mp hx
            exact ⟨rfl, by simp [tnD, ptD]⟩
        simp [m__law_is_going, isB, e1, hE, sl, hc, -mLc_, e2, hc2, e4]
  | dict _ => simp [PyData.canLay0] at hlay
  | _ => simp [m__law_is_going, isB, goB]
end KHead

end T_Mf_k13
section T_Mg_k13
namespace KHead
open PySem PySem.Spec PyProof.Rows L2 Kd
theorem road_none (n : Int) : road .none n = false := rfl
theorem w_bad_netsN {c : Nat} {R : List PyData} (hc : c ≤ 12) (hR : ∀ x ∈ R, Sm 2 6 x) (hRn : net (.tuple R) = false) (hl : R.length ≤ 20) : ∃ xs, m__law_bad_nets [.tuple [.int (c : Int), .tuple R]] = .ok ([], .list xs) ∧ AllS 8 300 xs ∧ (∀ x ∈ xs, net x = false) := by
  suffices hW : W (m__law_bad_nets [.tuple [.int (c : Int), .tuple R]]) fun y => ∃ xs, y = ([], .list xs) ∧ AllS 8 300 xs ∧ (∀ x ∈ xs, net x = false) by
    obtain ⟨y, e, xs, rfl, h1⟩ := hW
    exact ⟨xs, e, h1⟩
  obtain ⟨a1, a2, a3⟩ := sm_all hR
  have a3 : PyData.bulkAll R ≤ 140 := by omega
  have q4 : PyData.depthAll R ≤ 4 := by omega
  have q5 : PyData.depthAll R ≤ 5 := by omega
  have q6 : PyData.depthAll R ≤ 6 := by omega
  have q7 : PyData.depthAll R ≤ 7 := by omega
  have g4 : True := trivial
  have tc : c < 10000000000000000000000 := by omega
  have l1 : R.length + 1 ≤ 16777216 := by omega
  have l2 : 1 + R.length ≤ 16777216 := by omega
  have l3 : R.length + 2 ≤ 16777216 := by omega
  have t1 : tame (.str (PySem.Str.ofString "")) = true := by decide +kernel
  have t2 : tame (.str (PySem.Str.ofString "1")) = true := by decide +kernel
  have t3 : tame (.str (PySem.Str.ofString "0")) = true := by decide +kernel
  have b1 : (PySem.Str.ofString "").cps.size = 0 := by decide +kernel
  have b2 : (PySem.Str.ofString "1").cps.size = 1 := by decide +kernel
  have b3 : (PySem.Str.ofString "0").cps.size = 1 := by decide +kernel
  refine W_fn (W_seq ?_)
  simp [-sSeq_]
  refine W_seq ?_
  simp [-sSeq_, sl]
  refine W_seq ?_
  simp [-sSeq_, sl]
  refine W_seq ?_
  simp [-sSeq_, sl]
  refine W_seq ?_
  simp [-sSeq_, sl]
  refine W_seq ?_
  simp [-sSeq_, sl, lc_cons, l1]
  refine W_seq ?_
  simp [-sSeq_, sl]
  refine W_seq ?_
  have l1' : R.length ≤ 16777215 := by omega
  have l3' : R.length ≤ 16777214 := by omega
  refine W_forE (fun r ρ => ∃ x y ys, ρ = [some (.tuple [.int (c : Int), .tuple R]), some (.int (c : Int)), some (.tuple R), some (.tuple [.tuple [.int 0, .int 0], .tuple [.int 0, .int 1]]), some (.list ys), x, y] ∧ ys.length + 2 * r.length ≤ 100 ∧ AllS 8 300 ys ∧ AllS 2 10 r ∧ (∀ y ∈ ys, net y = false) ∧ ∀ d ∈ r, point d c = false)
    ?_ ?_ ?_
  · simp
    refine ⟨_, _, _, ⟨rfl, rfl, rfl⟩, by simp, ?_, ?_, ?_, ?_⟩
    · simp only [allS_c, allS_n, and_true, sm_iff]
      repeat' apply And.intro
      all_goals simp [t1, t2, t3, tc, a1, tameAll_append, depthAll_append, bulkAll_append, Nat.max_le, q4, q5, q6, q7, b1, b2, b3]
      all_goals first | done | omega
    · simp only [allS_c, allS_n, and_true, sm_iff]
      repeat' apply And.intro
      all_goals simp [t1, t2, t3, tc, b1, b2, b3]
    · simp [net, road, point, below, hRn]
      all_goals first | done | exact hRn | omega
    · simp [point, below]
  · rintro d r ρ ⟨x, y, ys, rfl, g1, g2, g3, n1, n2⟩
    refine ⟨_, rfl, ?_⟩
    simp only [List.length_cons] at g1
    obtain ⟨⟨h1, h2, h3⟩, g3'⟩ := allS_c.mp g3
    have c1 : ys.length ≤ 16777214 := by omega
    have x4 : d.depth ≤ 4 := by omega
    have x5 : d.depth ≤ 5 := by omega
    have x6 : d.depth ≤ 6 := by omega
    have x7 : d.depth ≤ 7 := by omega
    simp [sl, l1', l2, c1, l1]
    have n3 := n2 d List.mem_cons_self
    refine ⟨_, _, _, ⟨rfl, rfl, rfl⟩, by simp; omega, ?_, g3', ?_, fun d hd => n2 d (List.mem_cons_of_mem _ hd)⟩
    · skip
      rw [allS_a]
      refine ⟨g2, ?_⟩
      simp only [allS_c, allS_n, and_true, sm_iff]
      repeat' apply And.intro
      all_goals simp [t1, t2, t3, tc, a1, tameAll_append, depthAll_append, bulkAll_append, Nat.max_le, q4, q5, q6, q7, b1, b2, b3, h1, x4, x5, x6, x7]
      all_goals first | done | omega
    · intro z hz
      rcases List.mem_append.mp hz with hz | hz
      · exact n1 z hz
      · simp at hz
        rcases hz with rfl | rfl <;> simp [net, road, n3]
  · rintro ρ ⟨x, y, ys, rfl, g1, g2, -, n1, -⟩
    simp only [List.length_nil] at g1
    have c1 : ys.length ≤ 16777212 := by omega
    simp [sl, l3', c1]
    refine ⟨?_, ?_⟩
    · rw [allS_a]
      refine ⟨g2, ?_⟩
      simp only [allS_c, allS_n, and_true, sm_iff]
      repeat' apply And.intro
      all_goals simp [t1, t2, t3, tc, a1, tameAll_append, depthAll_append, bulkAll_append, Nat.max_le, q4, q5, q6, q7, b1, b2, b3]
      all_goals first | done | omega
    · intro z hz
      rcases hz with hz | rfl | rfl | rfl | rfl
      · exact n1 z hz
      all_goals simp [net, road, point]
end KHead

end T_Mg_k13
section T_Mh_k13
namespace KHead
open PySem PySem.Spec PyProof.Rows L2 Kd
theorem sm_llen {k n : Nat} {xs : List PyData} (h : Sm k n (.list xs)) : xs.length ≤ n := by
  have h1 := h.2.2
  have h2 := bulkAll_len xs
  simp only [bul_l] at h1
  omega
def toTn (d : PyData) : En × En := match d with
  | .tuple [a, b] => (toEn a, toEn b)
  | _ => ((0, 0), (0, 0))
theorem toTn_tn (t : En × En) : toTn (tnD t) = t := by simp [toTn, tnD, toEn_pt]
/-! ### errors' words -/
theorem word_net : m__law_word [excD "NoNet" none] = .ok ([], .str (PySem.Str.ofString "net")) := by kernel_rfl
theorem word_going : m__law_word [excD "NoGoing" none] = .ok ([], .str (PySem.Str.ofString "going")) := by kernel_rfl
theorem word_none : m__law_word [.none] = .ok ([], .str (PySem.Str.ofString "")) := by kernel_rfl
theorem xs_net : xsL.contains "NoNet" = true := by decide +kernel
theorem xs_going : xsL.contains "NoGoing" = true := by decide +kernel
/-! ### asked -/
def askX : XM := xIf (tB (m2 fEq (mV 0) (mC (.int 0)))) (xE m_is_going [.e (mV 1), .e (mV 2), .e (mV 3)] []) (xIf (tB (m2 fEq (mV 0) (mC (.int 1)))) (xE m_is_plan [.e (mV 1), .e (mV 2)] []) (xIf (tB (m2 fEq (mV 0) (mC (.int 2)))) (xE m_turns_of [.e (mV 1), .e (mV 2), .e (mV 3)] []) (xE m_shut_turns [.e (mV 1), .e (mV 2), .e (mV 3)] [])))
theorem asked_eq : m__law_asked = fnM 7 [] false (sSeq (sSet 4 (mN fRepr [(mN fLst [(mV 1), (mV 2)])])) (sSeq (sSet 5 (mC .none)) (sSeq (sTry xsL 6 5 askX)
    (sSeq (sIf (tB (m2 fNe (mN fRepr [(mN fLst [(mV 1), (mV 2)])]) (mV 4))) (sRt (mC (.str (PySem.Str.ofString "changed")))) sNx) (sRt (mCall m__law_word [.e (mV 5)] [])))))) := rfl
/-- what is asked -/
def askR (w : Int) (N t : PyData) (b : Bool) : Rs (List PyData × PyData) := if w = 0 then m_is_going [N, t, .bool b] else if w = 1 then m_is_plan [N, t] else if w = 2 then m_turns_of [N, t, .bool b] else m_shut_turns [N, t, .bool b]
theorem askX_ok {w : Int} {N t K : PyData} {b : Bool} {x : PyData} (h : askR w N t b = .ok ([], x)) : askX [some (.int w), some N, some t, some (.bool b), some K, some .none, none] = .ok (.nx [some (.int w), some N, some t, some (.bool b), some K, some .none, none]) := by
  unfold askR at h
  by_cases h0 : w = 0
  · simp [h0] at h; simp [askX, xIf, xE, xCall, h0, h]
  by_cases h1 : w = 1
  · simp [h1] at h; simp [askX, xIf, xE, xCall, h1, h]
  by_cases h2 : w = 2
  · simp [h2] at h; simp [askX, xIf, xE, xCall, h2, h]
  simp [h0, h1, h2] at h
  simp [askX, xIf, xE, xCall, h0, h1, h2, h]
theorem askX_exc {w : Int} {N t K : PyData} {b : Bool} {c : Str} (h : askR w N t b = .exc c none) : askX [some (.int w), some N, some t, some (.bool b), some K, some .none, none] = .exc [some (.int w), some N, some t, some (.bool b), some K, some .none, none] c none := by
  unfold askR at h
  by_cases h0 : w = 0
  · simp [h0] at h; simp [askX, xIf, xE, xCall, h0, h]
  by_cases h1 : w = 1
  · simp [h1] at h; simp [askX, xIf, xE, xCall, h1, h]
  by_cases h2 : w = 2
  · simp [h2] at h; simp [askX, xIf, xE, xCall, h2, h]
  simp [h0, h1, h2] at h
  simp [askX, xIf, xE, xCall, h0, h1, h2, h]
theorem asked_ok {w : Int} {N t : PyData} {b : Bool} {x : PyData} (hS : Sm 60 30000 (.list [N, t])) (h : askR w N t b = .ok ([], x)) : m__law_asked [.int w, N, t, .bool b] = .ok ([], .str (PySem.Str.ofString "")) := by
  have e1 := hS.repr (by omega) (by omega)
  simp [asked_eq, sl, e1, sTry_ok (askX_ok h), word_none]
theorem asked_exc {w : Int} {N t : PyData} {b : Bool} {c word : Str} (hS : Sm 60 30000 (.list [N, t])) (h : askR w N t b = .exc c none) (hc : xsL.contains c = true) (hw : m__law_word [excD c none] = .ok ([], .str word)) : m__law_asked [.int w, N, t, .bool b] = .ok ([], .str word) := by
  have e1 := hS.repr (by omega) (by omega)
  simp [asked_eq, sl, e1, sTry_exc (askX_exc h) hc, hw]
theorem e_look_bad {k n : Nat} (d : PyData) (h : Sm k n d) (hn : n ≤ 600000) (hd : net d = false) : m_look_at_net [d] = .exc "NoNet" none := by
  have e := e_net d h.lay fun a rs hd => by
    subst hd
    have := sm_len h
    rw [sl]; omega
  simp [m_look_at_net, e, hd]
theorem ask_bad {k n : Nat} {d t : PyData} (w : Int) (b : Bool) (h : Sm k n d) (hn : n ≤ 600000) (hd : net d = false) : askR w d t b = .exc "NoNet" none := by
  have e := e_look_bad d h hn hd
  unfold askR
  split
  · simp [m_is_going, e]
  split
  · simp [m_is_plan, e]
  split
  · simp [m_turns_of, e]
  · simp [m_shut_turns, e]
theorem e_look_going {c : Nat} {rs : List Rd} {k n : Nat} (d : PyData) (hd : Sm k n d) (hk : k ≤ 60) (hn : n ≤ 10000) (back : Bool) : m_look_at_going [netD c rs, d, .bool back] = if goB rs d back then .ok ([], .none) else .exc "NoGoing" none := by
  have e2 := e_rgoing (c := c) (rs := rs) d back (hd.shaped (by omega)) fun xs hx => by subst hx; exact Nat.le_trans (sm_llen hd) hn
  cases h : goB rs d back <;> simp [m_look_at_going, e2, h]
theorem goB_list {rs : List Rd} {d : PyData} {back : Bool} (h : goB rs d back = true) : ∃ es : List En, d = .list (es.map ptD) ∧ es ≠ [] ∧ (∀ e ∈ es, enOk rs e) ∧ (tsD es back).all (turnB rs) = true := by
  cases d <;> first | (simp [goB] at h; done) | skip
  rename_i xs
  simp only [goB, Bool.and_eq_true] at h
  obtain ⟨⟨h1, h2⟩, h3⟩ := h
  obtain ⟨q1, q2⟩ := ends_of h2
  refine ⟨xs.map toEn, by rw [← q1], ?_, fun e he => q2 e he, h3⟩
  intro z
  have : xs = [] := by simpa using z
  subst this
  simp at h1
def knd (rs : List Rd) (e : En) : Nat := if e.2 = 0 then ((rs[e.1]?).getD ((0, 0), (0, 0))).1.2 else ((rs[e.1]?).getD ((0, 0), (0, 0))).2.2
theorem e_kind {c : Nat} {rs : List Rd} {e : En} (h : enOk rs e) : m_kind_at [netD c rs, ptD e] = .ok ([], .int (knd rs e : Int)) := by
  obtain ⟨h1, h2⟩ := h
  obtain ⟨r, s⟩ := e
  have h1 : r < rs.length := h1
  have h2 : s < 2 := h2
  have e1 : rs[r]? = some rs[r] := List.getElem?_eq_getElem h1
  rcases (by omega : s = 0 ∨ s = 1) with rfl | rfl
  · simp [m_kind_at, netD, ptD, e1, rdD, knd]
  · simp [m_kind_at, netD, ptD, e1, rdD, knd]
def opn (rs : List Rd) (t : En × En) : Bool := !decide (knd rs t.1 = knd rs t.2)
theorem e_open {c : Nat} {rs : List Rd} {t : En × En} (h1 : enOk rs t.1) (h2 : enOk rs t.2) : m_is_open [netD c rs, tnD t] = .ok ([], .bool (opn rs t)) := by
  have e1 := e_kind (c := c) h1
  have e2 := e_kind (c := c) h2
  by_cases h : knd rs t.1 = knd rs t.2
  · simp [m_is_open, tnD, e1, e2, opn, h]
  · have h' : ¬ ((knd rs t.1 : Int) = (knd rs t.2 : Int)) := by omega
    simp [m_is_open, tnD, e1, e2, opn, h, h']
theorem e_shut_in {c : Nat} {rs : List Rd} {es : List En} {back : Bool} (h0 : es ≠ []) (h : ∀ e ∈ es, enOk rs e) (hl : es.length ≤ 10000) : m_shut_in [netD c rs, .list (es.map ptD), .bool back] = .ok ([], .list (((tsD es back).filter fun t => !opn rs t).map tnD)) := by
  have e2 := e_turns_in (back := back) h0 (fun e he => (h e he).2) hl
  have hok := tsD_ok (back := back) (P := enOk rs) h0 h fun e he => farE_ok he
  have hlen : ((tsD es back).map tnD).length ≤ sizeLine := by
    have := tsD_len (back := back) h0
    rw [sl, List.length_map]; omega
  have hm := mLc_filter (it := iOf asQ (mCall m_turns_in [.e (mV 1), .e (mV 2)] [])) (t := tNot (tE (mCall m_is_open [.e (mV 0), .e (mV 3)] []))) (m := mV 3) (i := 3) (ρ := [some (netD c rs), some (.list (es.map ptD)), some (.bool back), none]) (ds := (tsD es back).map tnD)
    (fun d => !opn rs (toTn d)) (fun d => d) (by simp) (by simp [e2]) hlen (fun d hd => by
      obtain ⟨t, ht, rfl⟩ := List.mem_map.mp hd
      obtain ⟨o1, o2⟩ := hok t ht
      have e3 := e_open (c := c) o1 o2
      simp [e3, toTn_tn]) fun d hd _ => by simp
  rw [List.map_id', List.filter_map] at hm
  have hf : (fun d => !opn rs (toTn d)) ∘ tnD = fun t => !opn rs t := by funext t; simp [toTn_tn]
  rw [hf] at hm
  simp [m_shut_in, hm, -mLc_]
theorem ask_going {c : Nat} {rs : List Rd} (h1 : 1 ≤ c) (hc : c ≤ 12) (h : ∀ r ∈ rs, rdOk c r) (hl : rs.length ≤ 20) {k n : Nat} (d : PyData) (hd : Sm k n d) (hk : k ≤ 60) (hn : n ≤ 10000) (back : Bool) (w : Int) (hw : w = 2 ∨ w = 3) :
    (goB rs d back = true → ∃ x, askR w (netD c rs) d back = .ok ([], x)) ∧ (goB rs d back = false → askR w (netD c rs) d back = .exc "NoGoing" none) := by
  have e1 := e_look (netD c rs) (sm_net h hc hl) (by omega) (net_D h1 hc h)
  have e2 := e_look_going (c := c) (rs := rs) d hd hk hn back
  constructor
  · intro hg
    rw [hg] at e2
    obtain ⟨es, rfl, q1, q2, q3⟩ := goB_list hg
    have ql : es.length ≤ 10000 := by have := sm_llen hd; simp at this; omega
    have e3 := e_turns_in (back := back) q1 (fun e he => (q2 e he).2) ql
    have e4 := e_shut_in (c := c) (back := back) q1 q2 ql
    rcases hw with rfl | rfl
    · exact ⟨_, by simp [askR, m_turns_of, e1, e2, e3]; rfl⟩
    · exact ⟨_, by simp [askR, m_shut_turns, e1, e2, e4]; rfl⟩
  · intro hg
    rw [hg] at e2
    rcases hw with rfl | rfl
    · simp [askR, m_turns_of, e1, e2]
    · simp [askR, m_shut_turns, e1, e2]
end KHead

end T_Mh_k13
section T_Mi_k13
namespace KHead
open PySem PySem.Spec PyProof.Rows L2 Kd
theorem endsL_en' {n : Nat} {d : PyData} (h : d ∈ endsL n) : ∃ e : En, d = ptD e ∧ e.1 < n ∧ e.2 < 2 := endB_en (endsL_ok n d h).2
theorem w_bad_endsS (a : PyData) (rs : List PyData) (hl : rs.length ≤ 1000) : ∃ xs, m__law_bad_ends [.tuple [a, .tuple rs]] = .ok ([], .list xs) ∧ AllS 4 10 xs ∧ xs.length = 20 := by
  suffices hW : W (m__law_bad_ends [.tuple [a, .tuple rs]]) fun y => ∃ xs, y = ([], .list xs) ∧ AllS 4 10 xs ∧ xs.length = 20 by
    obtain ⟨y, e, xs, rfl, h⟩ := hW
    exact ⟨xs, e, h⟩
  have t1 : tame (.str (PySem.Str.ofString "")) = true := by decide +kernel
  have t3 : tame (.str (PySem.Str.ofString "0")) = true := by decide +kernel
  have b1 : (PySem.Str.ofString "").cps.size = 0 := by decide +kernel
  have b3 : (PySem.Str.ofString "0").cps.size = 1 := by decide +kernel
  have tc : rs.length < 10000000000000000000000 := by omega
  refine W_fn (W_seq ?_)
  simp [-sSeq_]
  refine W_seq ?_
  simp [-sSeq_, sl]
  simp only [allS_c, allS_n, and_true, sm_iff]
  repeat' apply And.intro
  all_goals simp [t1, t3, b1, b3, tc]
def wdS (b : Bool) : PyData := .str (if b then PySem.Str.ofString "" else PySem.Str.ofString "going")
theorem ne_wd (b : Bool) : fNe (.list [wdS b, wdS b]) (.list [wdS b, wdS b]) = some (.bool false) := by cases b <;> kernel_rfl
theorem ne_wd4 (b : Bool) : fNe (.list [.str (PySem.Str.ofString ""), .str (PySem.Str.ofString ""), wdS b, wdS b]) (.list [.str (PySem.Str.ofString ""), .str (PySem.Str.ofString ""), wdS b, wdS b]) = some (.bool false) := by cases b <;> kernel_rfl
theorem ne_net4 : fNe (.list [.str (PySem.Str.ofString "net"), .str (PySem.Str.ofString "net"), .str (PySem.Str.ofString "net"), .str (PySem.Str.ofString "net")]) (.list [.str (PySem.Str.ofString "net"), .str (PySem.Str.ofString "net"), .str (PySem.Str.ofString "net"), .str (PySem.Str.ofString "net")]) = some (.bool false) := by kernel_rfl
theorem asked2 {c : Nat} {rs : List Rd} (h1 : 1 ≤ c) (hc : c ≤ 12) (h : ∀ r ∈ rs, rdOk c r) (hl : rs.length ≤ 20) {k n : Nat} (d : PyData) (hd : Sm k n d) (hk : k ≤ 50) (hn : n ≤ 10000) (back : Bool) (w : Int) (hw : w = 2 ∨ w = 3) :
    m__law_asked [.int w, netD c rs, d, .bool back] = .ok ([], wdS (goB rs d back)) := by
  have hS : Sm 60 30000 (.list [netD c rs, d]) := by
    refine (sm_lst (k := 50) (n := 10000) (l := 2) ?_ (by simp)).mono (by omega) (by omega)
    intro x hx
    simp at hx
    rcases hx with rfl | rfl
    · exact (sm_net h hc hl).mono (by omega) (by omega)
    · exact hd.mono (by omega) (by omega)
  obtain ⟨g1, g2⟩ := ask_going h1 hc h hl d hd (by omega) hn back w hw
  cases hg : goB rs d back with
  | true =>
    obtain ⟨x, hx⟩ := g1 hg
    exact asked_ok hS hx
  | false => exact asked_exc hS (g2 hg) xs_going word_going
theorem asked_lc {ρ : Ev} {N d v : PyData} {b : Bool} {EX BX : EM} (h6 : 6 < ρ.length) (hN : ∀ x, gt (ρ.set 6 (some x)) 2 = some N) (hE : ∀ x, EX (ρ.set 6 (some x)) = .ok (ρ.set 6 (some x), d)) (hB : ∀ x, BX (ρ.set 6 (some x)) = .ok (ρ.set 6 (some x), .bool b))
    (ha : ∀ w : Int, (w = 2 ∨ w = 3) → m__law_asked [.int w, N, d, .bool b] = .ok ([], v)) : mLc [] (iOf asL (mN fLst [(mC (.int 2)), (mC (.int 3))])) (gN 6) tTrue (mCall m__law_asked [.e (mV 6), .e (mV 2), .e EX, .e BX] []) [6] ρ = .ok (ρ, .list [v, v]) := by
  have hm := mLc_map (it := iOf asL (mN fLst [(mC (.int 2)), (mC (.int 3))])) (m := mCall m__law_asked [.e (mV 6), .e (mV 2), .e EX, .e BX] []) (i := 6) (ρ := ρ) (ds := [.int 2, .int 3]) (fun _ => v) h6 (by simp [sl]) (by simp [sl]) fun x hx => by
    have hg : gt (ρ.set 6 (some x)) 6 = some x := by simp [gt, h6]
    have hw : ∃ w : Int, x = .int w ∧ (w = 2 ∨ w = 3) := by
      simp at hx
      rcases hx with rfl | rfl
      · exact ⟨2, rfl, .inl rfl⟩
      · exact ⟨3, rfl, .inr rfl⟩
    obtain ⟨w, rfl, hw⟩ := hw
    simp [hg, hN, hE, hB, ha w hw]
  simpa using hm
theorem asked_rg {ρ : Ev} {N d : PyData} {b : Bool} {NX EX BX : EM} (f : Nat → PyData) (h6 : 6 < ρ.length) (hN : ∀ x, NX (ρ.set 6 (some x)) = .ok (ρ.set 6 (some x), N)) (hE : ∀ x, EX (ρ.set 6 (some x)) = .ok (ρ.set 6 (some x), d)) (hB : ∀ x, BX (ρ.set 6 (some x)) = .ok (ρ.set 6 (some x), .bool b))
    (ha : ∀ w : Nat, w < 4 → m__law_asked [.int (w : Int), N, d, .bool b] = .ok ([], f w)) : mLc [] (iNg rng1 [(mC (.int 4))]) (gN 6) tTrue (mCall m__law_asked [.e (mV 6), .e NX, .e EX, .e BX] []) [6] ρ = .ok (ρ, .list [f 0, f 1, f 2, f 3]) := by
  have e4 : numL 0 4 = [.int 0, .int 1, .int 2, .int 3] := by rfl
  have hm := mLc_map (it := iNg rng1 [(mC (.int 4))]) (m := mCall m__law_asked [.e (mV 6), .e NX, .e EX, .e BX] []) (i := 6) (ρ := ρ) (ds := [.int 0, .int 1, .int 2, .int 3]) (fun x => match x with | .int w => f w.toNat | _ => .none) h6 (by rw [← e4]; exact it_rng (n := 4) rfl (by rw [sl]; omega)) (by simp [sl]) fun x hx => by
    have hg : gt (ρ.set 6 (some x)) 6 = some x := by simp [gt, h6]
    have hw : ∃ w : Nat, x = .int (w : Int) ∧ w < 4 := by
      simp at hx
      rcases hx with rfl | rfl | rfl | rfl
      · exact ⟨0, rfl, by omega⟩
      · exact ⟨1, rfl, by omega⟩
      · exact ⟨2, rfl, by omega⟩
      · exact ⟨3, rfl, by omega⟩
    obtain ⟨w, rfl, hw⟩ := hw
    simp [hg, hN, hE, hB, ha w hw]
  simpa using hm
theorem plan_no {c : Nat} {rs : List Rd} (h1 : 1 ≤ c) (hc : c ≤ 12) (h : ∀ r ∈ rs, rdOk c r) (hl : rs.length ≤ 20) : m_is_plan [netD c rs, .list [ptD (0, 0)]] = .ok ([], .bool false) := by
  have e1 := e_look (netD c rs) (sm_net h hc hl) (by omega) (net_D h1 hc h)
  generalize netD c rs = N at *
  have e2 : m_is_item [N, .tuple [.int 0, .int 0]] = .ok ([], .bool false) := by simp [m_is_item, isB]
  have hm := mLc_map (it := iOf asQ (mV 1)) (m := mCall m_is_item [.e (mV 0), .e (mV 2)] []) (i := 2) (ρ := [some N, some (.list [.tuple [.int 0, .int 0]]), none, none, none, none]) (ds := [.tuple [.int 0, .int 0]]) (fun d => .bool ((fun _ => false) d)) (by simp) (by simp) (by simp [sl]) fun d hd => by
    simp at hd
    subst hd
    simp [e2]
  have e3 : m_is_right_plan [N, .list [.tuple [.int 0, .int 0]]] = .ok ([], .bool false) := by
    have ff : fAll [.list [.bool false]] = some (.bool false) := rfl
    simp only [List.map_cons, List.map_nil] at hm
    simp [m_is_right_plan, hm, -mLc_, isB, ff]
  simp [m_is_plan, e1, ptD, e3]
theorem sm_e {rs : List Rd} (hl : rs.length ≤ 20) {e : En} (h : enOk rs e) : Sm 4 10 (ptD e) := by
  obtain ⟨h1, h2⟩ := h
  have h3 : e.1 < 10000000000000000000000 := by omega
  have h4 : e.2 < 10000000000000000000000 := by omega
  exact ⟨by simp [ptD, h3, h4], by simp [ptD], by simp [ptD]⟩
theorem ix_wd (b : Bool) : atI [PyData.str (PySem.Str.ofString "going"), .str (PySem.Str.ofString "")] (if b = true then 1 else 0) = some (wdS b) := by cases b <;> simp [wdS]
theorem ix_wd2 (b : Bool) : atI [PyData.list [.str (PySem.Str.ofString "going"), .str (PySem.Str.ofString "going")], .list [.str (PySem.Str.ofString ""), .str (PySem.Str.ofString "")]] (if b = true then 1 else 0) = some (.list [wdS b, wdS b]) := by cases b <;> simp [wdS]
end KHead

end T_Mi_k13
section T_Mj_k13
namespace KHead
open PySem PySem.Spec PyProof.Rows L2 Kd
theorem fEq_rds {c : Nat} {rs : List Rd} (h : ∀ r ∈ rs, rdOk c r) (hc : c ≤ 12) (hl : rs.length ≤ 20) : fEq (.tuple (rs.map rdD)) (.tuple []) = some (.bool rs.isEmpty) := by
  have s1 : SeqAt.shaped (.tuple (rs.map rdD)) = true := (sm_rds h hc hl).shaped (by omega)
  show iff' (sh2 _ _) _ = _
  rw [sh2, s1]
  show iff' true _ = _
  cases rs <;> rfl
theorem net_rds {rs : List Rd} : net (.tuple (rs.map rdD)) = false := by
  match rs with
  | [] => rfl
  | [a] => rfl
  | [a, b] => rfl
  | a :: b :: c :: r => simp [net]
theorem law_true (ns : List Int) (hns : ns.length ≤ 63) : ∃ os, m_law [.list (ns.map .int)] = .ok (os, .bool true) := by
  suffices hW : W (m_law [.list (ns.map .int)]) fun y => y.2 = .bool true by
    obtain ⟨⟨os, y⟩, e, rfl⟩ := hW
    exact ⟨os, e⟩
  refine W_fn (W_seq ?_)
  obtain ⟨p, e1⟩ := w_pile ns 0 (by omega)
  have e1 : m__law_pile [.list (ns.map .int), .int 0] = .ok ([], .list [.int p]) := e1
  simp [-sSeq_, e1]
  refine W_seq ?_
  obtain ⟨q, c, rs, e2, h1, h2, h3, h4⟩ := w_net p 8 (by decide)
  have e2 : m__law_net [.list [.int p], .int 8] = .ok ([.list [.int q]], netD c rs) := e2
  simp [-sSeq_, e2]
  refine W_seq ?_
  simp [-sSeq_, sl]
  generalize hS : PyData.list (ns.map .int) = S
  refine W_seq (W.mono (P := fun fl => ∃ c rs, 1 ≤ c ∧ c ≤ 6 ∧ rs.length ≤ 8 ∧ 0 < rs.length ∧ (∀ r ∈ rs, rdOk c r) ∧ fl = .nx ([some S, some (.list [.int q]), some (netD c rs), some (.list [ptD (0, 0)])] ++ List.replicate 12 none)) ?_ ?_)
  · have e3 := fEq_rds h4 (by omega) (by omega)
    have hN : fIx (netD c rs) (.int 1) = some (.tuple (rs.map rdD)) := by simp [netD]
    cases hE : rs.isEmpty with
    | true =>
      rw [hE] at e3
      simp [hN, e3, sl]
      refine ⟨2, by decide, by decide, [((0, 1), (1, 2)), ((1, 1), (0, 1))], by simp, by simp, ?_, ?_⟩
      · intro a b a' b' h
        simp at h
        rcases h with ⟨⟨rfl, rfl⟩, rfl, rfl⟩ | ⟨⟨rfl, rfl⟩, rfl, rfl⟩ <;> (refine ⟨?_, ?_, ?_, ?_⟩ <;> decide)
      · simp [netD, rdD, ptD]
    | false =>
      rw [hE] at e3
      simp [hN, e3, sl]
      refine ⟨c, h1, h2, rs, h3, ?_, fun a b a' b' h => h4 _ h, rfl, rfl⟩
      cases rs with
      | nil => cases hE
      | cons _ _ => simp
  clear h1 h2 h3 h4 e2
  rintro _ ⟨c, rs, h1, h2, h3, h0, h4, rfl⟩
  rw [KS_nx]
  have hc : c ≤ 12 := by omega
  have hl : rs.length ≤ 20 := by omega
  obtain ⟨bn, e3, bS, bN⟩ := w_bad_netsN (c := c) (R := rs.map rdD) hc (fun x hx => by
    obtain ⟨r, hr, rfl⟩ := List.mem_map.mp hx
    exact sm_rd (h4 r hr) hc) net_rds (by simpa using hl)
  have e3 : m__law_bad_nets [netD c rs] = .ok ([], .list bn) := e3
  obtain ⟨be, e4, beS, bel⟩ := w_bad_endsS (.int (c : Int)) (rs.map rdD) (by simp; omega)
  have e4 : m__law_bad_ends [netD c rs] = .ok ([], .list be) := e4
  have e5 : m__law_ends [netD c rs] = .ok ([], .list (endsL rs.length)) := by
    have := e_ends (.int (c : Int)) (rs.map rdD) (by simpa using Nat.le_trans hl (by decide))
    simpa [netD] using this
  have A2 : ∀ (d : PyData) (back : Bool), Sm 40 5000 d → ∀ w : Int, (w = 2 ∨ w = 3) → m__law_asked [.int w, netD c rs, d, .bool back] = .ok ([], wdS (goB rs d back)) := fun d back hd w hw => asked2 h1 hc h4 hl d hd (by omega) (by omega) back w hw
  have AG : ∀ (d : PyData) (back : Bool), Sm 40 5000 d → m__law_is_going [netD c rs, d, .bool back] = .ok ([], .bool (goB rs d back)) := fun d back hd => e_lgoing d back hd.lay (Nat.le_trans hd.2.1 (by omega)) fun xs hx => by subst hx; exact Nat.le_trans (sm_llen hd) (by omega)
  have AP := plan_no h1 hc h4 hl
  have sN : Sm 40 5000 (netD c rs) := (sm_net h4 hc hl).mono (by omega) (by omega)
  have s0 : Sm 40 5000 (.list [ptD (0, 0)]) := ⟨by simp [ptD], by simp [ptD], by simp [ptD]⟩
  have IG : m_is_going [netD c rs, .list [ptD (0, 0)], .bool false] = .ok ([], .bool (goB rs (.list [ptD (0, 0)]) false)) := by
    have e1 := e_look (netD c rs) (sm_net h4 hc hl) (by omega) (net_D h1 hc h4)
    have e2 := e_rgoing (c := c) (rs := rs) (.list [ptD (0, 0)]) false (s0.shaped (by omega)) fun xs hx => Nat.le_trans (sm_llen (hx ▸ s0)) (by omega)
    simp [m_is_going, e1, e2]
  have IG2 : ∀ back, m_is_going [netD c rs, .list [ptD (0, 0)], .bool back] = .ok ([], .bool (goB rs (.list [ptD (0, 0)]) back)) := fun back => by
    have e1 := e_look (netD c rs) (sm_net h4 hc hl) (by omega) (net_D h1 hc h4)
    have e2 := e_rgoing (c := c) (rs := rs) (.list [ptD (0, 0)]) back (s0.shaped (by omega)) fun xs hx => Nat.le_trans (sm_llen (hx ▸ s0)) (by omega)
    simp [m_is_going, e1, e2]
  have efar : ∀ e : En, e.2 < 2 → m__law_far [ptD e] = .ok ([], ptD (farE e)) := fun e h => e_lfar h
  have sE : ∀ e : En, enOk rs e → Sm 4 10 (ptD e) := fun e h => sm_e hl h
  generalize hN : netD c rs = N at *
  have pair : ∀ d, Sm 8 300 d ∨ d = N → ∀ t, (t = .list [ptD (0, 0)] ∨ t = .none) → Sm 60 30000 (.list [d, t]) := fun d hd t ht => by
    refine (sm_lst (k := 50) (n := 10000) (l := 2) ?_ (by simp)).mono (by omega) (by omega)
    intro x hx
    simp at hx
    rcases hx with rfl | rfl
    · rcases hd with hd | rfl
      · exact hd.mono (by omega) (by omega)
      · exact sN.mono (by omega) (by omega)
    · rcases ht with rfl | rfl
      · exact s0.mono (by omega) (by omega)
      · exact sm_none.mono (by omega) (by omega)
  refine W_seq ?_
  -- bad nets
  refine W_forE (fun r ρ => (∀ d ∈ r, Sm 8 300 d ∧ net d = false) ∧ ∃ a4 a5 a6, ρ = [some S, some (.list [.int q]), some N, some (.list [ptD (0, 0)]), a4, a5, a6, none, none, none, none, none, none, none, none, none]) ?_ ?_ ?_
  · simp [e3]
    exact fun d hd => ⟨bS d hd, bN d hd⟩
  · rintro d r ρ ⟨hd, a4, a5, a6, rfl⟩
    refine ⟨_, rfl, ?_⟩
    obtain ⟨hd1, hd2⟩ := hd d List.mem_cons_self
    refine W_for' (fun r' ρ => (∀ t ∈ r', t = .list [ptD (0, 0)] ∨ t = .none) ∧ ∃ a5 a6, ρ = [some S, some (.list [.int q]), some N, some (.list [ptD (0, 0)]), some d, a5, a6, none, none, none, none, none, none, none, none, none]) (ρ1 := [some S, some (.list [.int q]), some N, some (.list [ptD (0, 0)]), some d, a5, a6, none, none, none, none, none, none, none, none, none]) (ds := [.list [ptD (0, 0)], .none]) (by simp [sl]) ⟨by simp, _, _, rfl⟩ ?_ ?_
    · rintro t r' ρ ⟨ht, a5, a6, rfl⟩
      refine ⟨_, rfl, ?_⟩
      have ht0 := ht t List.mem_cons_self
      have hL := asked_rg (ρ := [some S, some (.list [.int q]), some N, some (.list [ptD (0, 0)]), some d, some t, a6, none, none, none, none, none, none, none, none, none]) (N := d) (d := t) (b := false) (NX := mV 4) (EX := mV 5) (BX := mC (.bool false)) (fun _ => .str (PySem.Str.ofString "net")) (by simp) (by simp) (by simp) (by simp)
        fun w hw => asked_exc (pair d (.inl hd1) t ht0) (ask_bad (w : Int) false hd1 (by omega) hd2) xs_net word_net
      simp [-mLc_, hL, sl, ne_net4]
      exact fun t h => ht t (List.mem_cons_of_mem _ h)
    · rintro ρ ⟨-, a5, a6, rfl⟩
      simp
      exact fun d h => hd d (List.mem_cons_of_mem _ h)
  rintro ρ ⟨-, a4, a5, a6, rfl⟩
  rw [KS_nx]
  refine W_seq ?_
  -- what is far from a going
  have t1 : tame (.str (PySem.Str.ofString "")) = true := by decide +kernel
  have b1 : (PySem.Str.ofString "").cps.size = 0 := by decide +kernel
  obtain ⟨far, hfar⟩ : ∃ far : List PyData, far = [.list [.tuple [.int 0, .int 0], .tuple [.int 0, .int 1]], .list [.tuple [.int 0, .int 0], .tuple [.int 0, .int 0], .tuple [.int 0, .int 0]], .list [], .none, .int 0, .str (PySem.Str.ofString ""), .tuple [.tuple [.int 0, .int 0]], .list [.tuple [.int 0, .int 0], .none], .list [.list [.int 0, .int 0]], .tuple [.int 0, .int 0]] := ⟨_, rfl⟩
  have fS : ∀ d ∈ far, Sm 40 5000 d := by
    have : AllS 40 5000 far := by
      rw [hfar]
      simp only [allS_c, allS_n, and_true, sm_iff]
      repeat' apply And.intro
      all_goals simp [t1, b1]
    exact this
  have fl : far.length = 10 := by rw [hfar]; rfl
  simp [-sSeq_, sl]
  rw [← hfar]
  refine W_seq ?_
  have hp0 : ptD (0, 0) = .tuple [.int 0, .int 0] := by simp [ptD]
  refine W_forE (fun r ρ => (∀ d ∈ r, Sm 40 5000 d) ∧ ∃ a4 a6 a8 a9, ρ = [some S, some (.list [.int q]), some N, some (.list [ptD (0, 0)]), a4, a5, a6, some (.list far), a8, a9, none, none, none, none, none, none]) ?_ ?_ ?_
  · have l1 := mLc_map (it := iOf asL (mCall m__law_bad_ends [.e (mV 2)] [])) (m := mN fLst [(mV 8)]) (i := 8) (ρ := [some S, some (.list [.int q]), some N, some (.list [ptD (0, 0)]), a4, a5, a6, some (.list far), none, none, none, none, none, none, none, none]) (ds := be) (fun d => .list [d]) (by simp) (by simp [e4]) (by rw [sl]; omega) fun d hd => by simp [sl]
    have l2 := mLc_map (it := iOf asL (mCall m__law_bad_ends [.e (mV 2)] [])) (m := m2 fAdd (mV 3) (mN fLst [(mV 8)])) (i := 8) (ρ := [some S, some (.list [.int q]), some N, some (.list [ptD (0, 0)]), a4, a5, a6, some (.list far), none, none, none, none, none, none, none, none]) (ds := be) (fun d => .list [ptD (0, 0), d]) (by simp) (by simp [e4]) (by rw [sl]; omega) fun d hd => by simp [sl]
    simp [-mLc_, l1, l2, sl, fl, bel]
    rintro d (hd | ⟨x, hx, rfl⟩ | ⟨x, hx, rfl⟩)
    · exact fS d hd
    · exact (sm_lst (k := 4) (n := 10) (l := 2) (fun y hy => by simp at hy; subst hy; exact beS _ hx) (by simp)).mono (by omega) (by omega)
    · refine (sm_lst (k := 4) (n := 10) (l := 2) (fun y hy => ?_) (by simp)).mono (by omega) (by omega)
      simp at hy
      rcases hy with rfl | rfl
      · exact ⟨by simp [ptD], by simp [ptD], by simp [ptD]⟩
      · exact beS _ hx
  · rintro d r ρ ⟨hd, a4, a6, a8, a9, rfl⟩
    refine ⟨_, rfl, ?_⟩
    have hd0 := hd d List.mem_cons_self
    have lc : ∀ back a6 a9, mLc [] (iOf asL (mN fLst [(mC (.int 2)), (mC (.int 3))])) (gN 6) tTrue (mCall m__law_asked [.e (mV 6), .e (mV 2), .e (mV 4), .e (mC (.bool back))] []) [6] [some S, some (.list [.int q]), some N, some (.list [ptD (0, 0)]), some d, a5, a6, some (.list far), a8, a9, none, none, none, none, none, none] = .ok (_, .list [wdS (goB rs d back), wdS (goB rs d back)]) := fun back a6 a9 =>
      asked_lc (N := N) (d := d) (b := back) (by simp) (by simp) (by simp) (by simp) (A2 d back hd0)
    refine W_seq ?_
    simp [-mLc_, -sSeq_, AG d false hd0, sl, ix_wd2]
    refine W_seq ?_
    simp [-mLc_, -sSeq_, lc, ne_wd]
    refine W_seq ?_
    simp [-mLc_, -sSeq_, AG d true hd0, sl, ix_wd2]
    simp [-mLc_, lc, ne_wd]
    exact fun d h => hd d (List.mem_cons_of_mem _ h)
  rintro ρ ⟨-, a4, a6, a8, a9, rfl⟩
  rw [KS_nx]
  refine W_seq ?_
  refine W_for' (fun r ρ => (∀ d ∈ r, ∃ b, d = .bool b) ∧ ∃ a6 a10 a11, ρ = [some S, some (.list [.int q]), some N, some (.list [ptD (0, 0)]), a4, a5, a6, some (.list far), a8, a9, a10, a11, none, none, none, none]) (ρ1 := [some S, some (.list [.int q]), some N, some (.list [ptD (0, 0)]), a4, a5, a6, some (.list far), a8, a9, none, none, none, none, none, none]) (ds := [.bool false, .bool true]) (by simp [sl]) ⟨by simp, _, _, _, rfl⟩ ?_ ?_
  · rintro d r ρ ⟨hd, a6, a10, a11, rfl⟩
    obtain ⟨back, rfl⟩ := hd d List.mem_cons_self
    refine ⟨_, rfl, ?_⟩
    have lc := asked_rg (ρ := [some S, some (.list [.int q]), some N, some (.list [ptD (0, 0)]), a4, a5, a6, some (.list far), a8, a9, some (.bool back), some (wdS (goB rs (.list [ptD (0, 0)]) back)), none, none, none, none]) (N := N) (d := .list [ptD (0, 0)]) (b := back) (NX := mV 2) (EX := mV 3) (BX := mV 10) (fun w => if w < 2 then .str (PySem.Str.ofString "") else wdS (goB rs (.list [ptD (0, 0)]) back)) (by simp) (by simp) (by simp) (by simp)
      fun w hw => by
        have hp := pair N (.inr rfl) (.list [ptD (0, 0)]) (.inl rfl)
        rcases (by omega : w = 0 ∨ w = 1 ∨ w = 2 ∨ w = 3) with rfl | rfl | rfl | rfl
        · exact asked_ok hp (x := .bool (goB rs (.list [ptD (0, 0)]) back)) (by simp [askR, IG2])
        · exact asked_ok hp (x := .bool false) (by simp [askR, AP])
        · exact A2 _ back s0 2 (.inl rfl)
        · exact A2 _ back s0 3 (.inr rfl)
    refine W_seq ?_
    simp [-mLc_, -sSeq_, AG _ back s0, sl, ix_wd]
    simp [-mLc_, lc, ne_wd4, sl]
    exact fun d h => by simpa using hd d (List.mem_cons_of_mem _ h)
  rintro ρ ⟨-, a6, a10, a11, rfl⟩
  rw [KS_nx]
  refine W_seq ?_
  -- all pairs of ends
  have sEs : ∀ es : List En, es.length ≤ 3 → (∀ e ∈ es, enOk rs e) → Sm 40 5000 (.list (es.map ptD)) := fun es h1 h2 => (sm_lst (k := 4) (n := 10) (l := 3) (fun y hy => by
    obtain ⟨e, he, rfl⟩ := List.mem_map.mp hy
    exact sE e (h2 e he)) (by simpa using h1)).mono (by omega) (by omega)
  refine W_forE (fun r ρ => (∀ d ∈ r, d ∈ endsL rs.length) ∧ ∃ a6 a10 a11 a12 a13 a14, ρ = [some S, some (.list [.int q]), some N, some (.list [ptD (0, 0)]), a4, a5, a6, some (.list far), a8, a9, a10, a11, a12, a13, a14, none]) ?_ ?_ ?_
  · simp [e5]
  · rintro d r ρ ⟨hd, a6, a10, a11, a12, a13, a14, rfl⟩
    refine ⟨_, rfl, ?_⟩
    obtain ⟨one, rfl, o1⟩ := endsL_en' (hd d List.mem_cons_self)
    refine W_forE (fun r ρ => (∀ d ∈ r, d ∈ endsL rs.length) ∧ ∃ a6 a10 a11 a13 a14, ρ = [some S, some (.list [.int q]), some N, some (.list [ptD (0, 0)]), a4, a5, a6, some (.list far), a8, a9, a10, a11, some (ptD one), a13, a14, none]) ?_ ?_ ?_
    · simp [e5]
    · rintro d' r' ρ ⟨hd', a6, a10, a11, a13, a14, rfl⟩
      refine ⟨_, rfl, ?_⟩
      obtain ⟨oth, rfl, o2⟩ := endsL_en' (hd' d' List.mem_cons_self)
      refine W_for' (fun r ρ => (∀ d ∈ r, ∃ b, d = .bool b) ∧ ∃ a6 a10 a11 a14, ρ = [some S, some (.list [.int q]), some N, some (.list [ptD (0, 0)]), a4, a5, a6, some (.list far), a8, a9, a10, a11, some (ptD one), some (ptD oth), a14, none]) (ρ1 := [some S, some (.list [.int q]), some N, some (.list [ptD (0, 0)]), a4, a5, a6, some (.list far), a8, a9, a10, a11, some (ptD one), some (ptD oth), a14, none]) (ds := [.bool false, .bool true]) (by simp [sl]) ⟨by simp, _, _, _, _, rfl⟩ ?_ ?_
      · rintro d r ρ ⟨hb, a6, a10, a11, a14, rfl⟩
        obtain ⟨back, rfl⟩ := hb d List.mem_cons_self
        refine ⟨_, rfl, ?_⟩
        have s2 : Sm 40 5000 (.list [ptD one, ptD oth]) := sEs [one, oth] (by simp) (by simp; exact ⟨o1, o2⟩)
        have s3 : Sm 40 5000 (.list [ptD one, ptD oth, ptD (farE one)]) := sEs [one, oth, farE one] (by simp) (by simp; exact ⟨o1, o2, farE_ok o1⟩)
        have lc2 := fun a6 a14 => asked_lc (ρ := [some S, some (.list [.int q]), some N, some (.list [ptD (0, 0)]), a4, a5, a6, some (.list far), a8, a9, some (.bool back), some (wdS (goB rs (.list [ptD one, ptD oth]) back)), some (ptD one), some (ptD oth), a14, none]) (N := N) (d := .list [ptD one, ptD oth]) (b := back) (EX := mN fLst [(mV 12), (mV 13)]) (BX := mV 10) (by simp) (by simp) (by simp [sl]) (by simp) (A2 _ back s2)
        have lc3 := fun a6 => asked_lc (ρ := [some S, some (.list [.int q]), some N, some (.list [ptD (0, 0)]), a4, a5, a6, some (.list far), a8, a9, some (.bool back), some (wdS (goB rs (.list [ptD one, ptD oth, ptD (farE one)]) back)), some (ptD one), some (ptD oth), some (.list [ptD one, ptD oth, ptD (farE one)]), none]) (N := N) (d := .list [ptD one, ptD oth, ptD (farE one)]) (b := back) (EX := mV 14) (BX := mV 10) (by simp) (by simp) (by simp) (by simp) (A2 _ back s3)
        refine W_seq ?_
        simp [-mLc_, -sSeq_, AG _ back s2, sl, ix_wd]
        refine W_seq ?_
        simp [-mLc_, -sSeq_, lc2, ne_wd, sl]
        refine W_seq ?_
        simp [-mLc_, -sSeq_, efar one o1.2, sl]
        refine W_seq ?_
        simp [-mLc_, -sSeq_, AG _ back s3, sl, ix_wd]
        simp [-mLc_, lc3, ne_wd, sl]
        exact fun d h => by simpa using hb d (List.mem_cons_of_mem _ h)
      · rintro ρ ⟨-, a6, a10, a11, a14, rfl⟩
        simp
        exact fun d h => hd' d (List.mem_cons_of_mem _ h)
    · rintro ρ ⟨-, a6, a10, a11, a13, a14, rfl⟩
      simp
      exact fun d h => hd d (List.mem_cons_of_mem _ h)
  rintro ρ ⟨-, a6, a10, a11, a12, a13, a14, rfl⟩
  rw [KS_nx]
  -- the last net
  have z1 := asked2 (c := 2) (rs := [((0, 0), (1, 0)), ((1, 1), (1, 2))]) (by decide) (by decide) (by simp [rdOk]) (by simp) (k := 40) (n := 5000) (.list [ptD (0, 0), ptD (1, 0), ptD (0, 1)]) ⟨by simp [ptD], by simp [ptD], by simp [ptD]⟩ (by omega) (by omega) true 3 (.inr rfl)
  have z2 : goB [((0, 0), (1, 0)), ((1, 1), (1, 2))] (.list [ptD (0, 0), ptD (1, 0), ptD (0, 1)]) true = false := by simp [goB, endB_pt, toEn_pt, tsD, farE, turnB, plc]
  rw [z2] at z1
  simp [netD, rdD, ptD] at z1
  refine W_seq ?_
  simp [-sSeq_, sl]
  simp [sl, z1, wdS]
end KHead

end T_Mj_k13
set_option maxRecDepth 100000
set_option maxHeartbeats 8000000
open PySem PySem.W PySem.Calls PyProof.Rows
theorem PySem.Challenge.cw_kindtrails_k13_wrong_goings_holds : PySem.Challenge.rw_kindtrails_k13_wrong_goings.Holds := by
  w_on; o_law
  refine HandSHeadRun.head_any (r := OpenLaw.row PySem.Challenge.rw_kindtrails_k13_wrong_goings) (q := view (OpenLaw.row PySem.Challenge.rw_kindtrails_k13_wrong_goings).prog [60]) (H := KHead.hk) (ob := KHead.ob) (M := 20000) (loose := KHead.loose) (d := HandSHeadRun.topDef (OpenLaw.row PySem.Challenge.rw_kindtrails_k13_wrong_goings).prog 60) (kwd := []) KHead.ob_eq
    (by kernel_rfl) (fun s => by kernel_rfl) KHead.run (by kernel_rfl) (by kernel_rfl) (by kernel_rfl) (by rfl) (by first | assumption | decide +kernel) (by decide +kernel) ⟨rfl, rfl, rfl, rfl, rfl, by decide +kernel⟩ ?hw ?hc
  case hw => w_witness2
  case hc =>
    refine Kd.walk_g (l := PySem.Challenge.rw_kindtrails_k13_wrong_goings) (n := 63) (k := 9) (x := "_law_script") rfl (by decide) (by kernel_rfl) ⟨rfl, by decide, by decide⟩ ?F
    intro w mg fa h Y G hmg0
    obtain ⟨K, KX, c⟩ := Y
    have hmg : mg ("law" : PySem.Str) = some (.ref fa) := by
      have e : (HandSHeadRun.topDef (OpenLaw.row PySem.Challenge.rw_kindtrails_k13_wrong_goings).prog 60).name = ("law" : PySem.Str) := by kernel_rfl
      rw [← e]
      exact hmg0
    have T := KHead.tx_of KX G c.t.d c.more
    obtain ⟨fd, F⟩ := T.d_law
    have e := hmg.symm.trans T.g_law
    cases e
    have b := L2.FunD.bindsA (ps := ["_law_script"]) F fun _ _ _ _ _ _ us hl => match us, hl with | [_], _ => rfl
    exact ⟨K, fd, KHead.m_law, KX, fun s u => b s [u] rfl, KHead.law_true, fun base _ _ => KHead.fn_law T F (PySem.Challenge.rw_kindtrails_k13_wrong_goings).prog w base⟩
