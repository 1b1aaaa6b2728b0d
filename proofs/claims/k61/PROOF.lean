import PyProof.Rows.All
import Wide.All
import OpenK.AllK
import Wide.FinOn
import KE.KStateDown
import HandS.ForMost
import HandS.ForExc
import HandS.Walk
import HandS.Defaults
import HandS.Exc
import HandS.HeadHook1
import HandS.IsInst
import HandS.TupAny
import HandS.Deep
import HandS.Wide
import HandS.SortKw
import HandS.CallSlots
import HandS.More
import HandS.SetFor
import HandS.Style
import HandS.RaiseMore
import HandS.SortInts
import Lean
import HandS.Head0
import HandS.Head1
import HandS.Head2
import HandS.HeadEnd
import HandS.HeadHook2
import HandS.Iter
import HandS.Zip
import HandS.ExcOwn
import HandS.ExcInit
import HandS.ExcIs
import HandS.ExcField
import KE.KExcIs
import HandS.HeadHook4
import HandS.Conv
import KE.SortKeyed
import KE.DataMinMax
import KE.DataCmp
import KE.DataFind
import HandS.Text
import HandS.StrMore
import HandS.Star
import KE.GoesEnum
import HandS.TupMul
import PyProof.ReprBulk
import PyProof.FitsInt
import KE.IntTextLaws
import PySem.Challenge.RW_kindtrails_k61_plans_written
set_option Elab.async false
set_option linter.all false
section T_KD1
set_option maxRecDepth 100000
/-! KD1: values as trees: how they lie in the heap (Rp), what grows (Grow, Mono), the slots (RE), the readings tD, tT, tS. -/
namespace Kd
open PySem PySem.Spec PyProof.Rows L2

/-- an exception's object at a: of the class at C, its own dict at d -/
def exq (a C : Addr) (d : Option Addr) : HO := .ext fun h => ∃ oe vs, h.get? a = some oe ∧ Zc (.ref C) d oe ∧ oe.data = .fields vs
theorem exq_ok {P : Program} {w : World} {H : Hp} {h : Heap} {a C : Addr} {d : Option Addr} {oe : Obj} {vs : Array Value} (e : h.get? a = some oe) (z : Zc (.ref C) d oe) (hd : oe.data = .fields vs) : ObjOk P w H h a (exq a C d) :=
  ⟨⟨oe, vs, e, z, hd⟩, ⟨oe, e⟩, fun _ _ ⟨o, us, q1, q2, q3⟩ k => ⟨o, us, k _ q1, q2, q3⟩⟩
theorem exq_at {P : Program} {w : World} {H : Hp} {h : Heap} {a C : Addr} {d : Option Addr} (hok : HOk P w H h) (e : H a = some (exq a C d)) : ∃ oe vs, h.get? a = some oe ∧ Zc (.ref C) d oe ∧ oe.data = .fields vs := (hok _ _ e).1
/-- the name of an exception's one field -/
def fldN (c : Str) : Str := if c = ("Barred" : Str) then "reason" else "line"
/-- an exception as data: its class's name, its field -/
def excD (c : Str) : Option PyData → PyData
  | none => .dict [(.none, .str c)]
  | some d => .dict [(.none, .str c), (.none, d)]
def kD : Key → PyData
  | .inl i => .int i
  | .inr x => .str x

/-- a list that stays: one of F's, or of the written part -/
def LsA (K : PySem.W.Frag) (F : Addr → Prop) (H : Hp) (a : Addr) (vs : List V) : Prop :=
  (F a ∧ Rd H a (.lst vs)) ∨ ∃ (o : Obj) (its : Array Value) (n : Nat), K.lookup a = some o ∧ o.cls = .type "list" ∧ o.dict = none ∧ o.data = .seq its n ∧ its.size ≤ sizeLine ∧ Vals vs its.toList
theorem LsA.sq {K : PySem.W.Frag} {F : Addr → Prop} {H : Hp} {a : Addr} {vs : List V} (h : LsA K F H a vs) : SqL K H a vs := h.imp (fun x => x.2) id
mutual
/-- the value v lies in H as the tree d; F: what stays as it is -/
inductive Rp (K : PySem.W.Frag) (F : Addr → Prop) (H : Hp) : V → PyData → Prop
  | non : Rp K F H .non .none
  | bl (b : Bool) : Rp K F H (.bl b) (.bool b)
  | int (i : Int) : Rp K F H (.int i) (.int i)
  | str (x : Str) : Rp K F H (.str x) (.str x)
  | lst {a : Addr} {vs : List V} {ds : List PyData} : LsA K F H a vs → Rps K F H vs ds → Rp K F H (.ref a) (.list ds)
  | tup {a : Addr} {vs : List V} {ds : List PyData} : H a = some (HO.tup vs) → Rps K F H vs ds → Rp K F H (.ref a) (.tuple ds)
  | dK {a : Addr} {ws : List (Key × V)} {kvs : List (PyData × PyData)} : F a → Rd H a (.dK ws) → RpK K F H ws kvs → Rp K F H (.ref a) (.dict ((.bool false, .none) :: kvs))
  | dT {a : Addr} {ws : List (List Key × V)} {kvs : List (PyData × PyData)} : F a → Rd H a (.dT ws) → RpT K F H ws kvs → Rp K F H (.ref a) (.dict ((.bool true, .none) :: kvs))
  | exN {a : Addr} {c : Str} : F a → Rd H a (exq a (He.ga K c) none) → Rp K F H (.ref a) (.dict [(.none, .str c)])
  | exS {a dd : Addr} {c : Str} {v : V} {d : PyData} : F a → F dd → Rd H a (exq a (He.ga K c) (some dd)) → Rd H dd (.xd [(fldN c, v)]) → Rp K F H v d → Rp K F H (.ref a) (.dict [(.none, .str c), (.none, d)])
inductive Rps (K : PySem.W.Frag) (F : Addr → Prop) (H : Hp) : List V → List PyData → Prop
  | nil : Rps K F H [] []
  | cons {v : V} {vs : List V} {d : PyData} {ds : List PyData} : Rp K F H v d → Rps K F H vs ds → Rps K F H (v :: vs) (d :: ds)
inductive RpK (K : PySem.W.Frag) (F : Addr → Prop) (H : Hp) : List (Key × V) → List (PyData × PyData) → Prop
  | nil : RpK K F H [] []
  | cons {k : Key} {v : V} {ws : List (Key × V)} {d : PyData} {kvs : List (PyData × PyData)} : Rp K F H v d → RpK K F H ws kvs → RpK K F H ((k, v) :: ws) ((kD k, d) :: kvs)
inductive RpT (K : PySem.W.Frag) (F : Addr → Prop) (H : Hp) : List (List Key × V) → List (PyData × PyData) → Prop
  | nil : RpT K F H [] []
  | cons {k : List Key} {v : V} {ws : List (List Key × V)} {d : PyData} {kvs : List (PyData × PyData)} : Rp K F H v d → RpT K F H ws kvs → RpT K F H ((k, v) :: ws) ((.tuple (k.map kD), d) :: kvs)
end

/-- what stays: F's objects, the tuples -/
structure Mono (K : PySem.W.Frag) (F : Addr → Prop) (H : Hp) (F' : Addr → Prop) (H' : Hp) : Prop where
  sub : ∀ a, F a → F' a
  ex : ∀ a o, F a → H a = some o → H' a = some o
  tup : ∀ a xs, H a = some (HO.tup xs) → H' a = some (HO.tup xs)
/-- .. and what else stays is new; nothing is forgotten -/
structure Mn (K : PySem.W.Frag) (F : Addr → Prop) (H : Hp) (F' : Addr → Prop) (H' : Hp) : Prop extends Mono K F H F' H' where
  new : ∀ a, F' a → F a ∨ H a = none
  keep : ∀ a, H a ≠ none → H' a ≠ none
/-- new objects alone -/
structure Grow (F : Addr → Prop) (H : Hp) (F' : Addr → Prop) (H' : Hp) : Prop where
  same : Same H H'
  sub : ∀ a, F a → F' a
  new : ∀ a, F' a → F a ∨ H a = none
  dom : ∀ a, F' a → H' a ≠ none
section
variable {K : PySem.W.Frag} {F F' F'' : Addr → Prop} {H H' H'' : Hp}
theorem Mono.rd (m : Mono K F H F' H') (a : Addr) (u : HO) (hF : F a) (h : Rd H a u) : Rd H' a u := by
  rcases h with h | ⟨o, h⟩
  · exact .inl (m.ex _ _ hF h)
  · exact .inr ⟨o, m.ex _ _ hF h⟩
theorem Same.rd (e : Same H H') {a : Addr} {u : HO} (h : Rd H a u) : Rd H' a u := by
  rcases h with h | ⟨o, h⟩
  · exact .inl (e _ _ h)
  · exact .inr ⟨o, e _ _ h⟩
theorem Same.sqT (e : Same H H') {a : Addr} {xs : List V} (h : SqT K H a xs) : SqT K H' a xs := by
  rcases h with h | h
  · exact .inl (Kd.Same.rd e h)
  · exact .inr h
theorem Grow.mono (g : Grow F H F' H') : Mono K F H F' H' := ⟨g.sub, fun _ _ _ h => g.same _ _ h, fun _ _ h => g.same _ _ h⟩
theorem Grow.refl (dom : ∀ a, F a → H a ≠ none) : Grow F H F H := ⟨L2.Same.refl H, fun _ h => h, fun _ h => .inl h, dom⟩
theorem Grow.trans (a : Grow F H F' H') (b : Grow F' H' F'' H'') : Grow F H F'' H'' := by
  refine ⟨a.same.trans b.same, fun x h => b.sub x (a.sub x h), fun x h => ?_, b.dom⟩
  rcases b.new x h with h | h
  · exact a.new x h
  · exact .inr (a.same.free h)
theorem Mono.refl : Mono K F H F H := ⟨fun _ h => h, fun _ _ _ h => h, fun _ _ h => h⟩
theorem Mono.trans (a : Mono K F H F' H') (b : Mono K F' H' F'' H'') : Mono K F H F'' H'' :=
  ⟨fun x h => b.sub x (a.sub x h), fun x u h r => b.ex x u (a.sub x h) (a.ex x u h r), fun x xs h => b.tup x xs (a.tup x xs h)⟩
theorem Same.ne (e : Same H H') {a : Addr} (h : H a ≠ none) : H' a ≠ none := by
  cases q : H a with
  | none => exact absurd q h
  | some o => rw [e _ _ q]; simp
theorem Grow.mn (g : Grow F H F' H') : Mn K F H F' H' := ⟨g.mono, g.new, fun _ h => Kd.Same.ne g.same h⟩
theorem Mn.refl : Mn K F H F H := ⟨Mono.refl, fun _ h => .inl h, fun _ h => h⟩
theorem Mn.trans (a : Mn K F H F' H') (b : Mn K F' H' F'' H'') : Mn K F H F'' H'' := by
  refine ⟨a.toMono.trans b.toMono, fun x h => ?_, fun x h => b.keep x (a.keep x h)⟩
  rcases b.new x h with h | h
  · exact a.new x h
  · by_cases q : H x = none
    · exact .inr q
    · exact absurd h (a.keep x q)
/-- a new object at p -/
theorem Grow.atp (dom : ∀ a, F a → H a ≠ none) {p : Addr} {o : HO} (np : H p = none) : Grow F H (fun a => F a ∨ a = p) (upd H p o) := by
  refine ⟨fun b u h => ?_, fun _ h => .inl h, fun a h => ?_, fun a h => ?_⟩
  · rw [upd_ne (ne_of_none h np)]; exact h
  · rcases h with h | rfl
    · exact .inl h
    · exact .inr np
  · rcases h with h | rfl
    · by_cases e : a = p
      · subst e; rw [upd_same]; simp
      · rw [upd_ne e]; exact dom a h
    · rw [upd_same]; simp
theorem Grow.att (dom : ∀ a, F a → H a ≠ none) {p : Addr} {o : HO} (np : H p = none) : Grow F H F (upd H p o) := by
  refine ⟨fun b u h => ?_, fun _ h => h, fun a h => .inl h, fun a h => ?_⟩
  · rw [upd_ne (ne_of_none h np)]; exact h
  · by_cases e : a = p
    · subst e; rw [upd_same]; simp
    · rw [upd_ne e]; exact dom a h
mutual
theorem Rp.mono (m : Mono K F H F' H') : ∀ {v : V} {d : PyData}, Rp K F H v d → Rp K F' H' v d
  | _, _, .non => .non
  | _, _, .bl b => .bl b
  | _, _, .int i => .int i
  | _, _, .str x => .str x
  | _, _, .lst h q => .lst (h.imp (fun x => ⟨m.sub _ x.1, m.rd _ _ x.1 x.2⟩) id) (Rps.mono m q)
  | _, _, .tup r q => .tup (m.tup _ _ r) (Rps.mono m q)
  | _, _, .dK h r q => .dK (m.sub _ h) (m.rd _ _ h r) (RpK.mono m q)
  | _, _, .dT h r q => .dT (m.sub _ h) (m.rd _ _ h r) (RpT.mono m q)
  | _, _, .exN h r => .exN (m.sub _ h) (m.rd _ _ h r)
  | _, _, .exS h h2 r r2 q => .exS (m.sub _ h) (m.sub _ h2) (m.rd _ _ h r) (m.rd _ _ h2 r2) (Rp.mono m q)
theorem Rps.mono (m : Mono K F H F' H') : ∀ {vs : List V} {ds : List PyData}, Rps K F H vs ds → Rps K F' H' vs ds
  | _, _, .nil => .nil
  | _, _, .cons h t => .cons (Rp.mono m h) (Rps.mono m t)
theorem RpK.mono (m : Mono K F H F' H') : ∀ {vs : List (Key × V)} {ds : List (PyData × PyData)}, RpK K F H vs ds → RpK K F' H' vs ds
  | _, _, .nil => .nil
  | _, _, .cons h t => .cons (Rp.mono m h) (RpK.mono m t)
theorem RpT.mono (m : Mono K F H F' H') : ∀ {vs : List (List Key × V)} {ds : List (PyData × PyData)}, RpT K F H vs ds → RpT K F' H' vs ds
  | _, _, .nil => .nil
  | _, _, .cons h t => .cons (Rp.mono m h) (RpT.mono m t)
end
theorem Rps.length : ∀ {vs : List V} {ds : List PyData}, Rps K F H vs ds → vs.length = ds.length
  | _, _, .nil => rfl
  | _, _, .cons _ t => congrArg (· + 1) (Rps.length t)
theorem Rps.get : ∀ {vs : List V} {ds : List PyData} {i : Nat} {d : PyData}, Rps K F H vs ds → ds[i]? = some d → ∃ v, vs[i]? = some v ∧ Rp K F H v d
  | _, _, _, _, .nil, e => by simp at e
  | _, _, 0, _, .cons r _, e => by simp at e; subst e; exact ⟨_, rfl, r⟩
  | _, _, i + 1, _, .cons _ t, e => by
    obtain ⟨v, h1, h2⟩ := Rps.get (i := i) t (by simpa using e)
    exact ⟨v, by simpa using h1, h2⟩
theorem Rps.append : ∀ {vs us : List V} {ds es : List PyData}, Rps K F H vs ds → Rps K F H us es → Rps K F H (vs ++ us) (ds ++ es)
  | _, _, _, _, .nil, h => h
  | _, _, _, _, .cons r t, h => .cons r (Rps.append t h)
theorem Rps.one {v : V} {d : PyData} (h : Rp K F H v d) : Rps K F H [v] [d] := .cons h .nil
end

/-! ### what runs: Rs, environments -/
inductive Rs (α : Type) where
  | ok (a : α)
  | exc (c : Str) (d : Option PyData)
  | bad
def Rs.bind {α β : Type} (x : Rs α) (f : α → Rs β) : Rs β :=
  match x with
  | .ok a => f a
  | .exc c d => .exc c d
  | .bad => .bad
theorem Rs.bind_ok {α β : Type} {x : Rs α} {f : α → Rs β} {b : β} (h : x.bind f = .ok b) : ∃ a, x = .ok a ∧ f a = .ok b := by
  cases x with
  | ok a => exact ⟨a, rfl, h⟩
  | exc c d => cases h
  | bad => cases h
/-- a value that may not be there -/
def Rs.opt {α β : Type} (x : Option α) (f : α → Rs β) : Rs β :=
  match x with
  | some a => f a
  | none => .bad
/-- a value under a condition -/
def iff' {α : Type} (c : Bool) (x : α) : Option α := if c then some x else none
theorem iff_some {α : Type} {c : Bool} {x a : α} (h : iff' c x = some a) : c = true ∧ x = a := by
  cases c with
  | true => exact ⟨rfl, Option.some.inj h⟩
  | false => cases h

abbrev Sl := L2.St
abbrev Ev := List (Option PyData)
abbrev EM := Ev → Rs (Ev × PyData)
abbrev TM := Ev → Rs (Ev × Bool)
inductive Fl where
  | nx (ρ : Ev)
  | rt (ρ : Ev) (d : PyData)
  | bk (ρ : Ev)
  | ct (ρ : Ev)
abbrev SM := Ev → Rs Fl
def gt (ρ : Ev) (i : Nat) : Option PyData := (ρ[i]?).getD none
theorem gt_ok {ρ : Ev} {i : Nat} {d : PyData} (h : gt ρ i = some d) : ρ[i]? = some (some d) := by
  unfold gt at h
  cases e : ρ[i]? with
  | none => rw [e] at h; cases h
  | some o => rw [e] at h; exact congrArg some h

/-! ### the slots -/
/-- the entry of a def: its heap, what stays, the slots of what it may change with their addresses, what is wanted of an exception -/
structure Bs (io : List Nat) where
  H0 : Hp
  F0 : Addr → Prop
  IO : List (Nat × Addr)
  mg : Str → Option Value
  W : WX
  fr : Bool
  hio : IO.map (·.1) = io
abbrev Bs.A0 {io : List Nat} (B : Bs io) : List Addr := B.IO.map (·.2)
inductive OwnV (K : PySem.W.Frag) (F : Addr → Prop) (H : Hp) (a : Addr) : PyData → Prop
  | lst {vs : List V} {ds : List PyData} : H a = some (HO.lst vs) → Rps K F H vs ds → OwnV K F H a (.list ds)
  | dK {ws : List (Key × V)} {kvs : List (PyData × PyData)} : H a = some (HO.dK ws) → RpK K F H ws kvs → OwnV K F H a (.dict ((.bool false, .none) :: kvs))
  | dT {ws : List (List Key × V)} {kvs : List (PyData × PyData)} : H a = some (HO.dT ws) → RpT K F H ws kvs → OwnV K F H a (.dict ((.bool true, .none) :: kvs))
structure RE (K : PySem.W.Frag) {io : List Nat} (B : Bs io) (own : List Nat) (F : Addr → Prop) (ρ : Ev) (σ : Sl) (H : Hp) : Prop where
  len : ρ.length = σ.length
  fz : ∀ i d, i ∉ own → ρ[i]? = some (some d) → ∃ v, σ[i]? = some (some v) ∧ Rp K F H v d
  ow : ∀ i d, i ∈ own → ρ[i]? = some (some d) → ∃ a, σ[i]? = some (some (V.ref a)) ∧ ¬ F a ∧ (B.H0 a = none ∨ a ∈ B.A0) ∧ OwnV K F H a d
  ne : ∀ i j d e, i ∈ own → j ∈ own → i ≠ j → ρ[i]? = some (some d) → ρ[j]? = some (some e) → σ[i]? ≠ σ[j]?
  dom : ∀ a, F a → H a ≠ none
  old : ∀ b o, B.H0 b = some o → b ∉ B.A0 → H b = some o
  fold : ∀ a, B.F0 a → F a
  fnew : ∀ a, F a → B.F0 a ∨ B.H0 a = none
  io : ∀ p ∈ B.IO, σ[p.1]? = some (some (V.ref p.2)) ∧ p.1 ∈ own ∧ ∃ d, ρ[p.1]? = some (some d)
  un : ∀ i : Nat, ρ[i]? = some none → σ[i]? = some none
section
variable {K : PySem.W.Frag} {io : List Nat} {B : Bs io} {own own' : List Nat} {F F' F'' : Addr → Prop} {H H' H'' : Hp} {ρ : Ev} {σ : Sl}
theorem OwnV.mono {a : Addr} {d : PyData} (m : Mono K F H F' H') (e : H' a = H a) (h : OwnV K F H a d) : OwnV K F' H' a d := by
  cases h with
  | lst h r => exact .lst (e.trans h) (r.mono m)
  | dK h r => exact .dK (e.trans h) (r.mono m)
  | dT h r => exact .dT (e.trans h) (r.mono m)
theorem OwnV.grow {a : Addr} {d : PyData} (g : Grow F H F' H') (h : OwnV K F H a d) : OwnV K F' H' a d := by
  cases h with
  | lst h r => exact .lst (g.same _ _ h) (r.mono g.mono)
  | dK h r => exact .dK (g.same _ _ h) (r.mono g.mono)
  | dT h r => exact .dT (g.same _ _ h) (r.mono g.mono)
theorem OwnV.there {a : Addr} {d : PyData} (h : OwnV K F H a d) : H a ≠ none := by
  cases h with
  | lst h r => rw [h]; simp
  | dK h r => rw [h]; simp
  | dT h r => rw [h]; simp
theorem OwnV.rp {a : Addr} {d : PyData} (h : OwnV K F H a d) (hF : F a) : Rp K F H (.ref a) d := by
  cases h with
  | lst h r => exact .lst (.inl ⟨hF, .inl h⟩) r
  | dK h r => exact .dK hF (.inl h) r
  | dT h r => exact .dT hF (.inl h) r
theorem RE.a0 (r : RE K B own F ρ σ H) : ∀ a ∈ B.A0, H a ≠ none := fun a h => by
  obtain ⟨p, hp, rfl⟩ := List.mem_map.mp h
  obtain ⟨h1, h2, d, h3⟩ := r.io p hp
  obtain ⟨b, e, _, _, q⟩ := r.ow _ d h2 h3
  rw [h1] at e; cases e
  exact q.there
theorem RE.h0 (r : RE K B own F ρ σ H) {a : Addr} (z : H a = none) : B.H0 a = none := by
  cases e : B.H0 a with
  | none => rfl
  | some o =>
    have hA : a ∉ B.A0 := fun q => r.a0 a q z
    have := r.old a o e hA
    rw [z] at this; cases this
theorem RE.notIn (r : RE K B own F ρ σ H) {a : Addr} (z : H a = none) : ∀ j ∈ own, σ[j]? ≠ some (some (V.ref a)) := fun j hj q => by
  cases e : ρ[j]? with
  | none =>
    have h1 : ρ.length ≤ j := List.getElem?_eq_none_iff.mp e
    have h2 := (List.getElem?_eq_some_iff.mp q).1
    rw [← r.len] at h2
    omega
  | some o =>
    cases o with
    | none => rw [r.un j e] at q; cases q
    | some d =>
      obtain ⟨b, h1, _, _, h4⟩ := r.ow j d hj e
      rw [q] at h1; cases h1
      exact h4.there z
theorem RE.grow (r : RE K B own F ρ σ H) (g : Grow F H F' H') : RE K B own F' ρ σ H' := by
  refine ⟨r.len, fun i d hi e => ?_, fun i d hi e => ?_, r.ne, g.dom, fun b o h h' => g.same _ _ (r.old b o h h'), fun a h => g.sub a (r.fold a h), fun a h => ?_, r.io, r.un⟩
  · obtain ⟨v, h1, h2⟩ := r.fz i d hi e
    exact ⟨v, h1, h2.mono g.mono⟩
  · obtain ⟨a, h1, h2, h3, h4⟩ := r.ow i d hi e
    refine ⟨a, h1, fun q => ?_, h3, h4.grow g⟩
    rcases g.new a q with z | z
    · exact h2 z
    · exact h4.there z
  · rcases g.new a h with z | z
    · exact r.fnew a z
    · exact .inr (r.h0 z)
/-- what stays, and what the slots hold that are no longer owned -/
def frzF (own own' : List Nat) (F : Addr → Prop) (ρ : Ev) (σ : Sl) : Addr → Prop := fun a => F a ∨ ∃ i d, i ∈ own ∧ i ∉ own' ∧ ρ[i]? = some (some d) ∧ σ[i]? = some (some (V.ref a))
/-- fewer slots are owned: the others stay as they are from here on -/
theorem RE.freezeX (r : RE K B own F ρ σ H) (sub : ∀ i ∈ own', i ∈ own) (hio : ∀ i ∈ io, i ∈ own') :
    RE K B own' (frzF own own' F ρ σ) ρ σ H ∧ Mono K F H (frzF own own' F ρ σ) H ∧ ∀ a, frzF own own' F ρ σ a → F a ∨ ∃ i ∈ own, σ[i]? = some (some (V.ref a)) ∧ i ∉ own' := by
  have hio' : ∀ p ∈ B.IO, p.1 ∈ own' := fun p hp => hio _ (by rw [← B.hio]; exact List.mem_map.mpr ⟨p, hp, rfl⟩)
  refine ⟨?_, ?_, ?_⟩
  · have mo : Mono K F H (frzF own own' F ρ σ) H := ⟨fun _ h => .inl h, fun _ _ _ h => h, fun _ _ h => h⟩
    refine ⟨r.len, fun i d hi e => ?_, fun i d hi e => ?_, fun i j d e hi hj => r.ne i j d e (sub i hi) (sub j hj), fun a h => ?_, r.old, fun a h => .inl (r.fold a h), fun a h => ?_, fun p hp => ⟨(r.io p hp).1, hio' p hp, (r.io p hp).2.2⟩, r.un⟩
    · by_cases ho : i ∈ own
      · obtain ⟨a, h1, h2, h3, h4⟩ := r.ow i d ho e
        exact ⟨_, h1, (h4.mono mo rfl).rp (.inr ⟨i, d, ho, hi, e, h1⟩)⟩
      · obtain ⟨v, h1, h2⟩ := r.fz i d ho e
        exact ⟨v, h1, h2.mono mo⟩
    · obtain ⟨a, h1, h2, h3, h4⟩ := r.ow i d (sub i hi) e
      refine ⟨a, h1, fun q => ?_, h3, h4.mono mo rfl⟩
      rcases q with q | ⟨j, d', hj, hj', e', q⟩
      · exact h2 q
      · exact r.ne i j d d' (sub i hi) hj (fun z => hj' (z ▸ hi)) e e' (h1.trans q.symm)
    · rcases h with h | ⟨j, d', hj, hj', e', q⟩
      · exact r.dom a h
      · obtain ⟨b, h1, h2, h3, h4⟩ := r.ow j d' hj e'
        rw [q] at h1; cases h1
        exact h4.there
    · rcases h with h | ⟨j, d', hj, hj', e', q⟩
      · exact r.fnew a h
      · obtain ⟨b, h1, h2, h3, h4⟩ := r.ow j d' hj e'
        rw [q] at h1; cases h1
        rcases h3 with h3 | h3
        · exact .inr h3
        · obtain ⟨p, hp, e2⟩ := List.mem_map.mp h3
          obtain ⟨q1, q2, d2, q3⟩ := r.io p hp
          refine absurd (q1.trans ?_) (r.ne p.1 j d2 d' q2 hj (fun z => hj' (z ▸ hio' p hp)) q3 e')
          rw [e2]; exact q.symm
  · exact ⟨fun _ h => .inl h, fun _ _ _ h => h, fun _ _ h => h⟩
  · intro a h
    rcases h with h | ⟨i, d, h1, h2, _, h4⟩
    · exact .inl h
    · exact .inr ⟨i, h1, h4, h2⟩
theorem RE.freeze' (r : RE K B own F ρ σ H) (sub : ∀ i ∈ own', i ∈ own) (hio : ∀ i ∈ io, i ∈ own') :
    ∃ F', RE K B own' F' ρ σ H ∧ Mono K F H F' H ∧ ∀ a, F' a → F a ∨ ∃ i ∈ own, σ[i]? = some (some (V.ref a)) ∧ i ∉ own' := ⟨_, r.freezeX sub hio⟩
/-- fewer slots are owned: the others stay as they are from here on -/
theorem RE.freeze (r : RE K B own F ρ σ H) (sub : ∀ i ∈ own', i ∈ own) (hio : ∀ i ∈ io, i ∈ own') :
    ∃ F', RE K B own' F' ρ σ H ∧ Mono K F H F' H := let ⟨F', r1, r2, _⟩ := r.freeze' sub hio; ⟨F', r1, r2⟩
theorem RE.unSet (r : RE K B own F ρ σ H) {i : Nat} {v : V} {d : PyData} : ∀ j : Nat, (ρ.set i (some d))[j]? = some none → (σ.set i (some v))[j]? = some none := fun j q => by
  by_cases hji : j = i
  · subst hji
    have hl : j < ρ.length := by
      have := (List.getElem?_eq_some_iff.mp q).1
      simpa using this
    rw [List.getElem?_set_self hl] at q; cases q
  · rw [List.getElem?_set_ne (Ne.symm hji)] at q ⊢
    exact r.un j q
theorem RE.unSet' (r : RE K B own F ρ σ H) {i : Nat} {d : PyData} : ∀ j : Nat, (ρ.set i (some d))[j]? = some none → σ[j]? = some none := fun j q => by
  by_cases hji : j = i
  · subst hji
    have hl : j < ρ.length := by
      have := (List.getElem?_eq_some_iff.mp q).1
      simpa using this
    rw [List.getElem?_set_self hl] at q; cases q
  · rw [List.getElem?_set_ne (Ne.symm hji)] at q
    exact r.un j q
/-- a slot that stays is set -/
theorem RE.set (r : RE K B own F ρ σ H) {i : Nat} {v : V} {d : PyData} (rp : Rp K F H v d) (ho : i ∉ io) : RE K B (own.filter (· ≠ i)) F (ρ.set i (some d)) (σ.set i (some v)) H := by
  have ni : ∀ {j}, j ∈ own.filter (· ≠ i) → j ≠ i ∧ j ∈ own := fun {j} h => by
    have := List.mem_filter.mp h
    exact ⟨by simpa using this.2, this.1⟩
  have gne : ∀ {j}, j ≠ i → (ρ.set i (some d))[j]? = ρ[j]? := fun {j} h => List.getElem?_set_ne (Ne.symm h)
  have sne : ∀ {j}, j ≠ i → (σ.set i (some v))[j]? = σ[j]? := fun {j} h => List.getElem?_set_ne (Ne.symm h)
  refine ⟨by simp [r.len], fun j e hj q => ?_, fun j e hj q => ?_, fun j k e f hj hk hn q1 q2 => ?_, r.dom, r.old, r.fold, r.fnew, fun p hp => ?_, r.unSet⟩
  · by_cases hji : j = i
    · subst hji
      have hl : j < ρ.length := by
        have := (List.getElem?_eq_some_iff.mp q).1
        simpa using this
      rw [List.getElem?_set_self hl] at q
      cases q
      exact ⟨v, by rw [List.getElem?_set_self (by rw [← r.len]; exact hl)], rp⟩
    · rw [gne hji] at q
      rw [sne hji]
      exact r.fz j e (fun z => hj (List.mem_filter.mpr ⟨z, by simpa using hji⟩)) q
  · obtain ⟨hji, hj⟩ := ni hj
    rw [gne hji] at q
    rw [sne hji]
    exact r.ow j e hj q
  · obtain ⟨hji, hj⟩ := ni hj
    obtain ⟨hki, hk⟩ := ni hk
    rw [gne hji] at q1
    rw [gne hki] at q2
    rw [sne hji, sne hki]
    exact r.ne j k e f hj hk hn q1 q2
  · have hpi : p.1 ≠ i := fun z => ho (by rw [← B.hio, ← z]; exact List.mem_map.mpr ⟨p, hp, rfl⟩)
    obtain ⟨h1, h2, e, h3⟩ := r.io p hp
    exact ⟨by rw [sne hpi]; exact h1, List.mem_filter.mpr ⟨h2, by simpa using hpi⟩, e, by rw [gne hpi]; exact h3⟩
/-- a slot that is owned is set: a new object -/
theorem RE.setO (r : RE K B own F ρ σ H) {i : Nat} {a : Addr} {d : PyData} (hF : ¬ F a) (h0 : B.H0 a = none) (hv : OwnV K F H a d) (hn : ∀ j ∈ own, ∀ e, ρ[j]? = some (some e) → σ[j]? ≠ some (some (V.ref a))) (ho : i ∉ io) :
    RE K B (i :: own) F (ρ.set i (some d)) (σ.set i (some (V.ref a))) H := by
  have gne : ∀ {j}, j ≠ i → (ρ.set i (some d))[j]? = ρ[j]? := fun {j} h => List.getElem?_set_ne (Ne.symm h)
  have sne : ∀ {j}, j ≠ i → (σ.set i (some (V.ref a)))[j]? = σ[j]? := fun {j} h => List.getElem?_set_ne (Ne.symm h)
  have sat : ∀ {e}, (ρ.set i (some d))[i]? = some (some e) → (σ.set i (some (V.ref a)))[i]? = some (some (V.ref a)) ∧ e = d := fun {e} q => by
    have hl : i < ρ.length := by
      have := (List.getElem?_eq_some_iff.mp q).1
      simpa using this
    rw [List.getElem?_set_self hl] at q
    cases q
    exact ⟨by rw [List.getElem?_set_self (by rw [← r.len]; exact hl)], rfl⟩
  refine ⟨by simp [r.len], fun j e hj q => ?_, fun j e hj q => ?_, fun j k e f hj hk hne q1 q2 => ?_, r.dom, r.old, r.fold, r.fnew, fun p hp => ?_, r.unSet⟩
  · have hji : j ≠ i := fun z => hj (z ▸ List.mem_cons_self)
    rw [gne hji] at q
    rw [sne hji]
    exact r.fz j e (fun z => hj (List.mem_cons_of_mem _ z)) q
  · by_cases hji : j = i
    · subst hji
      obtain ⟨h1, rfl⟩ := sat q
      exact ⟨a, h1, hF, .inl h0, hv⟩
    · rw [gne hji] at q
      rw [sne hji]
      exact r.ow j e ((List.mem_cons.mp hj).resolve_left hji) q
  · by_cases hji : j = i
    · have hki : k ≠ i := fun z => hne (hji.trans z.symm)
      subst hji
      obtain ⟨h1, _⟩ := sat q1
      rw [h1, sne hki]
      rw [gne hki] at q2
      exact fun z => hn k ((List.mem_cons.mp hk).resolve_left hki) f q2 z.symm
    · by_cases hki : k = i
      · subst hki
        obtain ⟨h1, _⟩ := sat q2
        rw [h1, sne hji]
        rw [gne hji] at q1
        exact hn j ((List.mem_cons.mp hj).resolve_left hji) e q1
      · rw [gne hji] at q1
        rw [gne hki] at q2
        rw [sne hji, sne hki]
        exact r.ne j k e f ((List.mem_cons.mp hj).resolve_left hji) ((List.mem_cons.mp hk).resolve_left hki) hne q1 q2
  · have hpi : p.1 ≠ i := fun z => ho (by rw [← B.hio, ← z]; exact List.mem_map.mpr ⟨p, hp, rfl⟩)
    obtain ⟨h1, h2, e, h3⟩ := r.io p hp
    exact ⟨by rw [sne hpi]; exact h1, List.mem_cons_of_mem _ h2, e, by rw [gne hpi]; exact h3⟩
/-- a slot is forgotten -/
theorem RE.forget (r : RE K B own F ρ σ H) {i : Nat} (ho : i ∉ io) : RE K B own F (ρ.set i none) (σ.set i none) H := by
  have gne : ∀ {j d}, (ρ.set i none)[j]? = some (some d) → j ≠ i ∧ ρ[j]? = some (some d) := fun {j d} h => by
    by_cases e : j = i
    · subst e
      have hl : j < ρ.length := by
        have := (List.getElem?_eq_some_iff.mp h).1
        simpa using this
      rw [List.getElem?_set_self hl] at h; cases h
    · rw [List.getElem?_set_ne (Ne.symm e)] at h; exact ⟨e, h⟩
  have sne : ∀ {j}, j ≠ i → (σ.set i none)[j]? = σ[j]? := fun {j} h => List.getElem?_set_ne (Ne.symm h)
  refine ⟨by simp [r.len], fun j e hj q => ?_, fun j e hj q => ?_, fun j k e f hj hk hn q1 q2 => ?_, r.dom, r.old, r.fold, r.fnew, fun p hp => ?_, fun j q => ?_⟩
  · obtain ⟨h1, h2⟩ := gne q
    rw [sne h1]; exact r.fz j e hj h2
  · obtain ⟨h1, h2⟩ := gne q
    rw [sne h1]; exact r.ow j e hj h2
  · obtain ⟨h1, h2⟩ := gne q1
    obtain ⟨h3, h4⟩ := gne q2
    rw [sne h1, sne h3]; exact r.ne j k e f hj hk hn h2 h4
  · have hpi : p.1 ≠ i := fun z => ho (by rw [← B.hio, ← z]; exact List.mem_map.mpr ⟨p, hp, rfl⟩)
    obtain ⟨h1, h2, e, h3⟩ := r.io p hp
    exact ⟨by rw [sne hpi]; exact h1, h2, e, by rw [List.getElem?_set_ne (Ne.symm hpi)]; exact h3⟩
  · by_cases e : j = i
    · subst e
      have hl : j < ρ.length := by
        have := (List.getElem?_eq_some_iff.mp q).1
        simpa using this
      rw [List.getElem?_set_self (by rw [← r.len]; exact hl)]
    · rw [sne e]
      rw [List.getElem?_set_ne (Ne.symm e)] at q
      exact r.un j q
/-- what an owned slot holds is changed -/
theorem RE.write (r : RE K B own F ρ σ H) {i : Nat} {a : Addr} {d d' : PyData} {o : HO} (hi : i ∈ own) (e : ρ[i]? = some (some d)) (ea : σ[i]? = some (some (V.ref a)))
    (nt : ∀ xs, o ≠ .tup xs) (hv : OwnV K F (upd H a o) a d') : RE K B own F (ρ.set i (some d')) σ (upd H a o) ∧ Mn K F H F (upd H a o) := by
  obtain ⟨b, h1, hF, h0, h4⟩ := r.ow i d hi e
  rw [ea] at h1; cases h1
  have nT : ∀ xs, ¬ Rd H a (.tup xs) := fun xs z => by
    cases h4 with
    | lst h _ => rcases z with z | ⟨_, z⟩ <;> (rw [h] at z; cases z)
    | dK h _ => rcases z with z | ⟨_, z⟩ <;> (rw [h] at z; cases z)
    | dT h _ => rcases z with z | ⟨_, z⟩ <;> (rw [h] at z; cases z)
  have rdne : ∀ {c u}, c ≠ a → Rd H c u → Rd (upd H a o) c u := fun {c u} hc h => by
    rcases h with h | ⟨q, h⟩
    · exact .inl (by rw [upd_ne hc]; exact h)
    · exact .inr ⟨q, by rw [upd_ne hc]; exact h⟩
  have mo : Mono K F H F (upd H a o) := ⟨fun _ h => h, fun c u hc h => (upd_ne (fun z => hF (z ▸ hc : F _))).trans h, fun c xs h => (upd_ne (fun z => by subst z; exact nT xs (.inl h))).trans h⟩
  refine ⟨⟨by simp [r.len], fun j f hj q => ?_, fun j f hj q => ?_, fun j k f g hj hk hne q1 q2 => ?_, fun c hc => ?_, fun c u h hA => ?_, r.fold, r.fnew, fun p hp => ?_, r.unSet'⟩, mo, fun _ h => .inl h, fun c hc => ?_⟩
  · have hji : j ≠ i := fun z => hj (z ▸ hi)
    rw [List.getElem?_set_ne (Ne.symm hji)] at q
    obtain ⟨v, h1, h2⟩ := r.fz j f hj q
    exact ⟨v, h1, h2.mono mo⟩
  · by_cases hji : j = i
    · subst hji
      have hl : j < ρ.length := (List.getElem?_eq_some_iff.mp e).1
      rw [List.getElem?_set_self hl] at q
      cases q
      exact ⟨a, ea, hF, h0, hv⟩
    · rw [List.getElem?_set_ne (Ne.symm hji)] at q
      obtain ⟨c, h1, h2, h3, h5⟩ := r.ow j f hj q
      have hca : c ≠ a := fun z => r.ne j i f d hj hi hji q e (by rw [h1, ea, z])
      exact ⟨c, h1, h2, h3, h5.mono mo (upd_ne hca)⟩
  · have lift : ∀ {j f}, (ρ.set i (some d'))[j]? = some (some f) → ∃ f', ρ[j]? = some (some f') := fun {j f} q => by
      by_cases hji : j = i
      · subst hji; exact ⟨d, e⟩
      · rw [List.getElem?_set_ne (Ne.symm hji)] at q; exact ⟨f, q⟩
    obtain ⟨f', q1'⟩ := lift q1
    obtain ⟨g', q2'⟩ := lift q2
    exact r.ne j k f' g' hj hk hne q1' q2'
  · by_cases hca : c = a
    · subst hca; rw [upd_same]; simp
    · rw [upd_ne hca]; exact r.dom c hc
  · have hca : c ≠ a := fun z => by
      subst z
      rcases h0 with h0 | h0
      · rw [h0] at h; cases h
      · exact hA h0
    rw [upd_ne hca]; exact r.old c u h hA
  · obtain ⟨h1, h2, f, h3⟩ := r.io p hp
    refine ⟨h1, h2, ?_⟩
    by_cases hpi : p.1 = i
    · rw [hpi]
      exact ⟨d', by rw [List.getElem?_set_self (List.getElem?_eq_some_iff.mp e).1]⟩
    · exact ⟨f, by rw [List.getElem?_set_ne (Ne.symm hpi)]; exact h3⟩
  · by_cases hca : c = a
    · subst hca; rw [upd_same]; simp
    · rw [upd_ne hca]; exact hc
/-- what stays where an owned object is changed -/
theorem RE.updOwn (r : RE K B own F ρ σ H) {i : Nat} {a : Addr} {d d' : PyData} {o : HO} (hi : i ∈ own) (e : ρ[i]? = some (some d)) (ea : σ[i]? = some (some (V.ref a))) (nt : ∀ xs, o ≠ .tup xs) (hd : d' = d') : True ∧ Mn K F H F (upd H a o) := by
  obtain ⟨b, h1, hF, h0, h4⟩ := r.ow i d hi e
  rw [ea] at h1; cases h1
  have nT : ∀ xs, ¬ Rd H a (.tup xs) := fun xs z => by
    cases h4 with
    | lst h _ => rcases z with z | ⟨_, z⟩ <;> (rw [h] at z; cases z)
    | dK h _ => rcases z with z | ⟨_, z⟩ <;> (rw [h] at z; cases z)
    | dT h _ => rcases z with z | ⟨_, z⟩ <;> (rw [h] at z; cases z)
  have rdne : ∀ {c u}, c ≠ a → Rd H c u → Rd (upd H a o) c u := fun {c u} hc h => by
    rcases h with h | ⟨q, h⟩
    · exact .inl (by rw [upd_ne hc]; exact h)
    · exact .inr ⟨q, by rw [upd_ne hc]; exact h⟩
  refine ⟨trivial, ⟨fun _ h => h, fun c u hc h => (upd_ne (fun z => hF (z ▸ hc : F _))).trans h, fun c xs h => (upd_ne (fun z => by subst z; exact nT xs (.inl h))).trans h⟩, fun _ h => .inl h, fun c hc => ?_⟩
  · by_cases hca : c = a
    · subst hca; rw [upd_same]; simp
    · rw [upd_ne hca]; exact hc
/-- an object that no slot holds is changed -/
theorem RE.updFree (r : RE K B own F ρ σ H) {p : Addr} {o o' : HO} (hF : ¬ F p) (h0 : B.H0 p = none) (hn : ∀ j ∈ own, σ[j]? ≠ some (some (V.ref p))) (hp : H p = some o) (nt : ∀ xs, o ≠ .tup xs ∧ ∀ q, o ≠ .frz q (.tup xs)) :
    RE K B own F ρ σ (upd H p o') ∧ Mn K F H F (upd H p o') := by
  have rdne : ∀ {c u}, c ≠ p → Rd H c u → Rd (upd H p o') c u := fun {c u} hc h => by
    rcases h with h | ⟨q, h⟩
    · exact .inl (by rw [upd_ne hc]; exact h)
    · exact .inr ⟨q, by rw [upd_ne hc]; exact h⟩
  have ke : ∀ c, H c ≠ none → upd H p o' c ≠ none := fun c hc => by
    by_cases hca : c = p
    · subst hca; rw [upd_same]; simp
    · rw [upd_ne hca]; exact hc
  have mo : Mono K F H F (upd H p o') := ⟨fun _ h => h, fun c u hc h => (upd_ne (fun z => hF (z ▸ hc : F _))).trans h, fun c xs h => (upd_ne (fun z => by subst z; rw [hp] at h; exact (nt xs).1 (Option.some.inj h))).trans h⟩
  refine ⟨⟨r.len, fun j f hj q => ?_, fun j f hj q => ?_, r.ne, fun c hc => ke c (r.dom c hc), fun c u h hA => ?_, r.fold, r.fnew, r.io, r.un⟩, mo, fun _ h => .inl h, ke⟩
  · obtain ⟨v, h1, h2⟩ := r.fz j f hj q
    exact ⟨v, h1, h2.mono mo⟩
  · obtain ⟨c, h1, h2, h3, h5⟩ := r.ow j f hj q
    exact ⟨c, h1, h2, h3, h5.mono mo (upd_ne (fun z => hn j hj (z ▸ h1)))⟩
  · have hca : c ≠ p := fun z => by subst z; rw [h0] at h; cases h
    rw [upd_ne hca]; exact r.old c u h hA

end

/-! ### what is wanted of a run -/
/-- an exception's data: the class by its name, its one field -/
def XD (K : PySem.W.Frag) (mg : Str → Option Value) (F : Addr → Prop) (H : Hp) (c : Str) (x : Option PyData) (cls : Value) (dx : Option Addr) : Prop :=
  cls = .ref (He.ga K c) ∧ match x with
    | none => dx = none
    | some d => ∃ (dd : Addr) (v : V), dx = some dd ∧ F dd ∧ H dd = some (HO.xd [(fldN c, v)]) ∧ Rp K F H v d
def ExcW (K : PySem.W.Frag) {io : List Nat} (B : Bs io) (F : Addr → Prop) (H : Hp) (c : Str) (x : Option PyData) : Prop :=
  ∀ cls dx ρ' σ' H' F', RE K B io F' ρ' σ' H' → Mono K F H F' H' → XD K B.mg F' H' c x cls dx → B.W cls dx σ' H'
structure KF (K : PySem.W.Frag) (α : Type) where
  k : (Addr → Prop) → Hp → α → Prop
  mo : ∀ {F H F' H' a}, Mn K F H F' H' → k F H a → k F' H' a
def Wa {K : PySem.W.Frag} {io : List Nat} (B : Bs io) {α : Type} (κ : KF K α) (F : Addr → Prop) (H : Hp) : Rs α → Prop
  | .ok a => κ.k F H a
  | .exc c x => ExcW K B F H c x
  | .bad => False
section
variable {K : PySem.W.Frag} {io : List Nat} {B : Bs io} {α β : Type} {κ : KF K α} {F F' : Addr → Prop} {H H' : Hp}
theorem ExcW.mono {c : Str} {x : Option PyData} (w : ExcW K B F H c x) (m : Mono K F H F' H') : ExcW K B F' H' c x := fun cls dx ρ' σ' H'' F'' re mo q => w cls dx ρ' σ' H'' F'' re (m.trans mo) q
theorem Wa.mono {r : Rs α} (w : Wa B κ F H r) (m : Mn K F H F' H') : Wa B κ F' H' r := by
  cases r with
  | ok a => exact κ.mo m w
  | exc c x => exact ExcW.mono w m.toMono
  | bad => exact w
theorem Wa.bind {x : Rs β} {f : β → Rs α} {κ' : KF K β} (w : Wa B κ F H (x.bind f)) (h : ∀ b, Wa B κ F H (f b) → κ'.k F H b) : Wa B κ' F H x := by
  cases x with
  | ok b => exact h b w
  | exc c x => exact w
  | bad => exact w
theorem Wa.opt {x : Option β} {f : β → Rs α} (w : Wa B κ F H (Rs.opt x f)) : ∃ b, x = some b ∧ Wa B κ F H (f b) := by
  cases x with
  | some b => exact ⟨b, rfl, w⟩
  | none => exact w.elim
variable {own : List Nat} {σ : Sl}
def kE (B : Bs io) (own : List Nat) (σ : Sl) (Q : VK) : KF K (Ev × PyData) :=
  ⟨fun F H x => ∀ v H' F', RE K B own F' x.1 σ H' → Mn K F H F' H' → Rp K F' H' v x.2 → Q v H', fun m h v H' F' re mo rp => h v H' F' re (m.trans mo) rp⟩
def kT (B : Bs io) (own : List Nat) (σ : Sl) (Q : Bool → Hp → Prop) : KF K (Ev × Bool) :=
  ⟨fun F H x => ∀ H' F', RE K B own F' x.1 σ H' → Mn K F H F' H' → Q x.2 H', fun m h H' F' re mo => h H' F' re (m.trans mo)⟩
def kA (B : Bs io) (own : List Nat) (σ : Sl) (Q : List V → Hp → Prop) : KF K (Ev × List PyData) :=
  ⟨fun F H x => ∀ vs H' F', RE K B own F' x.1 σ H' → Mn K F H F' H' → Rps K F' H' vs x.2 → Q vs H', fun m h v H' F' re mo rp => h v H' F' re (m.trans mo) rp⟩
theorem thE {x : Rs (Ev × PyData)} {f : Ev × PyData → Rs α} {R : VK} (w : Wa B κ F H (x.bind f))
    (h : ∀ ρ1 d1 v1 H1 F1, RE K B own F1 ρ1 σ H1 → Mn K F H F1 H1 → Rp K F1 H1 v1 d1 → Wa B κ F1 H1 (f (ρ1, d1)) → R v1 H1) : Wa B (kE (K := K) B own σ R) F H x :=
  w.bind fun b wb v H' F' re mo rp => h b.1 b.2 v H' F' re mo rp (wb.mono mo)
theorem thT {x : Rs (Ev × Bool)} {f : Ev × Bool → Rs α} {R : Bool → Hp → Prop} (w : Wa B κ F H (x.bind f))
    (h : ∀ ρ1 b1 H1 F1, RE K B own F1 ρ1 σ H1 → Mn K F H F1 H1 → Wa B κ F1 H1 (f (ρ1, b1)) → R b1 H1) : Wa B (kT (K := K) B own σ R) F H x :=
  w.bind fun b wb H' F' re mo => h b.1 b.2 H' F' re mo (wb.mono mo)
theorem thA {x : Rs (Ev × List PyData)} {f : Ev × List PyData → Rs α} {R : List V → Hp → Prop} (w : Wa B κ F H (x.bind f))
    (h : ∀ ρ1 ds v1 H1 F1, RE K B own F1 ρ1 σ H1 → Mn K F H F1 H1 → Rps K F1 H1 v1 ds → Wa B κ F1 H1 (f (ρ1, ds)) → R v1 H1) : Wa B (kA (K := K) B own σ R) F H x :=
  w.bind fun b wb v H' F' re mo rp => h b.1 b.2 v H' F' re mo rp (wb.mono mo)
end
end Kd

end T_KD1
section T_KD2
set_option maxRecDepth 100000
/-! KD2: the readings, and a rule for each form of expression. -/
namespace Kd
open PySem PySem.Spec PyProof.Rows L2

/-- an expression does what m does -/
def tD (K : PySem.W.Frag) {io : List Nat} (B : Bs io) (own : List Nat) (m : EM) : TE := fun σ H Q => ∃ ρ F, RE K B own F ρ σ H ∧ Wa B (kE (K := K) B own σ Q) F H (m ρ)
def tDT (K : PySem.W.Frag) {io : List Nat} (B : Bs io) (own : List Nat) (m : TM) : TT := fun σ H Q => ∃ ρ F, RE K B own F ρ σ H ∧ Wa B (kT (K := K) B own σ Q) F H (m ρ)
abbrev De (X : Cx) {io : List Nat} (B : Bs io) (own : List Nat) (e : Expr) (m : EM) : Prop := PE X e (tD X.K B own m)
abbrev Dt (X : Cx) {io : List Nat} (B : Bs io) (own : List Nat) (e : Expr) (m : TM) : Prop := PT X e (tDT X.K B own m)
abbrev Dw (X : Cx) {io : List Nat} (B : Bs io) (own : List Nat) (e : Expr) (m : TM) : Prop := PW X e (tDT X.K B own m)

theorem pe_imp {X : Cx} {e : Expr} {t t' : TE} (h : PE X e t) (i : ∀ σ H Q, t' σ H Q → t σ H Q) : PE X e t' := ⟨fun pins s σ H Q I q => h.run pins s σ H Q I (i σ H Q q)⟩
theorem pt_imp {X : Cx} {e : Expr} {t t' : TT} (h : PT X e t) (i : ∀ σ H Q, t' σ H Q → t σ H Q) : PT X e t' := ⟨fun pins s σ H Q I q => h.run pins s σ H Q I (i σ H Q q)⟩
theorem pw_imp {X : Cx} {e : Expr} {t t' : TT} (h : PW X e t) (i : ∀ σ H Q, t' σ H Q → t σ H Q) : PW X e t' := ⟨fun w pins s σ H Q I q => h.run w pins s σ H Q I (i σ H Q q)⟩
theorem pa_imp {X : Cx} {es : List Expr} {t t' : TA} (h : PA X es t) (i : ∀ σ H Q, t' σ H Q → t σ H Q) : PA X es t' := ⟨fun p pins s σ H Q I q => h.run p pins s σ H Q I (i σ H Q q)⟩

/-! ### the combinators -/
def mV (i : Nat) : EM := fun ρ => Rs.opt (gt ρ i) fun d => .ok (ρ, d)
def mC (d : PyData) : EM := fun ρ => .ok (ρ, d)
def m1 (f : PyData → Option PyData) (a : EM) : EM := fun ρ => (a ρ).bind fun x => Rs.opt (f x.2) fun d => .ok (x.1, d)
def m2 (f : PyData → PyData → Option PyData) (a b : EM) : EM := fun ρ => (a ρ).bind fun x => (b x.1).bind fun y => Rs.opt (f x.2 y.2) fun d => .ok (y.1, d)
def asB : PyData → Option Bool
  | .bool b => some b
  | _ => none
def mAnd (a b : EM) : EM := fun ρ => (a ρ).bind fun x => Rs.opt (asB x.2) fun c => if c then b x.1 else .ok (x.1, .bool false)
def mOr (a b : EM) : EM := fun ρ => (a ρ).bind fun x => Rs.opt (asB x.2) fun c => if c then .ok (x.1, .bool true) else b x.1
def mNot (a : EM) : EM := fun ρ => (a ρ).bind fun x => Rs.opt (asB x.2) fun c => .ok (x.1, .bool (!c))
def mIf (t : TM) (a b : EM) : EM := fun ρ => (t ρ).bind fun x => if x.2 then a x.1 else b x.1
/-- a value's truth -/
def truD : PyData → Option Bool
  | .none => some false
  | .bool b => some b
  | .int i => some (i != 0)
  | .str x => iff' (decide (x.length ≤ sizeLine)) ((x.length : Int) != 0)
  | .list xs => some (!xs.isEmpty)
  | .tuple xs => some (!xs.isEmpty)
  | .dict _ => none
def tE (a : EM) : TM := fun ρ => (a ρ).bind fun x => Rs.opt (truD x.2) fun c => .ok (x.1, c)
def tB (a : EM) : TM := fun ρ => (a ρ).bind fun x => Rs.opt (asB x.2) fun c => .ok (x.1, c)
def tAnd (a b : TM) : TM := fun ρ => (a ρ).bind fun x => if x.2 then b x.1 else .ok (x.1, false)
def tOr (a b : TM) : TM := fun ρ => (a ρ).bind fun x => if x.2 then .ok (x.1, true) else b x.1
def tNot (a : TM) : TM := fun ρ => (a ρ).bind fun x => .ok (x.1, !x.2)
def mArgs : List EM → Ev → Rs (Ev × List PyData)
  | [], ρ => .ok (ρ, [])
  | m :: r, ρ => (m ρ).bind fun x => (mArgs r x.1).bind fun y => .ok (y.1, x.2 :: y.2)
def mN (f : List PyData → Option PyData) (as : List EM) : EM := fun ρ => (mArgs as ρ).bind fun x => Rs.opt (f x.2) fun d => .ok (x.1, d)
def fTup (xs : List PyData) : Option PyData := iff' (decide (xs.length ≤ sizeLine)) (.tuple xs)
def fLst (xs : List PyData) : Option PyData := iff' (decide (xs.length ≤ sizeLine)) (.list xs)

section
variable {X : Cx} {io : List Nat} {B : Bs io} {own : List Nat} {e a b c : Expr} {es rest : List Expr} {pos : Pos} {m ma mb : EM} {mt tm tn : TM}

/-! ### names, constants -/
theorem de_var (i : Nat) {x : Str} (ho : i ∉ own := by decide) (hN : X.N[i]? = some x := by rfl) (hv : Vis X.env.scope x := by first | exact Or.inl rfl | exact Or.inr (Or.inl rfl) | exact Or.inr (Or.inr rfl))
    (hd : (x == ("__debug__" : Str)) = false := by decide) (hcd : (x == ("__classdict__" : Str)) = false := by decide) : De X B own (.Name x pos) (mV i) := by
  refine pe_imp (pv i hN hv hd hcd) fun σ H Q ⟨ρ, F, r, w⟩ => ?_
  obtain ⟨d, h1, w⟩ := Wa.opt w
  obtain ⟨v, e1, rp⟩ := r.fz i d ho (gt_ok h1)
  exact ⟨v, e1, w v H F r Mn.refl rp⟩
/-- a written value -/
theorem de_c {v : V} {d : PyData} (h : PE X e (tC v)) (rp : ∀ F H, Rp X.K F H v d) : De X B own e (mC d) :=
  pe_imp h fun σ H Q ⟨ρ, F, r, w⟩ => w v H F r Mn.refl (rp F H)
theorem de_int {i : Int} {j : Nat} : De X B own (.Constant (.int i) j pos) (mC (.int i)) := de_c pe_int fun _ _ => .int i
theorem de_str {x : Str} {j : Nat} : De X B own (.Constant (.str x) j pos) (mC (.str x)) := de_c pe_str fun _ _ => .str x
theorem de_bl {x : Bool} {j : Nat} : De X B own (.Constant (.bool x) j pos) (mC (.bool x)) := de_c pe_bl fun _ _ => .bl x
theorem de_non {j : Nat} : De X B own (.Constant .none j pos) (mC .none) := de_c pe_non fun _ _ => .non

/-! ### operations by values -/
/-- r serves f -/
def OpD (K' : PySem.W.Frag) (r : R2) (f : PyData → PyData → Option PyData) : Prop := ∀ (F : Addr → Prop) (H : Hp) (x y : V) (d g z : PyData) (Q : VK), (∀ p, F p → H p ≠ none) → Rp K' F H x d → Rp K' F H y g → f d g = some z →
  (∀ v H' F', Grow F H F' H' → Rp K' F' H' v z → Q v H') → r x y H Q
def UnD (K' : PySem.W.Frag) (r : V → Hp → VK → Prop) (f : PyData → Option PyData) : Prop := ∀ (F : Addr → Prop) (H : Hp) (x : V) (d z : PyData) (Q : VK), (∀ p, F p → H p ≠ none) → Rp K' F H x d → f d = some z →
  (∀ v H' F', Grow F H F' H' → Rp K' F' H' v z → Q v H') → r x H Q
def FnD (K' : PySem.W.Frag) (r : List V → Hp → VK → Prop) (f : List PyData → Option PyData) : Prop := ∀ (F : Addr → Prop) (H : Hp) (xs : List V) (ds : List PyData) (z : PyData) (Q : VK), (∀ p, F p → H p ≠ none) → Rps K' F H xs ds → f ds = some z →
  (∀ v H' F', Grow F H F' H' → Rp K' F' H' v z → Q v H') → r xs H Q
theorem tD_op {r : R2} {f : PyData → PyData → Option PyData} (hf : OpD X.K r f) : ∀ σ H Q, tD X.K B own (m2 f ma mb) σ H Q → tOp r (tD X.K B own ma) (tD X.K B own mb) σ H Q := fun σ H Q ⟨ρ, F, re, w⟩ =>
  ⟨ρ, F, re, thE w fun ρ1 d1 v1 H1 F1 re1 mo1 rp1 w1 => ⟨ρ1, F1, re1, thE w1 fun ρ2 d2 v2 H2 F2 re2 mo2 rp2 w2 => by
    obtain ⟨z, hz, w3⟩ := Wa.opt w2
    exact hf F2 H2 v1 v2 d1 d2 z Q re2.dom (rp1.mono mo2.toMono) rp2 hz fun v H' F' g rp => w3 v H' F' (re2.grow g) g.mn rp⟩⟩
theorem de_op {op : Operator} {r : R2} {f : PyData → PyData → Option PyData} (ho : OpR X (binaryOp op) r) (hf : OpD X.K r f) (ha : De X B own a ma) (hb : De X B own b mb) : De X B own (.BinOp a op b pos) (m2 f ma mb) :=
  pe_imp (pe_op ho ha hb) (tD_op hf)
theorem de_cmp {op : CmpOp} {r : R2} {f : PyData → PyData → Option PyData} (ho : OpR X (compareOp op) r) (hf : OpD X.K r f) (ha : De X B own a ma) (hb : De X B own b mb)
    (hm : behindInMarks op b = false := by first | exact nomark _ | rfl) : De X B own (.Compare a [op] [b] pos) (m2 f ma mb) := pe_imp (pe_cmpR ho ha hb hm) (tD_op hf)
theorem de_ix {r : R2} {f : PyData → PyData → Option PyData} (ho : IxR X r) (hf : OpD X.K r f) (ha : De X B own a ma) (hb : De X B own b mb) (hs : PlainIx b := by exact fun _ _ => rfl) : De X B own (.Subscript a b pos) (m2 f ma mb) :=
  pe_imp (pe_ix ho ha hb hs) (tD_op hf)
theorem de_un {op : UnaryOp} {r : V → Hp → VK → Prop} {f : PyData → Option PyData} (ho : UnR X (unaryOp op) r) (hf : UnD X.K r f) (ha : De X B own a ma) : De X B own (.UnaryOp op a pos) (m1 f ma) :=
  pe_imp (pe_un ho ha) fun σ H Q ⟨ρ, F, re, w⟩ => ⟨ρ, F, re, thE w fun ρ1 d1 v1 H1 F1 re1 mo1 rp1 w1 => by
    obtain ⟨z, hz, w3⟩ := Wa.opt w1
    exact hf F1 H1 v1 d1 z Q re1.dom rp1 hz fun v H' F' g rp => w3 v H' F' (re1.grow g) g.mn rp⟩

/-! ### and, or, not, if -/
theorem asB_ok {d : PyData} {c : Bool} (h : asB d = some c) : d = .bool c := by
  cases d <;> first | (cases h; rfl) | cases h
theorem de_and (ha : De X B own a ma) (hb : De X B own (.BoolOp .And (b :: rest) pos) mb) : De X B own (.BoolOp .And (a :: b :: rest) pos) (mAnd ma mb) :=
  pe_imp (pe_and ha hb) fun σ H Q ⟨ρ, F, re, w⟩ => ⟨ρ, F, re, thE w fun ρ1 d1 v1 H1 F1 re1 mo1 rp1 w1 => by
    obtain ⟨c, hc, w2⟩ := Wa.opt w1
    obtain rfl := asB_ok hc
    cases rp1
    refine ⟨c, rfl, ?_⟩
    cases c with
    | true => exact ⟨ρ1, F1, re1, w2⟩
    | false => exact w2 _ H1 F1 re1 Mn.refl (.bl false)⟩
theorem de_or (ha : De X B own a ma) (hb : De X B own (.BoolOp .Or (b :: rest) pos) mb) : De X B own (.BoolOp .Or (a :: b :: rest) pos) (mOr ma mb) :=
  pe_imp (pe_or ha hb) fun σ H Q ⟨ρ, F, re, w⟩ => ⟨ρ, F, re, thE w fun ρ1 d1 v1 H1 F1 re1 mo1 rp1 w1 => by
    obtain ⟨c, hc, w2⟩ := Wa.opt w1
    obtain rfl := asB_ok hc
    cases rp1
    refine ⟨c, rfl, ?_⟩
    cases c with
    | false => exact ⟨ρ1, F1, re1, w2⟩
    | true => exact w2 _ H1 F1 re1 Mn.refl (.bl true)⟩
theorem de_one {op : BoolOp} (h : De X B own a m) : De X B own (.BoolOp op [a] pos) m := pe_one h
theorem de_not (ha : De X B own a ma) : De X B own (.UnaryOp .Not a pos) (mNot ma) :=
  pe_imp (pe_not ha) fun σ H Q ⟨ρ, F, re, w⟩ => ⟨ρ, F, re, thE w fun ρ1 d1 v1 H1 F1 re1 mo1 rp1 w1 => by
    obtain ⟨c, hc, w2⟩ := Wa.opt w1
    obtain rfl := asB_ok hc
    cases rp1
    exact ⟨c, rfl, w2 _ H1 F1 re1 Mn.refl (.bl _)⟩⟩
theorem de_if (hc : Dt X B own c mt) (ha : De X B own a ma) (hb : De X B own b mb) : De X B own (.IfExp c a b pos) (mIf mt ma mb) :=
  pe_imp (pe_ifExp hc ha hb) fun σ H Q ⟨ρ, F, re, w⟩ => ⟨ρ, F, re, thT w fun ρ1 c1 H1 F1 re1 mo1 w1 => by
    cases c1 with
    | true => exact ⟨ρ1, F1, re1, w1⟩
    | false => exact ⟨ρ1, F1, re1, w1⟩⟩

/-! ### tests -/
theorem dt_cmp {op : CmpOp} {r : R2} {f : PyData → PyData → Option PyData} (ho : OpR X (compareOp op) r) (hf : OpD X.K r f) (ha : De X B own a ma) (hb : De X B own b mb)
    (hm : behindInMarks op b = false := by first | exact nomark _ | rfl) : Dt X B own (.Compare a [op] [b] pos) (tB (m2 f ma mb)) :=
  pt_imp (pt_cmpR ho ha hb hm) fun σ H Q ⟨ρ, F, re, w⟩ => tD_op hf σ H _ ⟨ρ, F, re, thE w fun ρ1 d1 v1 H1 F1 re1 mo1 rp1 w1 => by
    obtain ⟨c, hc, w2⟩ := Wa.opt w1
    obtain rfl := asB_ok hc
    cases rp1
    exact ⟨_, rfl, w2 H1 F1 re1 Mn.refl⟩⟩
theorem tru_of {K' : PySem.W.Frag} {F : Addr → Prop} {H : Hp} {v : V} {d : PyData} {c : Bool} (rp : Rp K' F H v d) (h : truD d = some c) : TruV K' v H c := by
  cases rp with
  | non => cases h; rfl
  | bl b => cases h; rfl
  | int i => cases h; rfl
  | str x => obtain ⟨h1, h2⟩ := iff_some h; cases h2; exact ⟨of_decide_eq_true h1, rfl⟩
  | lst hl hs => cases h; exact .inl ⟨_, hl.sq, by cases hs <;> rfl⟩
  | tup hr hs => cases h; exact .inr (.inl ⟨_, SqT.of hr, by cases hs <;> rfl⟩)
  | dK _ _ _ => cases h
  | dT _ _ _ => cases h
  | exN _ _ => cases h
  | exS _ _ _ _ _ => cases h
/-- any other expression as a test -/
theorem dt_e (ha : De X B own a ma) (he : ∀ whole, isTrue a X.env whole = (do let v ← whole; standAt a.pos; holding [v] (truthy v)) := by intro _; rfl) : Dt X B own a (tE ma) :=
  pt_imp (pt_truth ha he) fun σ H Q ⟨ρ, F, re, w⟩ => ⟨ρ, F, re, thE w fun ρ1 d1 v1 H1 F1 re1 mo1 rp1 w1 => by
    obtain ⟨c, hc, w2⟩ := Wa.opt w1
    exact ⟨_, tru_of rp1 hc, w2 H1 F1 re1 Mn.refl⟩⟩
theorem dw_and1 (ha : Dt X B own a tm) : Dw X B own (.BoolOp .And [a] pos) tm := pw_and1 ha
theorem dw_or1 (ha : Dt X B own a tm) : Dw X B own (.BoolOp .Or [a] pos) tm := pw_or1 ha
theorem dw_and (ha : Dt X B own a tm) (hb : Dw X B own (.BoolOp .And (b :: rest) pos) tn) : Dw X B own (.BoolOp .And (a :: b :: rest) pos) (tAnd tm tn) :=
  pw_imp (pw_and ha hb) fun σ H Q ⟨ρ, F, re, w⟩ => ⟨ρ, F, re, thT w fun ρ1 c1 H1 F1 re1 mo1 w1 => by
    cases c1 with
    | true => exact ⟨ρ1, F1, re1, w1⟩
    | false => exact w1 H1 F1 re1 Mn.refl⟩
theorem dw_or (ha : Dt X B own a tm) (hb : Dw X B own (.BoolOp .Or (b :: rest) pos) tn) : Dw X B own (.BoolOp .Or (a :: b :: rest) pos) (tOr tm tn) :=
  pw_imp (pw_or ha hb) fun σ H Q ⟨ρ, F, re, w⟩ => ⟨ρ, F, re, thT w fun ρ1 c1 H1 F1 re1 mo1 w1 => by
    cases c1 with
    | false => exact ⟨ρ1, F1, re1, w1⟩
    | true => exact w1 H1 F1 re1 Mn.refl⟩
theorem dt_w (h : Dw X B own e tm) : Dt X B own e tm := h.pt
theorem dt_not (ha : Dt X B own a tm) : Dt X B own (.UnaryOp .Not a pos) (tNot tm) :=
  pt_imp (pt_not ha) fun σ H Q ⟨ρ, F, re, w⟩ => ⟨ρ, F, re, thT w fun ρ1 c1 H1 F1 re1 mo1 w1 => w1 H1 F1 re1 Mn.refl⟩

/-! ### arguments, displays, calls of built-ins -/
def tDA (K' : PySem.W.Frag) {io : List Nat} (B : Bs io) (own : List Nat) (ms : List EM) : TA := fun σ H Q => ∃ ρ F, RE K' B own F ρ σ H ∧ Wa B (kA (K := K') B own σ Q) F H (mArgs ms ρ)
abbrev Da (X : Cx) {io : List Nat} (B : Bs io) (own : List Nat) (es : List Expr) (ms : List EM) : Prop := PA X es (tDA X.K B own ms)
theorem da_nil : Da X B own [] [] := pa_imp pa_nil fun σ H Q ⟨ρ, F, re, w⟩ => w [] H F re Mn.refl .nil
theorem da_cons {ms : List EM} (ha : De X B own e m) (hr : Da X B own es ms) (hs : starEach (e :: es) X.env = (false, eval e X.env) :: starEach es X.env := by rfl) : Da X B own (e :: es) (m :: ms) :=
  pa_imp (pa_cons ha hr hs) fun σ H Q ⟨ρ, F, re, w⟩ => ⟨ρ, F, re, thE w fun ρ1 d1 v1 H1 F1 re1 mo1 rp1 w1 => ⟨ρ1, F1, re1, thA w1 fun ρ2 ds vs H2 F2 re2 mo2 rp2 w2 =>
    w2 _ H2 F2 re2 Mn.refl (.cons (rp1.mono mo2.toMono) rp2)⟩⟩
theorem de_tup {ms : List EM} {k : Nat} (h : Da X B own es ms) : De X B own (.Tuple es k pos) (mN fTup ms) :=
  pe_imp (pe_tup h) fun σ H Q ⟨ρ, F, re, w⟩ => ⟨ρ, F, re, thA w fun ρ1 ds vs H1 F1 re1 mo1 rps w1 => by
    obtain ⟨z, hz, w2⟩ := Wa.opt w1
    obtain ⟨h3, rfl⟩ := iff_some hz
    refine ⟨by rw [rps.length]; exact of_decide_eq_true h3, fun p np => ?_⟩
    have g : Grow F1 H1 F1 (upd H1 p (.tup vs)) := Grow.att re1.dom np
    exact w2 _ _ F1 (re1.grow g) g.mn (.tup upd_same (rps.mono g.mono))⟩
theorem de_lst {ms : List EM} (h : Da X B own es ms) : De X B own (.List es pos) (mN fLst ms) :=
  pe_imp (pe_lst h) fun σ H Q ⟨ρ, F, re, w⟩ => ⟨ρ, F, re, thA w fun ρ1 ds vs H1 F1 re1 mo1 rps w1 => by
    obtain ⟨z, hz, w2⟩ := Wa.opt w1
    obtain ⟨h3, rfl⟩ := iff_some hz
    refine ⟨by rw [rps.length]; exact of_decide_eq_true h3, fun p np => ?_⟩
    have g : Grow F1 H1 (fun a => F1 a ∨ a = p) (upd H1 p (.lst vs)) := Grow.atp re1.dom np
    exact w2 _ _ _ (re1.grow g) g.mn (.lst (.inl ⟨.inr rfl, .inl upd_same⟩) (rps.mono g.mono))⟩
theorem tD_cb {r : List V → Hp → VK → Prop} {f : List PyData → Option PyData} {ms : List EM} (hf : FnD X.K r f) : ∀ σ H Q, tD X.K B own (mN f ms) σ H Q → tCB r (tDA X.K B own ms) σ H Q := fun σ H Q ⟨ρ, F, re, w⟩ =>
  ⟨ρ, F, re, thA w fun ρ1 ds vs H1 F1 re1 mo1 rps w1 => by
    obtain ⟨z, hz, w2⟩ := Wa.opt w1
    exact hf F1 H1 vs ds z Q re1.dom rps hz fun v H' F' g rp => w2 v H' F' (re1.grow g) g.mn rp⟩
theorem de_callB {x : Str} {id : String} {p : Pos} {r : List V → Hp → VK → Prop} {f : List PyData → Option PyData} {ms : List EM} (hc : CallR X (.builtin id) r) (hf : FnD X.K r f) (hm : X.mg x = none) (ha : Da X B own (e :: es) ms) (hg : Gl X x := by rfl) (hv : bootBuiltins x = some (.builtin id) := by decide +kernel)
    (hn : x ≠ "__name__" := by decide) (hdb : (x == ("__debug__" : Str)) = false := by decide)
    (hs : starEach (e :: es) X.env = (false, eval e X.env) :: starEach es X.env := by rfl) (hpl : (backTo pos (starEach es X.env)).any (·.1) = false := by rfl) : De X B own (.Call (.Name x p) (e :: es) [] pos) (mN f ms) :=
  pe_imp (pe_callB hc hg hm hv ha hn hdb hs hpl) (tD_cb hf)
theorem de_callT {x : Str} {T : String} {p : Pos} {r : List V → Hp → VK → Prop} {f : List PyData → Option PyData} {ms : List EM} (hc : CallR X (.type T) r) (hf : FnD X.K r f) (hm : X.mg x = none) (ha : Da X B own (e :: es) ms) (hg : Gl X x := by rfl) (hv : bootBuiltins x = some (.type T) := by decide +kernel)
    (hn : x ≠ "__name__" := by decide) (hdb : (x == ("__debug__" : Str)) = false := by decide)
    (hs : starEach (e :: es) X.env = (false, eval e X.env) :: starEach es X.env := by rfl) (hpl : (backTo pos (starEach es X.env)).any (·.1) = false := by rfl) : De X B own (.Call (.Name x p) (e :: es) [] pos) (mN f ms) :=
  pe_imp (pe_callTy hc hg hm hv ha hn hdb hs hpl) (tD_cb hf)
end
end Kd

end T_KD2
section T_KD3
set_option maxRecDepth 100000
/-! KD3: statements, loops, comprehensions. -/
namespace Kd
open PySem PySem.Spec PyProof.Rows L2

/-! ### what a statement leads to -/
structure Ow where
  nx : List Nat
  bk : List Nat
  ct : List Nat
/-- what is handed back: a value, or a new object -/
def RetR (K : PySem.W.Frag) {io : List Nat} (B : Bs io) (F : Addr → Prop) (H : Hp) (v : V) (d : PyData) : Prop :=
  if B.fr then ∃ a, v = .ref a ∧ ¬ F a ∧ B.H0 a = none ∧ OwnV K F H a d else Rp K F H v d
def kS (K : PySem.W.Frag) {io : List Nat} (B : Bs io) (ow : Ow) (D : Ends) : KF K Fl where
  k := fun F H f => match f with
    | .nx ρ' => ∀ σ' H' F', RE K B ow.nx F' ρ' σ' H' → Mono K F H F' H' → D.nx σ' H'
    | .bk ρ' => ∀ σ' H' F', RE K B ow.bk F' ρ' σ' H' → Mono K F H F' H' → D.bk σ' H'
    | .ct ρ' => ∀ σ' H' F', RE K B ow.ct F' ρ' σ' H' → Mono K F H F' H' → D.ct σ' H'
    | .rt ρ' d => ∀ v σ' H' F', RE K B io F' ρ' σ' H' → Mono K F H F' H' → RetR K B F' H' v d → D.rt v H'
  mo := fun {F H F' H' f} m h => by
    cases f with
    | nx ρ => exact fun σ' H'' F'' re mo => h σ' H'' F'' re (m.toMono.trans mo)
    | bk ρ => exact fun σ' H'' F'' re mo => h σ' H'' F'' re (m.toMono.trans mo)
    | ct ρ => exact fun σ' H'' F'' re mo => h σ' H'' F'' re (m.toMono.trans mo)
    | rt ρ d => exact fun v σ' H'' F'' re mo rp => h v σ' H'' F'' re (m.toMono.trans mo) rp
abbrev WantS (K : PySem.W.Frag) {io : List Nat} (B : Bs io) (ow : Ow) (D : Ends) (F : Addr → Prop) (H : Hp) (r : Rs Fl) : Prop := Wa B (kS K B ow D) F H r
def tS (K : PySem.W.Frag) {io : List Nat} (B : Bs io) (pre : List Nat) (ow : Ow) (m : SM) : TS := fun D σ H => ∃ ρ F, RE K B pre F ρ σ H ∧ WantS K B ow D F H (m ρ)
abbrev Ds (X : Cx) {io : List Nat} (B : Bs io) (pre : List Nat) (ow : Ow) (st : Stmt) (m : SM) : Prop := PS X st (tS X.K B pre ow m)
abbrev Dss (X : Cx) {io : List Nat} (B : Bs io) (pre : List Nat) (ow : Ow) (st : List Stmt) (m : SM) : Prop := PSs X st (tS X.K B pre ow m)
theorem ps_imp {X : Cx} {s : Stmt} {t t' : TS} (h : PS X s t) (i : ∀ D σ H, t' D σ H → t D σ H) : PS X s t' := ⟨fun pins s σ H D I q => h.run pins s σ H D I (i D σ H q)⟩
theorem pss_imp {X : Cx} {s : List Stmt} {t t' : TS} (h : PSs X s t) (i : ∀ D σ H, t' D σ H → t D σ H) : PSs X s t' := ⟨fun pins s σ H D I q => h.run pins s σ H D I (i D σ H q)⟩

def sNx : SM := fun ρ => .ok (.nx ρ)
def sNo : SM := fun _ => .bad
def sBk : SM := fun ρ => .ok (.bk ρ)
def sCt : SM := fun ρ => .ok (.ct ρ)
def sSeq (a b : SM) : SM := fun ρ => (a ρ).bind fun f => match f with
  | .nx ρ' => b ρ'
  | f => .ok f
def sSet (i : Nat) (m : EM) : SM := fun ρ => (m ρ).bind fun x => .ok (.nx (x.1.set i (some x.2)))
def sE (m : EM) : SM := fun ρ => (m ρ).bind fun x => .ok (.nx x.1)
def sRt (m : EM) : SM := fun ρ => (m ρ).bind fun x => .ok (.rt x.1 x.2)
def sIf (t : TM) (a b : SM) : SM := fun ρ => (t ρ).bind fun x => if x.2 then a x.1 else b x.1
/-- stores -/
abbrev GM := PyData → Ev → Option Ev
def gN (i : Nat) : GM := fun d ρ => some (ρ.set i (some d))
def gAll : List GM → List PyData → Ev → Option Ev
  | [], [], ρ => some ρ
  | g :: gs, d :: ds, ρ => (g d ρ).bind fun ρ' => gAll gs ds ρ'
  | _, _, _ => none
def gT (gs : List GM) : GM := fun d ρ => match d with
  | .tuple ds => gAll gs ds ρ
  | _ => none
def sAs (g : GM) (m : EM) : SM := fun ρ => (m ρ).bind fun x => Rs.opt (g x.2 x.1) fun ρ' => .ok (.nx ρ')
abbrev IM := Ev → Rs (Ev × List PyData)
def forL (g : GM) (body : SM) : List PyData → Ev → Rs Fl
  | [], ρ => .ok (.nx ρ)
  | d :: ds, ρ => Rs.opt (g d ρ) fun ρ1 => (body ρ1).bind fun f => match f with
    | .nx ρ2 => forL g body ds ρ2
    | .ct ρ2 => forL g body ds ρ2
    | .bk ρ2 => .ok (.nx ρ2)
    | .rt ρ2 r => .ok (.rt ρ2 r)
def sFor (it : IM) (g : GM) (body : SM) : SM := fun ρ => (it ρ).bind fun x => forL g body x.2 x.1
def whL (t : TM) (body : SM) : Nat → Ev → Rs Fl
  | 0, _ => .bad
  | n + 1, ρ => (t ρ).bind fun x => if x.2 then (body x.1).bind fun f => match f with
      | .nx ρ2 => whL t body n ρ2
      | .ct ρ2 => whL t body n ρ2
      | .bk ρ2 => .ok (.nx ρ2)
      | .rt ρ2 r => .ok (.rt ρ2 r)
    else .ok (.nx x.1)
def sWh (fuel : Ev → Nat) (t : TM) (body : SM) : SM := fun ρ => whL t body (fuel ρ) ρ
def wipeE (ρ : Ev) : List Nat → Ev
  | [] => ρ
  | v :: vs => (wipeE ρ vs).set v none
def keepE (ρ1 : Ev) : List Nat → Ev → Ev
  | [], ρ => ρ
  | v :: vs, ρ => (keepE ρ1 vs ρ).set v ((ρ1[v]?).getD none)
def lcL (g : GM) (t : TM) (m : EM) (vs : List Nat) : List PyData → Ev → Rs (Ev × List PyData)
  | [], ρ => .ok (ρ, [])
  | d :: ds, ρ => Rs.opt (g d (wipeE ρ vs)) fun ρ1 => (t ρ1).bind fun x => if x.2 then (m x.1).bind fun y => (lcL g t m vs ds y.1).bind fun z => .ok (z.1, y.2 :: z.2)
    else lcL g t m vs ds x.1
def Rs.quiet {α : Type} : Rs α → Rs α
  | .ok a => .ok a
  | _ => .bad
theorem Rs.quiet_ok {α : Type} {x : Rs α} {a : α} (h : x.quiet = .ok a) : x = .ok a := by
  cases x with
  | ok b => exact h
  | exc c d => cases h
  | bad => cases h
/-- all these slots are set -/
def allSet (own : List Nat) (ρ : Ev) : Option Unit := iff' (own.all fun j => (gt ρ j).isSome) ()
def mLc (own : List Nat) (it : IM) (g : GM) (t : TM) (m : EM) (vs : List Nat) : EM := fun ρ => (it ρ).bind fun x => Rs.opt (allSet own x.1) fun _ => (lcL g t m vs x.2 x.1).quiet.bind fun y =>
  Rs.opt (fLst y.2) fun d => .ok (keepE x.1 vs y.1, d)
def tTrue : TM := fun ρ => .ok (ρ, true)

section
variable {K' : PySem.W.Frag} {io : List Nat} {B : Bs io} {ow ow' : Ow} {D : Ends} {F F' : Addr → Prop} {H H' : Hp} {r : Rs Fl}
theorem WantS.mono (w : WantS K' B ow D F H r) (m : Mono K' F H F' H') : WantS K' B ow D F' H' r := by
  cases r with
  | ok f => cases f with
    | nx ρ => exact fun σ' H'' F'' re mo => w σ' H'' F'' re (m.trans mo)
    | bk ρ => exact fun σ' H'' F'' re mo => w σ' H'' F'' re (m.trans mo)
    | ct ρ => exact fun σ' H'' F'' re mo => w σ' H'' F'' re (m.trans mo)
    | rt ρ d => exact fun v σ' H'' F'' re mo rp => w v σ' H'' F'' re (m.trans mo) rp
  | exc c x => exact ExcW.mono w m
  | bad => exact w
end

section
variable {X : Cx} {io : List Nat} {B : Bs io} {own pre pre' : List Nat} {ow ow' : Ow} {e a b c : Expr} {st : Stmt} {sts sa sb : List Stmt} {pos : Pos} {m ma mb : EM} {mt : TM} {s1 s2 : SM}

theorem ds_nil {bk ct : List Nat} : Dss X B own ⟨own, bk, ct⟩ [] sNx := pss_imp pss_nil fun D σ H ⟨ρ, F, re, w⟩ => w σ H F re Mono.refl
theorem ds_cons {mid : List Nat} (h1 : Ds X B pre ⟨mid, ow.bk, ow.ct⟩ st s1) (h2 : Dss X B mid ow sts s2) : Dss X B pre ow (st :: sts) (sSeq s1 s2) := by
  refine pss_imp (pss_cons h1 h2) fun D σ H ⟨ρ, F, re, w⟩ => ⟨ρ, F, re, ?_⟩
  unfold sSeq at w
  cases h : s1 ρ with
  | bad => rw [h] at w; exact w
  | exc c x => rw [h] at w; exact w
  | ok f =>
    rw [h] at w
    cases f with
    | nx ρ' => exact fun σ' H' F' re' mo => ⟨ρ', F', re', WantS.mono w mo⟩
    | bk ρ' => exact w
    | ct ρ' => exact w
    | rt ρ' d => exact w
theorem ds_one (h : Ds X B pre ow st s1) : Dss X B pre ow [st] s1 := pss_one h
/-- fewer slots owned ahead -/
theorem dss_frz (h : Dss X B pre' ow sts s1) (hs : ∀ i ∈ pre', i ∈ pre := by decide) (hio : ∀ i ∈ io, i ∈ pre' := by decide) : Dss X B pre ow sts s1 :=
  pss_imp h fun D σ H ⟨ρ, F, re, w⟩ => by
    obtain ⟨F', re', mo⟩ := re.freeze hs hio
    exact ⟨ρ, F', re', w.mono mo⟩
theorem ds_frz (h : Ds X B pre' ow st s1) (hs : ∀ i ∈ pre', i ∈ pre := by decide) (hio : ∀ i ∈ io, i ∈ pre' := by decide) : Ds X B pre ow st s1 :=
  ps_imp h fun D σ H ⟨ρ, F, re, w⟩ => by
    obtain ⟨F', re', mo⟩ := re.freeze hs hio
    exact ⟨ρ, F', re', w.mono mo⟩
theorem WantS.frzOut {K' : PySem.W.Frag} {D : Ends} {F : Addr → Prop} {H : Hp} {r : Rs Fl} {nx nx' bk ct : List Nat} (hn : ∀ i ∈ nx, i ∈ nx') (in1 : ∀ i ∈ io, i ∈ nx) (w : WantS K' B ⟨nx, bk, ct⟩ D F H r) : WantS K' B ⟨nx', bk, ct⟩ D F H r := by
  cases r with
  | bad => exact w
  | exc c x => exact w
  | ok f => cases f with
    | nx ρ => exact fun σ' H' F' re mo => let ⟨F2, re2, mo2⟩ := re.freeze hn in1; w σ' H' F2 re2 (mo.trans mo2)
    | _ => exact w
/-- fewer slots owned behind -/
theorem ds_out {nx bk ct : List Nat} (nx' : List Nat) (h : Ds X B pre ⟨nx', bk, ct⟩ st s1) (hn : ∀ i ∈ nx, i ∈ nx' := by decide) (in1 : ∀ i ∈ io, i ∈ nx := by decide) : Ds X B pre ⟨nx, bk, ct⟩ st s1 :=
  ps_imp h fun D σ H ⟨ρ, F, re, w⟩ => ⟨ρ, F, re, WantS.frzOut hn in1 w⟩
theorem ds_pass {bk ct : List Nat} : Ds X B own ⟨own, bk, ct⟩ (.Pass pos) sNx := ps_imp ps_pass fun D σ H ⟨ρ, F, re, w⟩ => w σ H F re Mono.refl
theorem ds_never : Ds X B own ow st sNo := ps_imp (t := tNever) ps_never fun D σ H ⟨ρ, F, re, w⟩ => w
theorem ds_break {nx ct : List Nat} : Ds X B own ⟨nx, own, ct⟩ (.Break pos) sBk := ps_imp ps_break fun D σ H ⟨ρ, F, re, w⟩ => w σ H F re Mono.refl
theorem ds_continue {nx bk : List Nat} : Ds X B own ⟨nx, bk, own⟩ (.Continue pos) sCt := ps_imp ps_continue fun D σ H ⟨ρ, F, re, w⟩ => w σ H F re Mono.refl

/-! ### stores -/
/-- a target takes what g says; ts: its slots -/
def tDG (K : PySem.W.Frag) {io : List Nat} (B : Bs io) (own own' : List Nat) (ts : List Nat) (g : GM) : TG := fun v σ H Q => ∃ ρ F d, RE K B own F ρ σ H ∧ Rp K F H v d ∧ ∃ ρ', g d ρ = some ρ' ∧
  ∀ σ' H' F', RE K B own' F' ρ' σ' H' → Mn K F H F' H' → σ'.length = σ.length → (∀ k : Nat, k ∉ ts → σ'[k]? = σ[k]?) → Q σ' H'
abbrev Dg (X : Cx) {io : List Nat} (B : Bs io) (own own' : List Nat) (ts : List Nat) (tg : Expr) (g : GM) : Prop := PG X tg (tDG X.K B own own' ts g)
def tDGs (K : PySem.W.Frag) {io : List Nat} (B : Bs io) (own own' : List Nat) (ts : List Nat) (gs : List GM) : TGs := fun vs σ H Q => ∃ ρ F ds, RE K B own F ρ σ H ∧ Rps K F H vs ds ∧ ∃ ρ', gAll gs ds ρ = some ρ' ∧
  ∀ σ' H' F', RE K B own' F' ρ' σ' H' → Mn K F H F' H' → σ'.length = σ.length → (∀ k : Nat, k ∉ ts → σ'[k]? = σ[k]?) → Q σ' H'
abbrev Dgs (X : Cx) {io : List Nat} (B : Bs io) (own own' : List Nat) (ts : List Nat) (tg : List Expr) (gs : List GM) : Prop := PGs X tg (tDGs X.K B own own' ts gs)
theorem pg_imp {e : Expr} {t t' : TG} (h : PG X e t) (i : ∀ v σ H Q, t' v σ H Q → t v σ H Q) : PG X e t' := ⟨fun pins s σ H v u Q I r q => h.run pins s σ H v u Q I r (i v σ H Q q)⟩
theorem pgs_imp {e : List Expr} {t t' : TGs} (h : PGs X e t) (i : ∀ v σ H Q, t' v σ H Q → t v σ H Q) : PGs X e t' := ⟨fun pins s σ H v u Q I r q => h.run pins s σ H v u Q I r (i v σ H Q q)⟩
theorem dg_name (i : Nat) {x : Str} (nd : X.N.Nodup) (hi : i ∉ io := by decide) (hN : X.N[i]? = some x := by rfl) (hx : Loc X.env.scope x := by first | exact Or.inl rfl | exact Or.inr rfl)
    (hf : X.fn x = true ∨ X.env.scope.names.lookup x = some .local := by first | exact .inl rfl | exact .inr rfl | assumption) : Dg X B own (own.filter (· ≠ i)) [i] (.Name x pos) (gN i) :=
  pg_imp (pg_name nd hN hx hf) fun v σ H Q ⟨ρ, F, d, re, rp, ρ', e, k⟩ => by
    cases e
    refine k _ H F (re.set rp hi) Mn.refl (by simp) fun j hj => ?_
    exact List.getElem?_set_ne (fun z => hj (by simp [z]))
theorem dgs_nil : Dgs X B own own [] [] [] := pgs_imp pgs_nil fun vs σ H Q ⟨ρ, F, ds, re, rp, ρ', e, k⟩ => by
  cases rp with
  | nil => cases e; exact ⟨rfl, k σ H F re Mn.refl rfl fun _ _ => rfl⟩
  | cons _ _ => cases e
theorem dgs_cons {mid own' ts us : List Nat} {g : GM} {gs : List GM} {es : List Expr} (h1 : Dg X B own mid ts e g) (h2 : Dgs X B mid own' us es gs) (hs : (assignEach (e :: es) X.env).map (·.2) = assign e X.env :: (assignEach es X.env).map (·.2) := by rfl) :
    Dgs X B own own' (ts ++ us) (e :: es) (g :: gs) := pgs_imp (pgs_cons h1 h2 hs) fun vs σ H Q ⟨ρ, F, ds, re, rp, ρ', q, k⟩ => by
  cases rp with
  | nil => cases q
  | cons r1 r2 =>
    obtain ⟨ρ1, e1, q⟩ := Option.bind_eq_some_iff.mp q
    refine ⟨_, _, rfl, ρ, F, _, re, r1, ρ1, e1, fun σ1 H1 F1 re1 mo1 l1 k1 => ⟨ρ1, F1, _, re1, r2.mono mo1.toMono, ρ', q, fun σ2 H2 F2 re2 mo2 l2 k2 => ?_⟩⟩
    refine k σ2 H2 F2 re2 (mo1.trans mo2) (l2.trans l1) fun j hj => ?_
    exact (k2 j fun z => hj (List.mem_append_right _ z)).trans (k1 j fun z => hj (List.mem_append_left _ z))
theorem dg_tup {own' ts : List Nat} {gs : List GM} {es : List Expr} {k0 n : Nat} (hc : X.calm = true) (h : Dgs X B own own' ts es gs) (hl : gs.length = n := by rfl) (hn : (assignEach es X.env).length = n := by rfl) (hst : (assignEach es X.env).findIdx? (·.1) = none := by rfl) :
    Dg X B own own' ts (.Tuple es k0 pos) (gT gs) := pg_imp (pg_tup hc h hn hst) fun v σ H Q ⟨ρ, F, d, re, rp, ρ', q, k⟩ => by
  cases rp with
  | tup hs hr =>
    refine ⟨_, _, rfl, SqT.of hs, ?_, ρ, F, _, re, hr, ρ', q, k⟩
    have len : ∀ (gs : List GM) (ds : List PyData) (ρ ρ' : Ev), gAll gs ds ρ = some ρ' → ds.length = gs.length := by
      intro gs
      induction gs with
      | nil => intro ds ρ ρ' h; cases ds with
        | nil => rfl
        | cons _ _ => cases h
      | cons g gs ih => intro ds ρ ρ' h; cases ds with
        | nil => cases h
        | cons d ds =>
          obtain ⟨ρ1, _, h⟩ := Option.bind_eq_some_iff.mp h
          simp [ih ds ρ1 ρ' h]
    rw [hr.length, len _ _ _ _ q, hl]
  | _ => cases q
theorem ds_as {own' ts bk ct : List Nat} {g : GM} {tg : Expr} (he : De X B own e m) (hg : Dg X B own own' ts tg g) (hs : swapsWithSole [tg] e pos.line X.env = pure false := by rfl) (hw : swappedStores [tg] e X.env = pure none := by rfl)
    (h1 : (assignEach [tg] X.env).map (·.2) = [assign tg X.env] := by rfl) : Ds X B own ⟨own', bk, ct⟩ (.Assign [tg] e pos) (sAs g m) :=
  ps_imp (ps_asg he hg hs hw h1) fun D σ H ⟨ρ, F, re, w⟩ => ⟨ρ, F, re, thE w fun ρ1 d1 v1 H1 F1 re1 mo1 rp1 w1 => by
    obtain ⟨ρ', q, w2⟩ := Wa.opt w1
    exact ⟨ρ1, F1, d1, re1, rp1, ρ', q, fun σ' H' F' re' mo' _ _ => w2 σ' H' F' re' mo'.toMono⟩⟩

/-! ### plain statements -/
theorem ds_set (i : Nat) {x : Str} {pos' : Pos} {bk ct : List Nat} (nd : X.N.Nodup) (he : De X B own e m) (ho : i ∉ io := by decide) (hi : X.N[i]? = some x := by rfl) (hx : Loc X.env.scope x := by first | exact Or.inl rfl | exact Or.inr rfl)
    (hs : swapsWith e (some (.Name x pos')) pos.line X.env = pure false := by rfl) (hf : X.fn x = true ∨ X.env.scope.names.lookup x = some .local := by first | exact .inl rfl | exact .inr rfl | assumption) :
    Ds X B own ⟨own.filter (· ≠ i), bk, ct⟩ (.Assign [.Name x pos'] e pos) (sSet i m) :=
  ps_imp (L2.ps_set nd hi hx he hs hf) fun D σ H ⟨ρ, F, re, w⟩ => ⟨ρ, F, re, thE w fun ρ1 d1 v1 H1 F1 re1 mo1 rp1 w1 => w1 _ H1 F1 (re1.set rp1 ho) Mono.refl⟩
theorem ds_e {bk ct : List Nat} (he : De X B own e m) (hs : swapsWith e none pos.line X.env = pure false := by rfl) : Ds X B own ⟨own, bk, ct⟩ (.Expr e pos) (sE m) :=
  ps_imp (ps_expr he hs) fun D σ H ⟨ρ, F, re, w⟩ => ⟨ρ, F, re, thE w fun ρ1 d1 v1 H1 F1 re1 mo1 rp1 w1 => w1 σ H1 F1 re1 Mono.refl⟩
theorem ds_ret (hfr : B.fr = false) (he : De X B own e m) (hio : ∀ i ∈ io, i ∈ own := by decide) : Ds X B own ow (.Return (some e) pos) (sRt m) :=
  ps_imp (ps_ret he) fun D σ H ⟨ρ, F, re, w⟩ => ⟨ρ, F, re, thE w fun ρ1 d1 v1 H1 F1 re1 mo1 rp1 w1 => by
    obtain ⟨F2, re2, mo2⟩ := re1.freeze hio (fun i h => h)
    refine w1 v1 σ H1 F2 re2 mo2 ?_
    unfold RetR
    rw [hfr]
    exact rp1.mono mo2⟩
theorem ds_if (hc : Dt X B own c mt) (ha : Dss X B own ow sa s1) (hb : Dss X B own ow sb s2) : Ds X B own ow (.If c sa sb pos) (sIf mt s1 s2) :=
  ps_imp (ps_if hc ha hb) fun D σ H ⟨ρ, F, re, w⟩ => ⟨ρ, F, re, thT w fun ρ1 c1 H1 F1 re1 mo1 w1 => by
    cases c1 with
    | true => exact ⟨ρ1, F1, re1, w1⟩
    | false => exact ⟨ρ1, F1, re1, w1⟩⟩

/-! ### what is walked -/
def kI (K : PySem.W.Frag) {io : List Nat} (B : Bs io) (own : List Nat) (σ : Sl) (R : It → Hp → Prop) : KF K (Ev × List PyData) where
  k := fun F H x => ∀ J H' F', RE K B own F' x.1 σ H' → Mn K F H F' H' → (∃ G Y, Walk J x.2.length G Y ∧ (∀ F2 H2, Mono K F' H' F2 H2 → G H2) ∧
    (∀ F2 i H2 v H3, Mono K F' H' F2 H2 → (∀ a, F2 a → H2 a ≠ none) → Y i H2 v H3 → ∃ d, x.2[i]? = some d ∧ Grow F2 H2 F2 H3 ∧ Rp K F2 H3 v d)) → R J H'
  mo := fun m h J H' F' re mo z => h J H' F' re (m.trans mo) z
def tDI (K : PySem.W.Frag) {io : List Nat} (B : Bs io) (own : List Nat) (m : IM) : TI := fun σ H R => ∃ ρ F, RE K B own F ρ σ H ∧ Wa B (kI K B own σ R) F H (m ρ)
abbrev Di (X : Cx) {io : List Nat} (B : Bs io) (own : List Nat) (tg e : Expr) (m : IM) : Prop := PI X tg e (tDI X.K B own m)
theorem pi_imp {e tg : Expr} {t t' : TI} (h : PI X tg e t) (i : ∀ σ H R, t' σ H R → t σ H R) : PI X tg e t' := ⟨fun pins s σ H R I q => h.run pins s σ H R I (i σ H R q)⟩
/-- the items of a list, of a tuple, of a range -/
def asL : PyData → Option (List PyData)
  | .list xs => some xs
  | _ => none
def asT : PyData → Option (List PyData)
  | .tuple xs => some xs
  | _ => none
def iOf (f : PyData → Option (List PyData)) (m : EM) : IM := fun ρ => (m ρ).bind fun x => Rs.opt (f x.2) fun ds => .ok (x.1, ds)
theorem di_list {tg : Expr} (he : De X B own e m) : Di X B own tg e (iOf asL m) :=
  pi_imp (pi_list he) fun σ H R ⟨ρ, F, re, w⟩ => ⟨ρ, F, re, thE w fun ρ1 d1 v1 H1 F1 re1 mo1 rp1 w1 => by
    obtain ⟨ds, hd, w2⟩ := Wa.opt w1
    cases rp1 with
    | lst hl hs =>
      cases hd
      rename_i a vs
      refine ⟨_, rfl, ⟨_, hl.sq⟩, w2 _ H1 F1 re1 Mn.refl ⟨fun H => SqL X.K H a vs, YAt vs, by have := walk_list (K := X.K) (a := a) (xs := vs); rw [hs.length] at this; exact this, fun F2 H2 mo => hl.imp (fun x => mo.rd _ _ x.1 x.2) id, fun F2 i H2 v H3 mo dom y => ?_⟩⟩
      obtain ⟨rfl, e⟩ := y
      obtain ⟨hl, _⟩ := List.getElem?_eq_some_iff.mp e
      rw [hs.length] at hl
      obtain ⟨v', e', rp'⟩ := hs.get (List.getElem?_eq_getElem hl)
      rw [e] at e'; cases e'
      exact ⟨_, List.getElem?_eq_getElem hl, Grow.refl dom, rp'.mono mo⟩
    | _ => cases hd⟩
theorem di_tup {tg : Expr} (he : De X B own e m) : Di X B own tg e (iOf asT m) :=
  pi_imp (pi_tup he) fun σ H R ⟨ρ, F, re, w⟩ => ⟨ρ, F, re, thE w fun ρ1 d1 v1 H1 F1 re1 mo1 rp1 w1 => by
    obtain ⟨ds, hd, w2⟩ := Wa.opt w1
    cases rp1 with
    | tup hr hs =>
      cases hd
      rename_i a vs
      refine ⟨_, rfl, ⟨_, SqT.of hr⟩, w2 _ H1 F1 re1 Mn.refl ⟨fun H => SqT X.K H a vs, YAt vs, by have := walk_tup (K := X.K) (a := a) (xs := vs); rw [hs.length] at this; exact this, fun F2 H2 mo => SqT.of (mo.tup _ _ hr), fun F2 i H2 v H3 mo dom y => ?_⟩⟩
      obtain ⟨rfl, e⟩ := y
      obtain ⟨hl, _⟩ := List.getElem?_eq_some_iff.mp e
      rw [hs.length] at hl
      obtain ⟨v', e', rp'⟩ := hs.get (List.getElem?_eq_getElem hl)
      rw [e] at e'; cases e'
      exact ⟨_, List.getElem?_eq_getElem hl, Grow.refl dom, rp'.mono mo⟩
    | _ => cases hd⟩
/-- the numbers from lo on -/
def numL (lo : Int) (n : Nat) : List PyData := (List.range n).map fun i : Nat => .int (lo + i)
def rng1 : List PyData → Option (List PyData)
  | [.int j] => iff' (decide (-(2 ^ 62) ≤ j ∧ j < 2 ^ 62)) (numL 0 j.toNat)
  | _ => none
def rng2 : List PyData → Option (List PyData)
  | [.int i, .int j] => iff' (decide (-(2 ^ 62) ≤ i ∧ i < 2 ^ 62 ∧ -(2 ^ 62) ≤ j ∧ j < 2 ^ 62)) (numL i (j - i).toNat)
  | _ => none
def iNg (f : List PyData → Option (List PyData)) (ms : List EM) : IM := fun ρ => (mArgs ms ρ).bind fun x => Rs.opt (f x.2) fun ds => .ok (x.1, ds)
theorem numL_len (lo : Int) (n : Nat) : (numL lo n).length = n := by unfold numL; simp
theorem walk_numL {K : PySem.W.Frag} {F : Addr → Prop} {H : Hp} (lo : Int) (n : Nat) : ∃ G Y, Walk (Itr lo n) (numL lo n).length G Y ∧ (∀ F2 H2, Mono K F H F2 H2 → G H2) ∧
    (∀ F2 i H2 v H3, Mono K F H F2 H2 → (∀ a, F2 a → H2 a ≠ none) → Y i H2 v H3 → ∃ d, (numL lo n)[i]? = some d ∧ Grow F2 H2 F2 H3 ∧ Rp K F2 H3 v d) := by
  refine ⟨fun _ => True, fun i H v H' => H' = H ∧ i < n ∧ v = .int (lo + i), ?_, fun _ _ _ => trivial, fun F2 i H2 v H3 mo dom y => ?_⟩
  · rw [numL_len]
    exact ⟨fun _ _ hi _ => hi, fun _ _ => Nat.le_refl _, fun i H x H' hi _ y => ⟨y.1, hi, y.2⟩⟩
  · obtain ⟨rfl, hi, rfl⟩ := y
    refine ⟨.int (lo + i), ?_, Grow.refl dom, .int _⟩
    unfold numL
    rw [List.getElem?_map, List.getElem?_range hi]
    rfl
theorem di_rng1 {tg a : Expr} {ms : List EM} {p : Pos} (hm : X.mg "range" = none) (ha : Da X B own [a] ms) (hg : Gl X "range" := by rfl) (hs : starEach [a] X.env = [(false, eval a X.env)] := by rfl) : Di X B own tg (.Call (.Name "range" p) [a] [] pos) (iNg rng1 ms) :=
  pi_imp (pi_range1 hg hm ha hs) fun σ H R ⟨ρ, F, re, w⟩ => ⟨ρ, F, re, thA w fun ρ1 ds vs H1 F1 re1 mo1 rp1 w1 => by
    obtain ⟨ds', hd, w2⟩ := Wa.opt w1
    unfold rng1 at hd
    split at hd
    · rename_i j he
      cases he
      obtain ⟨h, rfl⟩ := iff_some hd
      have h := of_decide_eq_true h
      cases rp1 with
      | cons r1 r2 =>
        cases r1
        cases r2
        exact ⟨j, rfl, h.1, h.2, w2 _ H1 F1 re1 Mn.refl (walk_numL 0 _)⟩
    · cases hd⟩
theorem di_rng2 {tg a b : Expr} {ms : List EM} {p : Pos} (hm : X.mg "range" = none) (ha : Da X B own [a, b] ms) (hg : Gl X "range" := by rfl) (hs : starEach [a, b] X.env = [(false, eval a X.env), (false, eval b X.env)] := by rfl) (hs2 : starEach [b] X.env = [(false, eval b X.env)] := by rfl) :
    Di X B own tg (.Call (.Name "range" p) [a, b] [] pos) (iNg rng2 ms) :=
  pi_imp (pi_range2 hg hm ha hs hs2) fun σ H R ⟨ρ, F, re, w⟩ => ⟨ρ, F, re, thA w fun ρ1 ds vs H1 F1 re1 mo1 rp1 w1 => by
    obtain ⟨ds', hd, w2⟩ := Wa.opt w1
    unfold rng2 at hd
    split at hd
    · rename_i i j he
      cases he
      obtain ⟨h, rfl⟩ := iff_some hd
      have h := of_decide_eq_true h
      cases rp1 with
      | cons r1 r2 =>
        cases r2 with
        | cons r2 r3 =>
          cases r1
          cases r2
          cases r3
          exact ⟨i, j, rfl, h, w2 _ H1 F1 re1 Mn.refl (walk_numL i _)⟩
    · cases hd⟩

/-! ### for, while -/
theorem ds_for {tg iter : Expr} {body : List Stmt} {it : IM} {g : GM} {ts L : List Nat} {s : SM} {bk ct : List Nat} (hp : PassesOwn (model X.prog X.w) X.A X.env X.xe) (hc : X.calm = true) (hi : Di X B L tg iter it) (hg : Dg X B L L ts tg g)
    (hb : Dss X B L ⟨L, L, L⟩ body s) (hio : ∀ i ∈ io, i ∈ L := by decide) (hs : ∀ x, foldedSetIterable iter X.env x = pure x := by intro _; rfl) : Ds X B L ⟨L, bk, ct⟩ (.For tg iter body [] pos) (sFor it g s) :=
  ps_imp (ps_for hp hc hi hg hb hs) fun D σ H ⟨ρ, F, re, w⟩ => ⟨ρ, F, re, w.bind fun x w0 J H1 F1 re1 mo1 ⟨G, Y, wk, hG, hY⟩ => by
    have w1 := WantS.mono w0 mo1.toMono
    refine for_it wk (fun i σ H => ∃ ρ F, RE X.K B L F ρ σ H ∧ Mono X.K F1 H1 F H ∧ WantS X.K B ⟨L, bk, ct⟩ D F H (forL g s (x.2.drop i) ρ)) ⟨x.1, F1, re1, Mono.refl, by simpa using w1⟩
      (fun i σ H hi ⟨ρ, F, re, mo, w⟩ => hG F H mo) (fun i v σ H H' hi ⟨ρ, F, re, mo, w⟩ y => ?_) (fun σ H ⟨ρ, F, re, mo, w⟩ => ?_)
    · obtain ⟨d, e, gr, rp⟩ := hY F i H v H' mo re.dom y
      have ed : x.2.drop i = d :: x.2.drop (i + 1) := by
        have hl := (List.getElem?_eq_some_iff.mp e)
        rw [List.drop_eq_getElem_cons hl.1, hl.2]
      rw [ed] at w
      obtain ⟨ρ1, e1, w2⟩ := Wa.opt w
      refine ⟨ρ, F, d, re.grow gr, rp, ρ1, e1, fun σ' H2 F2 re2 mo2 _ _ => ⟨ρ1, F2, re2, ?_⟩⟩
      have m2 : Mono X.K F1 H1 F2 H2 := mo.trans (gr.mono.trans mo2.toMono)
      refine (WantS.mono w2 (gr.mono.trans mo2.toMono)).bind fun f w3 => ?_
      cases f with
      | nx ρ2 => exact fun σ3 H3 F3 re3 mo3 => ⟨ρ2, F3, re3, m2.trans mo3, WantS.mono w3 mo3⟩
      | ct ρ2 => exact fun σ3 H3 F3 re3 mo3 => ⟨ρ2, F3, re3, m2.trans mo3, WantS.mono w3 mo3⟩
      | bk ρ2 => exact fun σ3 H3 F3 re3 mo3 => w3 σ3 H3 F3 re3 mo3
      | rt ρ2 r => exact w3
    · have e0 : x.2.drop x.2.length = [] := by simp
      rw [e0] at w
      exact w σ H F re Mono.refl⟩
theorem ds_while {body : List Stmt} {tm : TM} {L : List Nat} {s : SM} {bk ct : List Nat} (fuel : Ev → Nat) (hp : PassesOwn (model X.prog X.w) X.A X.env X.xe) (hc : Dt X B L c tm)
    (hb : Dss X B L ⟨L, L, L⟩ body s) : Ds X B L ⟨L, bk, ct⟩ (.While c body [] pos) (sWh fuel tm s) :=
  ps_imp (ps_while hp hc hb) fun D σ H ⟨ρ, F, re, w⟩ => by
    refine ⟨fun n σ H => ∃ ρ F, RE X.K B L F ρ σ H ∧ WantS X.K B ⟨L, bk, ct⟩ D F H (whL tm s n ρ), ⟨fuel ρ, ρ, F, re, w⟩, ?_⟩
    rintro n σ H ⟨ρ, F, re, w⟩
    cases n with
    | zero => exact w.elim
    | succ n =>
      refine ⟨ρ, F, re, thT w fun ρ1 c1 H1 F1 re1 mo1 w1 => ?_⟩
      cases c1 with
      | false => exact w1 σ H1 F1 re1 Mono.refl
      | true =>
        refine ⟨_, fun σ' H' z => ⟨n, Nat.lt_succ_self n, z⟩, ρ1, F1, re1, Wa.bind w1 fun f w3 => ?_⟩
        cases f with
        | nx ρ2 => exact fun σ3 H3 F3 re3 mo3 => ⟨ρ2, F3, re3, WantS.mono w3 mo3⟩
        | ct ρ2 => exact fun σ3 H3 F3 re3 mo3 => ⟨ρ2, F3, re3, WantS.mono w3 mo3⟩
        | bk ρ2 => exact fun σ3 H3 F3 re3 mo3 => w3 σ3 H3 F3 re3 mo3
        | rt ρ2 r => exact w3
end

/-! ### a new base -/
def adr : Option (Option V) → Addr
  | some (some (.ref a)) => a
  | _ => 0
section
variable {K : PySem.W.Frag} {io : List Nat} {B : Bs io} {own : List Nat} {F F' : Addr → Prop} {H H' : Hp} {ρ ρ' : Ev} {σ σ' : Sl}
theorem RE.rebase (r : RE K B own F ρ σ H) (hs : ∀ j ∈ own, ∃ d, ρ[j]? = some (some d)) : ∃ B' : Bs own, RE K B' own F ρ σ H ∧ B'.H0 = H ∧ (∀ b ∈ B'.A0, ∃ j ∈ own, σ[j]? = some (some (V.ref b))) ∧
    (∀ {F' ρ' σ' H'}, RE K B' own F' ρ' σ' H' → RE K B own F' ρ' σ' H') ∧ (B'.W = fun _ _ _ _ => False) ∧ B'.mg = B.mg := by
  have ha : ∀ j ∈ own, σ[j]? = some (some (V.ref (adr σ[j]?))) := fun j hj => by
    obtain ⟨d, e⟩ := hs j hj
    obtain ⟨a, h1, _⟩ := r.ow j d hj e
    rw [h1]; rfl
  have mem : ∀ b ∈ (own.map fun j => (j, adr σ[j]?)).map (·.2), ∃ j ∈ own, σ[j]? = some (some (V.ref b)) := fun b hb => by
    obtain ⟨p, hp, rfl⟩ := List.mem_map.mp hb
    obtain ⟨j, hj, rfl⟩ := List.mem_map.mp hp
    exact ⟨j, hj, ha j hj⟩
  refine ⟨⟨H, F, own.map fun j => (j, adr σ[j]?), B.mg, fun _ _ _ _ => False, false, by rw [List.map_map]; exact (List.map_congr_left fun _ _ => rfl).trans (List.map_id own)⟩, ?_, rfl, mem, ?_, rfl, rfl⟩
  · refine ⟨r.len, r.fz, fun i d hi e => ?_, r.ne, r.dom, fun b o h _ => h, fun a h => h, fun a h => .inl h, fun p hp => ?_, r.un⟩
    · obtain ⟨a, h1, h2, h3, h4⟩ := r.ow i d hi e
      refine ⟨a, h1, h2, .inr ?_, h4⟩
      refine List.mem_map.mpr ⟨(i, adr σ[i]?), List.mem_map.mpr ⟨i, hi, rfl⟩, ?_⟩
      rw [h1]; rfl
    · obtain ⟨j, hj, rfl⟩ := List.mem_map.mp hp
      exact ⟨ha j hj, hj, hs j hj⟩
  · intro F' ρ' σ' H' r'
    have fromA : ∀ a, a ∈ (own.map fun j => (j, adr σ[j]?)).map (·.2) → B.H0 a = none ∨ a ∈ B.A0 := fun a h => by
      obtain ⟨j, hj, e⟩ := mem a h
      obtain ⟨d, q⟩ := hs j hj
      obtain ⟨b, h1, _, h3, _⟩ := r.ow j d hj q
      rw [e] at h1; cases h1
      exact h3
    refine ⟨r'.len, r'.fz, fun i d hi e => ?_, r'.ne, r'.dom, fun b o h hA => ?_, fun a h => r'.fold a (r.fold a h), fun a h => ?_, fun p hp => ?_, r'.un⟩
    · obtain ⟨a, h1, h2, h3, h4⟩ := r'.ow i d hi e
      refine ⟨a, h1, h2, ?_, h4⟩
      rcases h3 with h3 | h3
      · exact .inl (r.h0 h3)
      · exact fromA a h3
    · refine r'.old b o (r.old b o h hA) fun z => ?_
      rcases fromA b z with q | q
      · rw [q] at h; cases h
      · exact hA q
    · rcases r'.fnew a h with h | h
      · exact r.fnew a h
      · exact .inr (r.h0 h)
    · obtain ⟨h1, h2, d, h3⟩ := r.io p hp
      have q := r'.io (p.1, adr σ[p.1]?) (List.mem_map.mpr ⟨p.1, h2, rfl⟩)
      rw [h1] at q
      exact ⟨q.1, h2, q.2.2⟩
/-- what no slot owns stays from here on -/
theorem RE.addF (r : RE K B own F ρ σ H) {p : Addr} (hp : H p ≠ none) (hn : ∀ j ∈ own, σ[j]? ≠ some (some (V.ref p))) (h0 : B.H0 p = none) : RE K B own (fun a => F a ∨ a = p) ρ σ H ∧ Mono K F H (fun a => F a ∨ a = p) H := by
  have mo : Mono K F H (fun a => F a ∨ a = p) H := ⟨fun _ h => .inl h, fun _ _ _ h => h, fun _ _ h => h⟩
  refine ⟨⟨r.len, fun i d hi e => ?_, fun i d hi e => ?_, r.ne, fun a h => ?_, r.old, fun a h => .inl (r.fold a h), fun a h => ?_, r.io, r.un⟩, mo⟩
  · obtain ⟨v, h1, h2⟩ := r.fz i d hi e
    exact ⟨v, h1, h2.mono mo⟩
  · obtain ⟨a, h1, h2, h3, h4⟩ := r.ow i d hi e
    refine ⟨a, h1, fun q => ?_, h3, h4.mono mo rfl⟩
    rcases q with q | q
    · exact h2 q
    · exact hn i hi (q ▸ h1)
  · rcases h with h | rfl
    · exact r.dom a h
    · exact hp
  · rcases h with h | rfl
    · exact r.fnew a h
    · exact .inr h0
theorem wipe_get {σ : Sl} {k : Nat} : ∀ {vs : List Nat}, k ∉ vs → (wipe σ vs)[k]? = σ[k]? := fun {vs} h => wipe_out h
theorem wipe_in {σ : Sl} {k : Nat} (hk : k < σ.length) : ∀ {vs : List Nat}, k ∈ vs → (wipe σ vs)[k]? = some none
  | [], h => by cases h
  | v :: vs, h => by
    unfold wipe
    by_cases e : k = v
    · subst e
      rw [List.getElem?_set_self (by rw [wipe_length]; exact hk)]
    · rw [List.getElem?_set_ne (Ne.symm e)]
      exact wipe_in hk ((List.mem_cons.mp h).resolve_left e)
theorem wipe_eq {σ τ : Sl} {vs : List Nat} (hl : σ.length = τ.length) (h : ∀ k : Nat, k ∉ vs → σ[k]? = τ[k]?) : wipe σ vs = wipe τ vs := by
  refine List.ext_getElem? fun k => ?_
  by_cases hk : k ∈ vs
  · by_cases hlt : k < σ.length
    · rw [wipe_in hlt hk, wipe_in (hl ▸ hlt) hk]
    · rw [List.getElem?_eq_none (by rw [wipe_length]; omega), List.getElem?_eq_none (by rw [wipe_length]; omega)]
  · rw [wipe_get hk, wipe_get hk, h k hk]
theorem wipeE_length (ρ : Ev) : ∀ vs : List Nat, (wipeE ρ vs).length = ρ.length
  | [] => rfl
  | v :: vs => by unfold wipeE; rw [List.length_set, wipeE_length ρ vs]
theorem wipeE_get {k : Nat} {ρ : Ev} : ∀ {vs : List Nat}, k ∉ vs → (wipeE ρ vs)[k]? = ρ[k]?
  | [], _ => rfl
  | v :: vs, h => by
    unfold wipeE
    rw [List.getElem?_set_ne (fun z => h (by simp [z]))]
    exact wipeE_get fun z => h (List.mem_cons_of_mem _ z)
theorem wipeE_in {k : Nat} {ρ : Ev} (hk : k < ρ.length) : ∀ {vs : List Nat}, k ∈ vs → (wipeE ρ vs)[k]? = some none
  | [], h => by cases h
  | v :: vs, h => by
    unfold wipeE
    by_cases e : k = v
    · subst e
      rw [List.getElem?_set_self (by rw [wipeE_length]; exact hk)]
    · rw [List.getElem?_set_ne (Ne.symm e)]
      exact wipeE_in hk ((List.mem_cons.mp h).resolve_left e)
theorem wipeE_some {k : Nat} {d : PyData} {vs : List Nat} (h : (wipeE ρ vs)[k]? = some (some d)) : k ∉ vs ∧ ρ[k]? = some (some d) := by
  have hk : k ∉ vs := fun z => by
    have hl := (List.getElem?_eq_some_iff.mp h).1
    rw [wipeE_length] at hl
    rw [wipeE_in hl z] at h; cases h
  exact ⟨hk, (wipeE_get hk).symm.trans h⟩
theorem RE.wipe (r : RE K B own F ρ σ H) {vs : List Nat} (hv : ∀ v ∈ vs, v ∉ own) : RE K B own F (wipeE ρ vs) (L2.wipe σ vs) H := by
  have no : ∀ {j}, j ∈ own → j ∉ vs := fun {j} h z => hv j z h
  refine ⟨by rw [wipeE_length, wipe_length]; exact r.len, fun i d hi e => ?_, fun i d hi e => ?_, fun i j d e hi hj hn h1 h2 => ?_, r.dom, r.old, r.fold, r.fnew, fun p hp => ?_, fun i e => ?_⟩
  · obtain ⟨hk, e⟩ := wipeE_some e
    rw [wipe_get hk]; exact r.fz i d hi e
  · rw [wipe_get (no hi)]; rw [wipeE_get (no hi)] at e; exact r.ow i d hi e
  · rw [wipe_get (no hi), wipe_get (no hj)]; rw [wipeE_get (no hi)] at h1; rw [wipeE_get (no hj)] at h2; exact r.ne i j d e hi hj hn h1 h2
  · obtain ⟨h1, h2, d, h3⟩ := r.io p hp
    exact ⟨by rw [wipe_get (no h2)]; exact h1, h2, d, by rw [wipeE_get (no h2)]; exact h3⟩
  · by_cases hk : i ∈ vs
    · have hl := (List.getElem?_eq_some_iff.mp e).1
      rw [wipeE_length, r.len] at hl
      exact wipe_in hl hk
    · rw [wipe_get hk]; rw [wipeE_get hk] at e; exact r.un i e
theorem keepE_length (ρ1 : Ev) : ∀ (vs : List Nat) (ρ : Ev), (keepE ρ1 vs ρ).length = ρ.length
  | [], _ => rfl
  | v :: vs, ρ => by unfold keepE; rw [List.length_set, keepE_length ρ1 vs]
theorem keepE_get {ρ1 : Ev} {k : Nat} : ∀ {vs : List Nat} {ρ : Ev}, k ∉ vs → (keepE ρ1 vs ρ)[k]? = ρ[k]?
  | [], _, _ => rfl
  | v :: vs, ρ, h => by
    unfold keepE
    rw [List.getElem?_set_ne (fun z => h (by simp [z]))]
    exact keepE_get fun z => h (List.mem_cons_of_mem _ z)
theorem keepE_in {ρ1 : Ev} {k : Nat} : ∀ {vs : List Nat} {ρ : Ev}, k < ρ.length → k < ρ1.length → k ∈ vs → (keepE ρ1 vs ρ)[k]? = ρ1[k]?
  | [], _, _, _, h => by cases h
  | v :: vs, ρ, hk, hk1, h => by
    unfold keepE
    by_cases e : k = v
    · subst e
      rw [List.getElem?_set_self (by rw [keepE_length]; exact hk), List.getElem?_eq_getElem hk1]; rfl
    · rw [List.getElem?_set_ne (Ne.symm e)]
      exact keepE_in hk hk1 ((List.mem_cons.mp h).resolve_left e)
/-- behind a comprehension: its own names are what they were -/
theorem RE.kept (r : RE K B own F ρ σ H) {vs : List Nat} (r' : RE K B own F' (wipeE ρ' vs) (L2.wipe σ vs) H') (m : Mono K F H F' H') (hv : ∀ v ∈ vs, v ∉ own) : RE K B own F' (keepE ρ vs ρ') σ H' := by
  have no : ∀ {j}, j ∈ own → j ∉ vs := fun {j} h z => hv j z h
  have hl : ρ'.length = σ.length := by have := r'.len; rw [wipeE_length, wipe_length] at this; exact this
  have at' : ∀ {i o}, (keepE ρ vs ρ')[i]? = some o → i ∈ vs → ρ[i]? = some o := fun {i o} e hk => by
    have h1 := (List.getElem?_eq_some_iff.mp e).1
    rw [keepE_length] at h1
    rw [keepE_in h1 (by rw [r.len]; omega) hk] at e; exact e
  refine ⟨by rw [keepE_length]; exact hl, fun i d hi e => ?_, fun i d hi e => ?_, fun i j d e hi hj hn h1 h2 => ?_, r'.dom, r'.old, r'.fold, r'.fnew, fun p hp => ?_, fun i e => ?_⟩
  · by_cases hk : i ∈ vs
    · obtain ⟨v, h1, h2⟩ := r.fz i d hi (at' e hk)
      exact ⟨v, h1, h2.mono m⟩
    · rw [keepE_get hk] at e
      have := r'.fz i d hi (by rw [wipeE_get hk]; exact e)
      rw [wipe_get hk] at this; exact this
  · rw [keepE_get (no hi)] at e
    have := r'.ow i d hi (by rw [wipeE_get (no hi)]; exact e)
    rw [wipe_get (no hi)] at this; exact this
  · rw [keepE_get (no hi)] at h1
    rw [keepE_get (no hj)] at h2
    have := r'.ne i j d e hi hj hn (by rw [wipeE_get (no hi)]; exact h1) (by rw [wipeE_get (no hj)]; exact h2)
    rw [wipe_get (no hi), wipe_get (no hj)] at this; exact this
  · obtain ⟨h1, h2, d, h3⟩ := r'.io p hp
    rw [wipe_get (no h2)] at h1
    rw [wipeE_get (no h2)] at h3
    exact ⟨h1, h2, d, by rw [keepE_get (no h2)]; exact h3⟩
  · by_cases hk : i ∈ vs
    · exact r.un i (at' e hk)
    · rw [keepE_get hk] at e
      have := r'.un i (by rw [wipeE_get hk]; exact e)
      rw [wipe_get hk] at this; exact this
end

/-! ### comprehensions -/
abbrev Bq (own : List Nat) (mg : Str → Option Value) := {b : Bs own // (b.W = fun _ _ _ _ => False) ∧ b.mg = mg}
theorem pe_ex {X : Cx} {β : Type} {e : Expr} {t : β → TE} (h : ∀ b, PE X e (t b)) : PE X e (fun σ H Q => ∃ b, t b σ H Q) := ⟨fun pins s σ H Q I ⟨b, q⟩ => (h b).run pins s σ H Q I q⟩
theorem pg_ex {X : Cx} {β : Type} {e : Expr} {t : β → TG} (h : ∀ b, PG X e (t b)) : PG X e (fun v σ H Q => ∃ b, t b v σ H Q) := ⟨fun pins s σ H v u Q I r ⟨b, q⟩ => (h b).run pins s σ H v u Q I r q⟩
theorem pts_ex {X : Cx} {β : Type} {e : List Expr} {t : β → TT} (h : ∀ b, PTs X e (t b)) : PTs X e (fun σ H Q => ∃ b, t b σ H Q) := ⟨fun pins s σ H Q I ⟨b, q⟩ => (h b).run pins s σ H Q I q⟩
abbrev Dts (X : Cx) {io : List Nat} (B : Bs io) (own : List Nat) (ifs : List Expr) (t : TM) : Prop := PTs X ifs (tDT X.K B own t)
section
variable {X : Cx} {io : List Nat} {B : Bs io} {own : List Nat}
theorem dts_nil : Dts X B own [] tTrue := ⟨fun pins s σ H Q I ⟨ρ, F, re, w⟩ => pts_nil.run pins s σ H Q I (w H F re Mn.refl)⟩
theorem dts_one {c : Expr} {t : TM} (h : Dt X B own c t) : Dts X B own [c] t := pts_one h
theorem tD_lc {wi : TI} {it : IM} {g : GM} {t : TM} {m : EM} {vs ts : List Nat} (hwi : ∀ σ H R, tDI X.K B own it σ H R → wi σ H R) (hmg : B.mg = X.mg) (hts : ∀ i ∈ ts, i ∈ vs) (hvo : ∀ v ∈ vs, v ∉ own) : ∀ σ H Q, tD X.K B own (mLc own it g t m vs) σ H Q →
    tLc wi (fun v σ H Q => ∃ b : Bq own X.mg, tDG X.K b.1 own own ts g v σ H Q) (fun σ H Q => ∃ b : Bq own X.mg, tDT X.K b.1 own t σ H Q) (fun σ H Q => ∃ b : Bq own X.mg, tD X.K b.1 own m σ H Q) vs σ H Q := fun σ H Q ⟨ρ, F, re, w⟩ => by
  refine hwi σ H _ ⟨ρ, F, re, w.bind fun x w0 J H1 F1 re1 mo1 ⟨G, Y, wk, hG, hY⟩ D nD => ?_⟩
  obtain ⟨_, hset, w1⟩ := Wa.opt w0
  obtain ⟨hset, _⟩ := iff_some hset
  cases hq : (lcL g t m vs x.2 x.1).quiet with
  | exc c y => rw [hq] at w1; cases hz : lcL g t m vs x.2 x.1 <;> (rw [hz] at hq; cases hq)
  | bad => rw [hq] at w1; exact w1.elim
  | ok y =>
    rw [hq] at w1
    obtain ⟨d, hd, w2⟩ := Wa.opt w1
    obtain ⟨hlen, rfl⟩ := iff_some hd
    have hlen := of_decide_eq_true hlen
    have hrun := Rs.quiet_ok hq
    obtain ⟨ρe, rs⟩ := y
    have no : ∀ {j}, j ∈ own → j ∉ vs := fun {j} h z => hvo j z h
    have hD0 := re1.h0 nD
    have hDn := re1.notIn nD
    have hDw : ∀ j ∈ own, (L2.wipe σ vs)[j]? ≠ some (some (V.ref D)) := fun j hj => by rw [wipe_get (no hj)]; exact hDn j hj
    refine lc_it (g := fun v σ H Q => ∃ b : Bq own X.mg, tDG X.K b.1 own own ts g v σ H Q) (tt := fun σ H Q => ∃ b : Bq own X.mg, tDT X.K b.1 own t σ H Q) (te := fun σ H Q => ∃ b : Bq own X.mg, tD X.K b.1 own m σ H Q) (vs := vs) (σ := σ) (H1 := H1) (D := D) (Qd := Q (.ref D)) wk (fun i H => ∃ ρ F, RE X.K B own F (wipeE ρ vs) (L2.wipe σ vs) H ∧ (∀ j ∈ own, ∃ d, (wipeE ρ vs)[j]? = some (some d)) ∧ Mn X.K F1 H1 F H ∧ ¬ F D ∧ ∃ acc da rest, H D = some (HO.lst acc) ∧ Rps X.K F H acc da ∧
      lcL g t m vs (x.2.drop i) ρ = .ok (ρe, rest) ∧ da ++ rest = rs) ?_ (fun i H hi ⟨ρ, F, re, hs, mo, _⟩ => hG F H mo.toMono) (fun i v H H' hi ⟨ρ, F, re, hs, mo, nF, acc, da, rest, hacc, racc, hl, hrs⟩ y => ?_) (fun H ⟨ρ, F, re, hs, mo, nF, acc, da, rest, hacc, racc, hl, hrs⟩ => ?_)
    · have g1 : Grow F1 H1 F1 (upd H1 D (HO.lst [])) := Grow.att re1.dom nD
      refine ⟨x.1, F1, (re1.wipe hvo).grow g1, fun j hj => ?_, g1.mn, fun z => re1.dom D z nD, [], [], rs, upd_same, .nil, by simpa using hrun, rfl⟩
      have := List.all_eq_true.mp hset j hj
      rw [wipeE_get (no hj)]
      cases e : gt x.1 j with
      | none => rw [e] at this; cases this
      | some d => exact ⟨d, gt_ok e⟩
    · obtain ⟨d, e, gr, rp⟩ := hY F i H v H' mo.toMono re.dom y
      have ed : x.2.drop i = d :: x.2.drop (i + 1) := by
        have hl := (List.getElem?_eq_some_iff.mp e)
        rw [List.drop_eq_getElem_cons hl.1, hl.2]
      rw [ed] at hl
      have re' := re.grow gr
      obtain ⟨B', reB, hB0, hBA, back, hBW⟩ := re'.rebase hs
      rw [hmg] at hBW
      have hDB : D ∉ B'.A0 := fun z => by
        obtain ⟨j, hj, q⟩ := hBA D z
        exact hDw j hj q
      have hD' : B'.H0 D = some (HO.lst acc) := by rw [hB0]; exact gr.same _ _ hacc
      have stay : ∀ {F' ρ' σ' H'}, RE X.K B' own F' ρ' σ' H' → H' D = some (HO.lst acc) := fun r => r.old D _ hD' hDB
      have setd : ∀ {F' ρ' σ' H'}, RE X.K B' own F' ρ' σ' H' → ∀ j ∈ own, ∃ d, ρ'[j]? = some (some d) := fun r j hj => by
        have : j ∈ B'.IO.map (·.1) := by rw [B'.hio]; exact hj
        obtain ⟨p, hp, rfl⟩ := List.mem_map.mp this
        exact (r.io p hp).2.2
      have h0 : lcL g t m vs (d :: x.2.drop (i + 1)) ρ = (Rs.opt (g d (wipeE ρ vs)) fun ρ1 => (t ρ1).bind fun x' => if x'.2 then (m x'.1).bind fun y => (lcL g t m vs (x.2.drop (i + 1)) y.1).bind fun z => .ok (z.1, y.2 :: z.2)
        else lcL g t m vs (x.2.drop (i + 1)) x'.1) := rfl
      rw [h0] at hl
      cases hg : g d (wipeE ρ vs) with
      | none => rw [hg] at hl; cases hl
      | some ρ1 =>
        rw [hg] at hl
        obtain ⟨⟨ρ2, c⟩, ht, hl⟩ := Rs.bind_ok hl
        refine ⟨⟨B', hBW⟩, wipeE ρ vs, F, d, reB, rp, ρ1, hg, fun σ2 H2 F2 re2 mo2 len2 out2 => ?_⟩
        have hw : L2.wipe σ2 vs = L2.wipe σ vs := by
          have h1 := wipe_eq (vs := vs) len2 (fun k hk => out2 k fun z => hk (hts k z))
          rw [h1]
          exact wipe_eq (by rw [wipe_length]) fun k hk => wipe_get hk
        have fin : ∀ {ρ4 F4 H4}, RE X.K B' own F4 ρ4 σ2 H4 → RE X.K B own F4 (wipeE ρ4 vs) (L2.wipe σ vs) H4 := fun r => by
          have := (back r).wipe hvo
          rw [hw] at this; exact this
        have nFD : ∀ {F4 H4}, Mn X.K F H' F4 H4 → ¬ F4 D := fun {F4 H4} mm z => by
          rcases mm.new D z with q | q
          · exact nF q
          · rw [gr.same _ _ hacc] at q; cases q
        refine ⟨hw, ⟨B', hBW⟩, ρ1, F2, re2, ?_⟩
        rw [ht]
        intro H3 F3 re3 mo3
        cases c with
        | false =>
          refine ⟨ρ2, F3, fin re3, fun j hj => ?_, mo.trans (gr.mn.trans (mo2.trans mo3)), nFD (mo2.trans mo3), acc, da, rest, stay re3, racc.mono (gr.mono.trans (mo2.trans mo3).toMono), hl, hrs⟩
          rw [wipeE_get (no hj)]
          exact setd re3 j hj
        | true =>
          obtain ⟨⟨ρ3, r⟩, hm, hl⟩ := Rs.bind_ok hl
          obtain ⟨⟨ρ4, rest'⟩, hl2, he2⟩ := Rs.bind_ok hl
          cases he2
          refine ⟨⟨B', hBW⟩, ρ2, F3, re3, ?_⟩
          rw [hm]
          intro u H4 F4 re4 mo4 rp4
          have hD4 := stay re4
          have mA : Mn X.K F H' F4 H4 := mo2.trans (mo3.trans mo4)
          have nF4 := nFD mA
          obtain ⟨re5, mo5⟩ := (fin re4).updFree (o' := HO.lst (acc ++ [u])) nF4 hD0 hDw hD4 (fun xs => ⟨(fun z => nomatch z), (fun q z => nomatch z)⟩)
          have la : acc.length = da.length := racc.length
          refine ⟨acc, hD4, ?_, ρ3, F4, re5, fun j hj => ?_, mo.trans (gr.mn.trans (mA.trans mo5)), nF4, acc ++ [u], da ++ [r], rest', upd_same, ?_, hl2, by rw [← hrs]; simp⟩
          · rw [← hrs] at hlen
            simp only [List.length_append, List.length_cons] at hlen
            omega
          · rw [wipeE_get (no hj)]
            exact setd re4 j hj
          · exact (racc.mono (gr.mono.trans (mA.toMono.trans mo5.toMono))).append (.one (rp4.mono mo5.toMono))
    · have e0 : x.2.drop x.2.length = [] := by simp
      rw [e0] at hl
      cases hl
      have la : da = rs := by simpa using hrs
      subst la
      obtain ⟨re6, mo6⟩ := re.addF (p := D) (by rw [hacc]; simp) hDw hD0
      have mn6 : Mn X.K F1 H1 (fun a => F a ∨ a = D) H := ⟨mo.toMono.trans mo6, fun a h => by
        rcases h with h | rfl
        · exact mo.new a h
        · exact .inr nD, mo.keep⟩
      exact w2 _ H _ (re1.kept re6 (mo.toMono.trans mo6) hvo) (mo1.trans mn6) (.lst (.inl ⟨.inr rfl, .inl hacc⟩) (racc.mono mo6))
theorem de_lc {elt tg iter : Expr} {ifs : List Expr} {scope : Scope} {ownp : List (Str × Nat)} {pos : Pos} {it : IM} {g : GM} {t : TM} {m : EM} {vs ts : List Nat} (hc : X.calm = true) (nd : X.N.Nodup) (hmg : B.mg = X.mg) (hi : Di X B own tg iter it) (ok : BlkOk X.N X.env.scope scope ownp)
    (hg : ∀ (s : Shared) (H : Hp) (C : Addr) (cl : List (Str × Addr)) (fp : List Addr) (b : Bs own), b.W = (fun _ _ _ _ => False) → b.mg = X.mg → Dg (X.blk s H scope (compEnvC scope cl C X.env) fp) b own own ts tg g)
    (ht : ∀ (s : Shared) (H : Hp) (C : Addr) (cl : List (Str × Addr)) (fp : List Addr) (b : Bs own), b.W = (fun _ _ _ _ => False) → b.mg = X.mg → Dts (X.blk s H scope (compEnvC scope cl C X.env) fp) b own ifs t)
    (he : ∀ (s : Shared) (H : Hp) (C : Addr) (cl : List (Str × Addr)) (fp : List Addr) (b : Bs own), b.W = (fun _ _ _ _ => False) → b.mg = X.mg → De (X.blk s H scope (compEnvC scope cl C X.env) fp) b own elt m)
    (hv : ownp.map (·.2) = vs := by rfl) (hts : ∀ i ∈ ts, i ∈ vs := by decide) (hvo : ∀ v ∈ vs, v ∉ own := by decide) (hs : ∀ x, foldedSetIterable iter X.env x = pure x := by intro _; rfl) : De X B own (.ListComp elt [⟨tg, iter, ifs, 0⟩] scope pos) (mLc own it g t m vs) := by
  subst hv
  exact pe_imp (pe_lc hc nd hi ok (fun s H C cl fp => pg_ex (t := fun b : Bq own X.mg => tDG X.K b.1 own own ts g) fun b => hg s H C cl fp b.1 b.2.1 b.2.2) (fun s H C cl fp => pts_ex (t := fun b : Bq own X.mg => tDT X.K b.1 own t) fun b => ht s H C cl fp b.1 b.2.1 b.2.2) (fun s H C cl fp => pe_ex (t := fun b : Bq own X.mg => tD X.K b.1 own m) fun b => he s H C cl fp b.1 b.2.1 b.2.2) hs) (tD_lc (fun _ _ _ h => h) hmg hts hvo)
/-- name = [..] on one line -/
theorem ds_setLc {i : Nat} {y : Str} {py spos : Pos} {bk ct : List Nat} {elt tg iter : Expr} {ifs : List Expr} {scope : Scope} {ownp : List (Str × Nat)} {pos : Pos} {it : IM} {g : GM} {t : TM} {m : EM} {vs ts : List Nat} (hc : X.calm = true) (nd : X.N.Nodup) (hmg : B.mg = X.mg) (hsw : swapsWith (.ListComp elt [⟨tg, iter, ifs, 0⟩] scope pos) (some (.Name y py)) spos.line X.env = pure true) (hi : Di X B own tg iter it) (ok : BlkOk X.N X.env.scope scope ownp)
    (hg : ∀ (s : Shared) (H : Hp) (C : Addr) (cl : List (Str × Addr)) (fp : List Addr) (b : Bs own), b.W = (fun _ _ _ _ => False) → b.mg = X.mg → Dg (X.blk s H scope (compEnvC scope cl C X.env) fp) b own own ts tg g)
    (ht : ∀ (s : Shared) (H : Hp) (C : Addr) (cl : List (Str × Addr)) (fp : List Addr) (b : Bs own), b.W = (fun _ _ _ _ => False) → b.mg = X.mg → Dts (X.blk s H scope (compEnvC scope cl C X.env) fp) b own ifs t)
    (he : ∀ (s : Shared) (H : Hp) (C : Addr) (cl : List (Str × Addr)) (fp : List Addr) (b : Bs own), b.W = (fun _ _ _ _ => False) → b.mg = X.mg → De (X.blk s H scope (compEnvC scope cl C X.env) fp) b own elt m)
    (ho : i ∉ io := by decide) (hy : X.N[i]? = some y := by rfl) (hyl : X.env.scope.names.lookup y = some .local := by rfl)
    (hv : ownp.map (·.2) = vs := by rfl) (hts : ∀ i ∈ ts, i ∈ vs := by decide) (hvo : ∀ v ∈ vs, v ∉ own := by decide) (hs : ∀ x, foldedSetIterable iter X.env x = pure x := by intro _; rfl) :
    Ds X B own ⟨own.filter (· ≠ i), bk, ct⟩ (.Assign [.Name y py] (.ListComp elt [⟨tg, iter, ifs, 0⟩] scope pos) spos) (sSet i (mLc own it g t m vs)) := by
  subst hv
  refine ps_imp (ps_setLc hc nd hy hyl hsw hi ok (fun s H C cl fp => pg_ex (t := fun b : Bq own X.mg => tDG X.K b.1 own own ts g) fun b => hg s H C cl fp b.1 b.2.1 b.2.2) (fun s H C cl fp => pts_ex (t := fun b : Bq own X.mg => tDT X.K b.1 own t) fun b => ht s H C cl fp b.1 b.2.1 b.2.2) (fun s H C cl fp => pe_ex (t := fun b : Bq own X.mg => tD X.K b.1 own m) fun b => he s H C cl fp b.1 b.2.1 b.2.2) hs) fun D σ H ⟨ρ, F, re, w⟩ => ?_
  exact tD_lc (fun _ _ _ h => h) hmg hts hvo σ H _ ⟨ρ, F, re, thE w fun ρ1 d1 v1 H1 F1 re1 mo1 rp1 w1 => w1 _ H1 F1 (re1.set rp1 ho) Mono.refl⟩
end
end Kd

end T_KD3
section T_KD4
set_option maxRecDepth 100000
/-! KD4: what a def promises, calls, lists that are changed. -/
namespace Kd
open PySem PySem.Spec PyProof.Rows L2

/-! ### slots handed in to be changed -/
def setL (ρ : Ev) : List Nat → List PyData → Ev
  | j :: js, d :: ds => (setL ρ js ds).set j (some d)
  | _, _ => ρ
theorem setL_length (ρ : Ev) : ∀ (js : List Nat) (ds : List PyData), (setL ρ js ds).length = ρ.length
  | [], _ => rfl
  | _ :: _, [] => rfl
  | j :: js, d :: ds => by unfold setL; rw [List.length_set, setL_length ρ js ds]
theorem setL_out {ρ : Ev} {i : Nat} : ∀ {js : List Nat} {ds : List PyData}, i ∉ js → (setL ρ js ds)[i]? = ρ[i]?
  | [], _, _ => rfl
  | _ :: _, [], _ => rfl
  | j :: js, d :: ds, h => by
    unfold setL
    rw [List.getElem?_set_ne (fun z => h (by simp [z]))]
    exact setL_out fun z => h (List.mem_cons_of_mem _ z)
theorem setL_at {ρ : Ev} : ∀ {js : List Nat} {ds : List PyData} {k j : Nat} {d : PyData}, js.Nodup → js[k]? = some j → ds[k]? = some d → j < ρ.length → (setL ρ js ds)[j]? = some (some d)
  | [], _, _, _, _, _, h, _, _ => by simp at h
  | _ :: _, [], _, _, _, _, _, h, _ => by simp at h
  | j' :: js, d' :: ds, k, j, d, nd, h1, h2, hl => by
    rw [List.nodup_cons] at nd
    cases k with
    | zero =>
      simp only [List.getElem?_cons_zero, Option.some.injEq] at h1 h2
      subst h1 h2
      unfold setL
      rw [List.getElem?_set_self (by rw [setL_length]; exact hl)]
    | succ k =>
      simp only [List.getElem?_cons_succ] at h1 h2
      have hne : j' ≠ j := fun z => nd.1 (z ▸ List.mem_of_getElem? h1)
      unfold setL
      rw [List.getElem?_set_ne hne]
      exact setL_at nd.2 h1 h2 hl
section
variable {K : PySem.W.Frag} {io : List Nat} {B : Bs io} {own : List Nat} {F F' : Addr → Prop} {H H' : Hp} {ρ : Ev} {σ : Sl}
/-- behind a call -/
theorem RE.call (r : RE K B own F ρ σ H) {js : List Nat} {os : List PyData} (hj : ∀ j ∈ js, j ∈ own) (nd : js.Nodup) (hs : ∀ j ∈ js, ∃ d, ρ[j]? = some (some d)) (sub : ∀ a, F a → F' a) (new : ∀ a, F' a → F a ∨ H a = none)
    (dom : ∀ a, F' a → H' a ≠ none) (keep : ∀ a, H a ≠ none → H' a ≠ none) (frame : ∀ b o, H b = some o → (∀ j ∈ js, σ[j]? ≠ some (some (V.ref b))) → H' b = some o)
    (outs : ∀ (k j : Nat), js[k]? = some j → ∃ a d, σ[j]? = some (some (V.ref a)) ∧ os[k]? = some d ∧ ¬ F' a ∧ OwnV K F' H' a d) : RE K B own F' (setL ρ js os) σ H' ∧ Mn K F H F' H' := by
  have adr : ∀ j ∈ js, ∃ a, σ[j]? = some (some (V.ref a)) ∧ ¬ F a ∧ (B.H0 a = none ∨ a ∈ B.A0) ∧ ∃ d, OwnV K F H a d := fun j h => by
    obtain ⟨d, e⟩ := hs j h
    obtain ⟨a, h1, h2, h3, h4⟩ := r.ow j d (hj j h) e
    exact ⟨a, h1, h2, h3, d, h4⟩
  have frF : ∀ {b o}, F b → H b = some o → H' b = some o := fun {b o} hF e => frame b o e fun j h z => by
    obtain ⟨a, h1, h2, _⟩ := adr j h
    rw [h1] at z; cases z; exact h2 hF
  have frT : ∀ {b xs}, H b = some (HO.tup xs) → H' b = some (HO.tup xs) := fun {b xs} h => by
    have ne : ∀ {o}, H b = some o → (o = .tup xs ∨ ∃ q, o = .frz q (.tup xs)) → H' b = some o := fun {o} e z => frame b o e fun j hj' w => by
      obtain ⟨a, h1, _, _, d, h4⟩ := adr j hj'
      rw [h1] at w; cases w
      cases h4 with
      | lst q _ => rw [e] at q; cases q; rcases z with z | ⟨_, z⟩ <;> cases z
      | dK q _ => rw [e] at q; cases q; rcases z with z | ⟨_, z⟩ <;> cases z
      | dT q _ => rw [e] at q; cases q; rcases z with z | ⟨_, z⟩ <;> cases z
    exact ne h (.inl rfl)
  have mo : Mono K F H F' H' := ⟨sub, fun a u hF h => frF hF h, fun a xs h => frT h⟩
  have idx : ∀ {j}, j ∈ js → ∃ k, js[k]? = some j := fun {j} h => List.mem_iff_getElem?.mp h
  have hlt : ∀ {j}, j ∈ js → j < ρ.length := fun {j} h => by
    obtain ⟨d, e⟩ := hs j h
    exact (List.getElem?_eq_some_iff.mp e).1
  have asg : ∀ {i d}, (setL ρ js os)[i]? = some (some d) → ∃ d', ρ[i]? = some (some d') := fun {i d} e => by
    by_cases hi : i ∈ js
    · exact hs i hi
    · rw [setL_out hi] at e; exact ⟨d, e⟩
  refine ⟨⟨by rw [setL_length]; exact r.len, fun i d hi e => ?_, fun i d hi e => ?_, fun i j d e hi hj' hn h1 h2 => ?_, dom, fun b o h hA => ?_, fun a h => sub a (r.fold a h), fun a h => ?_, fun p hp => ?_, fun i e => ?_⟩, mo, new, keep⟩
  · have hn : i ∉ js := fun z => hi (hj i z)
    rw [setL_out hn] at e
    obtain ⟨v, h1, h2⟩ := r.fz i d hi e
    exact ⟨v, h1, h2.mono mo⟩
  · by_cases hn : i ∈ js
    · obtain ⟨k, hk⟩ := idx hn
      obtain ⟨a, d', h1, h2, h3, h4⟩ := outs k i hk
      rw [setL_at nd hk h2 (hlt hn)] at e
      cases e
      obtain ⟨b, q1, _, q3, _⟩ := adr i hn
      rw [h1] at q1; cases q1
      exact ⟨a, h1, h3, q3, h4⟩
    · rw [setL_out hn] at e
      obtain ⟨a, h1, h2, h3, h4⟩ := r.ow i d hi e
      have hne : ∀ j ∈ js, σ[j]? ≠ some (some (V.ref a)) := fun j hj' z => by
        obtain ⟨d', q⟩ := hs j hj'
        exact r.ne j i d' d (hj j hj') hi (fun y => hn (y ▸ hj')) q e (z.trans h1.symm)
      have nF : ¬ F' a := fun z => by
        rcases new a z with q | q
        · exact h2 q
        · exact h4.there q
      refine ⟨a, h1, nF, h3, ?_⟩
      cases h4 with
      | lst q w => exact .lst (frame a _ q hne) (w.mono mo)
      | dK q w => exact .dK (frame a _ q hne) (w.mono mo)
      | dT q w => exact .dT (frame a _ q hne) (w.mono mo)
  · obtain ⟨d1, q1⟩ := asg h1
    obtain ⟨d2, q2⟩ := asg h2
    exact r.ne i j d1 d2 hi hj' hn q1 q2
  · refine frame b o (r.old b o h hA) fun j hj' z => ?_
    obtain ⟨a, h1, _, h3, _⟩ := adr j hj'
    rw [h1] at z; cases z
    rcases h3 with h3 | h3
    · rw [h3] at h; cases h
    · exact hA h3
  · rcases new a h with z | z
    · exact r.fnew a z
    · exact .inr (r.h0 z)
  · obtain ⟨h1, h2, d, h3⟩ := r.io p hp
    refine ⟨h1, h2, ?_⟩
    by_cases hn : p.1 ∈ js
    · obtain ⟨k, hk⟩ := idx hn
      obtain ⟨a, d', _, q2, _⟩ := outs k _ hk
      exact ⟨d', setL_at nd hk q2 (hlt hn)⟩
    · exact ⟨d, by rw [setL_out hn]; exact h3⟩
  · by_cases hn : i ∈ js
    · obtain ⟨k, hk⟩ := idx hn
      obtain ⟨a, d', _, q2, _⟩ := outs k _ hk
      rw [setL_at nd hk q2 (hlt hn)] at e; cases e
    · rw [setL_out hn] at e; exact r.un i e
end

/-! ### a def's promise -/
/-- how the arguments lie -/
structure ArgR (K : PySem.W.Frag) (io : List Nat) (F : Addr → Prop) (H : Hp) (vs : List V) (ds : List PyData) : Prop where
  len : vs.length = ds.length
  fz : ∀ (i : Nat) v d, i ∉ io → vs[i]? = some v → ds[i]? = some d → Rp K F H v d
  ow : ∀ (i : Nat) v d, i ∈ io → vs[i]? = some v → ds[i]? = some d → ∃ a, v = .ref a ∧ ¬ F a ∧ OwnV K F H a d
  ne : ∀ i j : Nat, i ∈ io → j ∈ io → i ≠ j → i < vs.length → vs[i]? ≠ vs[j]?
  lt : ∀ i ∈ io, i < vs.length
/-- what stands behind a call -/
structure Aft (K : PySem.W.Frag) (io : List Nat) (vs : List V) (F : Addr → Prop) (H : Hp) (F' : Addr → Prop) (H' : Hp) : Prop where
  sub : ∀ a, F a → F' a
  new : ∀ a, F' a → F a ∨ H a = none
  dom : ∀ a, F' a → H' a ≠ none
  keep : ∀ a, H a ≠ none → H' a ≠ none
  frame : ∀ b o, H b = some o → (∀ i ∈ io, vs[i]? ≠ some (V.ref b)) → H' b = some o
abbrev FM := List PyData → Rs (List PyData × PyData)
/-- what a call hands back -/
def RetC (K : PySem.W.Frag) (fr : Bool) (H : Hp) (F' : Addr → Prop) (H' : Hp) (v : V) (d : PyData) : Prop :=
  if fr then ∃ a, v = .ref a ∧ ¬ F' a ∧ H a = none ∧ OwnV K F' H' a d else Rp K F' H' v d
def spD (K : PySem.W.Frag) (mg : Str → Option Value) (io : List Nat) (n : Nat) (fr : Bool) (f : FM) : Sp := fun vs H Q E => ∃ ds F, ds.length = n ∧ ArgR K io F H vs ds ∧ (∀ a, F a → H a ≠ none) ∧
  match f ds with
  | .ok (os, d) => ∀ v H' F', Aft K io vs F H F' H' → (∀ (k i : Nat), io[k]? = some i → ∃ a d', vs[i]? = some (V.ref a) ∧ os[k]? = some d' ∧ ¬ F' a ∧ OwnV K F' H' a d') → RetC K fr H F' H' v d → Q v H'
  | .exc c x => ∀ cls dx H' F', Aft K io vs F H F' H' → XD K mg F' H' c x cls dx → E cls dx H'
  | .bad => False
/-- a def that keeps its promise, called while nothing is shown -/
structure FnG (P : Program) (w : World) (K : PySem.W.Frag) (mg : Str → Option Value) (base : Heap) (k : Nat) (f : Addr) (fd : FuncData) (ps : List Str) (sp : Sp) : Prop where
  len : ∀ vs H Q E, sp vs H Q E → vs.length = ps.length
  run : ∀ (A : Around) (outer : List Env) (s : Shared) (H : Hp) (args : Args) (us : List Value) (vs : List V) (Q : VK) (E : XK), Room k A → A.guards = some [] → Env0 P w K mg base A outer s H →
    BindsTo s fd args (ps.zip us) → Vals vs us → sp vs H Q E → codeAny (model P w) A (.call (.ref f) args) (CR (L2.CX P w) outer P w H s Q E) s
def outs (ρ : Ev) : List Nat → Option (List PyData)
  | [] => some []
  | i :: r => (gt ρ i).bind fun d => (outs ρ r).map fun ds => d :: ds
theorem outs_at {ρ : Ev} : ∀ {io : List Nat} {os : List PyData}, outs ρ io = some os → ∀ (k i : Nat), io[k]? = some i → ∃ d, os[k]? = some d ∧ ρ[i]? = some (some d)
  | [], _, _, _, _, h => by simp at h
  | j :: r, os, h, k, i, e => by
    obtain ⟨d, h1, h⟩ := Option.bind_eq_some_iff.mp h
    obtain ⟨ds, h2, rfl⟩ := Option.map_eq_some_iff.mp h
    cases k with
    | zero => simp only [List.getElem?_cons_zero, Option.some.injEq] at e ⊢; subst e; exact ⟨d, rfl, gt_ok h1⟩
    | succ k => simp only [List.getElem?_cons_succ] at e ⊢; exact outs_at h2 k i e
def ini (N : Nat) (ds : List PyData) : Ev := ds.map some ++ List.replicate (N - ds.length) none
/-- a def's run -/
def fnM (N : Nat) (io : List Nat) (fr : Bool) (m : SM) : FM := fun ds => (m (ini N ds)).bind fun fl => match fl with
  | .rt ρ d => Rs.opt (outs ρ io) fun os => .ok (os, d)
  | .nx ρ => if fr then .bad else Rs.opt (outs ρ io) fun os => .ok (os, .none)
  | _ => .bad

section
variable {P : Program} {w : World} {K : PySem.W.Frag} {mg : Str → Option Value} {base : Heap}
/-- a def of the text: its body keeps the promise -/
theorem FunD.gk {x qual : Str} {params : Arguments} {body : List Stmt} {scope : Scope} {dvs : List V} {kws : List (Str × V)} {f : Addr} {fd : FuncData} {N ps : List Str} {k : Nat} {sp : Sp} (F : FunD K x qual params body scope dvs kws f fd) (S : FnScope N ps scope)
    (len : ∀ vs H Q E, sp vs H Q E → vs.length = ps.length)
    (hbody : ∀ (cdv : Value) (A : Around) (outer : List Env) (s : Shared) (H : Hp) (vs : List V) (Q : VK) (E : XK), Room k (A.deeper (envOfC qual scope s.heap.objs.size f cdv)) → A.guards = some [] → sp vs H Q E →
      ∃ t, PSs (cxOf (L2.CX P w) P w K mg base N qual scope f cdv A outer s H E) body t ∧ t { nx := fun _ H' => Q .non H', rt := Q } (L2.start N vs) H) : FnG P w K mg base (k + 1) f fd ps sp := by
  obtain ⟨oc, od, dV, kV, doc, pm, an, cdv, ct, osl, rfl, lk, hcd, _, _⟩ := F.ex
  refine ⟨len, fun A outer s H args us vs Q E room gd en0 bnd rv hsp => ?_⟩
  have hlen := len _ _ _ _ hsp
  have inK : K.In s.heap := en0.mod.kin.keeps fun b o e => (en0.bs b o e).1
  have noLim : s.heap.NoLimit := en0.mod.nolimit.keeps fun b o e => (en0.bs b o e).1
  have kinds : ∀ y ∈ ps.zip us, scope.names.lookup y.1 = some .local ∨ (scope.names.lookup y.1 = some .cell ∧ ((cellsFrom (s.heap.objs.size + 1) scope.names []).lookup y.1).isSome = true) := by
    intro y hy
    rcases S.par y.1 (List.of_mem_zip hy).1 with q | q
    · exact .inl q
    · exact .inr ⟨q, PySem.W.cellsFrom_some _ _ _ (.inl q)⟩
  refine codeAny_call_function room.depth (inK _ _ lk) rfl S.co S.gen rfl (PySem.W.codeRec_of inK hcd) (bnd _ _ _ _ (wpAny_newFunctionEnv_cells S.kind kinds fun env he st IC => ?_))
  subst he
  refine ⟨noLim.keeps IC.toInCall.keep, codeAny_func ?_⟩
  obtain ⟨t, ht, q⟩ := hbody cdv A outer s H vs Q E (room.deeper _) gd hsp
  have I0 := inv_start (CX := L2.CX P w) (P := P) (w := w) (K := K) (mg := mg) (base := base) (E := E) S room.hd en0 hlen rv IC
  refine wpAny_mono (ht.run [] st (L2.start N vs) H _ I0 q) (fun fl s' hs => ?_) (fun _ _ z => z)
  cases fl with
  | ret u => obtain ⟨v, σ', H', J, ru, qv⟩ := hs; exact ⟨v, H', J.os, J.bare, J.base, J.hok, ru, qv⟩
  | next => obtain ⟨σ', H', J, qv⟩ := hs; exact ⟨V.non, H', J.os, J.bare, J.base, J.hok, rfl, qv⟩
  | brk => obtain ⟨_, _, _, z⟩ := hs; exact False.elim z
  | cont => obtain ⟨_, _, _, z⟩ := hs; exact False.elim z
theorem ini_get {N : Nat} {ds : List PyData} {i : Nat} {d : PyData} (h : (ini N ds)[i]? = some (some d)) : ds[i]? = some d := by
  unfold ini at h
  by_cases hi : i < ds.length
  · rw [List.getElem?_append_left (by simpa using hi), List.getElem?_map] at h
    cases e : ds[i]? with
    | none => rw [e] at h; cases h
    | some d' => rw [e] at h; cases h; rfl
  · rw [List.getElem?_append_right (by simpa using hi), List.getElem?_replicate] at h
    split at h <;> cases h
theorem start_get {N : List Str} {vs : List V} {i : Nat} {v : V} (h : vs[i]? = some v) : (L2.start N vs)[i]? = some (some v) := by
  unfold L2.start
  have hi := (List.getElem?_eq_some_iff.mp h).1
  rw [List.getElem?_append_left (by simpa using hi), List.getElem?_map, h]; rfl
/-- a body that does what m does keeps the def's promise -/
theorem fun_ok {x qual : Str} {params : Arguments} {body : List Stmt} {scope : Scope} {dvs : List V} {kws : List (Str × V)} {f : Addr} {fd : FuncData} {N ps : List Str} {k : Nat} (io : List Nat) (fr : Bool) {m : SM} {nN np : Nat} (F : FunD K x qual params body scope dvs kws f fd) (S : FnScope N ps scope)
    (hN : N.length = nN := by rfl) (hp : ps.length = np := by rfl)
    (hb : ∀ (cdv : Value) (A : Around) (outer : List Env) (s : Shared) (H : Hp) (E : XK) (B : Bs io), Room k (A.deeper (envOfC qual scope s.heap.objs.size f cdv)) → A.guards = some [] → Takes (cxOf (L2.CX P w) P w K mg base N qual scope f cdv A outer s H E) B.W →
      PassesOwn (model P w) (A.deeper (envOfC qual scope s.heap.objs.size f cdv)) (envOfC qual scope s.heap.objs.size f cdv) (cxOf (L2.CX P w) P w K mg base N qual scope f cdv A outer s H E).xe → B.mg = mg → B.fr = fr →
      Dss (cxOf (L2.CX P w) P w K mg base N qual scope f cdv A outer s H E) B io ⟨io, [], []⟩ body m) :
    FnG P w K mg base (k + 1) f fd ps (spD K mg io np fr (fnM nN io fr m)) := by
  subst hN hp
  refine FunD.gk F S (fun vs H Q E ⟨ds, Fz, h1, h2, _⟩ => h2.len.trans h1) fun cdv A outer s H vs Q E room gd ⟨ds, Fz, h1, ar, dom, h3⟩ => ?_
  have hlv : vs.length = ps.length := ar.len.trans h1
  have hln : ps.length ≤ N.length := by
    have := congrArg List.length S.pre
    rw [List.length_take] at this
    omega
  have ioA : ∀ i ∈ io, ∃ a, vs[i]? = some (V.ref a) ∧ ¬ Fz a ∧ ∃ d, ds[i]? = some d ∧ OwnV K Fz H a d := fun i hi => by
    have hl := ar.lt i hi
    have e1 : vs[i]? = some vs[i] := List.getElem?_eq_getElem hl
    have e2 : ds[i]? = some (ds[i]'(ar.len ▸ hl)) := List.getElem?_eq_getElem _
    obtain ⟨a, q1, q2, q3⟩ := ar.ow i _ _ hi e1 e2
    exact ⟨a, by rw [e1, q1], q2, _, e2, q3⟩
  let B : Bs io := ⟨H, Fz, io.map fun i => (i, adr ((L2.start N vs)[i]?)), mg, fun cls d _ H => E cls d H, fr, by rw [List.map_map]; exact (List.map_congr_left fun _ _ => rfl).trans (List.map_id io)⟩
  have hA : ∀ i ∈ io, ∀ a, vs[i]? = some (V.ref a) → a ∈ B.A0 := fun i hi a e => by
    refine List.mem_map.mpr ⟨(i, adr ((L2.start N vs)[i]?)), List.mem_map.mpr ⟨i, hi, rfl⟩, ?_⟩
    rw [start_get e]; rfl
  have hA' : ∀ a ∈ B.A0, ∃ i ∈ io, vs[i]? = some (V.ref a) := fun a h => by
    obtain ⟨p, hp, rfl⟩ := List.mem_map.mp h
    obtain ⟨i, hi, rfl⟩ := List.mem_map.mp hp
    obtain ⟨a, e, _⟩ := ioA i hi
    refine ⟨i, hi, ?_⟩
    rw [e, start_get e]; rfl
  have re0 : RE K B io Fz (ini N.length ds) (L2.start N vs) H := by
    refine ⟨?_, fun i d hi e => ?_, fun i d hi e => ?_, fun i j d e hi hj hn q1 q2 => ?_, dom, fun b o h _ => h, fun a h => h, fun a h => .inl h, fun p hp => ?_, fun i e => ?_⟩
    · unfold ini L2.start
      simp only [List.length_append, List.length_map, List.length_replicate]
      rw [ar.len]
    · have e' := ini_get e
      have hl := (List.getElem?_eq_some_iff.mp e').1
      have e1 : vs[i]? = some (vs[i]'(by rw [ar.len]; exact hl)) := List.getElem?_eq_getElem _
      exact ⟨_, start_get e1, ar.fz i _ d hi e1 e'⟩
    · obtain ⟨a, q1, q2, d', q3, q4⟩ := ioA i hi
      rw [ini_get e] at q3; cases q3
      exact ⟨a, start_get q1, q2, .inr (hA i hi a q1), q4⟩
    · obtain ⟨a, w1, _⟩ := ioA i hi
      obtain ⟨b, w2, _⟩ := ioA j hj
      rw [start_get w1, start_get w2]
      intro z
      refine ar.ne i j hi hj hn (ar.lt i hi) ?_
      rw [w1, w2]
      exact Option.some.inj z
    · obtain ⟨i, hi, rfl⟩ := List.mem_map.mp hp
      obtain ⟨a, q1, _, d, q3, _⟩ := ioA i hi
      refine ⟨by rw [start_get q1]; rfl, hi, d, ?_⟩
      unfold ini
      have hl := (List.getElem?_eq_some_iff.mp q3).1
      rw [List.getElem?_append_left (by simpa using hl), List.getElem?_map, q3]; rfl
    · unfold ini at e
      unfold L2.start
      by_cases hi : i < ds.length
      · rw [List.getElem?_append_left (by simpa using hi), List.getElem?_map, List.getElem?_eq_getElem hi] at e; cases e
      · rw [List.getElem?_append_right (by simpa using hi)] at e
        rw [List.getElem?_append_right (by simp only [List.length_map]; rw [ar.len]; omega)]
        simp only [List.length_map] at e ⊢
        rw [ar.len]
        rw [List.getElem?_replicate] at e ⊢
        split at e
        · rename_i hlt; rw [if_pos hlt]
        · cases e
  have aft : ∀ {ρ' σ' H' F'}, RE K B io F' ρ' σ' H' → Aft K io vs Fz H F' H' := fun {ρ' σ' H' F'} r => by
    refine ⟨fun a h => r.fold a h, fun a h => r.fnew a h, r.dom, fun a h => ?_, fun b o h hn => r.old b o h fun z => ?_⟩
    · by_cases hz : a ∈ B.A0
      · exact r.a0 a hz
      · cases e : H a with
        | none => exact absurd e h
        | some o => rw [r.old a o e hz]; simp
    · obtain ⟨i, hi, e⟩ := hA' b z
      exact hn i hi e
  refine ⟨_, hb cdv A outer s H E B room gd (takes_of rfl rfl rfl rfl) (passes_of rfl) rfl rfl, ini N.length ds, Fz, re0, ?_⟩
  unfold fnM at h3
  cases q : m (ini N.length ds) with
  | bad => rw [q] at h3; exact h3.elim
  | exc c x =>
    rw [q] at h3
    exact fun cls dx ρ' σ' H' F' r mo xd => h3 cls dx H' F' (aft r) xd
  | ok fl =>
    rw [q] at h3
    have outsOk : ∀ {ρ' : Ev} {os : List PyData} {σ' H' F'}, outs ρ' io = some os → RE K B io F' ρ' σ' H' → ∀ (k i : Nat), io[k]? = some i → ∃ a d', vs[i]? = some (V.ref a) ∧ os[k]? = some d' ∧ ¬ F' a ∧ OwnV K F' H' a d' := fun {ρ' os σ' H' F'} ho r k i hk => by
      obtain ⟨d, e1, e2⟩ := outs_at ho k i hk
      have hi := List.mem_of_getElem? hk
      obtain ⟨a, q1, _⟩ := ioA i hi
      obtain ⟨b, w1, w2, _, w4⟩ := r.ow i d hi e2
      have q2 := (r.io (i, adr ((L2.start N vs)[i]?)) (List.mem_map.mpr ⟨i, hi, rfl⟩)).1
      have e3 : adr ((L2.start N vs)[i]?) = a := by rw [start_get q1]; rfl
      rw [e3] at q2
      rw [q2] at w1; cases w1
      exact ⟨a, d, q1, e1, w2, w4⟩
    cases fl with
    | rt ρ d =>
      cases ho : outs ρ io with
      | none => simp only [Rs.bind, ho, Rs.opt] at h3
      | some os =>
        simp only [Rs.bind, ho, Rs.opt] at h3
        exact fun v σ' H' F' r mo rp => h3 v H' F' (aft r) (outsOk ho r) rp
    | nx ρ =>
      cases fr with
      | true => simp only [Rs.bind, if_true] at h3
      | false =>
        cases ho : outs ρ io with
        | none => simp only [Rs.bind, ho, Rs.opt, Bool.false_eq_true, if_false] at h3
        | some os =>
          simp only [Rs.bind, ho, Rs.opt, Bool.false_eq_true, if_false] at h3
          exact fun σ' H' F' r mo => h3 .non H' F' (aft r) (outsOk ho r) .non
    | bk ρ => exact h3.elim
    | ct ρ => exact h3.elim
end

/-! ### calls -/
inductive Ar where
  | e (m : EM)
  | io (j : Nat)
def evA : List Ar → Ev → Rs (Ev × List (PyData ⊕ Nat))
  | [], ρ => .ok (ρ, [])
  | .e m :: r, ρ => (m ρ).bind fun x => (evA r x.1).bind fun y => .ok (y.1, .inl x.2 :: y.2)
  | .io j :: r, ρ => Rs.opt (gt ρ j) fun _ => (evA r ρ).bind fun y => .ok (y.1, .inr j :: y.2)
def resolve (ρ : Ev) : List (PyData ⊕ Nat) → Option (List PyData)
  | [] => some []
  | .inl d :: r => (resolve ρ r).map fun ds => d :: ds
  | .inr j :: r => (gt ρ j).bind fun d => (resolve ρ r).map fun ds => d :: ds
def ioOf : List Ar → Nat → List Nat
  | [], _ => []
  | .e _ :: r, n => ioOf r (n + 1)
  | .io _ :: r, n => n :: ioOf r (n + 1)
def jsOf : List Ar → List Nat
  | [] => []
  | .e _ :: r => jsOf r
  | .io j :: r => j :: jsOf r
/-- f(..), the defaults behind -/
def mCall (f : FM) (as : List Ar) (dfl : List PyData) : EM := fun ρ => (evA as ρ).bind fun x => Rs.opt (resolve x.1 x.2) fun ds => (if (jsOf as).isEmpty then f (ds ++ dfl) else (f (ds ++ dfl)).quiet).bind fun y => .ok (setL x.1 (jsOf as) y.1, y.2)
inductive RpA (K : PySem.W.Frag) (F : Addr → Prop) (H : Hp) (σ : Sl) : List V → List (PyData ⊕ Nat) → Prop
  | nil : RpA K F H σ [] []
  | inl {v : V} {d : PyData} {vs : List V} {as : List (PyData ⊕ Nat)} : Rp K F H v d → RpA K F H σ vs as → RpA K F H σ (v :: vs) (.inl d :: as)
  | inr {v : V} {j : Nat} {vs : List V} {as : List (PyData ⊕ Nat)} : σ[j]? = some (some v) → RpA K F H σ vs as → RpA K F H σ (v :: vs) (.inr j :: as)
theorem RpA.mono {K : PySem.W.Frag} {F F' : Addr → Prop} {H H' : Hp} {σ : Sl} (m : Mono K F H F' H') : ∀ {vs : List V} {as : List (PyData ⊕ Nat)}, RpA K F H σ vs as → RpA K F' H' σ vs as
  | _, _, .nil => .nil
  | _, _, .inl h t => .inl (h.mono m) (RpA.mono m t)
  | _, _, .inr h t => .inr h (RpA.mono m t)
def kR {K : PySem.W.Frag} {io : List Nat} (B : Bs io) (own : List Nat) (σ : Sl) (Q : List V → Hp → Prop) : KF K (Ev × List (PyData ⊕ Nat)) :=
  ⟨fun F H x => ∀ vs H' F', RE K B own F' x.1 σ H' → Mn K F H F' H' → RpA K F' H' σ vs x.2 → Q vs H', fun m h v H' F' re mo rp => h v H' F' re (m.trans mo) rp⟩
def tDR (K : PySem.W.Frag) {io : List Nat} (B : Bs io) (own : List Nat) (as : List Ar) : TA := fun σ H Q => ∃ ρ F, RE K B own F ρ σ H ∧ Wa B (kR (K := K) B own σ Q) F H (evA as ρ)
abbrev Dr (X : Cx) {io : List Nat} (B : Bs io) (own : List Nat) (es : List Expr) (as : List Ar) : Prop := PA X es (tDR X.K B own as)
section
variable {X : Cx} {io : List Nat} {B : Bs io} {own : List Nat} {e : Expr} {es : List Expr} {pos : Pos} {m : EM}
theorem dr_nil : Dr X B own [] [] := pa_imp pa_nil fun σ H Q ⟨ρ, F, re, w⟩ => w [] H F re Mn.refl .nil
theorem dr_e {as : List Ar} (ha : De X B own e m) (hr : Dr X B own es as) (hs : starEach (e :: es) X.env = (false, eval e X.env) :: starEach es X.env := by rfl) : Dr X B own (e :: es) (.e m :: as) :=
  pa_imp (pa_cons ha hr hs) fun σ H Q ⟨ρ, F, re, w⟩ => ⟨ρ, F, re, thE w fun ρ1 d1 v1 H1 F1 re1 mo1 rp1 w1 => ⟨ρ1, F1, re1, w1.bind fun y wy vs H2 F2 re2 mo2 rp2 =>
    wy _ H2 F2 re2 mo2 (.inl (rp1.mono mo2.toMono) rp2)⟩⟩
theorem dr_io (j : Nat) {x : Str} {as : List Ar} (hr : Dr X B own es as) (hj : j ∈ own := by decide) (hN : X.N[j]? = some x := by rfl) (hv : Vis X.env.scope x := by first | exact Or.inl rfl | exact Or.inr (Or.inl rfl) | exact Or.inr (Or.inr rfl))
    (hd : (x == ("__debug__" : Str)) = false := by decide) (hcd : (x == ("__classdict__" : Str)) = false := by decide)
    (hs : starEach (.Name x pos :: es) X.env = (false, eval (.Name x pos) X.env) :: starEach es X.env := by rfl) : Dr X B own (.Name x pos :: es) (.io j :: as) :=
  pa_imp (pa_cons (pv j hN hv hd hcd) hr hs) fun σ H Q ⟨ρ, F, re, w⟩ => by
    obtain ⟨d, hd, w1⟩ := Wa.opt w
    obtain ⟨a, e1, _⟩ := re.ow j d hj (gt_ok hd)
    exact ⟨_, e1, ρ, F, re, w1.bind fun y wy vs H2 F2 re2 mo2 rp2 => wy _ H2 F2 re2 mo2 (.inr e1 rp2)⟩
/-- the callee runs -/
theorem run_g {CXk : Nat} {f : Addr} {fd : FuncData} {ps : List Str} {sp : Sp} {pins : List (Addr × Obj)} {σ : Sl} {H : Hp} {s : Shared} {Q : VK} {E : XK} {us : List Value} {vs : List V} {dvs : List V} {ds : List Value} (G : FnG X.prog X.w X.K X.mg X.base CXk f fd ps sp) (hr : Room CXk X.A) (gd : X.A.guards = some [])
    (hb : Binds X.K fd ps ds) (hd : Vals dvs ds) (hx : PassesAt (L2.CX X.prog X.w) X σ E) (I : Inv X pins σ H s) (r : Vals vs us) (h : sp (vs ++ dvs) H Q E) : wpAny (model X.prog X.w) X.A (call (.ref f) us) (EP X pins σ Q) X.xe s := by
  have rr : Vals (vs ++ dvs) (us ++ ds) := r.append hd
  have ll : (us ++ ds).length = ps.length := by rw [← rr.length]; exact G.len _ _ _ _ h
  refine wpAny_call (codeAny_mono (G.run X.A X.stack s H ⟨us, []⟩ (us ++ ds) (vs ++ dvs) Q E hr gd I.env0 (hb s us I.kIn ll) rr h) fun res s' z => ?_)
  cases res with
  | error err => exact hx pins H s err s' I z
  | ok fl =>
    cases fl with
    | ret u => exact I.after z
    | _ => exact z.elim
/-- what the arguments are to the callee -/
theorem argR {K : PySem.W.Frag} {F : Addr → Prop} {H : Hp} {ρ : Ev} {σ : Sl} (re : RE K B own F ρ σ H) : ∀ {as : List (PyData ⊕ Nat)} {vs : List V} {ds : List PyData}, RpA K F H σ vs as → resolve ρ as = some ds → (∀ j, .inr j ∈ as → j ∈ own) →
    vs.length = ds.length ∧ as.length = ds.length ∧ ∀ (i : Nat) v d, vs[i]? = some v → ds[i]? = some d → (∃ d', as[i]? = some (.inl d') ∧ Rp K F H v d) ∨ ∃ j a, as[i]? = some (.inr j) ∧ v = .ref a ∧ σ[j]? = some (some v) ∧ ρ[j]? = some (some d) ∧ ¬ F a ∧ OwnV K F H a d
  | _, _, _, .nil, h, _ => by cases h; exact ⟨rfl, rfl, fun i v d e => by simp at e⟩
  | _, _, _, .inl rp t, h, ho => by
    obtain ⟨ds', h1, rfl⟩ := Option.map_eq_some_iff.mp h
    obtain ⟨l, l2, k⟩ := argR re t h1 fun j hj => ho j (List.mem_cons_of_mem _ hj)
    refine ⟨by simp [l], by simp [l2], fun i v d e1 e2 => ?_⟩
    cases i with
    | zero => simp only [List.getElem?_cons_zero, Option.some.injEq] at e1 e2; subst e1 e2; exact .inl ⟨_, rfl, rp⟩
    | succ i => simp only [List.getElem?_cons_succ] at e1 e2 ⊢; exact k i v d e1 e2
  | _, _, _, .inr (j := j) rs t, h, ho => by
    obtain ⟨d0, h0, h⟩ := Option.bind_eq_some_iff.mp h
    obtain ⟨ds', h1, rfl⟩ := Option.map_eq_some_iff.mp h
    obtain ⟨l, l2, k⟩ := argR re t h1 fun j hj => ho j (List.mem_cons_of_mem _ hj)
    refine ⟨by simp [l], by simp [l2], fun i v d e1 e2 => ?_⟩
    cases i with
    | zero =>
      simp only [List.getElem?_cons_zero, Option.some.injEq] at e1 e2; subst e1 e2
      obtain ⟨a, q1, q2, _, q4⟩ := re.ow j _ (ho j List.mem_cons_self) (gt_ok h0)
      rw [rs] at q1; cases q1
      exact .inr ⟨j, a, rfl, rfl, rs, gt_ok h0, q2, q4⟩
    | succ i => simp only [List.getElem?_cons_succ] at e1 e2 ⊢; exact k i v d e1 e2
theorem Wa_bindE {K : PySem.W.Frag} {α β : Type} {κ : KF K α} {F : Addr → Prop} {H : Hp} {x : Rs β} {f : β → Rs α} {κ' : KF K β} (w : Wa B κ F H (x.bind f)) (h : ∀ b, x = .ok b → Wa B κ F H (f b) → κ'.k F H b) : Wa B κ' F H x := by
  cases x with
  | ok b => exact h b rfl w
  | exc c x => exact w
  | bad => exact w
theorem ev_shape : ∀ {as : List Ar} {ρ : Ev} {y : Ev × List (PyData ⊕ Nat)}, evA as ρ = .ok y → y.2.length = as.length ∧ ∀ (i j : Nat), y.2[i]? = some (.inr j) ↔ as[i]? = some (.io j)
  | [], ρ, y, h => by cases h; exact ⟨rfl, fun i j => by simp⟩
  | .e m :: r, ρ, y, h => by
    obtain ⟨x, h1, h⟩ := Rs.bind_ok h
    obtain ⟨z, h2, h⟩ := Rs.bind_ok h
    cases h
    obtain ⟨l, k⟩ := ev_shape h2
    refine ⟨by simp [l], fun i j => ?_⟩
    cases i with
    | zero => simp
    | succ i => simpa using k i j
  | .io j0 :: r, ρ, y, h => by
    cases hg : gt ρ j0 with
    | none => simp only [evA, hg, Rs.opt] at h; cases h
    | some d0 =>
      simp only [evA, hg, Rs.opt] at h
      obtain ⟨z, h2, h⟩ := Rs.bind_ok h
      cases h
      obtain ⟨l, k⟩ := ev_shape h2
      refine ⟨by simp [l], fun i j => ?_⟩
      cases i with
      | zero => simp
      | succ i => simpa using k i j
theorem io_at : ∀ {as : List Ar} {n k i : Nat}, (ioOf as n)[k]? = some i → n ≤ i ∧ ∃ j, (jsOf as)[k]? = some j ∧ as[i - n]? = some (.io j)
  | [], _, _, _, h => by simp [ioOf] at h
  | .e m :: r, n, k, i, h => by
    obtain ⟨h1, j, h2, h3⟩ := io_at (as := r) (n := n + 1) h
    refine ⟨by omega, j, h2, ?_⟩
    rw [show i - n = (i - (n + 1)) + 1 by omega, List.getElem?_cons_succ]; exact h3
  | .io j0 :: r, n, k, i, h => by
    cases k with
    | zero =>
      simp only [ioOf, List.getElem?_cons_zero, Option.some.injEq] at h
      subst h
      exact ⟨Nat.le_refl _, j0, rfl, by simp⟩
    | succ k =>
      simp only [ioOf, List.getElem?_cons_succ] at h
      obtain ⟨h1, j, h2, h3⟩ := io_at (as := r) (n := n + 1) h
      refine ⟨by omega, j, by simpa [jsOf] using h2, ?_⟩
      rw [show i - n = (i - (n + 1)) + 1 by omega, List.getElem?_cons_succ]; exact h3
theorem io_mem : ∀ {as : List Ar} {n i j : Nat}, as[i]? = some (.io j) → ∃ k : Nat, (ioOf as n)[k]? = some (n + i) ∧ (jsOf as)[k]? = some j
  | [], _, _, _, h => by simp at h
  | .e m :: r, n, i, j, h => by
    cases i with
    | zero => simp at h
    | succ i =>
      obtain ⟨k, h1, h2⟩ := io_mem (n := n + 1) (by simpa using h)
      exact ⟨k, by rw [show n + (i + 1) = n + 1 + i by omega]; exact h1, h2⟩
  | .io j0 :: r, n, i, j, h => by
    cases i with
    | zero => simp at h; subst h; exact ⟨0, by simp [ioOf], by simp [jsOf]⟩
    | succ i =>
      obtain ⟨k, h1, h2⟩ := io_mem (n := n + 1) (by simpa using h)
      exact ⟨k + 1, by rw [show n + (i + 1) = n + 1 + i by omega]; simpa [ioOf] using h1, by simpa [jsOf] using h2⟩
theorem call_any {f : FM} {as : List Ar} {dfl : List PyData} {dvs : List V} {iol : List Nat} {n : Nat} {fr : Bool} (hio : ioOf as 0 = iol) (hj : ∀ j ∈ jsOf as, j ∈ own) (nd : (jsOf as).Nodup) (hn : as.length + dfl.length = n) (hm : B.mg = X.mg) (hdf : ∀ F H, Rps X.K F H dvs dfl) (hio2 : ∀ i ∈ io, i ∈ own)
    {σ : Sl} {H : Hp} {Q : VK} {κ : KF X.K (Ev × PyData)} (hκ : ∀ {F1 H1 x F' H' v ρ1}, κ.k F1 H1 x → RE X.K B own F1 ρ1 σ H1 → RE X.K B own F' x.1 σ H' → Mn X.K F1 H1 F' H' → RetC X.K fr H1 F' H' v x.2 → Q v H')
    {ρ : Ev} {F : Addr → Prop} (re : RE X.K B own F ρ σ H) (w : Wa B κ F H (mCall f as dfl ρ)) : tDR X.K B own as σ H fun vs H1 => spD X.K X.mg iol n fr f (vs ++ dvs) H1 Q (WE B.W σ) := by
  refine ⟨ρ, F, re, Wa_bindE w fun y ey wy vs H1 F1 re1 mo1 rpa => ?_⟩
  obtain ⟨ds, hr, w2⟩ := Wa.opt wy
  obtain ⟨sl, sh⟩ := ev_shape ey
  have memJ : ∀ {i j : Nat}, y.2[i]? = some (.inr j) → j ∈ jsOf as := fun {i j} e => by
    obtain ⟨k, _, h2⟩ := io_mem (n := 0) ((sh i j).mp e)
    exact List.mem_of_getElem? h2
  obtain ⟨lv, la, at'⟩ := argR re1 rpa hr fun j hjm => by
    obtain ⟨i, e⟩ := List.mem_iff_getElem?.mp hjm
    exact hj j (memJ e)
  have ld : dvs.length = dfl.length := (hdf F1 H1).length
  have ioAt : ∀ {i : Nat}, i ∈ iol → ∃ j, y.2[i]? = some (.inr j) := fun {i} hi => by
    rw [← hio] at hi
    obtain ⟨k, hk⟩ := List.mem_iff_getElem?.mp hi
    obtain ⟨_, j, _, h3⟩ := io_at hk
    exact ⟨j, (sh i j).mpr (by simpa using h3)⟩
  have small : ∀ {i j : Nat}, y.2[i]? = some (.inr j) → i < vs.length := fun {i j} e => by
    have := (List.getElem?_eq_some_iff.mp e).1
    omega
  have vL : ∀ {i : Nat}, i < vs.length → (vs ++ dvs)[i]? = vs[i]? := fun {i} h => List.getElem?_append_left h
  have dL : ∀ {i : Nat}, i < vs.length → (ds ++ dfl)[i]? = ds[i]? := fun {i} h => List.getElem?_append_left (by omega)
  have ow : ∀ {i j : Nat}, y.2[i]? = some (.inr j) → ∃ a d, vs[i]? = some (V.ref a) ∧ ds[i]? = some d ∧ σ[j]? = some (some (V.ref a)) ∧ y.1[j]? = some (some d) ∧ ¬ F1 a ∧ OwnV X.K F1 H1 a d := fun {i j} e => by
    have hi := small e
    have e1 : vs[i]? = some vs[i] := List.getElem?_eq_getElem hi
    have e2 : ds[i]? = some (ds[i]'(by omega)) := List.getElem?_eq_getElem _
    rcases at' i _ _ e1 e2 with ⟨d', q, _⟩ | ⟨j', a, q1, q2, q3, q4, q5, q6⟩
    · rw [e] at q; cases q
    · rw [e] at q1; cases q1
      exact ⟨a, _, by rw [e1, q2], e2, by rw [q3, q2], q4, q5, q6⟩
  refine ⟨ds ++ dfl, F1, by simp only [List.length_append]; omega, ⟨by simp only [List.length_append]; omega, fun i v d hi e1 e2 => ?_, fun i v d hi e1 e2 => ?_, fun i j hi hj' hne hl => ?_, fun i hi => ?_⟩, re1.dom, ?_⟩
  · by_cases hl : i < vs.length
    · rw [vL hl] at e1
      rw [dL hl] at e2
      rcases at' i v d e1 e2 with ⟨d', _, q⟩ | ⟨j', a, q1, _⟩
      · exact q
      · obtain ⟨k, h1, _⟩ := io_mem (n := 0) ((sh i j').mp q1)
        rw [hio] at h1
        exact absurd (by simpa using List.mem_of_getElem? h1) hi
    · rw [List.getElem?_append_right (by omega)] at e1
      rw [List.getElem?_append_right (by omega), ← lv] at e2
      obtain ⟨v', q1, q2⟩ := (hdf F1 H1).get e2
      rw [e1] at q1; cases q1; exact q2
  · obtain ⟨j, hj1⟩ := ioAt hi
    have hl := small hj1
    rw [vL hl] at e1
    rw [dL hl] at e2
    obtain ⟨a, d', q1, q2, q3, q4, q5, q6⟩ := ow hj1
    rw [e1] at q1; cases q1
    rw [e2] at q2; cases q2
    exact ⟨a, rfl, q5, q6⟩
  · obtain ⟨j1, hj1⟩ := ioAt hi
    obtain ⟨j2, hj2⟩ := ioAt hj'
    rw [vL (small hj1), vL (small hj2)]
    obtain ⟨a1, d1, q1, _, s1, p1, _⟩ := ow hj1
    obtain ⟨a2, d2, q2, _, s2, p2, _⟩ := ow hj2
    have jne : j1 ≠ j2 := fun z => by
      subst z
      obtain ⟨k1, u1, u2⟩ := io_mem (n := 0) ((sh i j1).mp hj1)
      obtain ⟨k2, u3, u4⟩ := io_mem (n := 0) ((sh j j1).mp hj2)
      have hk : k1 = k2 := (List.getElem?_inj (List.getElem?_eq_some_iff.mp u2).1 nd).mp (u2.trans u4.symm)
      subst hk
      rw [u1] at u3
      simp only [Option.some.injEq, Nat.zero_add] at u3
      exact hne u3
    intro z
    exact re1.ne j1 j2 d1 d2 (hj _ (memJ hj1)) (hj _ (memJ hj2)) jne p1 p2 (by rw [s1, s2, ← q1, ← q2, z])
  · obtain ⟨j, hj1⟩ := ioAt hi
    have := small hj1
    simp only [List.length_append]
    omega
  · have setd : ∀ j ∈ jsOf as, ∃ d, y.1[j]? = some (some d) := fun j h => by
      obtain ⟨k, hk⟩ := List.mem_iff_getElem?.mp h
      have : ∃ i : Nat, y.2[i]? = some (.inr j) := by
        have hl : k < (ioOf as 0).length := by
          have len : ∀ (as : List Ar) (n : Nat), (ioOf as n).length = (jsOf as).length := by
            intro as
            induction as with
            | nil => intro n; rfl
            | cons a r ih => intro n; cases a <;> simp [ioOf, jsOf, ih]
          rw [len]; exact (List.getElem?_eq_some_iff.mp hk).1
        obtain ⟨_, j', h2, h3⟩ := io_at (List.getElem?_eq_getElem hl)
        rw [hk] at h2; cases h2
        exact ⟨_, (sh _ j).mpr (by simpa using h3)⟩
      obtain ⟨i, hi⟩ := this
      obtain ⟨a, d, _, _, _, q, _⟩ := ow hi
      exact ⟨d, q⟩
    have behind : ∀ {F' H'}, Aft X.K iol (vs ++ dvs) F1 H1 F' H' → ∀ {os : List PyData}, (∀ (k i : Nat), iol[k]? = some i → ∃ a d', (vs ++ dvs)[i]? = some (V.ref a) ∧ os[k]? = some d' ∧ ¬ F' a ∧ OwnV X.K F' H' a d') →
        RE X.K B own F' (setL y.1 (jsOf as) os) σ H' ∧ Mn X.K F1 H1 F' H' := fun {F' H'} A {os} ho => by
      refine re1.call hj nd setd A.sub A.new A.dom A.keep (fun b o hb hf => A.frame b o hb fun i hi z => ?_) fun k j hk => ?_
      · obtain ⟨j, hj1⟩ := ioAt hi
        rw [vL (small hj1)] at z
        obtain ⟨a, d, q1, _, q3, _⟩ := ow hj1
        rw [z] at q1; cases q1
        exact hf j (memJ hj1) q3
      · have len : ∀ (as : List Ar) (n : Nat), (ioOf as n).length = (jsOf as).length := by
          intro as
          induction as with
          | nil => intro n; rfl
          | cons a r ih => intro n; cases a <;> simp [ioOf, jsOf, ih]
        have hl : k < (ioOf as 0).length := by rw [len]; exact (List.getElem?_eq_some_iff.mp hk).1
        obtain ⟨i, e1⟩ : ∃ i, (ioOf as 0)[k]? = some i := ⟨_, List.getElem?_eq_getElem hl⟩
        obtain ⟨_, j', h2, h3⟩ := io_at e1
        rw [hk] at h2; cases h2
        have hj1 := (sh i j).mpr (by simpa using h3)
        rw [hio] at e1
        obtain ⟨a, d', q1, q2, q3, q4⟩ := ho k i e1
        rw [vL (small hj1)] at q1
        obtain ⟨a', d, w1, _, w3, _⟩ := ow hj1
        rw [q1] at w1; cases w1
        exact ⟨a, d', w3, q2, q3, q4⟩
    have w3 := w2.mono mo1
    cases q : f (ds ++ dfl) with
    | bad => rw [q] at w3; by_cases he : (jsOf as).isEmpty = true <;> simp only [he, if_true, if_false, Rs.quiet, Rs.bind] at w3 <;> exact w3.elim
    | ok z =>
      have w4 : Wa B κ F1 H1 (.ok (setL y.1 (jsOf as) z.1, z.2)) := by
        rw [q] at w3; by_cases he : (jsOf as).isEmpty = true <;> simp only [he, if_true, if_false, Rs.quiet, Rs.bind] at w3 <;> exact w3
      obtain ⟨os, r⟩ := z
      exact fun v H' F' A ho rp => let ⟨re2, mo2⟩ := behind A ho; hκ w4 re1 re2 mo2 rp
    | exc c x =>
      rw [q] at w3
      by_cases he : (jsOf as).isEmpty = true
      · simp only [he, if_true, Rs.bind] at w3
        have w5 : ExcW X.K B F1 H1 c x := w3
        have hj0 : jsOf as = [] := List.isEmpty_iff.mp he
        have hi0 : iol = [] := by
          rw [← hio]
          cases hx : ioOf as 0 with
          | nil => rfl
          | cons i r =>
            obtain ⟨_, j, h2, _⟩ := io_at (as := as) (n := 0) (k := 0) (i := i) (by rw [hx]; rfl)
            rw [hj0] at h2; simp at h2
        subst hi0
        intro cls dx H' F' A xd
        have q1 := behind A (os := []) (fun k i hk => by simp at hk)
        rw [hj0] at q1
        obtain ⟨re2, mo2⟩ := q1
        obtain ⟨F3, re3, mo3⟩ := re2.freeze hio2 fun i h => h
        refine w5 cls dx _ σ H' F3 re3 (mo2.toMono.trans mo3) ?_
        rw [hm]
        obtain ⟨c2, c3⟩ := xd
        refine ⟨c2, ?_⟩
        cases x with
        | none => exact c3
        | some d =>
          obtain ⟨dd, v, e1, e0, e2, e3⟩ := c3
          exact ⟨dd, v, e1, mo3.sub _ e0, mo3.ex _ _ e0 e2, e3.mono mo3⟩
      · simp only [he, Rs.quiet, Rs.bind, Bool.false_eq_true, if_false] at w3
        exact w3.elim
theorem tD_call {f : FM} {as : List Ar} {dfl : List PyData} {dvs : List V} {iol : List Nat} {n : Nat} (hio : ioOf as 0 = iol) (hj : ∀ j ∈ jsOf as, j ∈ own) (nd : (jsOf as).Nodup) (hn : as.length + dfl.length = n) (hm : B.mg = X.mg) (hdf : ∀ F H, Rps X.K F H dvs dfl) (hio2 : ∀ i ∈ io, i ∈ own) :
    ∀ σ H Q, tD X.K B own (mCall f as dfl) σ H Q → tDR X.K B own as σ H fun vs H1 => spD X.K X.mg iol n false f (vs ++ dvs) H1 Q (WE B.W σ) := fun σ H Q ⟨ρ, F, re, w⟩ =>
  call_any (fr := false) (κ := kE (K := X.K) B own σ Q) hio hj nd hn hm hdf hio2 (fun k _ re2 mo2 rp => k _ _ _ re2 mo2 rp) re w
/-- f(e, ..), f a def of the text -/
theorem pe_callG {k : Nat} {f : Addr} {fd : FuncData} {ps : List Str} {sp : Sp} {x : Str} {p : Pos} {t : TA} {W : WX} {dvs : List V} {ds : List Value} (G : FnG X.prog X.w X.K X.mg X.base k f fd ps sp) (hr : Room k X.A) (gd : X.A.guards = some []) (hg : Gl X x) (hm : X.mg x = some (.ref f)) (hk : PySem.W.keepIn X.K (.ref f) = true)
    (hb : Binds X.K fd ps ds) (hd : Vals dvs ds) (tk : Takes X W) (ha : PA X (e :: es) t) (hdb : (x == ("__debug__" : Str)) = false) (hs : starEach (e :: es) X.env = (false, eval e X.env) :: starEach es X.env) (hpl : (backTo pos (starEach es X.env)).any (·.1) = false) :
    PE X (.Call (.Name x p) (e :: es) [] pos) (fun σ H Q => t σ H fun vs H1 => sp (vs ++ dvs) H1 Q (WE W σ)) := by
  refine ⟨fun pins s σ H Q I h => wpAny_Call_Name_kw (ld_glob I hg hm (PySem.W.callWith_K (h₀ := X.base) I.ok.mod.kin hk ?_ hs hpl) hdb)⟩
  refine thn (ha.run pos pins s σ H _ I h) fun us s1 ⟨vs, H1, I1, rv, q⟩ => ⟨I1.kIn, ?_⟩
  exact run_g G hr gd hb hd (passAt tk σ) I1 rv q
theorem de_call {k : Nat} {fa : Addr} {fd : FuncData} {ps : List Str} {x : Str} {p : Pos} {f : FM} {as : List Ar} {iol : List Nat} {n : Nat} {dvs : List V} {ds : List Value} {dfl : List PyData} (G : FnG X.prog X.w X.K X.mg X.base k fa fd ps (spD X.K X.mg iol n false f)) (hr : Room k X.A) (gd : X.A.guards = some []) (hm : X.mg x = some (.ref fa))
    (hk : PySem.W.keepIn X.K (.ref fa) = true) (hb : Binds X.K fd ps ds) (hd : Vals dvs ds) (hdf : ∀ F H, Rps X.K F H dvs dfl) (tk : Takes X B.W) (hB : B.mg = X.mg) (ha : Dr X B own (e :: es) as) (hg : Gl X x := by rfl) (hio : ioOf as 0 = iol := by rfl) (hj : ∀ j ∈ jsOf as, j ∈ own := by decide) (nd : (jsOf as).Nodup := by decide)
    (hn : as.length + dfl.length = n := by rfl) (hio2 : ∀ i ∈ io, i ∈ own := by decide) (hdb : (x == ("__debug__" : Str)) = false := by decide) (hs : starEach (e :: es) X.env = (false, eval e X.env) :: starEach es X.env := by rfl) (hpl : (backTo pos (starEach es X.env)).any (·.1) = false := by rfl) :
    De X B own (.Call (.Name x p) (e :: es) [] pos) (mCall f as dfl) :=
  pe_imp (pe_callG G hr gd hg hm hk hb hd tk ha hdb hs hpl) (tD_call hio hj nd hn hB hdf hio2)
/-- a def of the module as callers see it: its name, its parameters, the defaults that fill up -/
structure Cal (P : Program) (w : World) (K : PySem.W.Frag) (mg : Str → Option Value) (base : Heap) (k : Nat) (x : Str) (dfl : List PyData) (iol : List Nat) (n : Nat) (f : FM) (fr : Bool := false) : Prop where
  ex : ∃ (fa : Addr) (fd : FuncData) (ps : List Str) (dvs : List V) (ds : List Value), mg x = some (.ref fa) ∧ PySem.W.keepIn K (.ref fa) = true ∧ FnG P w K mg base k fa fd ps (spD K mg iol n fr f) ∧ Binds K fd ps ds ∧ Vals dvs ds ∧ ∀ F H, Rps K F H dvs dfl
theorem de_cal {k j : Nat} {x : Str} {p : Pos} {f : FM} {as : List Ar} {iol : List Nat} {n : Nat} {dfl : List PyData} (C : Cal X.prog X.w X.K X.mg X.base j x dfl iol n f) (hr : Room k X.A) (gd : X.A.guards = some []) (tk : Takes X B.W) (hB : B.mg = X.mg) (ha : Dr X B own (e :: es) as) (hjk : j ≤ k := by decide)
    (hg : Gl X x := by rfl) (hio : ioOf as 0 = iol := by rfl) (hj : ∀ j ∈ jsOf as, j ∈ own := by decide) (nd : (jsOf as).Nodup := by decide) (hn : as.length + dfl.length = n := by rfl) (hio2 : ∀ i ∈ io, i ∈ own := by decide) (hdb : (x == ("__debug__" : Str)) = false := by decide)
    (hs : starEach (e :: es) X.env = (false, eval e X.env) :: starEach es X.env := by rfl) (hpl : (backTo pos (starEach es X.env)).any (·.1) = false := by rfl) : De X B own (.Call (.Name x p) (e :: es) [] pos) (mCall f as dfl) := by
  obtain ⟨fa, fd, ps, dvs, ds, h1, h2, h3, h4, h5, h6⟩ := C.ex
  exact de_call h3 (hr.mono hjk) gd h1 h2 h4 h5 h6 tk hB ha hg hio hj nd hn hio2 hdb hs hpl
theorem de_gint {x : Str} {i : Int} (h : ∃ t, X.mg x = some (.int i t)) (hg : Gl X x := by rfl) (hd : (x == ("__debug__" : Str)) = false := by decide) : De X B own (.Name x pos) (mC (.int i)) := by
  obtain ⟨t, h⟩ := h
  exact de_c (pe_glob (v := .int i) hg h ⟨t, rfl⟩ hd) fun _ _ => .int i
theorem de_gstr {x z : Str} (h : ∃ t, X.mg x = some (.str z t)) (hg : Gl X x := by rfl) (hd : (x == ("__debug__" : Str)) = false := by decide) : De X B own (.Name x pos) (mC (.str z)) := by
  obtain ⟨t, h⟩ := h
  exact de_c (pe_glob (v := .str z) hg h ⟨t, rfl⟩ hd) fun _ _ => .str z
theorem takes_q {X : Cx} {W : WX} (h : W = fun _ _ _ _ => False) : Takes X W := by subst h; exact takes0
theorem u65 {k : Nat} {A : Around} (hr : Room k A) : A.units + 65 < cLine := by have := hr.un; omega
end
end Kd

end T_KD4
section T_KD5
set_option maxRecDepth 100000
/-! KD5: the operations on trees, each with the rule that serves it. -/
namespace Kd
open PySem PySem.Spec PyProof.Rows L2

/-! ### numbers -/
def fI2 (g : Int → Int → PyData) : PyData → PyData → Option PyData
  | .int i, .int j => some (g i j)
  | _, _ => none
theorem opd_I2 {K : PySem.W.Frag} {g : Int → Int → PyData} {gv : Int → Int → V} (h : ∀ F H i j, Rp K F H (gv i j) (g i j)) : OpD K (rI0 gv) (fI2 g) := fun F H x y d e z Q dom rx ry hz k => by
  cases rx <;> cases ry <;> first | (cases hz; done) | skip
  cases hz
  exact ⟨_, _, rfl, rfl, k _ H F (Grow.refl dom) (h F H _ _)⟩
def fSub := fI2 fun i j => .int (i - j)
theorem opd_sub {K : PySem.W.Frag} : OpD K (rI0 fun i j => .int (i - j)) fSub := opd_I2 fun _ _ _ _ => .int _
def fLt := fI2 fun i j => .bool (decide (i < j))
theorem opd_lt {K : PySem.W.Frag} : OpD K (rI0 fun i j => .bl (decide (i < j))) fLt := opd_I2 fun _ _ _ _ => .bl _
def fLe := fI2 fun i j => .bool (decide (i ≤ j))
theorem opd_le {K : PySem.W.Frag} : OpD K (rI0 fun i j => .bl (decide (i ≤ j))) fLe := opd_I2 fun _ _ _ _ => .bl _
def fGt := fI2 fun i j => .bool (decide (j < i))
theorem opd_gt {K : PySem.W.Frag} : OpD K (rI0 fun i j => .bl (decide (j < i))) fGt := opd_I2 fun _ _ _ _ => .bl _
def fGe := fI2 fun i j => .bool (decide (j ≤ i))
theorem opd_ge {K : PySem.W.Frag} : OpD K (rI0 fun i j => .bl (decide (j ≤ i))) fGe := opd_I2 fun _ _ _ _ => .bl _
def fIC (c : Int → Int → Bool) (g : Int → Int → Int) : PyData → PyData → Option PyData
  | .int i, .int j => iff' (c i j) (.int (g i j))
  | _, _ => none
theorem opd_IC {K : PySem.W.Frag} {C : Int → Int → Prop} {c : Int → Int → Bool} {g : Int → Int → Int} (hc : ∀ i j, c i j = true → C i j) : OpD K (rI C fun i j => .int (g i j)) (fIC c g) := fun F H x y d e z Q dom rx ry hz k => by
  cases rx <;> cases ry <;> first | (cases hz; done) | skip
  obtain ⟨h1, rfl⟩ := iff_some hz
  exact ⟨_, _, rfl, rfl, hc _ _ h1, k _ H F (Grow.refl dom) (.int _)⟩
/-- a product that is not too large -/
def mulOk (i j : Int) : Bool := decide (i.natAbs.log2 + j.natAbs.log2 ≤ 900000)
theorem op_mulG {X : Cx} : OpR X (binaryOp .Mult) (rI IntMulOk fun i j => .int (i * j)) := opI fun _ _ _ _ _ _ _ hc q => mul_int q hc
theorem mulOk_ok {i j : Int} (h : mulOk i j = true) : CMulW i j := by
  have h := of_decide_eq_true h
  unfold CMulW
  omega
def fMul := fIC mulOk fun i j => i * j
theorem opd_mul {K : PySem.W.Frag} : OpD K (rI CMulW fun i j => .int (i * j)) fMul := opd_IC fun _ _ h => mulOk_ok h
def fMod := fIC (fun _ j => j != 0) fun i j => i.fmod j
theorem opd_mod {K : PySem.W.Frag} : OpD K (rI (fun _ j => j ≠ 0) fun i j => .int (i.fmod j)) fMod := opd_IC fun i j h => by simpa using h
def fDiv := fIC (fun _ j => j != 0 && decide (j.natAbs < 1073741824)) fun i j => i.fdiv j
theorem opd_div {K : PySem.W.Frag} : OpD K (rI CDivN fun i j => .int (i.fdiv j)) fDiv := opd_IC fun i j h => by
  obtain ⟨h1, h2⟩ := Bool.and_eq_true_iff.mp h
  exact ⟨by simpa using h1, of_decide_eq_true h2⟩
def fPow := fIC (fun i j => decide (0 ≤ j ∧ j ≤ 1000000 ∧ i.natAbs < 2 ^ 64)) fun i j => i ^ j.toNat
theorem opd_pow {K : PySem.W.Frag} : OpD K (rI CPow fun i j => .int (i ^ j.toNat)) fPow := opd_IC fun i j h => (of_decide_eq_true h : 0 ≤ j ∧ j ≤ 1000000 ∧ i.natAbs < 2 ^ 64)
theorem und_neg {K : PySem.W.Frag} : UnD K (rU fun i => .int (-i)) (fun d => match d with | .int i => some (.int (-i)) | _ => none) := fun F H x d z Q dom rx hz k => by
  cases rx <;> first | (cases hz; done) | skip
  cases hz
  exact ⟨_, rfl, k _ H F (Grow.refl dom) (.int _)⟩
def fNeg : PyData → Option PyData
  | .int i => some (.int (-i))
  | _ => none
theorem und_fneg {K : PySem.W.Frag} : UnD K (rU fun i => .int (-i)) fNeg := fun F H x d z Q dom rx hz k => by
  cases rx <;> first | (cases hz; done) | skip
  cases hz
  exact ⟨_, rfl, k _ H F (Grow.refl dom) (.int _)⟩

/-! ### lists with lists -/
section
variable {X : Cx} {pins : List (Addr × Obj)} {σ : Sl} {H : Hp} {s : Shared}
def rCatL (K : PySem.W.Frag) : R2 := fun x y H Q => ∃ l b xs zs, x = .ref l ∧ y = .ref b ∧ SqL K H l xs ∧ SqL K H b zs ∧ xs.length + zs.length ≤ sizeLine ∧ ∀ p, H p = none → Q (.ref p) (upd H p (.lst (xs ++ zs)))
theorem op_catL : OpR X (binaryOp .Add) (rCatL X.K) := by
  intro pins s σ H x y v u Q I rx ry h
  obtain ⟨l, b, xs, zs, rfl, rfl, hl, hb, hz, q⟩ := h
  cases rx
  cases ry
  obtain ⟨i1, r1, ⟨o1, n1, e1, c1, dd1, d1⟩, _⟩ := I.list hl
  obtain ⟨i2, r2, ⟨o2, n2, e2, c2, dd2, d2⟩, _⟩ := I.list hb
  obtain ⟨cls, dd, data, sl⟩ := o1
  obtain ⟨cls2, dd', data2, sl2⟩ := o2
  simp only at c1 d1 c2 d2
  subst c1 d1 c2 d2
  have len1 := r1.length
  have len2 := r2.length
  refine concat_meets ⟨_, e1, rfl⟩ ⟨_, e2, rfl⟩ noFill_list_add seq_list_add PySem.F.slot_list_add PySem.F.entry_list_add (PySem.F.args_list_add_2 _ _) (list_addW l b i1.toArray i2.toArray n1 n2 dd dd' sl sl2 (by simp only [List.size_toArray]; omega)) ⟨e1, e2, ?_⟩
  have ea : i1.toArray ++ i2.toArray = (i1 ++ i2).toArray := by simp
  rw [ea]
  exact ⟨.ref _, _, I.lnew (t' := s.toks) (r1.append r2) (by rw [List.length_append]; omega), rfl, q _ I.fresh⟩
end
def fAdd : PyData → PyData → Option PyData
  | .int i, .int j => some (.int (i + j))
  | .str x, .str y => iff' (decide (x.length + y.length ≤ sizeLine)) (.str (x ++ y))
  | .list xs, .list ys => iff' (decide (xs.length + ys.length ≤ sizeLine)) (.list (xs ++ ys))
  | .tuple xs, .tuple ys => iff' (decide (xs.length + ys.length ≤ sizeLine)) (.tuple (xs ++ ys))
  | _, _ => none
def rAddG (K : PySem.W.Frag) : R2 := fun x y H Q => ((rI0 fun i j => .int (i + j)) x y H Q ∨ (∃ i j, x = .str i ∧ y = .str j ∧ i.length + j.length ≤ sizeLine ∧ Q (.str (i ++ j)) H)) ∨ rCatL K x y H Q ∨ rCatA K x y H Q
theorem op_addG {X : Cx} : OpR X (binaryOp .Add) (rAddG X.K) := (op_add.or op_add_str).or (op_catL.or op_catA)
theorem opd_add {K : PySem.W.Frag} : OpD K (rAddG K) fAdd := fun F H x y d e z Q dom rx ry hz k => by
  cases rx with
  | int i => cases ry <;> first | (cases hz; done) | skip
             cases hz; exact .inl (.inl ⟨_, _, rfl, rfl, k _ H F (Grow.refl dom) (.int _)⟩)
  | str i => cases ry <;> first | (cases hz; done) | skip
             obtain ⟨h1, rfl⟩ := iff_some hz
             exact .inl (.inr ⟨_, _, rfl, rfl, of_decide_eq_true h1, k _ H F (Grow.refl dom) (.str _)⟩)
  | lst hl hs =>
    cases ry <;> first | (cases hz; done) | skip
    rename_i hl2 hs2
    obtain ⟨h1, rfl⟩ := iff_some hz
    refine .inr (.inl ⟨_, _, _, _, rfl, rfl, hl.sq, hl2.sq, by rw [hs.length, hs2.length]; exact of_decide_eq_true h1, fun p np => ?_⟩)
    exact k _ _ _ (Grow.atp dom np) (.lst (.inl ⟨.inr rfl, .inl upd_same⟩) ((hs.append hs2).mono (Grow.atp dom np).mono))
  | tup hl hs =>
    cases ry <;> first | (cases hz; done) | skip
    rename_i hl2 hs2
    obtain ⟨h1, rfl⟩ := iff_some hz
    refine .inr (.inr ⟨_, _, _, _, rfl, rfl, SqT.of hl, SqT.of hl2, by rw [hs.length, hs2.length]; exact of_decide_eq_true h1, fun e => ?_, fun _ e => ?_, fun _ _ p np => ?_⟩)
    · subst e; cases hs; exact k _ H F (Grow.refl dom) (.tup hl2 hs2)
    · subst e; cases hs2; exact k _ H F (Grow.refl dom) (.tup hl (by simpa using hs))
    · exact k _ _ _ (Grow.att dom np) (.tup upd_same ((hs.append hs2).mono (Grow.att dom np).mono))
  | _ => cases hz

/-! ### comparisons of data -/
mutual
theorem Rp.dp {K : PySem.W.Frag} {F : Addr → Prop} {H : Hp} : ∀ {v : V} {d : PyData}, Rp K F H v d → d.canLay0 = true → Dp K H v d
  | _, _, .non, _ => .non
  | _, _, .bl b, _ => .bl b
  | _, _, .int i, _ => .int i
  | _, _, .str x, _ => .str x
  | _, _, .lst hl hs, h => .lst hl.sq (Rps.dp hs (by simpa [PyData.canLay0] using h))
  | _, _, .tup hl hs, h => .tup (SqT.of hl) (Rps.dp hs (by simpa [PyData.canLay0] using h))
  | _, _, .dK _ _ _, h => by simp [PyData.canLay0] at h
  | _, _, .dT _ _ _, h => by simp [PyData.canLay0] at h
  | _, _, .exN _ _, h => by simp [PyData.canLay0] at h
  | _, _, .exS _ _ _ _ _, h => by simp [PyData.canLay0] at h
theorem Rps.dp {K : PySem.W.Frag} {F : Addr → Prop} {H : Hp} : ∀ {vs : List V} {ds : List PyData}, Rps K F H vs ds → PyData.canLayAll0 ds = true → DpAll K H vs ds
  | _, _, .nil, _ => .nil
  | _, _, .cons h t, q => by
    have q' := Bool.and_eq_true_iff.mp (by simpa [PyData.canLayAll0] using q)
    exact .cons (Rp.dp h (by simpa using q'.1)) (Rps.dp t (by simpa using q'.2))
end
def sh2 (d e : PyData) : Bool := SeqAt.shaped d && SeqAt.shaped e
def fEq : PyData → PyData → Option PyData
  | .str a, .str b => some (.bool (a == b))
  | d, e => iff' (sh2 d e) (.bool (PyData.eqv d e))
def fNe : PyData → PyData → Option PyData
  | .str a, .str b => some (.bool (!(a == b)))
  | d, e => iff' (sh2 d e) (.bool (!PyData.eqv d e))
/-- two texts, or data of all kinds -/
def rEqE (K : PySem.W.Frag) : R2 := fun x y H Q => rEq x y H Q ∨ rEqD K x y H Q
def rNeE (K : PySem.W.Frag) : R2 := fun x y H Q => rNe x y H Q ∨ rNeD K x y H Q
theorem op_eqE {X : Cx} (hu : X.A.units + 64 < cLine) : OpR X (compareOp .Eq) (rEqE X.K) := op_eq.or (op_eqD hu)
theorem op_neE {X : Cx} (hu : X.A.units + 64 < cLine) : OpR X (compareOp .NotEq) (rNeE X.K) := op_ne.or (op_neD hu)
theorem sh2_l {d e : PyData} (h : sh2 d e = true) : SeqAt.shaped d = true ∧ SeqAt.shaped e = true := Bool.and_eq_true_iff.mp h
theorem opd_eq {K : PySem.W.Frag} : OpD K (rEqE K) fEq := fun F H x y d e z Q dom rx ry hz k => by
  unfold fEq at hz
  split at hz
  · cases rx; cases ry; cases hz
    refine .inl ⟨rfl, ?_⟩
    rw [dec_str]
    exact k _ H F (Grow.refl dom) (.bl _)
  · obtain ⟨h, rfl⟩ := iff_some hz
    obtain ⟨h1, h2⟩ := sh2_l h
    exact .inr ⟨d, e, rx.dp (SeqAt.canLay_of_shaped h1), ry.dp (SeqAt.canLay_of_shaped h2), h1, h2, k _ H F (Grow.refl dom) (.bl _)⟩
theorem opd_ne {K : PySem.W.Frag} : OpD K (rNeE K) fNe := fun F H x y d e z Q dom rx ry hz k => by
  unfold fNe at hz
  split at hz
  · cases rx; cases ry; cases hz
    refine .inl ⟨rfl, ?_⟩
    rw [dec_str]
    exact k _ H F (Grow.refl dom) (.bl _)
  · obtain ⟨h, rfl⟩ := iff_some hz
    obtain ⟨h1, h2⟩ := sh2_l h
    exact .inr ⟨d, e, rx.dp (SeqAt.canLay_of_shaped h1), ry.dp (SeqAt.canLay_of_shaped h2), h1, h2, k _ H F (Grow.refl dom) (.bl _)⟩
/-- is None, is True, is False, and not -/
def isNonD : PyData → Bool
  | .none => true
  | _ => false
def fIsN : PyData → PyData → Option PyData
  | d, .none => some (.bool (isNonD d))
  | .bool a, .bool b => some (.bool (a == b))
  | _, _ => none
def fNotN : PyData → PyData → Option PyData
  | d, .none => some (.bool (!isNonD d))
  | .bool a, .bool b => some (.bool (!(a == b)))
  | _, _ => none
theorem non_of {K : PySem.W.Frag} {F : Addr → Prop} {H : Hp} {v : V} {d : PyData} (h : Rp K F H v d) : decide (v = .non) = isNonD d := by
  cases h <;> rfl
def rIsG : R2 := fun x y H Q => (y = .non ∧ Q (.bl (decide (x = .non))) H) ∨ rIsB x y H Q
def rNotG : R2 := fun x y H Q => (y = .non ∧ Q (.bl (!decide (x = .non))) H) ∨ rNotB x y H Q
theorem op_isG {X : Cx} : OpR X (compareOp .Is) rIsG := op_isN.or op_isBl
theorem op_notG {X : Cx} : OpR X (compareOp .IsNot) rNotG := op_notN.or op_notBl
theorem opd_is {K : PySem.W.Frag} : OpD K rIsG fIsN := fun F H x y d e z Q dom rx ry hz k => by
  cases ry with
  | non =>
    have e1 : z = .bool (isNonD d) := by cases d <;> (cases hz; rfl)
    subst e1
    exact .inl ⟨rfl, by rw [non_of rx]; exact k _ H F (Grow.refl dom) (.bl _)⟩
  | bl b =>
    cases rx <;> first | (cases hz; done) | skip
    rename_i a
    cases hz
    refine .inr ⟨a, b, rfl, rfl, ?_⟩
    have e1 : decide (a = b) = (a == b) := by cases a <;> cases b <;> rfl
    rw [e1]; exact k _ H F (Grow.refl dom) (.bl _)
  | _ => cases rx <;> cases hz
theorem opd_isnot {K : PySem.W.Frag} : OpD K rNotG fNotN := fun F H x y d e z Q dom rx ry hz k => by
  cases ry with
  | non =>
    have e1 : z = .bool (!isNonD d) := by cases d <;> (cases hz; rfl)
    subst e1
    exact .inl ⟨rfl, by rw [non_of rx]; exact k _ H F (Grow.refl dom) (.bl _)⟩
  | bl b =>
    cases rx <;> first | (cases hz; done) | skip
    rename_i a
    cases hz
    refine .inr ⟨a, b, rfl, rfl, ?_⟩
    have e1 : decide (a = b) = (a == b) := by cases a <;> cases b <;> rfl
    rw [e1]; exact k _ H F (Grow.refl dom) (.bl _)
  | _ => cases rx <;> cases hz

/-! ### in -/
section
variable {X : Cx}
/-- x in a list, in a tuple of data -/
def memD (d : PyData) (ds : List PyData) : Bool := ds.any fun z => PyData.eqv z d
def fIn : PyData → PyData → Option PyData
  | d, .list ds => iff' (SeqAt.shaped d && SeqAt.shaped (.list ds)) (.bool (memD d ds))
  | _, _ => none
def fNin : PyData → PyData → Option PyData
  | d, .list ds => iff' (SeqAt.shaped d && SeqAt.shaped (.list ds)) (.bool (!memD d ds))
  | _, _ => none
theorem opd_in {K : PySem.W.Frag} : OpD K (rInD K) fIn := fun F H x y d e z Q dom rx ry hz k => by
  cases ry with
  | lst hl hs =>
    obtain ⟨h, rfl⟩ := iff_some hz
    obtain ⟨h1, h2⟩ := Bool.and_eq_true_iff.mp h
    exact ⟨d, _, rx.dp (SeqAt.canLay_of_shaped h1), (Rp.lst hl hs).dp (SeqAt.canLay_of_shaped h2), h1, h2, k _ H F (Grow.refl dom) (.bl _)⟩
  | _ => cases hz
theorem opd_nin {K : PySem.W.Frag} : OpD K (rNotInD K) fNin := fun F H x y d e z Q dom rx ry hz k => by
  cases ry with
  | lst hl hs =>
    obtain ⟨h, rfl⟩ := iff_some hz
    obtain ⟨h1, h2⟩ := Bool.and_eq_true_iff.mp h
    exact ⟨d, _, rx.dp (SeqAt.canLay_of_shaped h1), (Rp.lst hl hs).dp (SeqAt.canLay_of_shaped h2), h1, h2, k _ H F (Grow.refl dom) (.bl _)⟩
  | _ => cases hz
end

/-! ### places -/
theorem Rps.at_ {K : PySem.W.Frag} {F : Addr → Prop} {H : Hp} {vs : List V} {ds : List PyData} (h : Rps K F H vs ds) {i : Int} {d : PyData} (e : atI ds i = some d) : ∃ v, atI vs i = some v ∧ Rp K F H v d := by
  unfold atI at e ⊢
  rw [h.length]
  obtain ⟨j, h1, h2⟩ := Option.bind_eq_some_iff.mp e
  obtain ⟨v, h3, h4⟩ := h.get h2
  exact ⟨v, by rw [h1]; exact h3, h4⟩
def fIx : PyData → PyData → Option PyData
  | .list xs, .int i => atI xs i
  | .tuple xs, .int i => atI xs i
  | .str z, .int i => if z.length ≤ sizeLine then (atI z.cps.toList i).map fun c => .str ⟨#[c]⟩ else none
  | _, _ => none
theorem opd_ix {K : PySem.W.Frag} : OpD K (rIx K) fIx := fun F H x y d e z Q dom rx ry hz k => by
  cases rx with
  | lst hl hs =>
    cases ry <;> first | (cases hz; done) | skip
    obtain ⟨v, h1, h2⟩ := hs.at_ hz
    exact .inl ⟨_, _, _, v, rfl, rfl, hl.sq, h1, k _ H F (Grow.refl dom) h2⟩
  | tup hl hs =>
    cases ry <;> first | (cases hz; done) | skip
    obtain ⟨v, h1, h2⟩ := hs.at_ hz
    exact .inr (.inl ⟨_, _, _, v, rfl, rfl, SqT.of hl, h1, k _ H F (Grow.refl dom) h2⟩)
  | str w =>
    cases ry <;> first | (cases hz; done) | skip
    simp only [fIx] at hz
    split at hz
    · rename_i hl
      obtain ⟨c, h1, rfl⟩ := Option.map_eq_some_iff.mp hz
      exact .inr (.inr ⟨_, _, c, rfl, rfl, hl, h1, k _ H F (Grow.refl dom) (.str _)⟩)
    · cases hz
  | _ => cases hz

/-! ### built-in functions -/
def fLen : List PyData → Option PyData
  | [.list xs] => some (.int xs.length)
  | [.tuple xs] => some (.int xs.length)
  | [.str x] => iff' (decide (x.length ≤ sizeLine)) (.int x.length)
  | _ => none
theorem fnd_len {K : PySem.W.Frag} : FnD K (fun xs H Q => ∃ x n, xs = [x] ∧ LenV K x H n ∧ Q (.int n) H) fLen := fun F H xs ds z Q dom r hz k => by
  cases r with
  | nil => cases hz
  | cons r1 r2 => cases r2 with
    | cons _ _ => cases r1 <;> cases hz
    | nil =>
      cases r1 with
      | lst hl hs => cases hz; refine ⟨_, _, rfl, .inl ⟨_, hl.sq, rfl⟩, ?_⟩; rw [hs.length]; exact k _ H F (Grow.refl dom) (.int _)
      | tup hl hs => cases hz; refine ⟨_, _, rfl, .inr ⟨_, SqT.of hl, rfl⟩, ?_⟩; rw [hs.length]; exact k _ H F (Grow.refl dom) (.int _)
      | str x => obtain ⟨h, rfl⟩ := iff_some hz; exact ⟨_, _, rfl, ⟨of_decide_eq_true h, rfl⟩, k _ H F (Grow.refl dom) (.int _)⟩
      | _ => cases hz
def fInt : List PyData → Option PyData
  | [.int i] => some (.int i)
  | [.bool b] => some (.int (if b then 1 else 0))
  | _ => none
theorem fnd_int {K : PySem.W.Frag} : FnD K (fun xs H Q => (∃ i, xs = [.int i] ∧ Q (.int i) H) ∨ ∃ k, xs = [.bl k] ∧ Q (.int (if k then 1 else 0)) H) fInt := fun F H xs ds z Q dom r hz k => by
  cases r with
  | nil => cases hz
  | cons r1 r2 => cases r2 with
    | cons _ _ => cases r1 <;> cases hz
    | nil =>
      cases r1 with
      | int i => cases hz; exact .inl ⟨_, rfl, k _ H F (Grow.refl dom) (.int _)⟩
      | bl b => cases hz; exact .inr ⟨_, rfl, k _ H F (Grow.refl dom) (.int _)⟩
      | _ => cases hz
def fList : List PyData → Option PyData
  | [.list xs] => some (.list xs)
  | [.tuple xs] => some (.list xs)
  | _ => none
theorem fnd_list {K : PySem.W.Frag} : FnD K (fun xs H Q => ∃ p ys, xs = [.ref p] ∧ (SqL K H p ys ∨ SqT K H p ys) ∧ ∀ l, H l = none → Q (.ref l) (upd H l (.lst ys))) fList := fun F H xs ds z Q dom r hz k => by
  cases r with
  | nil => cases hz
  | cons r1 r2 => cases r2 with
    | cons _ _ => cases r1 <;> cases hz
    | nil =>
      cases r1 with
      | lst hl hs =>
        cases hz
        refine ⟨_, _, rfl, .inl hl.sq, fun p np => ?_⟩
        exact k _ _ _ (Grow.atp dom np) (.lst (.inl ⟨.inr rfl, .inl upd_same⟩) (hs.mono (Grow.atp dom np).mono))
      | tup hl hs =>
        cases hz
        refine ⟨_, _, rfl, .inr (SqT.of hl), fun p np => ?_⟩
        exact k _ _ _ (Grow.atp dom np) (.lst (.inl ⟨.inr rfl, .inl upd_same⟩) (hs.mono (Grow.atp dom np).mono))
      | _ => cases hz
def fTuple : List PyData → Option PyData
  | [.list xs] => some (.tuple xs)
  | [.tuple xs] => some (.tuple xs)
  | _ => none
theorem fnd_tuple {K : PySem.W.Frag} : FnD K (fun xs H Q => ∃ p ys, xs = [.ref p] ∧ ((SqL K H p ys ∧ ∀ l, H l = none → Q (.ref l) (upd H l (.tup ys))) ∨ (SqT K H p ys ∧ Q (.ref p) H))) fTuple := fun F H xs ds z Q dom r hz k => by
  cases r with
  | nil => cases hz
  | cons r1 r2 => cases r2 with
    | cons _ _ => cases r1 <;> cases hz
    | nil =>
      cases r1 with
      | lst hl hs =>
        cases hz
        refine ⟨_, _, rfl, .inl ⟨hl.sq, fun p np => ?_⟩⟩
        exact k _ _ _ (Grow.att dom np) (.tup upd_same (hs.mono (Grow.att dom np).mono))
      | tup hl hs => cases hz; exact ⟨_, _, rfl, .inr ⟨SqT.of hl, k _ H F (Grow.refl dom) (.tup hl hs)⟩⟩
      | _ => cases hz
/-- the truths of a list -/
def boolsD : List PyData → Option (List Bool)
  | [] => some []
  | .bool b :: r => (boolsD r).map fun bs => b :: bs
  | _ => none
def fAll : List PyData → Option PyData
  | [.list xs] => (boolsD xs).map fun bs => .bool (bs.all id)
  | _ => none
def fAny : List PyData → Option PyData
  | [.list xs] => (boolsD xs).map fun bs => .bool (bs.any id)
  | _ => none
theorem bools_of {K : PySem.W.Frag} {F : Addr → Prop} {H : Hp} : ∀ {vs : List V} {ds : List PyData} {bs : List Bool}, Rps K F H vs ds → boolsD ds = some bs → vs = bs.map V.bl
  | _, _, _, .nil, h => by cases h; rfl
  | _, _, _, .cons r t, h => by
    cases r <;> first | (cases h; done) | skip
    obtain ⟨bs', h1, rfl⟩ := Option.map_eq_some_iff.mp h
    rw [bools_of t h1]; rfl
theorem fnd_all {K : PySem.W.Frag} : FnD K (rAll K) fAll := fun F H xs ds z Q dom r hz k => by
  cases r with
  | nil => cases hz
  | cons r1 r2 => cases r2 with
    | cons _ _ => cases r1 <;> cases hz
    | nil =>
      cases r1 with
      | lst hl hs =>
        obtain ⟨bs, h1, rfl⟩ := Option.map_eq_some_iff.mp hz
        have e := bools_of hs h1
        subst e
        exact ⟨_, bs, rfl, hl.sq, k _ H F (Grow.refl dom) (.bl _)⟩
      | _ => cases hz
theorem fnd_any {K : PySem.W.Frag} : FnD K (rAny K) fAny := fun F H xs ds z Q dom r hz k => by
  cases r with
  | nil => cases hz
  | cons r1 r2 => cases r2 with
    | cons _ _ => cases r1 <;> cases hz
    | nil =>
      cases r1 with
      | lst hl hs =>
        obtain ⟨bs, h1, rfl⟩ := Option.map_eq_some_iff.mp hz
        have e := bools_of hs h1
        subst e
        exact ⟨_, bs, rfl, hl.sq, k _ H F (Grow.refl dom) (.bl _)⟩
      | _ => cases hz
def fMax2 : List PyData → Option PyData
  | [.int i, .int j] => some (.int (if j > i then j else i))
  | _ => none
def fMin2 : List PyData → Option PyData
  | [.int i, .int j] => some (.int (if j < i then j else i))
  | _ => none
theorem fnd_max2 {K : PySem.W.Frag} : FnD K (fun xs H Q => ∃ i j, xs = [.int i, .int j] ∧ Q (.int (if j > i then j else i)) H) fMax2 := fun F H xs ds z Q dom r hz k => by
  cases r with
  | nil => cases hz
  | cons r1 r2 => cases r2 with
    | nil => cases r1 <;> cases hz
    | cons r2 r3 => cases r3 with
      | cons _ _ => cases r1 <;> cases r2 <;> cases hz
      | nil =>
        cases r1 <;> cases r2 <;> first | (cases hz; done) | skip
        cases hz
        exact ⟨_, _, rfl, k _ H F (Grow.refl dom) (.int _)⟩
theorem fnd_min2 {K : PySem.W.Frag} : FnD K (fun xs H Q => ∃ i j, xs = [.int i, .int j] ∧ Q (.int (if j < i then j else i)) H) fMin2 := fun F H xs ds z Q dom r hz k => by
  cases r with
  | nil => cases hz
  | cons r1 r2 => cases r2 with
    | nil => cases r1 <;> cases hz
    | cons r2 r3 => cases r3 with
      | cons _ _ => cases r1 <;> cases r2 <;> cases hz
      | nil =>
        cases r1 <;> cases r2 <;> first | (cases hz; done) | skip
        cases hz
        exact ⟨_, _, rfl, k _ H F (Grow.refl dom) (.int _)⟩
end Kd

end T_KD5
section T_KD6
set_option maxRecDepth 100000
/-! KD6: isinstance, slices, methods, stores, new lists, repr. -/
namespace Kd
open PySem PySem.Spec PyProof.Rows L2

/-! ### isinstance -/
def tyD : PyData → Option String
  | .none => some "NoneType"
  | .bool _ => some "bool"
  | .int _ => some "int"
  | .str _ => some "str"
  | .list _ => some "list"
  | .tuple _ => some "tuple"
  | .dict _ => none
theorem ty_of {K : PySem.W.Frag} {F : Addr → Prop} {H : Hp} {v : V} {d : PyData} {t : String} (h : Rp K F H v d) (e : tyD d = some t) : TyX K H v (.type t) := by
  cases h with
  | non => cases e; exact .base .non
  | bl b => cases e; exact .base (.bl b)
  | int i => cases e; exact .base (.int i)
  | str x => cases e; exact .base (.str x)
  | lst hl hs =>
    cases e
    rcases hl with ⟨_, h | ⟨o, h⟩⟩ | ⟨o, its, n, h1, h2, _⟩
    · exact .base (.lst h)
    · exact .base (.frz h)
    · exact .kList h1 h2
  | tup hl hs =>
    cases e
    exact .base (.tup hl)
  | dK _ _ _ => cases e
  | dT _ _ _ => cases e
  | exN _ _ => cases e
  | exS _ _ _ _ _ => cases e
def isB (t T : String) : Bool := t == T || (t == "bool" && T == "int")
def tyOk (T : String) : Bool := T == "int" || T == "bool" || T == "tuple" || T == "list" || T == "str"
theorem kitB_is {d : PyData} {t T : String} (h : tyD d = some t) (hT : tyOk T = true) : kitB t T = some (isB t T) := by
  have hT' : T = "int" ∨ T = "bool" ∨ T = "tuple" ∨ T = "list" ∨ T = "str" := by simpa [tyOk, or_assoc] using hT
  cases d <;> first | (cases h; done) | skip
  all_goals (cases h; rcases hT' with rfl | rfl | rfl | rfl | rfl <;> decide +kernel)
def fIsi (T : String) (d : PyData) : Option PyData := (tyD d).map fun t => .bool (isB t T)
def fIsi2 (T U : String) (d : PyData) : Option PyData := (tyD d).map fun t => .bool (isB t T || isB t U)
section
variable {X : Cx} {io : List Nat} {B : Bs io} {own : List Nat} {a e o : Expr} {es : List Expr} {pos p p2 p3 : Pos} {m ma mi : EM}
theorem de_isi (T : String) {x : Str} (ha : De X B own a ma) (hm : X.mg "isinstance" = none) (hmT : X.mg x = none) (hT : tyOk T = true := by decide) (hg : Gl X "isinstance" := by rfl) (hgT : Gl X x := by rfl) (hv : bootBuiltins x = some (.type T) := by decide +kernel) (hvi : bootBuiltins "isinstance" = some (.builtin "isinstance") := by decide +kernel)
    (hn : x ≠ "__name__" := by decide) (hdb : (x == ("__debug__" : Str)) = false := by decide) (hs1 : starEach [a, .Name x p2] X.env = (false, eval a X.env) :: starEach [.Name x p2] X.env := by rfl) (hs2 : starEach [.Name x p2] X.env = (false, eval (.Name x p2) X.env) :: starEach [] X.env := by rfl) (hpl : (backTo pos (starEach [.Name x p2] X.env)).any (·.1) = false := by rfl) :
    De X B own (.Call (.Name "isinstance" p) [a, .Name x p2] [] pos) (m1 (fIsi T) ma) :=
  pe_imp (pe_callB call_isi hg hm hvi (pa_cons ha (pa_cons (pe_bltn (v := .ty T) hgT hmT hv rfl hn hdb) pa_nil hs2) hs1) (by decide) (by decide) hs1 hpl) fun σ H Q ⟨ρ, F, re, w⟩ => ⟨ρ, F, re, thE w fun ρ1 d1 v1 H1 F1 re1 mo1 rp1 w1 => by
    obtain ⟨z, hz, w2⟩ := Wa.opt w1
    obtain ⟨t, ht, rfl⟩ := Option.map_eq_some_iff.mp hz
    exact ⟨v1, .ty T, .type t, .type T, _, rfl, .ty T, ty_of rp1 ht, kit_ty (kitB_is ht hT), w2 _ H1 F1 re1 Mn.refl (.bl _)⟩⟩
theorem kitAny2 {K : PySem.W.Frag} {t : Value} {T U : String} {b c : Bool} (h1 : PySem.W.kitOne K t (.type T) = some b) (h2 : PySem.W.kitOne K t (.type U) = some c) : PySem.W.kitAny K t [.type T, .type U] = some (b || c) := by
  cases b with
  | true => exact kitAny_cons h1 (fun z => nomatch z) (fun _ => rfl)
  | false => exact kitAny_cons h1 (fun _ => by cases c with
    | true => exact kitAny_cons h2 (fun z => nomatch z) (fun _ => rfl)
    | false => exact kitAny_cons h2 (fun _ => rfl) (fun z => nomatch z)) (fun z => nomatch z)
theorem de_isi2 (T U : String) {x y : Str} {k0 : Nat} (ha : De X B own a ma) (hm : X.mg "isinstance" = none) (hmT : X.mg x = none) (hmU : X.mg y = none) (hT : tyOk T = true := by decide) (hU : tyOk U = true := by decide) (hg : Gl X "isinstance" := by rfl) (hgT : Gl X x := by rfl) (hgU : Gl X y := by rfl)
    (hv : bootBuiltins x = some (.type T) := by decide +kernel) (hvU : bootBuiltins y = some (.type U) := by decide +kernel) (hvi : bootBuiltins "isinstance" = some (.builtin "isinstance") := by decide +kernel)
    (hn : x ≠ "__name__" := by decide) (hdb : (x == ("__debug__" : Str)) = false := by decide) (hnU : y ≠ "__name__" := by decide) (hdbU : (y == ("__debug__" : Str)) = false := by decide)
    (hs1 : starEach [a, .Tuple [.Name x p2, .Name y p3] k0 o.pos] X.env = (false, eval a X.env) :: starEach [.Tuple [.Name x p2, .Name y p3] k0 o.pos] X.env := by rfl) (hs2 : starEach [.Tuple [.Name x p2, .Name y p3] k0 o.pos] X.env = (false, eval (.Tuple [.Name x p2, .Name y p3] k0 o.pos) X.env) :: starEach [] X.env := by rfl)
    (hs3 : starEach [.Name x p2, .Name y p3] X.env = (false, eval (.Name x p2) X.env) :: starEach [.Name y p3] X.env := by rfl) (hs4 : starEach [.Name y p3] X.env = (false, eval (.Name y p3) X.env) :: starEach [] X.env := by rfl) (hpl : (backTo pos (starEach [.Tuple [.Name x p2, .Name y p3] k0 o.pos] X.env)).any (·.1) = false := by rfl) :
    De X B own (.Call (.Name "isinstance" p) [a, .Tuple [.Name x p2, .Name y p3] k0 o.pos] [] pos) (m1 (fIsi2 T U) ma) :=
  pe_imp (pe_callB call_isiT hg hm hvi (pa_cons ha (pa_cons (pe_tup (pa_cons (pe_bltn (v := .ty T) hgT hmT hv rfl hn hdb) (pa_cons (pe_bltn (v := .ty U) hgU hmU hvU rfl hnU hdbU) pa_nil hs4) hs3)) pa_nil hs2) hs1) (by decide) (by decide) hs1 hpl) fun σ H Q ⟨ρ, F, re, w⟩ => ⟨ρ, F, re, thE w fun ρ1 d1 v1 H1 F1 re1 mo1 rp1 w1 => by
    obtain ⟨z, hz, w2⟩ := Wa.opt w1
    obtain ⟨t, ht, rfl⟩ := Option.map_eq_some_iff.mp hz
    refine ⟨by show 2 ≤ sizeLine; decide, fun q nq => ?_⟩
    have g : Grow F1 H1 F1 (upd H1 q (.tup [.ty T, .ty U])) := Grow.att re1.dom nq
    exact ⟨v1, q, [.ty T, .ty U], .type t, [.type T, .type U], _, rfl, upd_same, .cons (.ty T) (.cons (.ty U) .nil), ty_of (rp1.mono g.mono) ht, kitAny2 (kit_ty (kitB_is ht hT)) (kit_ty (kitB_is ht hU)), w2 _ _ F1 (re1.grow g) g.mn (.bl _)⟩⟩

/-! ### slices -/
def asI : PyData → Option Int
  | .int i => some i
  | _ => none
def mPart : Option EM → Ev → Rs (Ev × Option Int)
  | none, ρ => .ok (ρ, none)
  | some m, ρ => (m ρ).bind fun x => Rs.opt (asI x.2) fun i => .ok (x.1, some i)
def cutD (xs : List PyData) (lo hi : Option Int) : List PyData := (xs.drop (HT.sIx xs.length 0 lo)).take (HT.sIx xs.length xs.length hi - HT.sIx xs.length 0 lo)
def fSl : PyData → Option Int → Option Int → Option PyData
  | .list xs, lo, hi => some (.list (cutD xs lo hi))
  | .tuple xs, lo, hi => some (.tuple (cutD xs lo hi))
  | .str z, lo, hi => iff' (decide (z.length ≤ sizeLine)) (.str (cutS z lo hi))
  | _, _, _ => none
def mSl (m : EM) (lo hi : Option EM) : EM := fun ρ => (m ρ).bind fun x => (mPart lo x.1).bind fun y => (mPart hi y.1).bind fun z => Rs.opt (fSl x.2 y.2 z.2) fun d => .ok (z.1, d)
def kP {K : PySem.W.Frag} {io : List Nat} (B : Bs io) (own : List Nat) (σ : Sl) (Q : Option Int → Hp → Prop) : KF K (Ev × Option Int) :=
  ⟨fun F H x => ∀ H' F', RE K B own F' x.1 σ H' → Mn K F H F' H' → Q x.2 H', fun m h H' F' re mo => h H' F' re (m.trans mo)⟩
def tDP (K : PySem.W.Frag) {io : List Nat} (B : Bs io) (own : List Nat) (m : Option EM) : TO := fun σ H Q => ∃ ρ F, RE K B own F ρ σ H ∧ Wa B (kP (K := K) B own σ Q) F H (mPart m ρ)
abbrev Dp' (X : Cx) {io : List Nat} (B : Bs io) (own : List Nat) (e : Option Expr) (m : Option EM) : Prop := PO X e (tDP X.K B own m)
theorem dp_none : Dp' X B own none none := ⟨fun pins s σ H Q I ⟨ρ, F, re, w⟩ => po_none.run pins s σ H Q I (w H F re Mn.refl)⟩
theorem dp_some (h : De X B own e m) : Dp' X B own (some e) (some m) := ⟨fun pins s σ H Q I ⟨ρ, F, re, w⟩ => (po_some h).run pins s σ H Q I ⟨ρ, F, re, thE w fun ρ1 d1 v1 H1 F1 re1 mo1 rp1 w1 => by
  obtain ⟨i, hi, w2⟩ := Wa.opt w1
  cases rp1 <;> first | (cases hi; done) | skip
  cases hi
  exact ⟨_, rfl, w2 H1 F1 re1 Mn.refl⟩⟩⟩
theorem Rps.drop {K : PySem.W.Frag} {F : Addr → Prop} {H : Hp} : ∀ {vs : List V} {ds : List PyData} (n : Nat), Rps K F H vs ds → Rps K F H (vs.drop n) (ds.drop n)
  | _, _, 0, h => h
  | _, _, _ + 1, .nil => .nil
  | _, _, n + 1, .cons _ t => Rps.drop n t
theorem Rps.take {K : PySem.W.Frag} {F : Addr → Prop} {H : Hp} : ∀ {vs : List V} {ds : List PyData} (n : Nat), Rps K F H vs ds → Rps K F H (vs.take n) (ds.take n)
  | _, _, 0, _ => .nil
  | _, _, _ + 1, .nil => .nil
  | _, _, n + 1, .cons r t => .cons r (Rps.take n t)
theorem Rps.cut {K : PySem.W.Frag} {F : Addr → Prop} {H : Hp} {vs : List V} {ds : List PyData} {lo hi : Option Int} (h : Rps K F H vs ds) : Rps K F H (cutV vs lo hi) (cutD ds lo hi) := by
  unfold cutV cutD
  rw [h.length]
  exact Rps.take _ (Rps.drop _ h)
def rSlG (K : PySem.W.Frag) : V → Option Int → Option Int → Hp → VK → Prop := fun x lo hi H Q => rSlL K x lo hi H Q ∨ rSlA K x lo hi H Q ∨ rSlS x lo hi H Q
theorem sl_G : SlR X (rSlG X.K) := sl_list.or (sl_tupA.or sl_str)
theorem de_sl {lo hi : Option Expr} {ml mh : Option EM} (ha : De X B own a ma) (hl : Dp' X B own lo ml) (hh : Dp' X B own hi mh) : De X B own (.Subscript a (.Slice lo hi none p2) pos) (mSl ma ml mh) :=
  pe_imp (pe_slice sl_G ha hl hh) fun σ H Q ⟨ρ, F, re, w⟩ => ⟨ρ, F, re, thE w fun ρ1 d1 v1 H1 F1 re1 mo1 rp1 w1 => ⟨ρ1, F1, re1, w1.bind fun y wy H2 F2 re2 mo2 => ⟨y.1, F2, re2, (wy.mono mo2).bind fun z wz H3 F3 re3 mo3 => by
    obtain ⟨d, hd, w4⟩ := Wa.opt (wz.mono mo3)
    have rp3 := rp1.mono (mo2.trans mo3).toMono
    cases rp3 with
    | lst hl hs =>
      cases hd
      refine .inl ⟨_, _, rfl, hl.sq, fun q nq => ?_⟩
      exact w4 _ _ _ (re3.grow (Grow.atp re3.dom nq)) (Grow.atp re3.dom nq).mn (.lst (.inl ⟨.inr rfl, .inl upd_same⟩) (hs.cut.mono (Grow.atp re3.dom nq).mono))
    | tup hl hs =>
      cases hd
      refine .inr (.inl ⟨_, _, rfl, SqT.of hl, fun hh => ?_, fun _ q nq => ?_⟩)
      · rename_i vs ds
        have e1 : cutD ds y.2 z.2 = ds := by
          have hl' := hs.length
          unfold cutD
          rw [← hl', hh.1, hh.2, hl']
          simp
        rw [e1] at w4
        exact w4 _ H3 F3 re3 Mn.refl (.tup hl hs)
      · exact w4 _ _ F3 (re3.grow (Grow.att re3.dom nq)) (Grow.att re3.dom nq).mn (.tup upd_same (hs.cut.mono (Grow.att re3.dom nq).mono))
    | str x =>
      obtain ⟨h, rfl⟩ := iff_some hd
      exact .inr (.inr ⟨_, rfl, of_decide_eq_true h, w4 _ H3 F3 re3 Mn.refl (.str _)⟩)
    | _ => cases hd⟩⟩⟩

/-! ### methods of a list that a slot owns -/
/-- r serves f: the list's items, the arguments; the items behind, the answer -/
def MtD (K : PySem.W.Frag) (r : V → List V → Hp → VK → Prop) (f : List PyData → List PyData → Option (List PyData × PyData)) : Prop :=
  ∀ (F : Addr → Prop) (H : Hp) (a : Addr) (vs ws : List V) (ds as ds' : List PyData) (z : PyData) (Q : VK), H a = some (HO.lst vs) → Rps K F H vs ds → Rps K F H ws as → f ds as = some (ds', z) →
  (∀ v vs', Rps K F H vs' ds' → Rp K F H v z → Q v (upd H a (HO.lst vs'))) → r (.ref a) ws H Q
def mMt (i : Nat) (f : List PyData → List PyData → Option (List PyData × PyData)) (ms : List EM) : EM := fun ρ => Rs.opt ((gt ρ i).bind asL) fun _ => (mArgs ms ρ).bind fun x => Rs.opt ((gt x.1 i).bind asL) fun ds => Rs.opt (f ds x.2) fun y =>
  .ok (x.1.set i (some (.list y.1)), y.2)
theorem own_list {K : PySem.W.Frag} {F : Addr → Prop} {H : Hp} {ρ : Ev} {σ : Sl} (re : RE K B own F ρ σ H) {i : Nat} (hi : i ∈ own) {ds : List PyData} (h : (gt ρ i).bind asL = some ds) : ∃ a vs, σ[i]? = some (some (V.ref a)) ∧ ρ[i]? = some (some (.list ds)) ∧ ¬ F a ∧ H a = some (HO.lst vs) ∧ Rps K F H vs ds := by
  obtain ⟨d, h1, h2⟩ := Option.bind_eq_some_iff.mp h
  cases d <;> first | (cases h2; done) | skip
  cases h2
  obtain ⟨a, q1, q2, _, q4⟩ := re.ow i _ hi (gt_ok h1)
  cases q4 with
  | lst q r => exact ⟨a, _, q1, gt_ok h1, q2, q, r⟩
theorem tD_mt {r : V → List V → Hp → VK → Prop} {f : List PyData → List PyData → Option (List PyData × PyData)} {ms : List EM} {i : Nat} (hf : MtD X.K r f) (hi : i ∈ own) : ∀ σ H Q, tD X.K B own (mMt i f ms) σ H Q →
    tBM X.K "list" r (tVar i) (tDA X.K B own ms) σ H Q := fun σ H Q ⟨ρ, F, re, w⟩ => by
  obtain ⟨ds0, h0, w0⟩ := Wa.opt w
  obtain ⟨a, vs, q1, q2, q3, q4, q5⟩ := own_list re hi h0
  refine ⟨_, q1, .inl ⟨rfl, _, SqL.of q4⟩, ρ, F, re, thA w0 fun ρ1 as ws H1 F1 re1 mo1 rps w1 => ?_⟩
  obtain ⟨ds, h1, w2⟩ := Wa.opt w1
  obtain ⟨⟨ds', z⟩, h2, w3⟩ := Wa.opt w2
  obtain ⟨a', vs', u1, u2, u3, u4, u5⟩ := own_list re1 hi h1
  rw [q1] at u1; cases u1
  refine hf F1 H1 a vs' ws ds as ds' z Q u4 u5 rps h2 fun v ws' rp1 rp2 => ?_
  have mo0 : ∀ {vs1 d1}, Rps X.K F1 H1 vs1 d1 → Mono X.K F1 H1 F1 (upd H1 a (HO.lst ws')) → Rps X.K F1 (upd H1 a (HO.lst ws')) vs1 d1 := fun r m => r.mono m
  have pre : Mn X.K F1 H1 F1 (upd H1 a (HO.lst ws')) := (re1.updOwn (d' := .list []) hi u2 q1 (fun _ z => by cases z) rfl).2
  obtain ⟨re2, mo2⟩ := re1.write (d' := .list ds') (o := HO.lst ws') hi u2 q1 (fun _ z => by cases z) (.lst upd_same (rp1.mono pre.toMono))
  exact w3 v _ F1 re2 mo2 (rp2.mono mo2.toMono)
theorem de_mt {name : Str} {id : String} {r : V → List V → Hp → VK → Prop} {f : List PyData → List PyData → Option (List PyData × PyData)} {ms : List EM} {x : Str} {apos : Pos} (i : Nat) (slot : Slot "list" name id) (hty : typeOf (.builtin id) = pure (.type "method_descriptor")) (hr : MtR X id r) (hf : MtD X.K r f) (ha : Da X B own (e :: es) ms)
    (hi : i ∈ own := by decide) (hN : X.N[i]? = some x := by rfl) (hv : Vis X.env.scope x := by first | exact Or.inl rfl | exact Or.inr (Or.inl rfl) | exact Or.inr (Or.inr rfl)) (hd : (x == ("__debug__" : Str)) = false := by decide) (hcd : (x == ("__classdict__" : Str)) = false := by decide)
    (hbase : attributeBase (.Name x p) name X.env (eval (.Name x p) X.env) = eval (.Name x p) X.env := by rfl)
    (hfew : ((backTo pos (starEach (e :: es) X.env)).all (fun x => !x.1) && (backToKw pos (keywordEach [] X.env)).all (fun x => x.1.isSome) && decide ((e :: es).length + ([] : List Keyword).length + (if ([] : List Keyword).isEmpty then 0 else 1) < 30)) = true := by rfl)
    (hline : (apos.endLine == pos.line) = true := by rfl) (hs : starEach (e :: es) X.env = (false, eval e X.env) :: starEach es X.env := by rfl) (hpl : (backTo pos (starEach es X.env)).any (·.1) = false := by rfl) : De X B own (.Call (.Attribute (.Name x p) name apos) (e :: es) [] pos) (mMt i f ms) :=
  pe_imp (pe_bm PySem.F.plainAttrs_list slot hty hr (pv i hN hv hd hcd) ha (hbase := hbase) (hfew := hfew) (hline := hline) (hs := hs) (hplain := hpl)) (tD_mt hf hi)
theorem de_mt0 {name : Str} {id : String} {r : V → List V → Hp → VK → Prop} {f : List PyData → List PyData → Option (List PyData × PyData)} {x : Str} {apos : Pos} (i : Nat) (slot : Slot "list" name id) (hty : typeOf (.builtin id) = pure (.type "method_descriptor")) (hr : MtR X id r) (hf : MtD X.K r f)
    (hi : i ∈ own := by decide) (hN : X.N[i]? = some x := by rfl) (hv : Vis X.env.scope x := by first | exact Or.inl rfl | exact Or.inr (Or.inl rfl) | exact Or.inr (Or.inr rfl)) (hd : (x == ("__debug__" : Str)) = false := by decide) (hcd : (x == ("__classdict__" : Str)) = false := by decide)
    (hbase : attributeBase (.Name x p) name X.env (eval (.Name x p) X.env) = eval (.Name x p) X.env := by rfl) (hline : (apos.endLine == pos.line) = true := by rfl) : De X B own (.Call (.Attribute (.Name x p) name apos) [] [] pos) (mMt i f []) :=
  pe_imp (pe_bm0 PySem.F.plainAttrs_list slot hty hr (pv i hN hv hd hcd) hbase hline) fun σ H Q h => by
    obtain ⟨v, e1, ty, ρ, F, re, w⟩ := tD_mt (ms := []) hf hi σ H Q h
    exact ⟨v, e1, ty, w [] H F re Mn.refl .nil⟩
def fApp : List PyData → List PyData → Option (List PyData × PyData)
  | ds, [d] => iff' (decide (ds.length < sizeLine)) (ds ++ [d], .none)
  | _, _ => none
theorem mtd_app {K : PySem.W.Frag} : MtD K rAppend fApp := fun F H a vs ws ds as ds' z Q h r1 r2 hz k => by
  cases r2 with
  | nil => cases hz
  | cons q1 q2 => cases q2 with
    | cons _ _ => cases hz
    | nil =>
      obtain ⟨h1, h2⟩ := iff_some hz
      cases h2
      exact ⟨a, vs, _, rfl, rfl, h, by rw [r1.length]; exact of_decide_eq_true h1, k _ _ (r1.append (.one q1)) .non⟩
def fIns : List PyData → List PyData → Option (List PyData × PyData)
  | ds, [.int i, d] => iff' (decide (ds.length < sizeLine) && decide (0 ≤ i ∧ i < 2 ^ 63)) (ds.take i.toNat ++ [d] ++ ds.drop i.toNat, .none)
  | _, _ => none
theorem mtd_ins {K : PySem.W.Frag} : MtD K (fun x vs H Q => ∃ (l : Addr) (xs : List V) (i : Int) (y : V), x = .ref l ∧ vs = [.int i, y] ∧ H l = some (.lst xs) ∧ xs.length < sizeLine ∧ 0 ≤ i ∧ i < 2 ^ 63 ∧ Q .non (upd H l (.lst (xs.take i.toNat ++ [y] ++ xs.drop i.toNat)))) fIns := fun F H a vs ws ds as ds' z Q h r1 r2 hz k => by
  cases r2 with
  | nil => cases hz
  | cons q1 q2 => cases q2 with
    | nil => cases q1 <;> cases hz
    | cons q2 q3 => cases q3 with
      | cons _ _ => cases q1 <;> cases hz
      | nil =>
        cases q1 <;> first | (cases hz; done) | skip
        obtain ⟨h1, h2⟩ := iff_some hz
        cases h2
        obtain ⟨h3, h4⟩ := Bool.and_eq_true_iff.mp h1
        have h4 := of_decide_eq_true h4
        exact ⟨a, vs, _, _, rfl, rfl, h, by rw [r1.length]; exact of_decide_eq_true h3, h4.1, h4.2, k _ _ ((Rps.append (Rps.take _ r1) (.one q2)).append (Rps.drop _ r1)) .non⟩
def fPop : List PyData → List PyData → Option (List PyData × PyData)
  | ds, [] => (ds[ds.length - 1]?).map fun d => (ds.dropLast, d)
  | _, _ => none
theorem Rps.dropLast {K : PySem.W.Frag} {F : Addr → Prop} {H : Hp} {vs : List V} {ds : List PyData} (h : Rps K F H vs ds) : Rps K F H vs.dropLast ds.dropLast := by
  rw [List.dropLast_eq_take, List.dropLast_eq_take, h.length]
  exact Rps.take _ h
theorem mtd_pop {K : PySem.W.Frag} : MtD K rPop fPop := fun F H a vs ws ds as ds' z Q h r1 r2 hz k => by
  cases r2 with
  | cons _ _ => cases hz
  | nil =>
    obtain ⟨d, h1, h2⟩ := Option.map_eq_some_iff.mp hz
    cases h2
    obtain ⟨v, e1, e2⟩ := r1.get h1
    exact ⟨a, vs, v, rfl, rfl, h, by rw [r1.length]; exact e1, k _ _ r1.dropLast e2⟩
def fClr : List PyData → List PyData → Option (List PyData × PyData)
  | _, [] => some ([], .none)
  | _, _ => none
theorem mtd_clr {K : PySem.W.Frag} : MtD K rClear fClr := fun F H a vs ws ds as ds' z Q h r1 r2 hz k => by
  cases r2 with
  | cons _ _ => cases hz
  | nil => cases hz; exact ⟨a, vs, rfl, rfl, h, k _ _ .nil .non⟩

/-! ### xs[i] = e, a, b = c, d -/
def sSto (i : Nat) (mi me : EM) : SM := fun ρ => (me ρ).bind fun x => Rs.opt (gt x.1 i) fun _ => (mi x.1).bind fun y => Rs.opt (asI y.2) fun k => Rs.opt ((gt y.1 i).bind asL) fun ds => Rs.opt (ixN ds.length k) fun j =>
  .ok (.nx (y.1.set i (some (.list (ds.set j x.2)))))
theorem Rps.setAt {K : PySem.W.Frag} {F : Addr → Prop} {H : Hp} {v : V} {d : PyData} (r : Rp K F H v d) : ∀ {vs : List V} {ds : List PyData} (j : Nat), Rps K F H vs ds → Rps K F H (vs.set j v) (ds.set j d)
  | _, _, _, .nil => .nil
  | _, _, 0, .cons _ t => .cons r t
  | _, _, j + 1, .cons q t => .cons q (Rps.setAt r j t)
theorem ds_sto {ix : Expr} {x : Str} {bk ct : List Nat} (i : Nat) (he : De X B own e m) (hx : De X B own ix mi) (hi : i ∈ own := by decide) (hN : X.N[i]? = some x := by rfl) (hv : Vis X.env.scope x := by first | exact Or.inl rfl | exact Or.inr (Or.inl rfl) | exact Or.inr (Or.inr rfl)) (hd : (x == ("__debug__" : Str)) = false := by decide) (hcd : (x == ("__classdict__" : Str)) = false := by decide)
    (ha : ∀ v, assign (.Subscript (.Name x p) ix p2) X.env v = (do let ov ← holding [v] (eval (.Name x p) X.env); let iv ← holding [v, ov] (eval ix X.env); standAt p2; holding [v, ov, iv] (setItem ov iv v); release [v, ov, iv] []) := by intro _; rfl)
    (hs : swapsWithSole [.Subscript (.Name x p) ix p2] e pos.line X.env = pure false := by rfl) (hw : swappedStores [.Subscript (.Name x p) ix p2] e X.env = pure none := by rfl) (h1 : (assignEach [.Subscript (.Name x p) ix p2] X.env).map (·.2) = [assign (.Subscript (.Name x p) ix p2) X.env] := by rfl) :
    Ds X B own ⟨own, bk, ct⟩ (.Assign [.Subscript (.Name x p) ix p2] e pos) (sSto i mi m) :=
  ps_imp (ps_asg he (pg_sub (pv i hN hv hd hcd) hx set_list ha) hs hw h1) fun D σ H ⟨ρ, F, re, w⟩ => ⟨ρ, F, re, thE w fun ρ1 d1 v1 H1 F1 re1 mo1 rp1 w1 => by
    obtain ⟨d0, h0, w2⟩ := Wa.opt w1
    obtain ⟨a, q1, _⟩ := re1.ow i d0 hi (gt_ok h0)
    refine ⟨_, q1, ρ1, F1, re1, thE w2 fun ρ2 d2 v2 H2 F2 re2 mo2 rp2 w3 => ?_⟩
    obtain ⟨k, hk, w4⟩ := Wa.opt w3
    obtain ⟨ds, hds, w5⟩ := Wa.opt w4
    obtain ⟨j, hj, w6⟩ := Wa.opt w5
    cases rp2 <;> first | (cases hk; done) | skip
    cases hk
    obtain ⟨a', vs', u1, u2, u3, u4, u5⟩ := own_list re2 hi hds
    rw [q1] at u1; cases u1
    refine ⟨a, vs', _, j, rfl, rfl, u4, by rw [u5.length]; exact hj, ?_⟩
    have pre := (re2.updOwn (o := HO.lst (vs'.set j v1)) (d' := .list []) hi u2 q1 (fun _ z => by cases z) rfl).2
    obtain ⟨re3, mo3⟩ := re2.write (d' := .list (ds.set j d1)) (o := HO.lst (vs'.set j v1)) hi u2 q1 (fun _ z => by cases z) (.lst upd_same ((Rps.setAt (rp1.mono mo2.toMono) j u5).mono pre.toMono))
    exact w6 σ _ F2 re3 mo3.toMono⟩
def sPar (i j : Nat) (ma mb : EM) : SM := fun ρ => (ma ρ).bind fun x => (mb x.1).bind fun y => .ok (.nx ((y.1.set i (some x.2)).set j (some y.2)))
theorem ds_par {x y : Str} {b : Expr} {mb : EM} {px py pt : Pos} {kt k2 : Nat} {pt2 : Pos} {bk ct : List Nat} (i j : Nat) (hc : X.calm = true) (nd : X.N.Nodup) (ha : De X B own a ma) (hb : De X B own b mb) (hoi : i ∉ io := by decide) (hoj : j ∉ io := by decide) (hi : X.N[i]? = some x := by rfl) (hj : X.N[j]? = some y := by rfl) (hij : i ≠ j := by decide)
    (hx : X.env.scope.names.lookup x = some .local := by rfl) (hy : X.env.scope.names.lookup y = some .local := by rfl) (hs1 : starEach [a, b] X.env = (false, eval a X.env) :: starEach [b] X.env := by rfl) (hs2 : starEach [b] X.env = (false, eval b X.env) :: starEach [] X.env := by rfl)
    (hp : PS X (.Assign [.Tuple [.Name x px, .Name y py] kt pt] (.Tuple [a, b] k2 pt2) pos) (tPar i j (tDA X.K B own [ma, mb]))) :
    Ds X B own ⟨(own.filter (· ≠ i)).filter (· ≠ j), bk, ct⟩ (.Assign [.Tuple [.Name x px, .Name y py] kt pt] (.Tuple [a, b] k2 pt2) pos) (sPar i j ma mb) :=
  ps_imp hp fun D σ H ⟨ρ, F, re, w⟩ => ⟨ρ, F, re, by
    have e : (ma ρ).bind (fun x => (mb x.1).bind fun y => Rs.ok (Fl.nx ((y.1.set i (some x.2)).set j (some y.2)))) = (mArgs [ma, mb] ρ).bind fun z => match z.2 with | [d1, d2] => Rs.ok (Fl.nx ((z.1.set i (some d1)).set j (some d2))) | _ => .bad := by
      simp only [mArgs]
      cases ma ρ with
      | ok x => simp only [Rs.bind]; cases mb x.1 <;> rfl
      | exc c x => rfl
      | bad => rfl
    have w' : Wa B (kS X.K B ⟨(own.filter (· ≠ i)).filter (· ≠ j), bk, ct⟩ D) F H ((mArgs [ma, mb] ρ).bind fun z => match z.2 with | [d1, d2] => Rs.ok (Fl.nx ((z.1.set i (some d1)).set j (some d2))) | _ => .bad) := by rw [← e]; exact w
    exact thA w' fun ρ1 ds vs H1 F1 re1 mo1 rps w1 => by
      cases rps with
      | nil => exact w1.elim
      | cons r1 r2 => cases r2 with
        | nil => exact w1.elim
        | cons r2 r3 => cases r3 with
          | cons _ _ => exact w1.elim
          | nil => exact ⟨_, _, rfl, w1 _ H1 F1 ((re1.set r1 hoi).set r2 hoj) Mono.refl⟩⟩

/-! ### new objects that a slot is to own -/
def kO {K : PySem.W.Frag} {io : List Nat} (B : Bs io) (own : List Nat) (σ : Sl) (Q : VK) : KF K (Ev × PyData) :=
  ⟨fun F H x => ∀ a H' F', RE K B own F' x.1 σ H' → Mn K F H F' H' → ¬ F' a → H a = none → B.H0 a = none → (∀ j ∈ own, σ[j]? ≠ some (some (V.ref a))) → OwnV K F' H' a x.2 → Q (.ref a) H', fun {_ H _ _ _} m h a H' F' re mo nF hz =>
    h a H' F' re (m.trans mo) nF (by by_cases q : H a = none; exact q; exact absurd hz (m.keep a q))⟩
def tDO (K : PySem.W.Frag) {io : List Nat} (B : Bs io) (own : List Nat) (m : EM) : TE := fun σ H Q => ∃ ρ F, RE K B own F ρ σ H ∧ Wa B (kO (K := K) B own σ Q) F H (m ρ)
abbrev Do (X : Cx) {io : List Nat} (B : Bs io) (own : List Nat) (e : Expr) (m : EM) : Prop := PE X e (tDO X.K B own m)
theorem do_lst {ms : List EM} (h : Da X B own es ms) : Do X B own (.List es pos) (mN fLst ms) :=
  pe_imp (pe_lst h) fun σ H Q ⟨ρ, F, re, w⟩ => ⟨ρ, F, re, thA w fun ρ1 ds vs H1 F1 re1 mo1 rps w1 => by
    obtain ⟨z, hz, w2⟩ := Wa.opt w1
    obtain ⟨h3, rfl⟩ := iff_some hz
    refine ⟨by rw [rps.length]; exact of_decide_eq_true h3, fun q nq => ?_⟩
    have g : Grow F1 H1 F1 (upd H1 q (.lst vs)) := Grow.att re1.dom nq
    exact w2 q _ F1 (re1.grow g) g.mn (fun z => re1.dom q z nq) nq (re1.h0 nq) (re1.notIn nq) (.lst upd_same (rps.mono g.mono))⟩
theorem ds_setO {x : Str} {pos' : Pos} {bk ct : List Nat} (i : Nat) (nd : X.N.Nodup) (he : Do X B own e m) (ho : i ∉ io := by decide) (hi : X.N[i]? = some x := by rfl) (hx : Loc X.env.scope x := by first | exact Or.inl rfl | exact Or.inr rfl)
    (hs : swapsWith e (some (.Name x pos')) pos.line X.env = pure false := by rfl) (hf : X.fn x = true ∨ X.env.scope.names.lookup x = some .local := by first | exact .inl rfl | exact .inr rfl | assumption) :
    Ds X B own ⟨i :: own, bk, ct⟩ (.Assign [.Name x pos'] e pos) (sSet i m) :=
  ps_imp (L2.ps_set nd hi hx he hs hf) fun D σ H ⟨ρ, F, re, w⟩ => ⟨ρ, F, re, w.bind fun y wy a H1 F1 re1 mo1 nF _ h0 hn hv => by
    have w1 : Wa B (kS X.K B ⟨i :: own, bk, ct⟩ D) F1 H1 (.ok (.nx (y.1.set i (some y.2)))) := wy.mono mo1
    exact w1 _ H1 F1 (re1.setO nF h0 hv (fun j hj e _ => hn j hj) ho) Mono.refl⟩

/-! ### repr -/
def fRepr : List PyData → Option PyData
  | [d] => iff' (d.canLay0 && d.showable && decide (d.depth ≤ 60) && decide (d.shown.length ≤ sizeLine)) (.str d.shown)
  | _ => none
def rRepr (K : PySem.W.Frag) : List V → Hp → VK → Prop := fun xs H Q => ∃ x d, xs = [x] ∧ Dp K H x d ∧ d.canLay0 = true ∧ d.showable = true ∧ d.depth ≤ 60 ∧ d.shown.length ≤ sizeLine ∧ Q (.str d.shown) H
theorem call_reprG {k : Nat} (hr : Room k X.A) (gd : X.A.guards = some []) : CallR X (.builtin "repr") (rRepr X.K) := by
  intro pins s σ H xs us Q I rv h
  obtain ⟨x, d, rfl, hd, hc, hs, hdp, hl, q⟩ := h
  obtain ⟨u, rfl, rx⟩ := vals1 rv
  have hu := hr.units
  have fin : ∀ t, EP X pins σ Q (.str d.shown t) { s with toks := s.toks + 1 } := fun t => ⟨.str d.shown, H, I.tok _, ⟨_, rfl⟩, q⟩
  obtain ⟨as, rd⟩ := Dp.reads I d x u hd rx
  cases rd with
  | none => exact P.repr_of_none (fin _)
  | bool b => exact P.repr_of_bool (by have := fin s.toks; simpa [PyData.shown] using this)
  | int i t => exact P.repr_of_int (by simpa [PyData.showable] using hs) (by have := fin s.toks; simpa [PyData.shown] using this)
  | str y t => exact P.repr_of_str (by have := fin s.toks; simpa [PyData.shown] using this) (by simpa [PyData.shown] using hl)
  | list h1 h2 h3 h4 =>
    exact repr_of_reads' (.list h1 h2 h3 h4) hs (PyData.noDict_hsm (PyData.hasDict_of_canLay _ hc)) gd (by omega) (fun _ _ e => e) (fun h' t tk k => ⟨.str _, H, I.kept k, ⟨_, rfl⟩, q⟩) hl
  | tuple h1 h2 h3 h4 =>
    exact repr_of_reads' (.tuple h1 h2 h3 h4) hs (PyData.noDict_hsm (PyData.hasDict_of_canLay _ hc)) gd (by omega) (fun _ _ e => e) (fun h' t tk k => ⟨.str _, H, I.kept k, ⟨_, rfl⟩, q⟩) hl
  | dict h1 h2 h3 h4 h5 => simp [PyData.canLay0] at hc
theorem fnd_repr {K : PySem.W.Frag} : FnD K (rRepr K) fRepr := fun F H xs ds z Q dom r hz k => by
  cases r with
  | nil => cases hz
  | cons r1 r2 => cases r2 with
    | cons _ _ => cases hz
    | nil =>
      obtain ⟨h, rfl⟩ := iff_some hz
      simp only [Bool.and_eq_true, decide_eq_true_eq] at h
      exact ⟨_, _, rfl, r1.dp h.1.1.1, h.1.1.1, h.1.1.2, h.1.2, h.2, k _ H F (Grow.refl dom) (.str _)⟩

/-! ### new objects from calls, handed back; a list that a slot owns, read -/
theorem do_cal {k j : Nat} {x : Str} {f : FM} {as : List Ar} {iol : List Nat} {n : Nat} {dfl : List PyData} (C : Cal X.prog X.w X.K X.mg X.base j x dfl iol n f true) (hr : Room k X.A) (gd : X.A.guards = some []) (tk : Takes X B.W) (hB : B.mg = X.mg) (ha : Dr X B own (e :: es) as) (hjk : j ≤ k := by decide)
    (hg : Gl X x := by rfl) (hio : ioOf as 0 = iol := by rfl) (hj : ∀ j ∈ jsOf as, j ∈ own := by decide) (nd : (jsOf as).Nodup := by decide) (hn : as.length + dfl.length = n := by rfl) (hio2 : ∀ i ∈ io, i ∈ own := by decide) (hdb : (x == ("__debug__" : Str)) = false := by decide)
    (hs : starEach (e :: es) X.env = (false, eval e X.env) :: starEach es X.env := by rfl) (hpl : (backTo pos (starEach es X.env)).any (·.1) = false := by rfl) : Do X B own (.Call (.Name x p) (e :: es) [] pos) (mCall f as dfl) := by
  obtain ⟨fa, fd, ps, dvs, ds, h1, h2, h3, h4, h5, h6⟩ := C.ex
  refine pe_imp (pe_callG h3 (hr.mono hjk) gd hg h1 h2 h4 h5 tk ha hdb hs hpl) fun σ H Q ⟨ρ, F, re, w⟩ => call_any (fr := true) (κ := kO (K := X.K) B own σ Q) hio hj nd hn hB h6 hio2 (fun k re1 re2 mo2 rp => ?_) re w
  obtain ⟨a, rfl, nF, h0, hv⟩ := rp
  exact k a _ _ re2 mo2 nF h0 (re1.h0 h0) (re1.notIn h0) hv
/-- a new object that stays as it is -/
theorem de_of_do (h : Do X B own e m) : De X B own e m :=
  pe_imp h fun σ H Q ⟨ρ, F, re, w⟩ => ⟨ρ, F, re, by
    cases q : m ρ with
    | bad => rw [q] at w; exact w
    | exc c x => rw [q] at w; exact w
    | ok x =>
      rw [q] at w
      intro a H' F' re' mo nF hz h0 hn hv
      obtain ⟨re2, mo2⟩ := re'.addF hv.there hn h0
      refine w _ H' _ re2 ⟨mo.toMono.trans mo2, fun b hb => ?_, mo.keep⟩ ((hv.mono mo2 rfl).rp (.inr rfl))
      rcases hb with hb | rfl
      · exact mo.new b hb
      · exact .inr hz⟩
theorem ds_retO {ow : Ow} (hfr : B.fr = true) (he : Do X B own e m) (hio : ∀ i ∈ io, i ∈ own := by decide) : Ds X B own ow (.Return (some e) pos) (sRt m) :=
  ps_imp (ps_ret he) fun D σ H ⟨ρ, F, re, w⟩ => ⟨ρ, F, re, w.bind fun y wy a H1 F1 re1 mo1 nF _ h0 hn hv => by
    obtain ⟨F2, re2, mo2, hF2⟩ := re1.freeze' hio (fun i h => h)
    have w1 : Wa B (kS X.K B ow D) F1 H1 (.ok (.rt y.1 y.2)) := wy.mono mo1
    refine w1 _ σ H1 F2 re2 mo2 ?_
    unfold RetR
    rw [hfr]
    refine ⟨a, rfl, fun z => ?_, h0, hv.mono mo2 rfl⟩
    rcases hF2 a z with q | ⟨i, hi, q, _⟩
    · exact nF q
    · exact hn i hi q⟩
/-- an owned slot's list (or dict) handed back -/
def sRtV (i : Nat) : SM := fun ρ => Rs.opt (gt ρ i) fun d => .ok (.rt (ρ.set i none) d)
theorem ds_retV {x : Str} {ow : Ow} (i : Nat) (hfr : B.fr = true) (hi : i ∈ own := by decide) (hni : i ∉ io := by decide) (hio : ∀ j ∈ io, j ∈ own := by decide) (hN : X.N[i]? = some x := by rfl) (hv : Vis X.env.scope x := by first | exact Or.inl rfl | exact Or.inr (Or.inl rfl) | exact Or.inr (Or.inr rfl))
    (hd : (x == ("__debug__" : Str)) = false := by decide) (hcd : (x == ("__classdict__" : Str)) = false := by decide) : Ds X B own ow (.Return (some (.Name x p)) pos) (sRtV i) :=
  ps_imp (ps_ret (pv i hN hv hd hcd)) fun D σ H ⟨ρ, F, re, w⟩ => by
    obtain ⟨d, hg, w2⟩ := Wa.opt w
    obtain ⟨a, e1, nF, h0, ov⟩ := re.ow i d hi (gt_ok hg)
    refine ⟨_, e1, ?_⟩
    have e0 : ∀ j ∈ own, (σ.set i none)[j]? ≠ some (some (V.ref a)) := fun j hj q => by
      by_cases hji : j = i
      · subst hji
        rw [List.getElem?_set_self (List.getElem?_eq_some_iff.mp e1).1] at q; cases q
      · rw [List.getElem?_set_ne (Ne.symm hji)] at q
        cases ej : ρ[j]? with
        | none =>
          have h1 := List.getElem?_eq_none_iff.mp ej
          have h2 := (List.getElem?_eq_some_iff.mp q).1
          rw [← re.len] at h2; omega
        | some o => cases o with
          | none => rw [re.un j ej] at q; cases q
          | some dj => exact re.ne i j d dj hi hj (fun z => hji z.symm) (gt_ok hg) ej (e1.trans q.symm)
    obtain ⟨F2, re2, mo2, hF2⟩ := (re.forget hni).freeze' hio (fun i h => h)
    refine w2 _ _ H F2 re2 mo2 ?_
    unfold RetR
    rw [hfr]
    refine ⟨a, rfl, fun z => ?_, ?_, ov.mono mo2 rfl⟩
    · rcases hF2 a z with q | ⟨j, hj, q, hnj⟩
      · exact nF q
      · exact e0 j hj q
    · rcases h0 with h0 | h0
      · exact h0
      · obtain ⟨p, hp, rfl⟩ := List.mem_map.mp h0
        obtain ⟨q1, q2, dp, q3⟩ := re.io p hp
        have hpi : p.1 ≠ i := fun z => hni (by rw [← B.hio, ← z]; exact List.mem_map.mpr ⟨p, hp, rfl⟩)
        exact absurd (q1.trans e1.symm) (re.ne p.1 i dp d q2 hi hpi q3 (gt_ok hg))
/-- xs[k], xs a list that a slot owns -/
def mIxO (i : Nat) (mb : EM) : EM := fun ρ => Rs.opt (gt ρ i) fun _ => (mb ρ).bind fun y => Rs.opt ((gt y.1 i).bind asL) fun ds => Rs.opt (fIx (.list ds) y.2) fun d => .ok (y.1, d)
theorem de_ixO {b : Expr} {mb : EM} {x : Str} (i : Nat) (hb : De X B own b mb) (hi : i ∈ own := by decide) (hs : PlainIx b := by exact fun _ _ => rfl) (hN : X.N[i]? = some x := by rfl) (hv : Vis X.env.scope x := by first | exact Or.inl rfl | exact Or.inr (Or.inl rfl) | exact Or.inr (Or.inr rfl))
    (hd : (x == ("__debug__" : Str)) = false := by decide) (hcd : (x == ("__classdict__" : Str)) = false := by decide) : De X B own (.Subscript (.Name x p) b pos) (mIxO i mb) :=
  pe_imp (pe_ix ix_seq (pv i hN hv hd hcd) hb hs) fun σ H Q ⟨ρ, F, re, w⟩ => by
    obtain ⟨d0, h0, w0⟩ := Wa.opt w
    obtain ⟨a, e1, _⟩ := re.ow i d0 hi (gt_ok h0)
    refine ⟨_, e1, ρ, F, re, thE w0 fun ρ1 d1 v1 H1 F1 re1 mo1 rp1 w1 => ?_⟩
    obtain ⟨ds, hds, w2⟩ := Wa.opt w1
    obtain ⟨z, hz, w3⟩ := Wa.opt w2
    obtain ⟨a', vs', u1, u2, u3, u4, u5⟩ := own_list re1 hi hds
    rw [e1] at u1; cases u1
    cases rp1 <;> first | (cases hz; done) | skip
    obtain ⟨v, q1, q2⟩ := u5.at_ hz
    exact .inl ⟨_, _, _, v, rfl, rfl, SqL.of u4, q1, w3 v H1 F1 re1 Mn.refl q2⟩
/-- len(xs), xs a list that a slot owns -/
def mLenO (i : Nat) : EM := fun ρ => Rs.opt ((gt ρ i).bind asL) fun ds => .ok (ρ, .int ds.length)
theorem de_lenO {x : Str} (i : Nat) (hm : X.mg "len" = none) (hi : i ∈ own := by decide) (hN : X.N[i]? = some x := by rfl) (hv : Vis X.env.scope x := by first | exact Or.inl rfl | exact Or.inr (Or.inl rfl) | exact Or.inr (Or.inr rfl))
    (hd : (x == ("__debug__" : Str)) = false := by decide) (hcd : (x == ("__classdict__" : Str)) = false := by decide) (hg : Gl X "len" := by rfl)
    (hs : starEach [.Name x p2] X.env = (false, eval (.Name x p2) X.env) :: starEach [] X.env := by rfl) (hpl : (backTo pos (starEach [] X.env)).any (·.1) = false := by rfl) : De X B own (.Call (.Name "len" p) [.Name x p2] [] pos) (mLenO i) :=
  pe_imp (pe_callB call_len hg hm (by decide +kernel) (pa_cons (pv i hN hv hd hcd) pa_nil hs) (by decide) (by decide) hs hpl) fun σ H Q ⟨ρ, F, re, w⟩ => by
    obtain ⟨ds, hds, w1⟩ := Wa.opt w
    obtain ⟨a, vs, u1, u2, u3, u4, u5⟩ := own_list re hi hds
    refine ⟨_, u1, _, vs.length, rfl, .inl ⟨_, SqL.of u4, rfl⟩, ?_⟩
    rw [u5.length]
    exact w1 _ H F re Mn.refl (.int _)
end
end Kd

end T_KD6
section T_KD7
set_option maxRecDepth 100000
/-! KD7: the end of a law. -/
namespace Kd
open PySem PySem.Spec PyProof.Rows L2

theorem rps_ints {K : PySem.W.Frag} {F : Addr → Prop} {H : Hp} : ∀ ns : List Int, Rps K F H (ns.map V.int) (ns.map PyData.int)
  | [] => .nil
  | n :: r => .cons (.int n) (rps_ints r)
/-- the law's promise holds where its run says True of the script -/
theorem law_sp {K : PySem.W.Frag} {mg : Str → Option Value} {f : FM} {H : Hp} {a : Addr} {ns : List Int} (hS : SqL K H a (ns.map V.int)) (hf : ∃ os, f [.list (ns.map .int)] = .ok (os, .bool true)) :
    spD K mg [] 1 false f [.ref a] H (fun v _ => v = .bl true) fun _ _ _ => False := by
  obtain ⟨os, hf⟩ := hf
  have hL : LsA K (fun b => H b ≠ none) H a (ns.map V.int) := by
    rcases hS with h | h
    · refine .inl ⟨?_, h⟩
      rcases h with h | ⟨o, h⟩ <;> (rw [h]; simp)
    · exact .inr h
  refine ⟨[.list (ns.map .int)], fun b => H b ≠ none, rfl, ⟨rfl, fun i v d _ e1 e2 => ?_, fun i v d hi => by simp at hi, fun i j hi => by simp at hi, fun i hi => by simp at hi⟩, fun _ h => h, ?_⟩
  · cases i with
    | zero =>
      simp only [List.getElem?_cons_zero, Option.some.injEq] at e1 e2
      subst e1 e2
      exact .lst hL (rps_ints ns)
    | succ i => simp at e1
  · rw [hf]
    intro v H' F' _ _ rp
    cases rp
    rfl
section
variable {P : Program} {w : World} {K : PySem.W.Frag} {mg mb : Str → Option Value} {k : Nat} {fa a : Addr} {fd : FuncData} {x : Str} {sp : Sp} {st : Shared} {vs : List Value} {ns : List Int}
/-- the run from an abstract heap in which the script alone may stand -/
theorem law_core (inK : K.In st.heap) (gl : st.heap.Ns mainGlobals mg) (bl : st.heap.Ns builtinsNs mb) (bb : ∀ x : Str, x ≠ "__name__" → mb x = bootBuiltins x) (nl : st.heap.NoLimit) (gens : st.gens = #[])
    (ob : st.heap.get? a = some { cls := .type "list", data := .seq vs.toArray }) (room : Room k callerA) (G : ∀ base : Heap, K.In base → base.Ns mainGlobals mg → FnG P w K mg base k fa fd [x] sp)
    (bd : ∀ (s : Shared) (u : Value), BindsTo s fd ⟨[u], []⟩ [(x, u)]) (H : Hp) (only : Only H) (ok : HOk P w H st.heap) (at1 : ∀ b, H b ≠ none → b = a) (offK : H a ≠ none → K.lookup a = none)
    (prom : sp [.ref a] H (fun v _ => v = .bl true) fun _ _ _ => False) :
    codeAny (model P w) callerA (.call (.ref fa) ⟨[.ref a], []⟩) (fun r s' => r = .ok (.ret (.bool true)) ∧ OldK st.heap s'.heap ∧ s'.os = st.os ∧ AllBare s'.gens) st := by
  have free : ∀ {b : Addr} {o : Obj} {es : Array DictEntry} {ep : Nat}, st.heap.get? b = some o → o.data = .dict es ep → H b = none := by
    intro b o es ep e d
    cases q : H b with
    | none => rfl
    | some u =>
      have := at1 b (by rw [q]; simp)
      subst this
      rw [ob] at e
      cases e
      cases d
  have ns2 : ∀ {b : Addr} {m : Str → Option Value}, st.heap.Ns b m → (hidT st.heap H).Ns b m := by
    intro b m h
    obtain ⟨o, es, ep, e, d, r⟩ := h
    exact ⟨o, es, ep, hidT_get e (free e d), d, r⟩
  have kb : K.In (hidT st.heap H) := by
    intro b o e
    refine hidT_get (inK b o e) ?_
    cases q : H b with
    | none => rfl
    | some u =>
      have := at1 b (by rw [q]; simp)
      subst this
      rw [offK (by rw [q]; simp)] at e
      cases e
  have nl2 : (hidT st.heap H).NoLimit := by
    obtain ⟨mc, h1, h2⟩ := nl
    exact ⟨mc, ns2 h1, h2⟩
  have en : Env0 P w K mg (hidT st.heap H) callerA [] st H :=
    ⟨rfl, ⟨kb, ns2 gl, ⟨mb, ns2 bl, bb⟩, nl2⟩, fun _ _ e => of_hidT e, by rw [hidT_size]; exact Nat.le_refl _, trivial, fun b h => (by cases h), ok, .of_eq gens⟩
  have run := (G _ kb (ns2 gl)).run callerA [] st H ⟨[.ref a], []⟩ [.ref a] [.ref a] _ _ room rfl en (bd st (.ref a)) (.cons rfl .nil) prom
  refine codeAny_mono run fun r s' z => ?_
  cases r with
  | error e =>
    obtain ⟨_, _, _, _, _, _, _, _, _, _, _, _, q⟩ := z
    exact q.elim
  | ok fl =>
    cases fl with
    | ret u =>
      obtain ⟨v, H', os, bare, un, ok', ru, q⟩ := z
      obtain rfl : v = .bl true := q
      obtain rfl : u = Value.bool true := ru
      refine ⟨rfl, OldK.of_keep fun b o e => ?_, os, bare⟩
      rcases only b with z | ⟨ob', ys, z⟩
      · exact un.keep b o e z (fun h => (by cases h)) (fun h => (by cases h))
      · have e1 := (ok b _ z).1
        have e2 := (ok' b _ (un.frzs b ob' _ z)).1
        rw [e] at e1
        cases e1
        exact e2
    | _ => exact z.elim
theorem law_run (inK : K.In st.heap) (gl : st.heap.Ns mainGlobals mg) (bl : st.heap.Ns builtinsNs mb) (bb : ∀ x : Str, x ≠ "__name__" → mb x = bootBuiltins x) (nl : st.heap.NoLimit) (gens : st.gens = #[])
    (ob : st.heap.get? a = some { cls := .type "list", data := .seq vs.toArray }) (hi : IntsAre vs ns) (hl : ns.length ≤ sizeLine) (room : Room k callerA) (G : ∀ base : Heap, K.In base → base.Ns mainGlobals mg → FnG P w K mg base k fa fd [x] sp)
    (bd : ∀ (s : Shared) (u : Value), BindsTo s fd ⟨[u], []⟩ [(x, u)]) (prom : ∀ H : Hp, SqL K H a (ns.map V.int) → sp [.ref a] H (fun v _ => v = .bl true) fun _ _ _ => False) :
    codeAny (model P w) callerA (.call (.ref fa) ⟨[.ref a], []⟩) (fun r s' => r = .ok (.ret (.bool true)) ∧ OldK st.heap s'.heap ∧ s'.os = st.os ∧ AllBare s'.gens) st := by
  have rv := vals_ints hi
  have lv := hi.length
  cases hk : K.lookup a with
  | some o =>
    have e := inK a o hk
    rw [ob] at e
    cases e
    exact law_core inK gl bl bb nl gens ob room G bd (fun _ => none) (fun _ => .inl rfl) (fun _ _ z => nomatch z) (fun _ z => absurd rfl z) (fun z => absurd rfl z)
      (prom _ (.inr ⟨_, vs.toArray, _, hk, rfl, rfl, rfl, by rw [List.size_toArray, lv]; exact hl, by simpa using rv⟩))
  | none =>
    have atA : ∀ {b : Addr} {u : HO}, (if b = a then some (HO.frz { cls := .type "list", data := .seq vs.toArray } (.lst (ns.map V.int))) else none) = some u → b = a ∧ u = HO.frz { cls := .type "list", data := .seq vs.toArray } (.lst (ns.map V.int)) := by
      intro b u z
      by_cases hb : b = a
      · rw [if_pos hb] at z; exact ⟨hb, (Option.some.inj z).symm⟩
      · rw [if_neg hb] at z; cases z
    refine law_core inK gl bl bb nl gens ob room G bd (fun b => if b = a then some (.frz { cls := .type "list", data := .seq vs.toArray } (.lst (ns.map V.int))) else none) (fun b => ?_) (fun b u z => ?_) (fun b z => ?_) (fun _ => hk)
      (prom _ (.inl (.inr ⟨_, if_pos rfl⟩)))
    · by_cases hb : b = a
      · exact .inr ⟨_, _, if_pos hb⟩
      · exact .inl (if_neg hb)
    · obtain ⟨rfl, rfl⟩ := atA z
      exact ⟨ob, by rw [List.length_map]; exact hl, vs, _, rv, ob⟩
    · by_cases hb : b = a
      · exact hb
      · exact absurd (if_neg hb) z
end
/-- the goal of a law, from its def's promise -/
theorem walk_g {l : PySem.W.OpenLaw} {n k : Nat} {q : Program} {loose : List Str} {XP : (Str → Option Value) → Heap → Prop} {YP : World → Heap → Prop} {d : DefRec} {x : Str} (hn : l.most = some n) (hn2 : n ≤ sizeLine) (hdf : d.params.defaults = []) (hr : Room k callerA)
    (F : ∀ (w : World) (mg : Str → Option Value) (fa : Addr) (h : Heap), YP w h → h.Ns mainGlobals mg → mg d.name = some (.ref fa) → ∃ (K : PySem.W.Frag) (fd : FuncData) (f : FM), K.In h ∧ (∀ (s : Shared) (u : Value), BindsTo s fd ⟨[u], []⟩ [(x, u)]) ∧
      (∀ ns : List Int, ns.length ≤ n → ∃ os, f [.list (ns.map .int)] = .ok (os, .bool true)) ∧ ∀ base : Heap, K.In base → base.Ns mainGlobals mg → FnG l.prog w K mg base k fa fd [x] (spD K mg [] 1 false f)) :
    PySem.W.WalkO q loose XP YP l.row.toRowW d [] (fun f vs => PySem.call f vs) := by
  refine Att.attach_call hn hdf fun w s₀ st mg mb fa o pm cd doc a vs ns G Y ho hd hcd hmg hobj hints hlen hg => ?_
  obtain ⟨K, fd, f, inK, bd, hf, hG⟩ := F w mg fa _ Y G.T.g hmg
  exact law_run inK G.T.g G.T.b G.T.builtins G.T.nolimit hg hobj hints (Nat.le_trans hlen hn2) hr hG bd fun H hS => law_sp hS (hf ns hlen)
end Kd

end T_KD7
section T_KD8
set_option maxRecDepth 100000
/-! KD8: more that is walked: lists, tuples and texts alike, zip, enumerate. -/
namespace Kd
open PySem PySem.Spec PyProof.Rows L2
section
variable {X : Cx} {tg e e2 : Expr} {io : List Nat} {B : Bs io} {own : List Nat} {m : EM} {pos p tpos : Pos}
def iSeq (K : PySem.W.Frag) (te : TE) : TI := fun σ H R => te σ H fun x H1 => (∃ a, x = .ref a ∧ (∃ xs, SqL K H1 a xs) ∧ R (Itl K a) H1) ∨ (∃ a, x = .ref a ∧ (∃ xs, SqT K H1 a xs) ∧ R (Itt K a) H1) ∨ (∃ z, x = .str z ∧ R (Its z) H1)
theorem pi_seq {l : Expr} {tl : TE} (hl : PE X l tl) : PI X tg l (iSeq X.K tl) := by
  refine ⟨fun pins s σ H R I h => ?_⟩
  refine thn (hl.run pins s σ H _ I h) fun v s1 ⟨x, H1, I1, r1, q1⟩ => ?_
  rcases q1 with ⟨a, rfl, ⟨xs, hq⟩, q⟩ | ⟨a, rfl, ⟨xs, hq⟩, q⟩ | ⟨z, rfl, q⟩
  · cases r1
    obtain ⟨its, rv, p, hz⟩ := I1.list hq
    exact wpAny_pyIter_list p.isList (pi_one (tk := s1.toks) I1 _ (turn_list a _) ⟨_, Heap.get?_push_size _ rfl, rfl, rfl⟩ q)
  · cases r1
    obtain ⟨its, rv, p, hz⟩ := I1.tuple hq
    exact wpAny_pyIter_tuple (show s1.heap.IsTuple a its.toArray from p) (pi_one (tk := s1.toks) I1 _ (turn_tuple a _) ⟨_, Heap.get?_push_size _ rfl, rfl, rfl⟩ q)
  · obtain ⟨t, rfl⟩ := r1
    cases ha : z.cps.all (· < 128)
    · exact wpAny_pyIter_wide ha (pi_one (tk := s1.toks) I1 _ (turn_str _ z t "str_iterator" (.inr rfl)) ⟨_, Heap.get?_push_size _ rfl, rfl, rfl⟩ q)
    · exact wpAny_pyIter_ascii ha (pi_one (tk := s1.toks) I1 _ (turn_str _ z t "str_ascii_iterator" (.inl rfl)) ⟨_, Heap.get?_push_size _ rfl, rfl, rfl⟩ q)
/-- a list's things, a tuple's, a text's signs -/
def asQ : PyData → Option (List PyData)
  | .list xs => some xs
  | .tuple xs => some xs
  | .str z => some (z.cps.toList.map fun c => .str ⟨#[c]⟩)
  | _ => none
theorem di_seq (he : De X B own e m) : Di X B own tg e (iOf asQ m) :=
  pi_imp (pi_seq he) fun σ H R ⟨ρ, F, re, w⟩ => ⟨ρ, F, re, thE w fun ρ1 d1 v1 H1 F1 re1 mo1 rp1 w1 => by
    obtain ⟨ds, hd, w2⟩ := Wa.opt w1
    cases rp1 with
    | lst hl hs =>
      cases hd
      rename_i a vs
      refine .inl ⟨_, rfl, ⟨_, hl.sq⟩, w2 _ H1 F1 re1 Mn.refl ⟨fun H => SqL X.K H a vs, YAt vs, by have := walk_list (K := X.K) (a := a) (xs := vs); rw [hs.length] at this; exact this, fun F2 H2 mo => hl.imp (fun x => mo.rd _ _ x.1 x.2) id, fun F2 i H2 v H3 mo dom y => ?_⟩⟩
      obtain ⟨rfl, e⟩ := y
      obtain ⟨hl, _⟩ := List.getElem?_eq_some_iff.mp e
      rw [hs.length] at hl
      obtain ⟨v', e', rp'⟩ := hs.get (List.getElem?_eq_getElem hl)
      rw [e] at e'; cases e'
      exact ⟨_, List.getElem?_eq_getElem hl, Grow.refl dom, rp'.mono mo⟩
    | tup hr hs =>
      cases hd
      rename_i a vs
      refine .inr (.inl ⟨_, rfl, ⟨_, SqT.of hr⟩, w2 _ H1 F1 re1 Mn.refl ⟨fun H => SqT X.K H a vs, YAt vs, by have := walk_tup (K := X.K) (a := a) (xs := vs); rw [hs.length] at this; exact this, fun F2 H2 mo => SqT.of (mo.tup _ _ hr), fun F2 i H2 v H3 mo dom y => ?_⟩⟩)
      obtain ⟨rfl, e⟩ := y
      obtain ⟨hl, _⟩ := List.getElem?_eq_some_iff.mp e
      rw [hs.length] at hl
      obtain ⟨v', e', rp'⟩ := hs.get (List.getElem?_eq_getElem hl)
      rw [e] at e'; cases e'
      exact ⟨_, List.getElem?_eq_getElem hl, Grow.refl dom, rp'.mono mo⟩
    | str z =>
      cases hd
      refine .inr (.inr ⟨z, rfl, w2 _ H1 F1 re1 Mn.refl ⟨fun _ => True, fun i H v H' => H' = H ∧ ∃ c, z.cps[i]? = some c ∧ v = .str ⟨#[c]⟩, by have := walk_str (z := z); simpa using this, fun _ _ _ => trivial, fun F2 i H2 v H3 mo dom y => ?_⟩⟩)
      obtain ⟨rfl, c, hc, rfl⟩ := y
      refine ⟨.str ⟨#[c]⟩, ?_, Grow.refl dom, .str _⟩
      simp [hc]
    | _ => cases hd⟩
/-- pairs of two lists, of two tuples -/
def zipD : List PyData → Option (List PyData)
  | [.list xs, .list ys] => some ((xs.zip ys).map fun p => .tuple [p.1, p.2])
  | [.tuple xs, .tuple ys] => some ((xs.zip ys).map fun p => .tuple [p.1, p.2])
  | _ => none
theorem pair_at {K : PySem.W.Frag} {F1 F2 : Addr → Prop} {H1 H2 H3 : Hp} {vs us : List V} {ds es : List PyData} {v : V} {i : Nat} (h1 : Rps K F1 H1 vs ds) (h2 : Rps K F1 H1 us es) (mo : Mono K F1 H1 F2 H2) (dom : ∀ a, F2 a → H2 a ≠ none) (y : YPair (fun i => vs[i]?) (fun i => us[i]?) i H2 v H3) :
    ∃ d, ((ds.zip es).map fun p => PyData.tuple [p.1, p.2])[i]? = some d ∧ Grow F2 H2 F2 H3 ∧ Rp K F2 H3 v d := by
  obtain ⟨T, x, z, rfl, hT, rfl, e1, e2⟩ := y
  have e1 : vs[i]? = some x := e1
  have e2 : us[i]? = some z := e2
  have l1 := (List.getElem?_eq_some_iff.mp e1).1
  have l2 := (List.getElem?_eq_some_iff.mp e2).1
  rw [h1.length] at l1
  rw [h2.length] at l2
  obtain ⟨x', q1, r1⟩ := h1.get (List.getElem?_eq_getElem l1)
  obtain ⟨z', q2, r2⟩ := h2.get (List.getElem?_eq_getElem l2)
  rw [e1] at q1; cases q1
  rw [e2] at q2; cases q2
  have g : Grow F2 H2 F2 (upd H2 T (.tup [x, z])) := Grow.att dom hT
  refine ⟨.tuple [ds[i], es[i]], ?_, g, .tup (upd_same ..) (.cons ((r1.mono mo).mono g.mono) (.cons ((r2.mono mo).mono g.mono) .nil))⟩
  simp [List.getElem?_zip_eq_some, l1, l2]
theorem di_zip {elts : List Expr} {kk : Nat} {ms : List EM} (hm : X.mg "zip" = none) (ha : Da X B own [e, e2] ms) (hg : Gl X "zip" := by rfl) (hs : starEach [e, e2] X.env = (false, eval e X.env) :: starEach [e2] X.env := by rfl) (hpl : (backTo pos (starEach [e2] X.env)).any (·.1) = false := by rfl) :
    Di X B own (.Tuple elts kk tpos) (.Call (.Name "zip" p) [e, e2] [] pos) (iNg zipD ms) :=
  pi_imp (RZ.pi_zipA hg hm ha hs hpl) fun σ H R ⟨ρ, F, re, w⟩ => ⟨ρ, F, re, thA w fun ρ1 ds vs H1 F1 re1 mo1 rp1 w1 => by
    obtain ⟨ds', hd, w2⟩ := Wa.opt w1
    unfold zipD at hd
    split at hd
    · rename_i xs ys he
      cases he
      cases hd
      cases rp1 with
      | cons r1 r2 =>
        cases r2 with
        | cons r2 r3 =>
          cases r3
          cases r1 with
          | lst hl1 hs1 =>
            cases r2 with
            | lst hl2 hs2 =>
              rename_i a vs1 b vs2
              refine ⟨a, b, vs1, vs2, rfl, .inl ⟨hl1.sq, hl2.sq, w2 _ H1 F1 re1 Mn.refl ⟨fun H => SqL X.K H a vs1 ∧ SqL X.K H b vs2, YPair (fun i => vs1[i]?) (fun i => vs2[i]?), ?_, fun F2 H2 mo => ⟨hl1.imp (fun x => mo.rd _ _ x.1 x.2) id, hl2.imp (fun x => mo.rd _ _ x.1 x.2) id⟩, fun F2 i H2 v H3 mo dom y => pair_at hs1 hs2 mo dom y⟩⟩⟩
              refine walk_zip ?_
              rw [hs1.length, hs2.length]
              simp
    · rename_i xs ys he
      cases he
      cases hd
      cases rp1 with
      | cons r1 r2 =>
        cases r2 with
        | cons r2 r3 =>
          cases r3
          cases r1 with
          | tup hl1 hs1 =>
            cases r2 with
            | tup hl2 hs2 =>
              rename_i a vs1 b vs2
              refine ⟨a, b, vs1, vs2, rfl, .inr ⟨SqT.of hl1, SqT.of hl2, w2 _ H1 F1 re1 Mn.refl ⟨fun H => SqT X.K H a vs1 ∧ SqT X.K H b vs2, YPair (fun i => vs1[i]?) (fun i => vs2[i]?), ?_, fun F2 H2 mo => ⟨SqT.of (mo.tup _ _ hl1), SqT.of (mo.tup _ _ hl2)⟩, fun F2 i H2 v H3 mo dom y => pair_at hs1 hs2 mo dom y⟩⟩⟩
              have e : ((xs.zip ys).map fun p => PyData.tuple [p.1, p.2]).length = min vs1.length vs2.length := by
                rw [hs1.length, hs2.length]; simp
              rw [e]
              refine ⟨fun i _ hi q => ?_, fun _ q => ⟨vs1, vs2, q.1, q.2, by omega⟩, fun i H v H' _ q y => ?_⟩
              · have h1 : i < vs1.length := by omega
                have h2 : i < vs2.length := by omega
                exact ⟨vs1, vs2, vs1[i], vs2[i], q.1, q.2, by simp [h1], by simp [h2]⟩
              · obtain ⟨T, x, z, h1, h2, h3, h4, h5⟩ := y
                exact ⟨T, x, z, h1, h2, h3, h4 vs1 q.1, h5 vs2 q.2⟩
    · cases hd⟩
def enumD : List PyData → Option (List PyData)
  | [.list xs] => some (xs.zipIdx.map fun p => .tuple [.int (p.2 : Nat), p.1])
  | _ => none
theorem di_enum {elts : List Expr} {kk : Nat} {ms : List EM} (hm : X.mg "enumerate" = none) (ha : Da X B own [e] ms) (hg : Gl X "enumerate" := by rfl) (hs : starEach [e] X.env = [(false, eval e X.env)] := by rfl) :
    Di X B own (.Tuple elts kk tpos) (.Call (.Name "enumerate" p) [e] [] pos) (iNg enumD ms) :=
  pi_imp (pi_enum hg hm ha hs) fun σ H R ⟨ρ, F, re, w⟩ => ⟨ρ, F, re, thA w fun ρ1 ds vs H1 F1 re1 mo1 rp1 w1 => by
    obtain ⟨ds', hd, w2⟩ := Wa.opt w1
    unfold enumD at hd
    split at hd
    · rename_i xs he
      cases he
      cases hd
      cases rp1 with
      | cons r1 r2 =>
        cases r2
        cases r1 with
        | lst hl1 hs1 =>
          rename_i a vs1
          refine ⟨a, vs1, rfl, hl1.sq, w2 _ H1 F1 re1 Mn.refl ⟨fun H => SqL X.K H a vs1, YPair (fun i => some (.int (i : Nat))) (fun i => vs1[i]?), ?_, fun F2 H2 mo => hl1.imp (fun x => mo.rd _ _ x.1 x.2) id, fun F2 i H2 v H3 mo dom y => ?_⟩⟩
          · have e : (xs.zipIdx.map fun p => PyData.tuple [.int (p.2 : Nat), p.1]).length = vs1.length := by
              rw [hs1.length]; simp
            rw [e]
            exact walk_enum
          · obtain ⟨T, x, z, rfl, hT, rfl, e1, e2⟩ := y
            have e2 : vs1[i]? = some z := e2
            cases e1
            have l2 := (List.getElem?_eq_some_iff.mp e2).1
            rw [hs1.length] at l2
            obtain ⟨z', q2, r2⟩ := hs1.get (List.getElem?_eq_getElem l2)
            rw [e2] at q2; cases q2
            have g : Grow F2 H2 F2 (upd H2 T (.tup [.int (i : Nat), z])) := Grow.att dom hT
            refine ⟨.tuple [.int (i : Nat), xs[i]], ?_, g, .tup (upd_same ..) (.cons (.int _) (.cons ((r2.mono mo).mono g.mono) .nil))⟩
            simp [l2]
    · cases hd⟩
end
end Kd

end T_KD8
section T_KD9
set_option maxRecDepth 100000
/-! KD9: comprehensions with two clauses. -/
namespace Kd
open PySem PySem.Spec PyProof.Rows L2
theorem wit {J : It} {n : Nat} {G : Hp → Prop} {Y : Nat → Hp → V → Hp → Prop} (wk : Walk J n G Y) (Pv : Nat → Hp → Prop) (Step : V → Hp → (Hp → Prop) → Prop) (Qd : Hp → Prop) {H0 : Hp} (h0 : Pv 0 H0) (hG : ∀ i H, i ≤ n → Pv i H → G H)
    (hs : ∀ i x H H', i < n → Pv i H → Y i H x H' → Step x H' (Pv (i + 1))) (hd : ∀ H, Pv n H → Qd H) :
    ∃ W : Nat → Nat → Hp → Prop, (∃ m, W 0 m H0) ∧ ∀ i m H, W i m H → (J.stop i H ∧ Qd H) ∨ (J.go i H ∧ ∃ Nx : Hp → Prop, (∀ H', Nx H' → ∃ m', m' < m ∧ W (i + 1) m' H') ∧ ∀ x H', J.yld i H x H' → Step x H' Nx) := by
  refine ⟨fun i m H => m = n - i ∧ i ≤ n ∧ Pv i H, ⟨n, rfl, Nat.zero_le _, h0⟩, ?_⟩
  rintro i m H ⟨rfl, hi, p⟩
  by_cases hlt : i < n
  · exact .inr ⟨wk.goes i H hlt (hG i H hi p), Pv (i + 1), fun H' p' => ⟨n - (i + 1), by omega, rfl, by omega, p'⟩, fun x H' y => hs i x H H' hlt p (wk.yields i H x H' hlt (hG i H hi p) y)⟩
  · have e : i = n := by omega
    subst e
    exact .inl ⟨wk.stops H (hG i H hi p), hd H p⟩
def lcL2 (g : GM) (t : TM) (it1 : IM) (g1 : GM) (t1 : TM) (m : EM) (vs vs1 : List Nat) : List PyData → Ev → Rs (Ev × List PyData)
  | [], ρ => .ok (ρ, [])
  | d :: ds, ρ => Rs.opt (g d (wipeE ρ vs)) fun ρ1 => (t ρ1).bind fun x => if x.2 then (it1 x.1).bind fun y => (lcL g1 t1 m vs1 y.2 y.1).bind fun z => (lcL2 g t it1 g1 t1 m vs vs1 ds z.1).bind fun w => .ok (w.1, z.2 ++ w.2)
    else lcL2 g t it1 g1 t1 m vs vs1 ds x.1
def mLc2 (own : List Nat) (it : IM) (g : GM) (t : TM) (it1 : IM) (g1 : GM) (t1 : TM) (m : EM) (vs vs1 : List Nat) : EM := fun ρ => (it ρ).bind fun x => Rs.opt (allSet own x.1) fun _ => (lcL2 g t it1 g1 t1 m vs vs1 x.2 x.1).quiet.bind fun y =>
  Rs.opt (fLst y.2) fun d => .ok (keepE x.1 vs y.1, d)
theorem wipeE_wipeE {ρ : Ev} {vs vs1 : List Nat} (h : ∀ i ∈ vs1, i ∈ vs) : wipeE (wipeE ρ vs1) vs = wipeE ρ vs := by
  refine List.ext_getElem? fun k => ?_
  by_cases hk : k ∈ vs
  · by_cases hl : k < ρ.length
    · rw [wipeE_in (by rw [wipeE_length]; exact hl) hk, wipeE_in hl hk]
    · rw [List.getElem?_eq_none (by rw [wipeE_length, wipeE_length]; omega), List.getElem?_eq_none (by rw [wipeE_length]; omega)]
  · rw [wipeE_get hk, wipeE_get hk, wipeE_get fun z => hk (h k z)]
theorem wipe_wipe {σ σ2 : Sl} {vs vs1 : List Nat} (h : ∀ i ∈ vs1, i ∈ vs) (e : L2.wipe σ2 vs = L2.wipe σ vs) : L2.wipe (L2.wipe σ2 vs1) vs = L2.wipe σ vs := by
  rw [← e]
  exact wipe_eq (by rw [wipe_length]) fun k hk => wipe_get fun z => hk (h k z)
section
variable {X : Cx} {io : List Nat} {B : Bs io} {own : List Nat}
theorem tD_lc2 {wi : TI} {it it1 : IM} {g g1 : GM} {t t1 : TM} {m : EM} {vs vs1 ts ts1 : List Nat} (hwi : ∀ σ H R, tDI X.K B own it σ H R → wi σ H R) (hmg : B.mg = X.mg) (hts : ∀ i ∈ ts, i ∈ vs) (hts1 : ∀ i ∈ ts1, i ∈ vs1) (hv1 : ∀ i ∈ vs1, i ∈ vs) (hvo : ∀ v ∈ vs, v ∉ own) : ∀ σ H Q, tD X.K B own (mLc2 own it g t it1 g1 t1 m vs vs1) σ H Q →
    tLc2 wi (fun v σ H Q => ∃ b : Bq own X.mg, tDG X.K b.1 own own ts g v σ H Q) (fun σ H Q => ∃ b : Bq own X.mg, tDT X.K b.1 own t σ H Q)
      (fun σ H R => ∃ b : Bq own X.mg, tDI X.K b.1 own it1 σ H R) (fun v σ H Q => ∃ b : Bq own X.mg, tDG X.K b.1 own own ts1 g1 v σ H Q) (fun σ H Q => ∃ b : Bq own X.mg, tDT X.K b.1 own t1 σ H Q)
      (fun σ H Q => ∃ b : Bq own X.mg, tD X.K b.1 own m σ H Q) vs vs1 σ H Q := fun σ H Q ⟨ρ, F, re, w⟩ => by
  refine hwi σ H _ ⟨ρ, F, re, w.bind fun x w0 J H1 F1 re1 mo1 ⟨G, Y, wk, hG, hY⟩ D nD => ?_⟩
  obtain ⟨_, hset, w1⟩ := Wa.opt w0
  obtain ⟨hset, _⟩ := iff_some hset
  cases hq : (lcL2 g t it1 g1 t1 m vs vs1 x.2 x.1).quiet with
  | exc c y => rw [hq] at w1; cases hz : lcL2 g t it1 g1 t1 m vs vs1 x.2 x.1 <;> (rw [hz] at hq; cases hq)
  | bad => rw [hq] at w1; exact w1.elim
  | ok y =>
    rw [hq] at w1
    obtain ⟨d, hd, w2⟩ := Wa.opt w1
    obtain ⟨hlen, rfl⟩ := iff_some hd
    have hlen := of_decide_eq_true hlen
    have hrun := Rs.quiet_ok hq
    obtain ⟨ρe, rs⟩ := y
    have no : ∀ {j}, j ∈ own → j ∉ vs := fun {j} h z => hvo j z h
    have no1 : ∀ {j}, j ∈ own → j ∉ vs1 := fun {j} h z => hvo j (hv1 j z) h
    have hvo1 : ∀ v ∈ vs1, v ∉ own := fun v h => hvo v (hv1 v h)
    have hD0 := re1.h0 nD
    have hDn := re1.notIn nD
    have hDw : ∀ j ∈ own, (L2.wipe σ vs)[j]? ≠ some (some (V.ref D)) := fun j hj => by rw [wipe_get (no hj)]; exact hDn j hj
    refine wit wk (fun i H => ∃ ρ F, RE X.K B own F (wipeE ρ vs) (L2.wipe σ vs) H ∧ (∀ j ∈ own, ∃ d, (wipeE ρ vs)[j]? = some (some d)) ∧ Mn X.K F1 H1 F H ∧ ¬ F D ∧ ∃ acc da rest, H D = some (HO.lst acc) ∧ Rps X.K F H acc da ∧
      lcL2 g t it1 g1 t1 m vs vs1 (x.2.drop i) ρ = .ok (ρe, rest) ∧ da ++ rest = rs) _ (Q (.ref D)) ?_ (fun i H hi ⟨ρ, F, re, hs, mo, _⟩ => hG F H mo.toMono) (fun i v H H' hi ⟨ρ, F, re, hs, mo, nF, acc, da, rest, hacc, racc, hl, hrs⟩ y => ?_) (fun H ⟨ρ, F, re, hs, mo, nF, acc, da, rest, hacc, racc, hl, hrs⟩ => ?_)
    · have gg : Grow F1 H1 F1 (upd H1 D (HO.lst [])) := Grow.att re1.dom nD
      refine ⟨x.1, F1, (re1.wipe hvo).grow gg, fun j hj => ?_, gg.mn, fun z => re1.dom D z nD, [], [], rs, upd_same, .nil, by simpa using hrun, rfl⟩
      have := List.all_eq_true.mp hset j hj
      rw [wipeE_get (no hj)]
      cases e : gt x.1 j with
      | none => rw [e] at this; cases this
      | some d => exact ⟨d, gt_ok e⟩
    · obtain ⟨d, e, gr, rp⟩ := hY F i H v H' mo.toMono re.dom y
      have ed : x.2.drop i = d :: x.2.drop (i + 1) := by
        have hl := (List.getElem?_eq_some_iff.mp e)
        rw [List.drop_eq_getElem_cons hl.1, hl.2]
      rw [ed] at hl
      have re' := re.grow gr
      obtain ⟨B', reB, hB0, hBA, back, hBW⟩ := re'.rebase hs
      rw [hmg] at hBW
      have hDB : D ∉ B'.A0 := fun z => by
        obtain ⟨j, hj, q⟩ := hBA D z
        exact hDw j hj q
      have hD' : B'.H0 D = some (HO.lst acc) := by rw [hB0]; exact gr.same _ _ hacc
      have stay : ∀ {F' ρ' σ' H'}, RE X.K B' own F' ρ' σ' H' → H' D = some (HO.lst acc) := fun r => r.old D _ hD' hDB
      have setd : ∀ {F' ρ' σ' H'}, RE X.K B' own F' ρ' σ' H' → ∀ j ∈ own, ∃ d, ρ'[j]? = some (some d) := fun r j hj => by
        have : j ∈ B'.IO.map (·.1) := by rw [B'.hio]; exact hj
        obtain ⟨p, hp, rfl⟩ := List.mem_map.mp this
        exact (r.io p hp).2.2
      have h0 : lcL2 g t it1 g1 t1 m vs vs1 (d :: x.2.drop (i + 1)) ρ = (Rs.opt (g d (wipeE ρ vs)) fun ρ1 => (t ρ1).bind fun x' => if x'.2 then (it1 x'.1).bind fun y => (lcL g1 t1 m vs1 y.2 y.1).bind fun z => (lcL2 g t it1 g1 t1 m vs vs1 (x.2.drop (i + 1)) z.1).bind fun w => .ok (w.1, z.2 ++ w.2)
        else lcL2 g t it1 g1 t1 m vs vs1 (x.2.drop (i + 1)) x'.1) := rfl
      rw [h0] at hl
      cases hg : g d (wipeE ρ vs) with
      | none => rw [hg] at hl; cases hl
      | some ρ1 =>
        rw [hg] at hl
        obtain ⟨⟨ρ2, c⟩, ht, hl⟩ := Rs.bind_ok hl
        refine ⟨⟨B', hBW⟩, wipeE ρ vs, F, d, reB, rp, ρ1, hg, fun σ2 H2 F2 re2 mo2 len2 out2 => ?_⟩
        have hw : L2.wipe σ2 vs = L2.wipe σ vs := by
          have h1 := wipe_eq (vs := vs) len2 (fun k hk => out2 k fun z => hk (hts k z))
          rw [h1]
          exact wipe_eq (by rw [wipe_length]) fun k hk => wipe_get hk
        have fin : ∀ {ρ4 F4 H4}, RE X.K B' own F4 ρ4 σ2 H4 → RE X.K B own F4 (wipeE ρ4 vs) (L2.wipe σ vs) H4 := fun r => by
          have := (back r).wipe hvo
          rw [hw] at this; exact this
        have nFD : ∀ {F4 H4}, Mn X.K F H' F4 H4 → ¬ F4 D := fun {F4 H4} mm z => by
          rcases mm.new D z with q | q
          · exact nF q
          · rw [gr.same _ _ hacc] at q; cases q
        refine ⟨hw, ⟨B', hBW⟩, ρ1, F2, re2, ?_⟩
        rw [ht]
        intro H3 F3 re3 mo3
        cases c with
        | false =>
          refine ⟨ρ2, F3, fin re3, fun j hj => ?_, mo.trans (gr.mn.trans (mo2.trans mo3)), nFD (mo2.trans mo3), acc, da, rest, stay re3, racc.mono (gr.mono.trans (mo2.trans mo3).toMono), hl, hrs⟩
          rw [wipeE_get (no hj)]
          exact setd re3 j hj
        | true =>
          obtain ⟨⟨ρ3, ds1⟩, hit, hl⟩ := Rs.bind_ok hl
          obtain ⟨⟨ρ4, rs1⟩, hin, hl⟩ := Rs.bind_ok hl
          obtain ⟨⟨ρ5, rest2⟩, hl2, he2⟩ := Rs.bind_ok hl
          cases he2
          refine ⟨⟨B', hBW⟩, ρ2, F3, re3, ?_⟩
          rw [hit]
          intro J1 H4 F4 re4 mo4 ⟨G1, Y1, wk1, hG1, hY1⟩
          have mA : Mn X.K F1 H1 F4 H4 := mo.trans (gr.mn.trans (mo2.trans (mo3.trans mo4)))
          have nF4 : ¬ F4 D := nFD (mo2.trans (mo3.trans mo4))
          have hDw1 : ∀ j ∈ own, (L2.wipe σ2 vs1)[j]? ≠ some (some (V.ref D)) := fun j hj => by
            have h1 : (L2.wipe σ2 vs1)[j]? = (L2.wipe σ2 vs)[j]? := by rw [wipe_get (no hj), wipe_get (no1 hj)]
            rw [h1, hw]; exact hDw j hj
          refine wit wk1 (fun i H => ∃ ρ F, RE X.K B own F (wipeE ρ vs1) (L2.wipe σ2 vs1) H ∧ (∀ j ∈ own, ∃ d, (wipeE ρ vs1)[j]? = some (some d)) ∧ Mn X.K F4 H4 F H ∧ ¬ F D ∧ ∃ acc da rest1, H D = some (HO.lst acc) ∧ Rps X.K F H acc da ∧
            lcL g1 t1 m vs1 (ds1.drop i) ρ = .ok (ρ4, rest1) ∧ da ++ (rest1 ++ rest2) = rs) _ _ ?_ (fun i H hi ⟨ρ, F, re, hs, mo, _⟩ => hG1 F H mo.toMono) (fun i v H H' hi ⟨ρ, F, re, hs, mo, nF, acc, da, rest1, hacc, racc, hl, hrs⟩ y => ?_) (fun H ⟨ρ, F, re, hs, mo, nF, acc, da, rest1, hacc, racc, hl, hrs⟩ => ?_)
          · refine ⟨ρ3, F4, (back re4).wipe hvo1, fun j hj => ?_, Mn.refl, nF4, acc, da, rs1, stay re4, racc.mono (gr.mono.trans (mo2.trans (mo3.trans mo4)).toMono), by simpa using hin, hrs⟩
            rw [wipeE_get (no1 hj)]
            exact setd re4 j hj
          · obtain ⟨d, e, gr, rp⟩ := hY1 F i H v H' mo.toMono re.dom y
            have ed : ds1.drop i = d :: ds1.drop (i + 1) := by
              have hl := (List.getElem?_eq_some_iff.mp e)
              rw [List.drop_eq_getElem_cons hl.1, hl.2]
            rw [ed] at hl
            have re' := re.grow gr
            obtain ⟨B2, reB, hB0, hBA, back, hBW⟩ := re'.rebase hs
            rw [hmg] at hBW
            have hDB : D ∉ B2.A0 := fun z => by
              obtain ⟨j, hj, q⟩ := hBA D z
              exact hDw1 j hj q
            have hD' : B2.H0 D = some (HO.lst acc) := by rw [hB0]; exact gr.same _ _ hacc
            have stay : ∀ {F' ρ' σ' H'}, RE X.K B2 own F' ρ' σ' H' → H' D = some (HO.lst acc) := fun r => r.old D _ hD' hDB
            have setd : ∀ {F' ρ' σ' H'}, RE X.K B2 own F' ρ' σ' H' → ∀ j ∈ own, ∃ d, ρ'[j]? = some (some d) := fun r j hj => by
              have : j ∈ B2.IO.map (·.1) := by rw [B2.hio]; exact hj
              obtain ⟨p, hp, rfl⟩ := List.mem_map.mp this
              exact (r.io p hp).2.2
            have h0 : lcL g1 t1 m vs1 (d :: ds1.drop (i + 1)) ρ = (Rs.opt (g1 d (wipeE ρ vs1)) fun ρ1 => (t1 ρ1).bind fun x' => if x'.2 then (m x'.1).bind fun y => (lcL g1 t1 m vs1 (ds1.drop (i + 1)) y.1).bind fun z => .ok (z.1, y.2 :: z.2)
              else lcL g1 t1 m vs1 (ds1.drop (i + 1)) x'.1) := rfl
            rw [h0] at hl
            cases hg : g1 d (wipeE ρ vs1) with
            | none => rw [hg] at hl; cases hl
            | some ρ6 =>
              rw [hg] at hl
              obtain ⟨⟨ρ7, c⟩, ht, hl⟩ := Rs.bind_ok hl
              refine ⟨⟨B2, hBW⟩, wipeE ρ vs1, F, d, reB, rp, ρ6, hg, fun σ3 H5 F5 re5 mo5 len5 out5 => ?_⟩
              have hw3 : L2.wipe σ3 vs1 = L2.wipe σ2 vs1 := by
                have h1 := wipe_eq (vs := vs1) len5 (fun k hk => out5 k fun z => hk (hts1 k z))
                rw [h1]
                exact wipe_eq (by rw [wipe_length]) fun k hk => wipe_get hk
              have fin : ∀ {ρ4 F4 H4}, RE X.K B2 own F4 ρ4 σ3 H4 → RE X.K B own F4 (wipeE ρ4 vs1) (L2.wipe σ2 vs1) H4 := fun r => by
                have := (back r).wipe hvo1
                rw [hw3] at this; exact this
              have nFD : ∀ {F4 H4}, Mn X.K F H' F4 H4 → ¬ F4 D := fun {F4 H4} mm z => by
                rcases mm.new D z with q | q
                · exact nF q
                · rw [gr.same _ _ hacc] at q; cases q
              refine ⟨hw3, ⟨B2, hBW⟩, ρ6, F5, re5, ?_⟩
              rw [ht]
              intro H6 F6 re6 mo6
              cases c with
              | false =>
                refine ⟨ρ7, F6, fin re6, fun j hj => ?_, mo.trans (gr.mn.trans (mo5.trans mo6)), nFD (mo5.trans mo6), acc, da, rest1, stay re6, racc.mono (gr.mono.trans (mo5.trans mo6).toMono), hl, hrs⟩
                rw [wipeE_get (no1 hj)]
                exact setd re6 j hj
              | true =>
                obtain ⟨⟨ρ8, r⟩, hm, hl⟩ := Rs.bind_ok hl
                obtain ⟨⟨ρ9, rest'⟩, hl2', he2⟩ := Rs.bind_ok hl
                cases he2
                refine ⟨⟨B2, hBW⟩, ρ7, F6, re6, ?_⟩
                rw [hm]
                intro u H7 F7 re7 mo7 rp7
                have hD7 := stay re7
                have mB : Mn X.K F H' F7 H7 := mo5.trans (mo6.trans mo7)
                have nF7 := nFD mB
                obtain ⟨re8, mo8⟩ := (fin re7).updFree (o' := HO.lst (acc ++ [u])) nF7 hD0 hDw1 hD7 (fun xs => ⟨(fun z => nomatch z), (fun q z => nomatch z)⟩)
                have la : acc.length = da.length := racc.length
                refine ⟨acc, hD7, ?_, ρ8, F7, re8, fun j hj => ?_, mo.trans (gr.mn.trans (mB.trans mo8)), nF7, acc ++ [u], da ++ [r], rest', upd_same, ?_, hl2', by rw [← hrs]; simp⟩
                · rw [← hrs] at hlen
                  simp only [List.length_append, List.length_cons] at hlen
                  omega
                · rw [wipeE_get (no1 hj)]
                  exact setd re7 j hj
                · exact (racc.mono (gr.mono.trans (mB.toMono.trans mo8.toMono))).append (.one (rp7.mono mo8.toMono))
          · have e0 : ds1.drop ds1.length = [] := by simp
            rw [e0] at hl
            cases hl
            have re8 := re.wipe hvo
            rw [wipeE_wipeE hv1, wipe_wipe hv1 hw] at re8
            refine ⟨ρ4, F, re8, fun j hj => ?_, mA.trans mo, nF, acc, da, rest2, hacc, racc, hl2, by simpa using hrs⟩
            have := hs j hj
            rw [wipeE_get (no1 hj)] at this
            rw [wipeE_get (no hj)]
            exact this
    · have e0 : x.2.drop x.2.length = [] := by simp
      rw [e0] at hl
      cases hl
      have la : da = rs := by simpa using hrs
      subst la
      obtain ⟨re6, mo6⟩ := re.addF (p := D) (by rw [hacc]; simp) hDw hD0
      have mn6 : Mn X.K F1 H1 (fun a => F a ∨ a = D) H := ⟨mo.toMono.trans mo6, fun a h => by
        rcases h with h | rfl
        · exact mo.new a h
        · exact .inr nD, mo.keep⟩
      exact w2 _ H _ (re1.kept re6 (mo.toMono.trans mo6) hvo) (mo1.trans mn6) (.lst (.inl ⟨.inr rfl, .inl hacc⟩) (racc.mono mo6))
theorem pi_ex {X : Cx} {β : Type} {tg e : Expr} {t : β → TI} (h : ∀ b, PI X tg e (t b)) : PI X tg e (fun σ H Q => ∃ b, t b σ H Q) := ⟨fun pins s σ H Q I ⟨b, q⟩ => (h b).run pins s σ H Q I q⟩
theorem de_lc2 {elt tg iter tg1 iter1 : Expr} {ifs ifs1 : List Expr} {scope : Scope} {ownp : List (Str × Nat)} {pos : Pos} {it it1 : IM} {g g1 : GM} {t t1 : TM} {m : EM} {vs vs1 ts ts1 : List Nat} (hc : X.calm = true) (nd : X.N.Nodup) (hmg : B.mg = X.mg) (hi : Di X B own tg iter it) (ok : BlkOk X.N X.env.scope scope ownp)
    (hg : ∀ (s : Shared) (H : Hp) (C : Addr) (cl : List (Str × Addr)) (fp : List Addr) (b : Bs own), b.W = (fun _ _ _ _ => False) → b.mg = X.mg → Dg (X.blk s H scope (compEnvC scope cl C X.env) fp) b own own ts tg g)
    (ht : ∀ (s : Shared) (H : Hp) (C : Addr) (cl : List (Str × Addr)) (fp : List Addr) (b : Bs own), b.W = (fun _ _ _ _ => False) → b.mg = X.mg → Dts (X.blk s H scope (compEnvC scope cl C X.env) fp) b own ifs t)
    (hi1 : ∀ (s : Shared) (H : Hp) (C : Addr) (cl : List (Str × Addr)) (fp : List Addr) (b : Bs own), b.W = (fun _ _ _ _ => False) → b.mg = X.mg → Di (X.blk s H scope (compEnvC scope cl C X.env) fp) b own tg1 iter1 it1)
    (hg1 : ∀ (s : Shared) (H : Hp) (C : Addr) (cl : List (Str × Addr)) (fp : List Addr) (b : Bs own), b.W = (fun _ _ _ _ => False) → b.mg = X.mg → Dg (X.blk s H scope (compEnvC scope cl C X.env) fp) b own own ts1 tg1 g1)
    (ht1 : ∀ (s : Shared) (H : Hp) (C : Addr) (cl : List (Str × Addr)) (fp : List Addr) (b : Bs own), b.W = (fun _ _ _ _ => False) → b.mg = X.mg → Dts (X.blk s H scope (compEnvC scope cl C X.env) fp) b own ifs1 t1)
    (he : ∀ (s : Shared) (H : Hp) (C : Addr) (cl : List (Str × Addr)) (fp : List Addr) (b : Bs own), b.W = (fun _ _ _ _ => False) → b.mg = X.mg → De (X.blk s H scope (compEnvC scope cl C X.env) fp) b own elt m)
    (hv : ownp.map (·.2) = vs := by rfl) (hts : ∀ i ∈ ts, i ∈ vs := by decide) (hts1 : ∀ i ∈ ts1, i ∈ vs1 := by decide) (hv1 : ∀ i ∈ vs1, i ∈ vs := by decide) (hvo : ∀ v ∈ vs, v ∉ own := by decide) (hs : ∀ x, foldedSetIterable iter X.env x = pure x := by intro _; rfl) (hs1 : ∀ env x, foldedSetIterable iter1 env x = pure x := by intro _ _; rfl) :
    De X B own (.ListComp elt [⟨tg, iter, ifs, 0⟩, ⟨tg1, iter1, ifs1, 0⟩] scope pos) (mLc2 own it g t it1 g1 t1 m vs vs1) := by
  subst hv
  exact pe_imp (pe_lc2 hc nd hi ok hv1 (fun s H C cl fp => pg_ex (t := fun b : Bq own X.mg => tDG X.K b.1 own own ts g) fun b => hg s H C cl fp b.1 b.2.1 b.2.2) (fun s H C cl fp => pts_ex (t := fun b : Bq own X.mg => tDT X.K b.1 own t) fun b => ht s H C cl fp b.1 b.2.1 b.2.2)
    (fun s H C cl fp => pi_ex (t := fun b : Bq own X.mg => tDI X.K b.1 own it1) fun b => hi1 s H C cl fp b.1 b.2.1 b.2.2) (fun s H C cl fp => pg_ex (t := fun b : Bq own X.mg => tDG X.K b.1 own own ts1 g1) fun b => hg1 s H C cl fp b.1 b.2.1 b.2.2) (fun s H C cl fp => pts_ex (t := fun b : Bq own X.mg => tDT X.K b.1 own t1) fun b => ht1 s H C cl fp b.1 b.2.1 b.2.2)
    (fun s H C cl fp => pe_ex (t := fun b : Bq own X.mg => tD X.K b.1 own m) fun b => he s H C cl fp b.1 b.2.1 b.2.2) hs hs1) (tD_lc2 (fun _ _ _ h => h) hmg hts hts1 hv1 hvo)
/-- xs[::-1] -/
def fRevL : PyData → Option PyData
  | .list xs => some (.list xs.reverse)
  | _ => none
theorem Rps.rev {K : PySem.W.Frag} {F : Addr → Prop} {H : Hp} : ∀ {vs : List V} {ds : List PyData}, Rps K F H vs ds → Rps K F H vs.reverse ds.reverse
  | _, _, .nil => .nil
  | _, _, .cons r t => by
    rw [List.reverse_cons, List.reverse_cons]
    exact (Rps.rev t).append (.one r)
theorem de_revL {e : Expr} {m : EM} {k : Nat} {p1 p2 p3 pos : Pos} (he : De X B own e m) : De X B own (.Subscript e (.Slice none none (some (.UnaryOp .USub (.Constant (.int 1) k p1) p2)) p3) pos) (m1 fRevL m) :=
  pe_imp (pe_revL he) fun σ H Q ⟨ρ, F, re, w⟩ => ⟨ρ, F, re, thE w fun ρ1 d1 v1 H1 F1 re1 mo1 rp1 w1 => by
    obtain ⟨z, hz, w2⟩ := Wa.opt w1
    cases rp1 with
    | lst hl hs =>
      cases hz
      rename_i a vs ds
      refine ⟨a, vs, rfl, hl.sq, fun p np => ?_⟩
      have g : Grow F1 H1 (fun a => F1 a ∨ a = p) (upd H1 p (.lst vs.reverse)) := Grow.atp re1.dom np
      exact w2 _ _ _ (re1.grow g) g.mn (.lst (.inl ⟨.inr rfl, .inl upd_same⟩) (hs.rev.mono g.mono))
    | _ => cases hz⟩
end
end Kd

end T_KD9
section T_KD10
set_option maxRecDepth 100000
set_option maxHeartbeats 1000000
/-! KD10: exceptions: raised, caught and kept, asked for their class, their field. -/
namespace Kd
open PySem PySem.Spec PyProof.Rows L2

/-! ### a caught exception is kept -/
section
variable {X : Cx} {pins : List (Addr × Obj)} {σ : Sl} {H : Hp} {s : Shared}
/-- what stands outside the entry's heap may be tracked -/
theorem track {a C : Addr} {d : Option Addr} {oe : Obj} {vs : Array Value} (I : Inv X pins σ H s) (ha : s.heap.get? a = some oe) (hz : Zc (.ref C) d oe) (hd : oe.data = .fields vs) (na : H a = none) (nL : a ≠ X.env.locals)
    (n0 : X.s_0.heap.get? a = none) (np : ∀ p ∈ X.pn ++ pins, p.1 ≠ a) : Inv X pins σ (upd H a (exq a C d)) s := by
  have gone : ∀ {b o}, H b = some o → b ≠ a := fun {b o} e z => by rw [z, na] at e; cases e
  refine ⟨I.ok, I.os, I.bare, ⟨I.base.keep, I.base.slot, fun b o e n x => ?_, I.base.there, fun b xs e => ?_, fun b o u e => ?_, fun b ps e => ?_⟩, I.loc, I.cell, ?_, fun y c e => ?_, fun p hp => ?_, fun b u e => ?_, I.len⟩
  · have hb : b ≠ a := fun z => by rw [z, n0] at e; cases e
    rw [upd_ne hb]; exact I.base.free b o e n x
  · have q := I.base.tups b xs e
    rw [upd_ne (gone q)]; exact q
  · have q := I.base.frzs b o u e
    rw [upd_ne (gone q)]; exact q
  · obtain ⟨m, q⟩ := I.base.tbls b ps e
    exact ⟨m, by rw [upd_ne (gone q)]; exact q⟩
  · rw [upd_ne (Ne.symm nL)]; exact I.free
  · have hc : c ≠ a := fun z => by
      obtain ⟨v, w⟩ := I.cell y c e
      obtain ⟨o, q1, q2⟩ : ∃ o, s.heap.get? c = some o ∧ o.data = .cell v := by
        unfold Heap.IsCell at w
        first
          | exact ⟨_, w, rfl⟩
          | (obtain ⟨o, w1, w2⟩ := w; exact ⟨o, w1, w2⟩)
          | (obtain ⟨o, w1, w2, w3⟩ := w; exact ⟨o, w1, w2⟩)
          | (obtain ⟨o, w1, w2, w3⟩ := w; exact ⟨o, w1, w3⟩)
      rw [z, ha] at q1; cases q1
      rw [hd] at q2; cases q2
    rw [upd_ne hc]; exact I.freeC y c e
  · obtain ⟨q1, q2, q3⟩ := I.pin p hp
    exact ⟨q1, by rw [upd_ne (np p hp)]; exact q2, q3⟩
  · by_cases hb : b = a
    · subst hb
      rw [upd_same] at e
      cases e
      exact exq_ok ha hz hd
    · rw [upd_ne hb] at e
      refine (I.hok b u e).stay (fun _ _ _ q => q) (fun c q => ?_) fun c xs q => ?_
      · rw [upd_ne (gone q)]; exact q
      · rw [upd_ne (gone q)]; exact q
/-- what 'except x as n: y = n' wishes: slot i is n's, slot j is y's -/
def wKeep (K : PySem.W.Frag) (c : Value) (i j : Nat) (D : Ends) : WX := fun cls d σ H =>
  PySem.W.exmOne K cls c = some true ∧ ∃ C, cls = .ref C ∧ ∀ a, H a = none → D.nx (((σ.set i (some (.ref a))).set j (some (.ref a))).set i none) (upd H a (exq a C d))
section
variable {X : Cx} {x n y : Str} {c : Value} {i j : Nat} {body : List Stmt} {np pn py pa pos pos' : Pos} {tb : WX → TS}
theorem ps_keep (hex : X.ex = []) (hs : X.stack = X.env :: X.outer) (hf : X.env.frame = some X.env.locals) (hN : X.N.Nodup) (hi : X.N[i]? = some n) (hli : X.env.kindOf n = some .local) (hj : X.N[j]? = some y) (hlj : X.env.kindOf y = some .local) (hvn : Vis X.env.scope n)
    (hc : Names X x c) (hsw : swapsWith (.Name n pn) (some (.Name y py)) pa.line X.env = pure false) (hdn : (n == ("__debug__" : Str)) = false) (hcn : (n == ("__classdict__" : Str)) = false)
    (hb : ∀ (W : WX) (pn : List (Addr × Obj)) (xe : Value → Shared → Prop), Takes (X.tr pn xe) W → PassesOwn (model X.prog X.w) X.A X.env xe → PSs (X.tr pn xe) body (tb W)) :
    PS X (.Try body [.ExceptHandler (some (.Name x np)) (some n) [.Assign [.Name y py] (.Name n pn) pa] pos'] [] [] pos) (fun D σ H => tb (wKeep X.K c i j D) D σ H) := by
  refine ⟨fun pins s σ H D I h => wpAny_Try_except ?_⟩
  have ok := I.ok
  have hfr : X.A.frames = some (X.env :: X.outer) := ok.frames.trans (congrArg some hs)
  let hd : List ExceptHandler := [.ExceptHandler (some (.Name x np)) (some n) [.Assign [.Name y py] (.Name n pn) pa] pos']
  let xe2 : Value → Shared → Prop := fun e s₁ => wpAny (model X.prog X.w) X.A (noteFrame e X.env) (fun _ s₂ => wpAny (model X.prog X.w) X.A (setFlight e none)
    (fun _ s₃ => wpAny (model X.prog X.w) X.A (handleBy e X.env hd) (SP X pins D) X.xe s₃) X.xe s₂) X.xe s₁
  have hbody := hb (wKeep X.K c i j D) (X.pn ++ pins) xe2 ?tk PassesOwn.looking
  case tk =>
    rintro u s' ⟨a, B, sI, pins', σ', H', cls, d, rfl, J', nb, up, sky, na, os, ag, hb1, C, rfl, hyes⟩
    have J : Inv X pins σ' H' sI := J'.ofTry ok
    have skyX : Sky B (X.env :: X.outer) a (Zc (.ref C) d) X.env.locals s'.heap := hs ▸ sky
    have noB : B.get? a = none := by
      rcases skyX with z | z | z
      · exact z.2.1
      · exact z.2.1
      · exact z.2.1
    show wpAny (model X.prog X.w) X.A (noteFrame (.ref a) X.env) _ _ _
    refine Sky.land Zc.steady hfr hf skyX fun h3 fl3 up3 => ?_
    have J3 : Inv X pins σ' H' { s' with heap := h3 } := J.landed nb fl3.1 (up.trans up3) os ag
    obtain ⟨o3, v3, g3, z3, d3⟩ := fl3.there
    have nfr : a ∉ frs (X.env :: X.outer) := fun hm => by
      obtain ⟨_, o', e', hnf⟩ := fl3.2.2.1.mem hm
      rw [g3] at e'; cases e'
      exact hnf _ d3
    have nL : a ≠ X.env.locals := fun z => nfr (List.mem_filterMap.mpr ⟨X.env, List.mem_cons_self, z ▸ hf⟩)
    have nF : a ∉ X.fs := fun hm => by
      obtain ⟨e, he, q⟩ := List.mem_filterMap.mp hm
      exact nfr (List.mem_filterMap.mpr ⟨e, List.mem_cons_of_mem _ he, q⟩)
    have nI : sI.heap.get? a = none := by
      cases e : sI.heap.get? a with
      | none => rfl
      | some o => rw [nb a o e (hs ▸ nfr)] at noB; cases noB
    have n0 : X.s_0.heap.get? a = none := by
      cases e : X.s_0.heap.get? a with
      | none => rfl
      | some o =>
        obtain ⟨o', e'⟩ := J.base.there a o e (by rw [hex]; simp)
        rw [nI] at e'; cases e'
    have npin : ∀ p ∈ X.pn ++ pins, p.1 ≠ a := fun p hp z => by
      have q := (J.pin p hp).1
      rw [z, nI] at q; cases q
    have S3 := J3.suite g3 d3 na nL nF
    refine wpAny_handleBy_cons (codeAny_handlers_test ?_) (fun q => nomatch q)
    have LT : PySem.W.Looks (model X.prog X.w) h3 (typeOf (.ref a)) (.ref C) := fun _ _ _ _ k q => wpAny_typeOf_ref (k _ _ g3) (z3.1.symm ▸ q)
    have LM := PySem.W.exm_one (M := model X.prog X.w) J3.kIn LT hb1
    have look : ∀ {Q E : Value → Shared → Prop}, Q c { s' with heap := h3 } → wpAny (model X.prog X.w) (X.A.mark (some (.ref a))) (eval (.Name x np) X.env) Q E { s' with heap := h3 } := fun {Q E} q => by
      obtain ⟨hg, hdb, hm | ⟨hm, hv, hnn⟩⟩ := hc
      · exact ld_glob S3 hg hm q hdb
      · exact ld_blt S3 hg hm hv q hnn hdb
    refine look (LM.here (codeAny_handlers_suite_as (HandSPX.lands_againZ fl3 fun h4 fl4 up4 => ?_)))
    have J4 : Inv X pins σ' H' { s' with heap := h4 } := J.landed nb fl4.1 ((up.trans up3).trans up4) os ag
    obtain ⟨o4, v4, g4, z4, d4⟩ := fl4.there
    refine store_ok (X := X.suite a ((a, o4) :: (X.pn ++ pins))) (v := .ref a) (J4.suite g4 d4 na nL nF) hN hi (.inl hli) rfl (fun s5 S5 => ?_) (.inr hli)
    have sv : ((σ'.set i (some (V.ref a))))[i]? = some (some (V.ref a)) := List.getElem?_set_self (by rw [J.len]; exact (List.getElem?_eq_some_iff.mp hi).1)
    have asg : PSs (X.suite a ((a, o4) :: (X.pn ++ pins))) [.Assign [.Name y py] (.Name n pn) pa] (fun D σ H => ∃ v, σ[i]? = some (some v) ∧ D.nx (σ.set j (some v)) H) :=
      pss_imp (pss_one (L2.ps_set (i := j) hN hj (.inl hlj) (pv i hi hvn hdn hcn) hsw (.inr hlj))) fun D σ H ⟨v, e, q⟩ => ⟨v, e, q⟩
    refine wpAny_mono (asg.run [] s5 _ H' { nx := fun σ6 H6 => σ6 = (σ'.set i (some (V.ref a))).set j (some (V.ref a)) ∧ H6 = H', rt := fun _ _ => False, bk := fun _ _ => False, ct := fun _ _ => False } S5 ⟨_, sv, rfl, rfl⟩) (fun f s6 hsp => ?_) (fun _ _ z => z.elim)
    cases f with
    | next =>
      obtain ⟨σ6, H6, S6, rfl, rfl⟩ := hsp
      have g6 : s6.heap.get? a = some o4 := (S6.pin (a, o4) (by simp)).1
      have J6 := track (S6.unsuite ok) g6 z4 d4 na nL n0 npin
      exact gone_ok J6 hN hi hli fun s7 J7 => ⟨_, _, J7, hyes a na⟩
    | brk => obtain ⟨_, _, _, z⟩ := hsp; exact z.elim
    | cont => obtain ⟨_, _, _, z⟩ := hsp; exact z.elim
    | ret u => obtain ⟨_, _, _, _, _, z⟩ := hsp; exact z.elim
  refine wpAny_mono (hbody.run [] s σ H D (I.toTry _) h) (fun f s1 hsp => ?_) fun _ _ he => he
  cases f with
  | next => obtain ⟨σ1, H1, J1, q⟩ := hsp; exact wpAny_execs_nil ⟨σ1, H1, J1.ofTry ok, q⟩
  | brk => obtain ⟨σ1, H1, J1, q⟩ := hsp; exact ⟨σ1, H1, J1.ofTry ok, q⟩
  | cont => obtain ⟨σ1, H1, J1, q⟩ := hsp; exact ⟨σ1, H1, J1.ofTry ok, q⟩
  | ret u => obtain ⟨v, σ1, H1, J1, r, q⟩ := hsp; exact ⟨v, σ1, H1, J1.ofTry ok, r, q⟩
end
end
/-! ### a try's body: calls, each with the slots as they stand where it raises -/
/-- a call, with whatever is wished behind it -/
theorem call_gen {X : Cx} {io : List Nat} {B : Bs io} {own : List Nat} {f : FM} {as : List Ar} {dfl : List PyData} {dvs : List V} {iol : List Nat} {n : Nat} {fr : Bool} (hio : ioOf as 0 = iol) (hj : ∀ j ∈ jsOf as, j ∈ own) (nd : (jsOf as).Nodup) (hn : as.length + dfl.length = n) (hdf : ∀ F H, Rps X.K F H dvs dfl)
    {σ : Sl} {H : Hp} {Q : VK} {E : XK} {ρ : Ev} {F : Addr → Prop} (re : RE X.K B own F ρ σ H) {y : Ev × List (PyData ⊕ Nat)} {ds : List PyData} (ey : evA as ρ = .ok y) (hr : resolve y.1 y.2 = some ds)
    (h : ∀ F1 H1, Mn X.K F H F1 H1 → RE X.K B own F1 y.1 σ H1 → match f (ds ++ dfl) with
      | .ok z => ∀ v F' H', RE X.K B own F' (setL y.1 (jsOf as) z.1) σ H' → Mn X.K F1 H1 F' H' → RetC X.K fr H1 F' H' v z.2 → Q v H'
      | .exc c x => jsOf as = [] ∧ ∀ cls dx F' H', RE X.K B own F' y.1 σ H' → Mn X.K F1 H1 F' H' → XD X.K X.mg F' H' c x cls dx → E cls dx H'
      | .bad => False) : tDR X.K B own as σ H fun vs H1 => spD X.K X.mg iol n fr f (vs ++ dvs) H1 Q E := by
  refine ⟨ρ, F, re, ?_⟩
  rw [ey]
  intro vs H1 F1 re1 mo1 rpa
  have h := h F1 H1 mo1 re1
  obtain ⟨sl, sh⟩ := ev_shape ey
  have memJ : ∀ {i j : Nat}, y.2[i]? = some (.inr j) → j ∈ jsOf as := fun {i j} e => by
    obtain ⟨k, _, h2⟩ := io_mem (n := 0) ((sh i j).mp e)
    exact List.mem_of_getElem? h2
  obtain ⟨lv, la, at'⟩ := argR re1 rpa hr fun j hjm => by
    obtain ⟨i, e⟩ := List.mem_iff_getElem?.mp hjm
    exact hj j (memJ e)
  have ld : dvs.length = dfl.length := (hdf F1 H1).length
  have ioAt : ∀ {i : Nat}, i ∈ iol → ∃ j, y.2[i]? = some (.inr j) := fun {i} hi => by
    rw [← hio] at hi
    obtain ⟨k, hk⟩ := List.mem_iff_getElem?.mp hi
    obtain ⟨_, j, _, h3⟩ := io_at hk
    exact ⟨j, (sh i j).mpr (by simpa using h3)⟩
  have small : ∀ {i j : Nat}, y.2[i]? = some (.inr j) → i < vs.length := fun {i j} e => by
    have := (List.getElem?_eq_some_iff.mp e).1
    omega
  have vL : ∀ {i : Nat}, i < vs.length → (vs ++ dvs)[i]? = vs[i]? := fun {i} h => List.getElem?_append_left h
  have dL : ∀ {i : Nat}, i < vs.length → (ds ++ dfl)[i]? = ds[i]? := fun {i} h => List.getElem?_append_left (by omega)
  have ow : ∀ {i j : Nat}, y.2[i]? = some (.inr j) → ∃ a d, vs[i]? = some (V.ref a) ∧ ds[i]? = some d ∧ σ[j]? = some (some (V.ref a)) ∧ y.1[j]? = some (some d) ∧ ¬ F1 a ∧ OwnV X.K F1 H1 a d := fun {i j} e => by
    have hi := small e
    have e1 : vs[i]? = some vs[i] := List.getElem?_eq_getElem hi
    have e2 : ds[i]? = some (ds[i]'(by omega)) := List.getElem?_eq_getElem _
    rcases at' i _ _ e1 e2 with ⟨d', q, _⟩ | ⟨j', a, q1, q2, q3, q4, q5, q6⟩
    · rw [e] at q; cases q
    · rw [e] at q1; cases q1
      exact ⟨a, _, by rw [e1, q2], e2, by rw [q3, q2], q4, q5, q6⟩
  refine ⟨ds ++ dfl, F1, by simp only [List.length_append]; omega, ⟨by simp only [List.length_append]; omega, fun i v d hi e1 e2 => ?_, fun i v d hi e1 e2 => ?_, fun i j hi hj' hne hl => ?_, fun i hi => ?_⟩, re1.dom, ?_⟩
  · by_cases hl : i < vs.length
    · rw [vL hl] at e1
      rw [dL hl] at e2
      rcases at' i v d e1 e2 with ⟨d', _, q⟩ | ⟨j', a, q1, _⟩
      · exact q
      · obtain ⟨k, h1, _⟩ := io_mem (n := 0) ((sh i j').mp q1)
        rw [hio] at h1
        exact absurd (by simpa using List.mem_of_getElem? h1) hi
    · rw [List.getElem?_append_right (by omega)] at e1
      rw [List.getElem?_append_right (by omega), ← lv] at e2
      obtain ⟨v', q1, q2⟩ := (hdf F1 H1).get e2
      rw [e1] at q1; cases q1; exact q2
  · obtain ⟨j, hj1⟩ := ioAt hi
    have hl := small hj1
    rw [vL hl] at e1
    rw [dL hl] at e2
    obtain ⟨a, d', q1, q2, q3, q4, q5, q6⟩ := ow hj1
    rw [e1] at q1; cases q1
    rw [e2] at q2; cases q2
    exact ⟨a, rfl, q5, q6⟩
  · obtain ⟨j1, hj1⟩ := ioAt hi
    obtain ⟨j2, hj2⟩ := ioAt hj'
    rw [vL (small hj1), vL (small hj2)]
    obtain ⟨a1, d1, q1, _, s1, p1, _⟩ := ow hj1
    obtain ⟨a2, d2, q2, _, s2, p2, _⟩ := ow hj2
    have jne : j1 ≠ j2 := fun z => by
      subst z
      obtain ⟨k1, u1, u2⟩ := io_mem (n := 0) ((sh i j1).mp hj1)
      obtain ⟨k2, u3, u4⟩ := io_mem (n := 0) ((sh j j1).mp hj2)
      have hk : k1 = k2 := (List.getElem?_inj (List.getElem?_eq_some_iff.mp u2).1 nd).mp (u2.trans u4.symm)
      subst hk
      rw [u1] at u3
      simp only [Option.some.injEq, Nat.zero_add] at u3
      exact hne u3
    intro z
    exact re1.ne j1 j2 d1 d2 (hj _ (memJ hj1)) (hj _ (memJ hj2)) jne p1 p2 (by rw [s1, s2, ← q1, ← q2, z])
  · obtain ⟨j, hj1⟩ := ioAt hi
    have := small hj1
    simp only [List.length_append]
    omega
  · have setd : ∀ j ∈ jsOf as, ∃ d, y.1[j]? = some (some d) := fun j h => by
      obtain ⟨k, hk⟩ := List.mem_iff_getElem?.mp h
      have : ∃ i : Nat, y.2[i]? = some (.inr j) := by
        have hl : k < (ioOf as 0).length := by
          have len : ∀ (as : List Ar) (n : Nat), (ioOf as n).length = (jsOf as).length := by
            intro as
            induction as with
            | nil => intro n; rfl
            | cons a r ih => intro n; cases a <;> simp [ioOf, jsOf, ih]
          rw [len]; exact (List.getElem?_eq_some_iff.mp hk).1
        obtain ⟨_, j', h2, h3⟩ := io_at (List.getElem?_eq_getElem hl)
        rw [hk] at h2; cases h2
        exact ⟨_, (sh _ j).mpr (by simpa using h3)⟩
      obtain ⟨i, hi⟩ := this
      obtain ⟨a, d, _, _, _, q, _⟩ := ow hi
      exact ⟨d, q⟩
    have behind : ∀ {F' H'}, Aft X.K iol (vs ++ dvs) F1 H1 F' H' → ∀ {os : List PyData}, (∀ (k i : Nat), iol[k]? = some i → ∃ a d', (vs ++ dvs)[i]? = some (V.ref a) ∧ os[k]? = some d' ∧ ¬ F' a ∧ OwnV X.K F' H' a d') →
        RE X.K B own F' (setL y.1 (jsOf as) os) σ H' ∧ Mn X.K F1 H1 F' H' := fun {F' H'} A {os} ho => by
      refine re1.call hj nd setd A.sub A.new A.dom A.keep (fun b o hb hf => A.frame b o hb fun i hi z => ?_) fun k j hk => ?_
      · obtain ⟨j, hj1⟩ := ioAt hi
        rw [vL (small hj1)] at z
        obtain ⟨a, d, q1, _, q3, _⟩ := ow hj1
        rw [z] at q1; cases q1
        exact hf j (memJ hj1) q3
      · have len : ∀ (as : List Ar) (n : Nat), (ioOf as n).length = (jsOf as).length := by
          intro as
          induction as with
          | nil => intro n; rfl
          | cons a r ih => intro n; cases a <;> simp [ioOf, jsOf, ih]
        have hl : k < (ioOf as 0).length := by rw [len]; exact (List.getElem?_eq_some_iff.mp hk).1
        obtain ⟨i, e1⟩ : ∃ i, (ioOf as 0)[k]? = some i := ⟨_, List.getElem?_eq_getElem hl⟩
        obtain ⟨_, j', h2, h3⟩ := io_at e1
        rw [hk] at h2; cases h2
        have hj1 := (sh i j).mpr (by simpa using h3)
        rw [hio] at e1
        obtain ⟨a, d', q1, q2, q3, q4⟩ := ho k i e1
        rw [vL (small hj1)] at q1
        obtain ⟨a', d, w1, _, w3, _⟩ := ow hj1
        rw [q1] at w1; cases w1
        exact ⟨a, d', w3, q2, q3, q4⟩
    cases q : f (ds ++ dfl) with
    | bad => rw [q] at h; exact h.elim
    | ok z =>
      rw [q] at h
      exact fun v H' F' A ho rp => let ⟨re2, mo2⟩ := behind A ho; h v F' H' re2 mo2 rp
    | exc c x =>
      rw [q] at h
      obtain ⟨hj0, h⟩ := h
      have hi0 : iol = [] := by
        rw [← hio]
        cases hx : ioOf as 0 with
        | nil => rfl
        | cons i r =>
          obtain ⟨_, j, h2, _⟩ := io_at (as := as) (n := 0) (k := 0) (i := i) (by rw [hx]; rfl)
          rw [hj0] at h2; simp at h2
      subst hi0
      intro cls dx H' F' A xd
      have q1 := behind A (os := []) (fun k i hk => by simp at hk)
      rw [hj0] at q1
      exact h cls dx F' H' q1.1 q1.2 xd

/-- what a try's body comes to -/
inductive Xr where
  | ok (f : Fl)
  | exc (ρ : Ev) (c : Str) (x : Option PyData)
  | bad
abbrev XM := Ev → Xr
/-- a call's arguments and its outcome -/
def xCall (f : FM) (as : List Ar) (dfl : List PyData) (k : Ev → PyData → Fl) : XM := fun ρ => match evA as ρ with
  | .ok y => (match resolve y.1 y.2 with
    | some ds => (match f (ds ++ dfl) with
      | .ok z => .ok (k (setL y.1 (jsOf as) z.1) z.2)
      | .exc c x => if (jsOf as).isEmpty then .exc y.1 c x else .bad
      | .bad => .bad)
    | none => .bad)
  | _ => .bad
def xE (f : FM) (as : List Ar) (dfl : List PyData) : XM := xCall f as dfl fun ρ _ => .nx ρ
def xSet (i : Nat) (f : FM) (as : List Ar) (dfl : List PyData) : XM := xCall f as dfl fun ρ d => .nx (ρ.set i (some d))
def xIf (t : TM) (a b : XM) : XM := fun ρ => match t ρ with
  | .ok x => if x.2 then a x.1 else b x.1
  | _ => .bad
def WantX (K : PySem.W.Frag) {io : List Nat} (B : Bs io) (own : List Nat) (ow : Ow) (D : Ends) (W : WX) (σ : Sl) (F : Addr → Prop) (H : Hp) : Xr → Prop
  | .ok f => WantS K B ow D F H (.ok f)
  | .exc ρ c x => ∀ cls dx F' H', RE K B own F' ρ σ H' → Mono K F H F' H' → XD K B.mg F' H' c x cls dx → W cls dx σ H'
  | .bad => False
theorem WantX.mono {K : PySem.W.Frag} {io : List Nat} {B : Bs io} {own : List Nat} {ow : Ow} {D : Ends} {W : WX} {σ : Sl} {F F' : Addr → Prop} {H H' : Hp} {r : Xr} (w : WantX K B own ow D W σ F H r) (m : Mono K F H F' H') : WantX K B own ow D W σ F' H' r := by
  cases r with
  | ok f => exact WantS.mono (show WantS K B ow D F H (.ok f) from w) m
  | exc ρ c x => exact fun cls dx F2 H2 re mo xd => w cls dx F2 H2 re (m.trans mo) xd
  | bad => exact w
def tX (K : PySem.W.Frag) {io : List Nat} (B : Bs io) (own : List Nat) (ow : Ow) (W : WX) (m : XM) : TS := fun D σ H => ∃ ρ F, RE K B own F ρ σ H ∧ WantX K B own ow D W σ F H (m ρ)
section
variable {X : Cx} {io : List Nat} {B : Bs io} {own nx bk ct : List Nat} {e c : Expr} {es : List Expr} {pos : Pos} {W : WX}
theorem dx_e {k j : Nat} {x : Str} {p spos : Pos} {f : FM} {as : List Ar} {iol : List Nat} {n : Nat} {dfl : List PyData} {fr : Bool} (C : Cal X.prog X.w X.K X.mg X.base j x dfl iol n f fr) (hr : Room k X.A) (gd : X.A.guards = some []) (tk : Takes X W) (hB : B.mg = X.mg) (ha : Dr X B own (e :: es) as) (hjk : j ≤ k := by decide)
    (hg : Gl X x := by rfl) (hio : ioOf as 0 = iol := by rfl) (hj : ∀ j ∈ jsOf as, j ∈ own := by decide) (nd : (jsOf as).Nodup := by decide) (hn : as.length + dfl.length = n := by rfl) (hdb : (x == ("__debug__" : Str)) = false := by decide)
    (hs : starEach (e :: es) X.env = (false, eval e X.env) :: starEach es X.env := by rfl) (hpl : (backTo pos (starEach es X.env)).any (·.1) = false := by rfl) (hsw : swapsWith (.Call (.Name x p) (e :: es) [] pos) none spos.line X.env = pure false := by rfl) :
    PS X (.Expr (.Call (.Name x p) (e :: es) [] pos) spos) (tX X.K B own ⟨own, bk, ct⟩ W (xE f as dfl)) := by
  obtain ⟨fa, fd, ps, dvs, ds, h1, h2, h3, h4, h5, h6⟩ := C.ex
  refine ps_imp (ps_expr (pe_callG h3 (hr.mono hjk) gd hg h1 h2 h4 h5 tk ha hdb hs hpl) hsw) fun D σ H ⟨ρ, F, re, w⟩ => ?_
  unfold xE xCall at w
  cases ey : evA as ρ with
  | bad => rw [ey] at w; exact w.elim
  | exc c x => rw [ey] at w; exact w.elim
  | ok y =>
    rw [ey] at w
    dsimp only at w
    cases hr : resolve y.1 y.2 with
    | none => rw [hr] at w; exact w.elim
    | some ds =>
      rw [hr] at w
      dsimp only at w
      refine call_gen (fr := fr) hio hj nd hn h6 re ey hr fun F1 H1 mo1 re1 => ?_
      have w1 := WantX.mono w mo1.toMono
      cases hf : f (ds ++ dfl) with
      | bad => rw [hf] at w1; exact w1.elim
      | ok z =>
        rw [hf] at w1
        intro v F' H' re2 mo2 rc
        by_cases hfr : fr = true
        · exact w1 σ H' F' re2 mo2.toMono
        · exact w1 σ H' F' re2 mo2.toMono
      | exc c x =>
        rw [hf] at w1
        dsimp only at w1
        by_cases he : (jsOf as).isEmpty = true
        · rw [if_pos he] at w1
          exact ⟨List.isEmpty_iff.mp he, fun cls dx F' H' re2 mo2 xd => w1 cls dx F' H' re2 mo2.toMono (hB ▸ xd)⟩
        · rw [if_neg he] at w1; exact w1.elim
theorem dx_if {sa sb : List Stmt} {mt : TM} {xa xb : XM} {ow : Ow} (hc : Dt X B own c mt) (ha : PSs X sa (tX X.K B own ow W xa)) (hb : PSs X sb (tX X.K B own ow W xb)) : PS X (.If c sa sb pos) (tX X.K B own ow W (xIf mt xa xb)) :=
  ps_imp (ps_if hc ha hb) fun D σ H ⟨ρ, F, re, w⟩ => ⟨ρ, F, re, by
    unfold xIf at w
    cases hm : mt ρ with
    | bad => rw [hm] at w; exact w.elim
    | exc c x => rw [hm] at w; exact w.elim
    | ok x =>
      rw [hm] at w
      intro H1 F1 re1 mo1
      have w1 := WantX.mono w mo1.toMono
      obtain ⟨x1, b⟩ := x
      cases b with
      | true => exact ⟨x1, F1, re1, w1⟩
      | false => exact ⟨x1, F1, re1, w1⟩⟩
end
/-! ### try: .. except x as n: y = n -/
def sTry (L : List Str) (i j : Nat) (m : XM) : SM := fun ρ => match m ρ with
  | .ok f => .ok f
  | .exc ρ' c x => if L.contains c then .ok (.nx (((ρ'.set i (some (excD c x))).set j (some (excD c x))).set i none)) else .bad
  | .bad => .bad
section
variable {X : Cx} {io : List Nat} {B : Bs io} {own bk ct : List Nat}
theorem rp_exc {K : PySem.W.Frag} {mg : Str → Option Value} {F : Addr → Prop} {H : Hp} {c : Str} {x : Option PyData} {cls : Value} {dx : Option Addr} (dom : ∀ p, F p → H p ≠ none) (h : XD K mg F H c x cls dx) {a : Addr} (na : H a = none) :
    Grow F H (fun b => F b ∨ b = a) (upd H a (exq a (He.ga K c) dx)) ∧ Rp K (fun b => F b ∨ b = a) (upd H a (exq a (He.ga K c) dx)) (.ref a) (excD c x) := by
  have g : Grow F H (fun b => F b ∨ b = a) (upd H a (exq a (He.ga K c) dx)) := Grow.atp dom na
  refine ⟨g, ?_⟩
  obtain ⟨_, h⟩ := h
  cases x with
  | none =>
    have h : dx = none := h
    subst h
    exact .exN (.inr rfl) (.inl upd_same)
  | some d =>
    obtain ⟨dd, v, rfl, h1, h2, h3⟩ := h
    exact .exS (.inr rfl) (.inl h1) (.inl upd_same) (.inl (g.same _ _ h2)) (h3.mono g.mono)
theorem ds_try {x n y : Str} {C : Value} {body : List Stmt} {np pn py pa pos pos' : Pos} {m : XM} (L : List Str) (i j : Nat) (nd : X.N.Nodup)
    (hL : ∀ c ∈ L, PySem.W.exmOne X.K (.ref (He.ga X.K c)) C = some true) (hc : Names X x C)
    (hb : ∀ (W : WX) (pn : List (Addr × Obj)) (xe : Value → Shared → Prop), Takes (X.tr pn xe) W → PassesOwn (model X.prog X.w) X.A X.env xe → PSs (X.tr pn xe) body (tX X.K B own ⟨own, bk, ct⟩ W m))
    (hio : i ∉ io := by decide) (hjo : j ∉ io := by decide) (ho : (own.filter (· ≠ i)).filter (· ≠ j) = own := by rfl)
    (hex : X.ex = [] := by rfl) (hs : X.stack = X.env :: X.outer := by rfl) (hf : X.env.frame = some X.env.locals := by rfl) (hi : X.N[i]? = some n := by rfl) (hli : X.env.kindOf n = some .local := by rfl) (hj : X.N[j]? = some y := by rfl) (hlj : X.env.kindOf y = some .local := by rfl)
    (hvn : Vis X.env.scope n := by exact Or.inl rfl) (hsw : swapsWith (.Name n pn) (some (.Name y py)) pa.line X.env = pure false := by rfl) (hdn : (n == ("__debug__" : Str)) = false := by decide) (hcn : (n == ("__classdict__" : Str)) = false := by decide) :
    Ds X B own ⟨own, bk, ct⟩ (.Try body [.ExceptHandler (some (.Name x np)) (some n) [.Assign [.Name y py] (.Name n pn) pa] pos'] [] [] pos) (sTry L i j m) := by
  refine ps_imp (ps_keep (tb := fun W => tX X.K B own ⟨own, bk, ct⟩ W m) hex hs hf nd hi hli hj hlj hvn hc hsw hdn hcn hb) fun D σ H ⟨ρ, F, re, w⟩ => ⟨ρ, F, re, ?_⟩
  unfold sTry at w
  cases hm : m ρ with
  | bad => rw [hm] at w; exact w.elim
  | ok f => rw [hm] at w; exact w
  | exc ρ' c x =>
    rw [hm] at w
    dsimp only at w
    by_cases hcl : L.contains c = true
    · rw [if_pos hcl] at w
      intro cls dx F' H' re' mo xd
      have hmem : c ∈ L := by simpa using hcl
      refine ⟨by rw [xd.1]; exact hL c hmem, _, xd.1, fun a na => ?_⟩
      obtain ⟨g, rp⟩ := rp_exc re'.dom xd na
      have r1 := (re'.grow g).set rp hio
      have r2 := r1.set rp hjo
      have r3 := r2.forget hio
      rw [ho] at r3
      exact w _ _ _ r3 (mo.trans g.mono)
    · rw [if_neg hcl] at w; exact w.elim
end
end Kd

end T_KD10
section T_KD11
set_option maxRecDepth 100000
set_option maxHeartbeats 1000000
/-! KD11: exception classes: what the text's top says of them; raise, isinstance, a field. -/
namespace Kd
open PySem PySem.Spec PyProof.Rows L2

/-! ### the classes -/
abbrev teN : Str := "TrailsError"
def isxB (c x : Str) : Bool := c == x || x == teN
def exC1 (K : PySem.W.Frag) (C : Addr) : Bool := (PySem.W.clsIn K C).isSome && (decide (PySem.W.findIn K (.ref C) "__getattribute__" = some (some (.builtin "BaseException.__getattribute__"))) && (decide (PySem.W.findIn K (.ref C) "__getattr__" = some none) &&
  (decide (PySem.W.subIn K (.ref C) (.type "BaseException") = some true) && (decide (PySem.W.findIn K (.ref C) "__class__" = some (some (.builtin "object.__class__"))) && (decide (PySem.W.mroIn K C (.type "object") = some true) && PySem.W.hasDictIn K C)))))
def exC2 (K : PySem.W.Frag) (L : List Str) (c : Str) : Bool := decide (PySem.W.exmOne K (.ref (He.ga K c)) (.ref (He.ga K teN)) = some true) && (decide (PySem.W.kitOne K (.ref (He.ga K c)) (.type "ValueError") = some true) &&
  ((teN :: L).all fun x => decide (PySem.W.kitOne K (.ref (He.ga K c)) (.ref (He.ga K x)) = some (isxB c x))))
def exC3 (K : PySem.W.Frag) (x : Str) : Bool := decide (PySem.W.kitOne K (.type "NoneType") (.ref (He.ga K x)) = some false)
def excsB (L : List Str) (K : PySem.W.Frag) : Bool := (L.all fun c => exC1 K (He.ga K c) && exC2 K L c) && (((teN :: L).all (exC3 K)) && (decide (PySem.W.specialIn K (.builtin "object.__class__") "__get__" = some (some (.builtin "getset_descriptor.__get__"))) &&
  (decide (PySem.W.takesIn K (.builtin "object.__class__") = some true) && decide (PySem.W.kitOne K (.type "NoneType") (.type "ValueError") = some false))))
/-- what is known of an exception class -/
structure ExK (K : PySem.W.Frag) (C : Addr) : Prop where
  cl : (PySem.W.clsIn K C).isSome = true
  ga : PySem.W.findIn K (.ref C) "__getattribute__" = some (some (.builtin "BaseException.__getattribute__"))
  gg : PySem.W.findIn K (.ref C) "__getattr__" = some none
  sb : PySem.W.subIn K (.ref C) (.type "BaseException") = some true
  cc : PySem.W.findIn K (.ref C) "__class__" = some (some (.builtin "object.__class__"))
  mr : PySem.W.mroIn K C (.type "object") = some true
  hd : PySem.W.hasDictIn K C = true
  sp : PySem.W.specialIn K (.builtin "object.__class__") "__get__" = some (some (.builtin "getset_descriptor.__get__"))
  tk : PySem.W.takesIn K (.builtin "object.__class__") = some true
theorem dcd {p : Prop} [Decidable p] (h : decide p = true) : p := of_decide_eq_true h
section
variable {L : List Str} {K : PySem.W.Frag}
theorem excs_k (h : excsB L K = true) {c : Str} (hc : c ∈ L) : ExK K (He.ga K c) := by
  simp only [excsB, exC1, Bool.and_eq_true, List.all_eq_true] at h
  obtain ⟨h1, _, h3, h4, _⟩ := h
  obtain ⟨⟨a1, a2, a3, a4, a5, a6, a7⟩, _⟩ := h1 c hc
  exact ⟨a1, dcd a2, dcd a3, dcd a4, dcd a5, dcd a6, a7, dcd h3, dcd h4⟩
theorem excs_m (h : excsB L K = true) {c : Str} (hc : c ∈ L) : PySem.W.exmOne K (.ref (He.ga K c)) (.ref (He.ga K teN)) = some true := by
  simp only [excsB, exC2, Bool.and_eq_true, List.all_eq_true] at h
  exact dcd (h.1 c hc).2.1
theorem excs_v (h : excsB L K = true) {c : Str} (hc : c ∈ L) : PySem.W.kitOne K (.ref (He.ga K c)) (.type "ValueError") = some true := by
  simp only [excsB, exC2, Bool.and_eq_true, List.all_eq_true] at h
  exact dcd (h.1 c hc).2.2.1
theorem excs_i (h : excsB L K = true) {c x : Str} (hc : c ∈ L) (hx : x ∈ teN :: L) : PySem.W.kitOne K (.ref (He.ga K c)) (.ref (He.ga K x)) = some (isxB c x) := by
  simp only [excsB, exC2, Bool.and_eq_true, List.all_eq_true] at h
  exact dcd ((h.1 c hc).2.2.2 x hx)
theorem excs_n (h : excsB L K = true) {x : Str} (hx : x ∈ teN :: L) : PySem.W.kitOne K (.type "NoneType") (.ref (He.ga K x)) = some false := by
  simp only [excsB, exC3, Bool.and_eq_true, List.all_eq_true] at h
  exact dcd (h.2.1 x hx)
theorem excs_w (h : excsB L K = true) : PySem.W.kitOne K (.type "NoneType") (.type "ValueError") = some false := by
  simp only [excsB, Bool.and_eq_true] at h
  exact dcd h.2.2.2.2
end

/-! ### isinstance -/
/-- an exception that is tracked -/
def ExT (H : Hp) (a C : Addr) : Prop := ∃ dx, Rd H a (exq a C dx) ∧ ∀ dd, dx = some dd → ∃ o, H dd = some o
def rIsX (K : PySem.W.Frag) : List V → Hp → VK → Prop := fun xs H Q => ∃ (a C : Addr) (c : V) (u : Value) (b : Bool), xs = [.ref a, c] ∧ ClsV c u ∧ ExK K C ∧ ExT H a C ∧ PySem.W.kitOne K (.ref C) u = some b ∧ Q (.bl b) H
theorem exq_get {P : Program} {w : World} {H : Hp} {h : Heap} {a C : Addr} {d : Option Addr} (hok : HOk P w H h) (e : Rd H a (exq a C d)) : ∃ oe vs, h.get? a = some oe ∧ Zc (.ref C) d oe ∧ oe.data = .fields vs := by
  rcases e with e | ⟨o, e⟩
  · exact (hok _ _ e).1
  · have z : ObjOk P w H h a (.frz o (exq a C d)) := hok _ _ e
    exact z.2.1
theorem call_isX {X : Cx} : CallR X (.builtin "isinstance") (rIsX X.K) := by
  intro pins s σ H xs us Q I r h
  obtain ⟨a, C, c, u, b, rfl, k, E, ⟨dx, ha, hdx⟩, e, q⟩ := h
  obtain ⟨u1, u2, rfl, r1, r2⟩ := vals2 r
  have e2 := k.eq r2
  subst e2
  cases (show u1 = Value.ref a from r1)
  obtain ⟨oe, vs, h1, h2, h3⟩ := exq_get I.hok ha
  have J : ∃ od, PySem.W.InstAt s.heap a oe C od := by
    obtain ⟨z1, z2⟩ := h2
    cases dx with
    | none => exact ⟨none, h1, z1, by unfold PySem.W.notCls; rw [h3] <;> rfl, by rw [z2]; exact trivial⟩
    | some dd =>
      obtain ⟨o, ho⟩ := hdx dd rfl
      obtain ⟨od, hod⟩ := objOk_get (I.hok dd o ho)
      exact ⟨some od, h1, z1, by unfold PySem.W.notCls; rw [h3] <;> rfl, by rw [z2]; exact hod⟩
  obtain ⟨od, J⟩ := J
  exact PySem.W.kia_one (PySem.W.kitx_exc (x := a) (ox := oe) (od := od) E.cl E.ga E.gg E.sb E.cc E.sp E.tk E.mr) I.kIn J e (fun z => nomatch z) fun tk => ⟨.bl b, H, I.tok tk, rfl, q⟩
/-- isinstance(e, x), e an exception or None -/
def fIsX (L : List Str) (x : Str) : PyData → Option PyData
  | .none => some (.bool false)
  | .dict ((.none, .str c) :: _) => iff' (L.contains c) (.bool (isxB c x))
  | _ => none
def fIsV (L : List Str) : PyData → Option PyData
  | .none => some (.bool false)
  | .dict ((.none, .str c) :: _) => iff' (L.contains c) (.bool true)
  | _ => none
theorem noK {K : PySem.W.Frag} {F : Addr → Prop} {H : Hp} {ws : List (Key × V)} {d : PyData} {r : List (PyData × PyData)} (h : RpK K F H ws ((.none, d) :: r)) : False := by
  generalize e : ((PyData.none, d) :: r) = kvs at h
  cases h with
  | nil => cases e
  | cons _ _ =>
    rename_i k _ _ _ _ _ _
    have e1 := congrArg (fun l => l.head?.map Prod.fst) e
    simp only [List.head?_cons, Option.map_some, Option.some.injEq] at e1
    cases k <;> cases e1
theorem noT {K : PySem.W.Frag} {F : Addr → Prop} {H : Hp} {ws : List (List Key × V)} {d : PyData} {r : List (PyData × PyData)} (h : RpT K F H ws ((.none, d) :: r)) : False := by
  generalize e : ((PyData.none, d) :: r) = kvs at h
  cases h with
  | nil => cases e
  | cons _ _ =>
    have e1 := congrArg (fun l => l.head?.map Prod.fst) e
    simp only [List.head?_cons, Option.map_some, Option.some.injEq] at e1
    cases e1
theorem exT_of {K : PySem.W.Frag} {F : Addr → Prop} {H : Hp} (dom : ∀ p, F p → H p ≠ none) {v : V} {c : Str} {r : List (PyData × PyData)} (h : Rp K F H v (.dict ((.none, .str c) :: r))) : ∃ a, v = .ref a ∧ ExT H a (He.ga K c) := by
  cases h with
  | exN _ h => exact ⟨_, rfl, none, h, fun _ z => nomatch z⟩
  | exS _ h2 h _ _ =>
    refine ⟨_, rfl, _, h, fun dd z => ?_⟩
    cases z
    cases e : H _ with
    | none => exact absurd e (dom _ h2)
    | some o => exact ⟨o, rfl⟩
theorem isX_inv {L : List Str} {x : Str} {d z : PyData} (h : fIsX L x d = some z) : (d = .none ∧ z = .bool false) ∨ ∃ c r, d = .dict ((.none, .str c) :: r) ∧ c ∈ L ∧ z = .bool (isxB c x) := by
  unfold fIsX at h
  split at h
  · cases h; exact .inl ⟨rfl, rfl⟩
  · obtain ⟨hc, rfl⟩ := iff_some h
    exact .inr ⟨_, _, rfl, by simpa using hc, rfl⟩
  · cases h
theorem isV_inv {L : List Str} {d z : PyData} (h : fIsV L d = some z) : (d = .none ∧ z = .bool false) ∨ ∃ c r, d = .dict ((.none, .str c) :: r) ∧ c ∈ L ∧ z = .bool true := by
  unfold fIsV at h
  split at h
  · cases h; exact .inl ⟨rfl, rfl⟩
  · obtain ⟨hc, rfl⟩ := iff_some h
    exact .inr ⟨_, _, rfl, by simpa using hc, rfl⟩
  · cases h
section
variable {X : Cx} {io : List Nat} {B : Bs io} {own : List Nat} {a : Expr} {pos p p2 : Pos} {ma : EM}
theorem de_isX (L : List Str) {x : Str} (hL : excsB L X.K = true) (hmx : X.mg x = some (.ref (He.ga X.K x))) (ha : De X B own a ma) (hm : X.mg "isinstance" = none) (hx : x ∈ teN :: L := by decide) (hg : Gl X "isinstance" := by rfl) (hgx : Gl X x := by rfl)
    (hvi : bootBuiltins "isinstance" = some (.builtin "isinstance") := by decide +kernel) (hdb : (x == ("__debug__" : Str)) = false := by decide) (hs1 : starEach [a, .Name x p2] X.env = (false, eval a X.env) :: starEach [.Name x p2] X.env := by rfl)
    (hs2 : starEach [.Name x p2] X.env = (false, eval (.Name x p2) X.env) :: starEach [] X.env := by rfl) (hpl : (backTo pos (starEach [.Name x p2] X.env)).any (·.1) = false := by rfl) :
    De X B own (.Call (.Name "isinstance" p) [a, .Name x p2] [] pos) (m1 (fIsX L x) ma) :=
  pe_imp (pe_callB ((call_isi (X := X)).or call_isX) hg hm hvi (pa_cons ha (pa_cons (pe_glob (v := .ref (He.ga X.K x)) hgx hmx rfl hdb) pa_nil hs2) hs1) (by decide) (by decide) hs1 hpl) fun σ H Q ⟨ρ, F, re, w⟩ => ⟨ρ, F, re, thE w fun ρ1 d1 v1 H1 F1 re1 mo1 rp1 w1 => by
    obtain ⟨z, hz, w2⟩ := Wa.opt w1
    rcases isX_inv hz with ⟨h, rfl⟩ | ⟨c, r, h, hc, rfl⟩ <;> (have h : d1 = _ := h; subst h)
    · cases rp1
      exact .inl ⟨.non, .ref (He.ga X.K x), .type "NoneType", .ref (He.ga X.K x), _, rfl, .own _, .base .non, excs_n hL hx, w2 _ H1 F1 re1 Mn.refl (.bl _)⟩
    · obtain ⟨b, rfl, ht⟩ := exT_of re1.dom rp1
      exact .inr ⟨b, _, .ref (He.ga X.K x), .ref (He.ga X.K x), _, rfl, .own _, excs_k hL hc, ht, excs_i hL hc hx, w2 _ H1 F1 re1 Mn.refl (.bl _)⟩⟩
theorem de_isV (L : List Str) (hL : excsB L X.K = true) (hmx : X.mg "ValueError" = none) (ha : De X B own a ma) (hm : X.mg "isinstance" = none) (hg : Gl X "isinstance" := by rfl) (hgx : Gl X "ValueError" := by rfl)
    (hvi : bootBuiltins "isinstance" = some (.builtin "isinstance") := by decide +kernel) (hvv : bootBuiltins "ValueError" = some (.type "ValueError") := by decide +kernel) (hs1 : starEach [a, .Name "ValueError" p2] X.env = (false, eval a X.env) :: starEach [.Name "ValueError" p2] X.env := by rfl)
    (hs2 : starEach [.Name "ValueError" p2] X.env = (false, eval (.Name "ValueError" p2) X.env) :: starEach [] X.env := by rfl) (hpl : (backTo pos (starEach [.Name "ValueError" p2] X.env)).any (·.1) = false := by rfl) :
    De X B own (.Call (.Name "isinstance" p) [a, .Name "ValueError" p2] [] pos) (m1 (fIsV L) ma) :=
  pe_imp (pe_callB ((call_isi (X := X)).or call_isX) hg hm hvi (pa_cons ha (pa_cons (pe_bltn (v := .ty "ValueError") hgx hmx hvv rfl (by decide) (by decide)) pa_nil hs2) hs1) (by decide) (by decide) hs1 hpl) fun σ H Q ⟨ρ, F, re, w⟩ => ⟨ρ, F, re, thE w fun ρ1 d1 v1 H1 F1 re1 mo1 rp1 w1 => by
    obtain ⟨z, hz, w2⟩ := Wa.opt w1
    rcases isV_inv hz with ⟨h, rfl⟩ | ⟨c, r, h, hc, rfl⟩ <;> (have h : d1 = _ := h; subst h)
    · cases rp1
      exact .inl ⟨.non, .ty "ValueError", .type "NoneType", .type "ValueError", _, rfl, .ty _, .base .non, excs_w hL, w2 _ H1 F1 re1 Mn.refl (.bl _)⟩
    · obtain ⟨b, rfl, ht⟩ := exT_of re1.dom rp1
      exact .inr ⟨b, _, .ty "ValueError", .type "ValueError", _, rfl, .ty _, excs_k hL hc, ht, excs_v hL hc, w2 _ H1 F1 re1 Mn.refl (.bl _)⟩⟩
end

/-! ### raise -/
def sRaise (c : Str) : SM := fun _ => .exc c none
section
variable {X : Cx} {io : List Nat} {B : Bs io} {own : List Nat} {pos p p2 : Pos}
theorem ds_raise {x m : Str} {j : Nat} {ow : Ow} (fx : (He.Fa.exc x).ok X.K = true) (hmx : X.mg x = some (.ref (He.ga X.K x))) (tk : Takes X B.W) (hio : ∀ i ∈ io, i ∈ own := by decide) (hc : X.calm = true := by rfl) (hg : Gl X x := by rfl) (hdb : (x == ("__debug__" : Str)) = false := by decide) :
    Ds X B own ow (.Raise (some (.Call (.Name x p) [.Constant (.str m) j p2] [] pos)) none pos') (sRaise x) := by
  obtain ⟨h1, h2, h3, h4⟩ := He.exc_ok fx
  refine ps_imp (ps_raise hc tk (pmk_own PySem.F.excBase_ValueError h1 hmx h2 (raises_own h3 h4) hg hdb)) fun D σ H ⟨ρ, F, re, w⟩ => ?_
  obtain ⟨F1, re1, mo1⟩ := re.freeze hio fun i h => h
  exact w (.ref (He.ga X.K x)) none ρ σ H F1 re1 mo1 ⟨rfl, rfl⟩
end
end Kd

end T_KD11
section T_KD12
set_option maxRecDepth 100000
set_option maxHeartbeats 1000000
/-! KD12: more expressions that make new lists; reading what a slot owns. -/
namespace Kd
open PySem PySem.Spec PyProof.Rows L2

/-! ### new lists -/
section
variable {X : Cx} {io : List Nat} {B : Bs io} {own own' : List Nat} {a b e : Expr} {es : List Expr} {pos p p2 : Pos} {m ma mb : EM}
theorem kO_new {K : PySem.W.Frag} {io : List Nat} {B : Bs io} {own : List Nat} {σ : Sl} {Q : VK} {F : Addr → Prop} {H : Hp} {ρ : Ev} {ds : List PyData} {vs : List V} (w : (kO (K := K) B own σ Q).k F H (ρ, .list ds)) (re : RE K B own F ρ σ H) {p : Addr} (np : H p = none) (hs : Rps K F H vs ds) :
    Q (.ref p) (upd H p (.lst vs)) := by
  have g : Grow F H F (upd H p (.lst vs)) := Grow.att re.dom np
  exact w p _ F (re.grow g) g.mn (fun z => re.dom p z np) np (re.h0 np) (re.notIn np) (.lst upd_same (hs.mono g.mono))
def fAddL : PyData → PyData → Option PyData
  | .list xs, .list ys => iff' (decide (xs.length + ys.length ≤ sizeLine)) (.list (xs ++ ys))
  | _, _ => none
theorem do_addL (ha : De X B own a ma) (hb : De X B own b mb) : Do X B own (.BinOp a .Add b pos) (m2 fAddL ma mb) :=
  pe_imp (pe_op op_addG ha hb) fun σ H Q ⟨ρ, F, re, w⟩ => ⟨ρ, F, re, thE w fun ρ1 d1 v1 H1 F1 re1 mo1 rp1 w1 => ⟨ρ1, F1, re1, thE w1 fun ρ2 d2 v2 H2 F2 re2 mo2 rp2 w2 => by
    obtain ⟨z, hz, w3⟩ := Wa.opt w2
    have rp1 := rp1.mono mo2.toMono
    cases rp1 <;> first | (cases hz; done) | skip
    rename_i hl hs
    cases rp2 <;> first | (cases hz; done) | skip
    rename_i hl2 hs2
    obtain ⟨h1, rfl⟩ := iff_some hz
    exact .inr (.inl ⟨_, _, _, _, rfl, rfl, hl.sq, hl2.sq, by rw [hs.length, hs2.length]; exact of_decide_eq_true h1, fun p np => kO_new w3 re2 np (hs.append hs2)⟩)⟩⟩
def fListQ : List PyData → Option PyData
  | [.list xs] => some (.list xs)
  | [.tuple xs] => some (.list xs)
  | _ => none
theorem do_listof (hm : X.mg "list" = none) (ha : De X B own a ma) (hg : Gl X "list" := by rfl) (hv : bootBuiltins "list" = some (.type "list") := by decide +kernel) (hs : starEach [a] X.env = (false, eval a X.env) :: starEach [] X.env := by rfl) (hpl : (backTo pos (starEach [] X.env)).any (·.1) = false := by rfl) :
    Do X B own (.Call (.Name "list" p) [a] [] pos) (m1 (fun d => fListQ [d]) ma) :=
  pe_imp (pe_callTy call_list_of hg hm hv (pa_cons ha pa_nil hs) (by decide) (by decide) hs hpl) fun σ H Q ⟨ρ, F, re, w⟩ => ⟨ρ, F, re, thE w fun ρ1 d1 v1 H1 F1 re1 mo1 rp1 w1 => by
    obtain ⟨z, hz, w3⟩ := Wa.opt w1
    cases rp1 <;> first | (cases hz; done) | skip
    · rename_i hl hs
      cases hz
      exact ⟨_, _, rfl, .inl hl.sq, fun p np => kO_new w3 re1 np hs⟩
    · rename_i hl hs
      cases hz
      exact ⟨_, _, rfl, .inr (SqT.of hl), fun p np => kO_new w3 re1 np hs⟩⟩
/-- sorted(xs) of ints -/
def intsD : List PyData → Option (List Int)
  | [] => some []
  | .int i :: r => (intsD r).map fun ns => i :: ns
  | _ => none
def insI (x : Int) : List Int → List Int
  | [] => [x]
  | y :: r => if y < x then y :: insI x r else x :: y :: r
def srtI : List Int → List Int
  | [] => []
  | x :: r => insI x (srtI r)
theorem insI_perm (x : Int) : ∀ l : List Int, (insI x l).Perm (x :: l)
  | [] => .refl _
  | y :: r => by
    unfold insI
    split
    · exact ((insI_perm x r).cons y).trans (.swap x y r)
    · exact .refl _
theorem srtI_perm : ∀ l : List Int, (srtI l).Perm l
  | [] => .refl _
  | x :: r => (insI_perm x _).trans ((srtI_perm r).cons x)
theorem insI_srt (x : Int) : ∀ l : List Int, l.Pairwise (· ≤ ·) → (insI x l).Pairwise (· ≤ ·)
  | [], _ => by simp [insI]
  | y :: r, h => by
    have h1 := List.pairwise_cons.mp h
    unfold insI
    split
    · rename_i hy
      refine List.pairwise_cons.mpr ⟨fun z hz => ?_, insI_srt x r h1.2⟩
      rcases List.mem_cons.mp ((insI_perm x r).mem_iff.mp hz) with rfl | hz
      · omega
      · exact h1.1 z hz
    · rename_i hy
      refine List.pairwise_cons.mpr ⟨fun z hz => ?_, h⟩
      rcases List.mem_cons.mp hz with rfl | hz
      · omega
      · have := h1.1 z hz; omega
theorem srtI_srt : ∀ l : List Int, (srtI l).Pairwise (· ≤ ·)
  | [] => .nil
  | x :: r => insI_srt x _ (srtI_srt r)
theorem srt_uniq : ∀ {l m : List Int}, l.Perm m → l.Pairwise (· ≤ ·) → m.Pairwise (· ≤ ·) → l = m
  | [], m, h, _, _ => (List.Perm.eq_nil h.symm).symm
  | x :: l, [], h, _, _ => absurd h.length_eq (by simp)
  | x :: l, y :: m, h, hl, hm => by
    have h1 := List.pairwise_cons.mp hl
    have h2 := List.pairwise_cons.mp hm
    have e : x = y := by
      have a1 : y ≤ x := by
        rcases List.mem_cons.mp (h.mem_iff.mp (List.mem_cons_self (a := x) (l := l))) with q | q
        · omega
        · exact h2.1 x q
      have a2 : x ≤ y := by
        rcases List.mem_cons.mp (h.mem_iff.mpr (List.mem_cons_self (a := y) (l := m))) with q | q
        · omega
        · exact h1.1 y q
      omega
    subst e
    rw [srt_uniq h.cons_inv h1.2 h2.2]
def fSrtI : List PyData → Option PyData
  | [.list ds] => (intsD ds).map fun ns => .list ((srtI ns).map .int)
  | _ => none
theorem rps_intsD {K : PySem.W.Frag} {F : Addr → Prop} {H : Hp} : ∀ {vs : List V} {ds : List PyData} {ns : List Int}, Rps K F H vs ds → intsD ds = some ns → vs = ns.map V.int
  | _, _, _, .nil, h => by cases h; rfl
  | _, _, _, .cons r t, h => by
    cases r <;> first | (cases h; done) | skip
    obtain ⟨ms, h1, rfl⟩ := Option.map_eq_some_iff.mp h
    rw [rps_intsD t h1]; rfl
theorem do_srtI (hm : X.mg "sorted" = none) (ha : De X B own a ma) (hg : Gl X "sorted" := by rfl) (hv : bootBuiltins "sorted" = some (.builtin "sorted") := by decide +kernel) (hs : starEach [a] X.env = (false, eval a X.env) :: starEach [] X.env := by rfl) (hpl : (backTo pos (starEach [] X.env)).any (·.1) = false := by rfl) :
    Do X B own (.Call (.Name "sorted" p) [a] [] pos) (m1 (fun d => fSrtI [d]) ma) :=
  pe_imp (pe_callB cr_sortedI hg hm hv (pa_cons ha pa_nil hs) (by decide) (by decide) hs hpl) fun σ H Q ⟨ρ, F, re, w⟩ => ⟨ρ, F, re, thE w fun ρ1 d1 v1 H1 F1 re1 mo1 rp1 w1 => by
    obtain ⟨z, hz, w3⟩ := Wa.opt w1
    cases rp1 <;> first | (cases hz; done) | skip
    rename_i hl hs
    obtain ⟨ns, h1, rfl⟩ := Option.map_eq_some_iff.mp hz
    have ev := rps_intsD hs h1
    subst ev
    refine ⟨_, ns, rfl, hl.sq, fun ms p hp hw np => ?_⟩
    have e : ms = srtI ns := srt_uniq (hp.trans (srtI_perm ns).symm) hw (srtI_srt ns)
    subst e
    exact kO_new w3 re1 np (rps_ints _)⟩
/-- list(range(n)) -/
def fLrg : PyData → Option PyData
  | .int n => iff' (decide (0 ≤ n ∧ n ≤ 16777216)) (.list (numL 0 n.toNat))
  | _ => none
theorem do_lrng {q : Pos} (hm : X.mg "list" = none) (hm2 : X.mg "range" = none) (ha : De X B own a ma) (hc : X.calm = true := by rfl) (hg : Gl X "list" := by rfl) (hg2 : Gl X "range" := by rfl) (hs : starEach [a] X.env = (false, eval a X.env) :: starEach [] X.env := by rfl)
    (hs2 : starEach [.Call (.Name "range" p2) [a] [] q] X.env = (false, eval (.Call (.Name "range" p2) [a] [] q) X.env) :: starEach [] X.env := by rfl) : Do X B own (.Call (.Name "list" p) [.Call (.Name "range" p2) [a] [] q] [] pos) (m1 fLrg ma) :=
  pe_imp (pe_listRg hc hg hm (prg_1 hg2 hm2 ha hs) hs2) fun σ H Q ⟨ρ, F, re, w⟩ => ⟨ρ, F, re, thE w fun ρ1 d1 v1 H1 F1 re1 mo1 rp1 w1 => by
    obtain ⟨z, hz, w3⟩ := Wa.opt w1
    cases rp1 <;> first | (cases hz; done) | skip
    obtain ⟨h, rfl⟩ := iff_some hz
    obtain ⟨h1, h2⟩ := of_decide_eq_true h
    refine ⟨_, rfl, RgOk.of_le (Int.le_refl 0) h2 (by decide) h1, fun q np => kO_new w3 re1 np ?_⟩
    rename_i n
    have : ∀ k : Nat, Rps X.K F1 H1 ((List.range k).map fun i : Nat => V.int (0 + i)) (numL 0 k) := fun k => by
      unfold numL
      generalize List.range k = l
      induction l with
      | nil => exact .nil
      | cons x r ih => exact .cons (.int _) ih
    have e : (n - 0).toNat = n.toNat := by simp
    unfold rgV
    rw [e]
    exact this _⟩
theorem tO_lc {wi : TI} {it : IM} {g : GM} {t : TM} {m : EM} {vs ts : List Nat} (hwi : ∀ σ H R, tDI X.K B own it σ H R → wi σ H R) (hmg : B.mg = X.mg) (hts : ∀ i ∈ ts, i ∈ vs) (hvo : ∀ v ∈ vs, v ∉ own) : ∀ σ H Q, tDO X.K B own (mLc own it g t m vs) σ H Q →
    tLc wi (fun v σ H Q => ∃ b : Bq own X.mg, tDG X.K b.1 own own ts g v σ H Q) (fun σ H Q => ∃ b : Bq own X.mg, tDT X.K b.1 own t σ H Q) (fun σ H Q => ∃ b : Bq own X.mg, tD X.K b.1 own m σ H Q) vs σ H Q := fun σ H0' Q ⟨ρ, F, re, w⟩ => by
  refine hwi σ H0' _ ⟨ρ, F, re, w.bind fun x w0 J H1 F1 re1 mo1 ⟨G, Y, wk, hG, hY⟩ D nD => ?_⟩
  obtain ⟨_, hset, w1⟩ := Wa.opt w0
  obtain ⟨hset, _⟩ := iff_some hset
  cases hq : (lcL g t m vs x.2 x.1).quiet with
  | exc c y => rw [hq] at w1; cases hz : lcL g t m vs x.2 x.1 <;> (rw [hz] at hq; cases hq)
  | bad => rw [hq] at w1; exact w1.elim
  | ok y =>
    rw [hq] at w1
    obtain ⟨d, hd, w2⟩ := Wa.opt w1
    obtain ⟨hlen, rfl⟩ := iff_some hd
    have hlen := of_decide_eq_true hlen
    have hrun := Rs.quiet_ok hq
    obtain ⟨ρe, rs⟩ := y
    have no : ∀ {j}, j ∈ own → j ∉ vs := fun {j} h z => hvo j z h
    have hD0 := re1.h0 nD
    have hDn := re1.notIn nD
    have hDw : ∀ j ∈ own, (L2.wipe σ vs)[j]? ≠ some (some (V.ref D)) := fun j hj => by rw [wipe_get (no hj)]; exact hDn j hj
    refine lc_it (g := fun v σ H Q => ∃ b : Bq own X.mg, tDG X.K b.1 own own ts g v σ H Q) (tt := fun σ H Q => ∃ b : Bq own X.mg, tDT X.K b.1 own t σ H Q) (te := fun σ H Q => ∃ b : Bq own X.mg, tD X.K b.1 own m σ H Q) (vs := vs) (σ := σ) (H1 := H1) (D := D) (Qd := Q (.ref D)) wk (fun i H => ∃ ρ F, RE X.K B own F (wipeE ρ vs) (L2.wipe σ vs) H ∧ (∀ j ∈ own, ∃ d, (wipeE ρ vs)[j]? = some (some d)) ∧ Mn X.K F1 H1 F H ∧ ¬ F D ∧ ∃ acc da rest, H D = some (HO.lst acc) ∧ Rps X.K F H acc da ∧
      lcL g t m vs (x.2.drop i) ρ = .ok (ρe, rest) ∧ da ++ rest = rs) ?_ (fun i H hi ⟨ρ, F, re, hs, mo, _⟩ => hG F H mo.toMono) (fun i v H H' hi ⟨ρ, F, re, hs, mo, nF, acc, da, rest, hacc, racc, hl, hrs⟩ y => ?_) (fun H ⟨ρ, F, re, hs, mo, nF, acc, da, rest, hacc, racc, hl, hrs⟩ => ?_)
    · have g1 : Grow F1 H1 F1 (upd H1 D (HO.lst [])) := Grow.att re1.dom nD
      refine ⟨x.1, F1, (re1.wipe hvo).grow g1, fun j hj => ?_, g1.mn, fun z => re1.dom D z nD, [], [], rs, upd_same, .nil, by simpa using hrun, rfl⟩
      have := List.all_eq_true.mp hset j hj
      rw [wipeE_get (no hj)]
      cases e : gt x.1 j with
      | none => rw [e] at this; cases this
      | some d => exact ⟨d, gt_ok e⟩
    · obtain ⟨d, e, gr, rp⟩ := hY F i H v H' mo.toMono re.dom y
      have ed : x.2.drop i = d :: x.2.drop (i + 1) := by
        have hl := (List.getElem?_eq_some_iff.mp e)
        rw [List.drop_eq_getElem_cons hl.1, hl.2]
      rw [ed] at hl
      have re' := re.grow gr
      obtain ⟨B', reB, hB0, hBA, back, hBW⟩ := re'.rebase hs
      rw [hmg] at hBW
      have hDB : D ∉ B'.A0 := fun z => by
        obtain ⟨j, hj, q⟩ := hBA D z
        exact hDw j hj q
      have hD' : B'.H0 D = some (HO.lst acc) := by rw [hB0]; exact gr.same _ _ hacc
      have stay : ∀ {F' ρ' σ' H'}, RE X.K B' own F' ρ' σ' H' → H' D = some (HO.lst acc) := fun r => r.old D _ hD' hDB
      have setd : ∀ {F' ρ' σ' H'}, RE X.K B' own F' ρ' σ' H' → ∀ j ∈ own, ∃ d, ρ'[j]? = some (some d) := fun r j hj => by
        have : j ∈ B'.IO.map (·.1) := by rw [B'.hio]; exact hj
        obtain ⟨p, hp, rfl⟩ := List.mem_map.mp this
        exact (r.io p hp).2.2
      have h0 : lcL g t m vs (d :: x.2.drop (i + 1)) ρ = (Rs.opt (g d (wipeE ρ vs)) fun ρ1 => (t ρ1).bind fun x' => if x'.2 then (m x'.1).bind fun y => (lcL g t m vs (x.2.drop (i + 1)) y.1).bind fun z => .ok (z.1, y.2 :: z.2)
        else lcL g t m vs (x.2.drop (i + 1)) x'.1) := rfl
      rw [h0] at hl
      cases hg : g d (wipeE ρ vs) with
      | none => rw [hg] at hl; cases hl
      | some ρ1 =>
        rw [hg] at hl
        obtain ⟨⟨ρ2, c⟩, ht, hl⟩ := Rs.bind_ok hl
        refine ⟨⟨B', hBW⟩, wipeE ρ vs, F, d, reB, rp, ρ1, hg, fun σ2 H2 F2 re2 mo2 len2 out2 => ?_⟩
        have hw : L2.wipe σ2 vs = L2.wipe σ vs := by
          have h1 := wipe_eq (vs := vs) len2 (fun k hk => out2 k fun z => hk (hts k z))
          rw [h1]
          exact wipe_eq (by rw [wipe_length]) fun k hk => wipe_get hk
        have fin : ∀ {ρ4 F4 H4}, RE X.K B' own F4 ρ4 σ2 H4 → RE X.K B own F4 (wipeE ρ4 vs) (L2.wipe σ vs) H4 := fun r => by
          have := (back r).wipe hvo
          rw [hw] at this; exact this
        have nFD : ∀ {F4 H4}, Mn X.K F H' F4 H4 → ¬ F4 D := fun {F4 H4} mm z => by
          rcases mm.new D z with q | q
          · exact nF q
          · rw [gr.same _ _ hacc] at q; cases q
        refine ⟨hw, ⟨B', hBW⟩, ρ1, F2, re2, ?_⟩
        rw [ht]
        intro H3 F3 re3 mo3
        cases c with
        | false =>
          refine ⟨ρ2, F3, fin re3, fun j hj => ?_, mo.trans (gr.mn.trans (mo2.trans mo3)), nFD (mo2.trans mo3), acc, da, rest, stay re3, racc.mono (gr.mono.trans (mo2.trans mo3).toMono), hl, hrs⟩
          rw [wipeE_get (no hj)]
          exact setd re3 j hj
        | true =>
          obtain ⟨⟨ρ3, r⟩, hm, hl⟩ := Rs.bind_ok hl
          obtain ⟨⟨ρ4, rest'⟩, hl2, he2⟩ := Rs.bind_ok hl
          cases he2
          refine ⟨⟨B', hBW⟩, ρ2, F3, re3, ?_⟩
          rw [hm]
          intro u H4 F4 re4 mo4 rp4
          have hD4 := stay re4
          have mA : Mn X.K F H' F4 H4 := mo2.trans (mo3.trans mo4)
          have nF4 := nFD mA
          obtain ⟨re5, mo5⟩ := (fin re4).updFree (o' := HO.lst (acc ++ [u])) nF4 hD0 hDw hD4 (fun xs => ⟨(fun z => nomatch z), (fun q z => nomatch z)⟩)
          have la : acc.length = da.length := racc.length
          refine ⟨acc, hD4, ?_, ρ3, F4, re5, fun j hj => ?_, mo.trans (gr.mn.trans (mA.trans mo5)), nF4, acc ++ [u], da ++ [r], rest', upd_same, ?_, hl2, by rw [← hrs]; simp⟩
          · rw [← hrs] at hlen
            simp only [List.length_append, List.length_cons] at hlen
            omega
          · rw [wipeE_get (no hj)]
            exact setd re4 j hj
          · exact (racc.mono (gr.mono.trans (mA.toMono.trans mo5.toMono))).append (.one (rp4.mono mo5.toMono))
    · have e0 : x.2.drop x.2.length = [] := by simp
      rw [e0] at hl
      cases hl
      have la : da = rs := by simpa using hrs
      subst la
      have nH : H0' D = none := by
        cases e : H0' D with
        | none => rfl
        | some o => exact absurd nD (mo1.keep D (by rw [e]; simp))
      exact w2 D H F (re1.kept re mo.toMono hvo) (mo1.trans mo) nF nH hD0 (fun j hj => by have := hDw j hj; rwa [wipe_get (no hj)] at this) (.lst hacc racc)
theorem do_lc {elt tg iter : Expr} {ifs : List Expr} {scope : Scope} {ownp : List (Str × Nat)} {pos : Pos} {it : IM} {g : GM} {t : TM} {m : EM} {vs ts : List Nat} (hc : X.calm = true) (nd : X.N.Nodup) (hmg : B.mg = X.mg) (hi : Di X B own tg iter it) (ok : BlkOk X.N X.env.scope scope ownp)
    (hg : ∀ (s : Shared) (H : Hp) (C : Addr) (cl : List (Str × Addr)) (fp : List Addr) (b : Bs own), b.W = (fun _ _ _ _ => False) → b.mg = X.mg → Dg (X.blk s H scope (compEnvC scope cl C X.env) fp) b own own ts tg g)
    (ht : ∀ (s : Shared) (H : Hp) (C : Addr) (cl : List (Str × Addr)) (fp : List Addr) (b : Bs own), b.W = (fun _ _ _ _ => False) → b.mg = X.mg → Dts (X.blk s H scope (compEnvC scope cl C X.env) fp) b own ifs t)
    (he : ∀ (s : Shared) (H : Hp) (C : Addr) (cl : List (Str × Addr)) (fp : List Addr) (b : Bs own), b.W = (fun _ _ _ _ => False) → b.mg = X.mg → De (X.blk s H scope (compEnvC scope cl C X.env) fp) b own elt m)
    (hv : ownp.map (·.2) = vs := by rfl) (hts : ∀ i ∈ ts, i ∈ vs := by decide) (hvo : ∀ v ∈ vs, v ∉ own := by decide) (hs : ∀ x, foldedSetIterable iter X.env x = pure x := by intro _; rfl) : Do X B own (.ListComp elt [⟨tg, iter, ifs, 0⟩] scope pos) (mLc own it g t m vs) := by
  subst hv
  exact pe_imp (pe_lc hc nd hi ok (fun s H C cl fp => pg_ex (t := fun b : Bq own X.mg => tDG X.K b.1 own own ts g) fun b => hg s H C cl fp b.1 b.2.1 b.2.2) (fun s H C cl fp => pts_ex (t := fun b : Bq own X.mg => tDT X.K b.1 own t) fun b => ht s H C cl fp b.1 b.2.1 b.2.2) (fun s H C cl fp => pe_ex (t := fun b : Bq own X.mg => tD X.K b.1 own m) fun b => he s H C cl fp b.1 b.2.1 b.2.2) hs) (tO_lc (fun _ _ _ h => h) hmg hts hvo)
theorem ds_setLcO {i : Nat} {y : Str} {py spos : Pos} {bk ct : List Nat} {elt tg iter : Expr} {ifs : List Expr} {scope : Scope} {ownp : List (Str × Nat)} {pos : Pos} {it : IM} {g : GM} {t : TM} {m : EM} {vs ts : List Nat} (hc : X.calm = true) (nd : X.N.Nodup) (hmg : B.mg = X.mg) (hsw : swapsWith (.ListComp elt [⟨tg, iter, ifs, 0⟩] scope pos) (some (.Name y py)) spos.line X.env = pure true) (hi : Di X B own tg iter it) (ok : BlkOk X.N X.env.scope scope ownp)
    (hg : ∀ (s : Shared) (H : Hp) (C : Addr) (cl : List (Str × Addr)) (fp : List Addr) (b : Bs own), b.W = (fun _ _ _ _ => False) → b.mg = X.mg → Dg (X.blk s H scope (compEnvC scope cl C X.env) fp) b own own ts tg g)
    (ht : ∀ (s : Shared) (H : Hp) (C : Addr) (cl : List (Str × Addr)) (fp : List Addr) (b : Bs own), b.W = (fun _ _ _ _ => False) → b.mg = X.mg → Dts (X.blk s H scope (compEnvC scope cl C X.env) fp) b own ifs t)
    (he : ∀ (s : Shared) (H : Hp) (C : Addr) (cl : List (Str × Addr)) (fp : List Addr) (b : Bs own), b.W = (fun _ _ _ _ => False) → b.mg = X.mg → De (X.blk s H scope (compEnvC scope cl C X.env) fp) b own elt m)
    (ho : i ∉ io := by decide) (hy : X.N[i]? = some y := by rfl) (hyl : X.env.scope.names.lookup y = some .local := by rfl)
    (hv : ownp.map (·.2) = vs := by rfl) (hts : ∀ i ∈ ts, i ∈ vs := by decide) (hvo : ∀ v ∈ vs, v ∉ own := by decide) (hs : ∀ x, foldedSetIterable iter X.env x = pure x := by intro _; rfl) :
    Ds X B own ⟨i :: own, bk, ct⟩ (.Assign [.Name y py] (.ListComp elt [⟨tg, iter, ifs, 0⟩] scope pos) spos) (sSet i (mLc own it g t m vs)) := by
  subst hv
  refine ps_imp (ps_setLc hc nd hy hyl hsw hi ok (fun s H C cl fp => pg_ex (t := fun b : Bq own X.mg => tDG X.K b.1 own own ts g) fun b => hg s H C cl fp b.1 b.2.1 b.2.2) (fun s H C cl fp => pts_ex (t := fun b : Bq own X.mg => tDT X.K b.1 own t) fun b => ht s H C cl fp b.1 b.2.1 b.2.2) (fun s H C cl fp => pe_ex (t := fun b : Bq own X.mg => tD X.K b.1 own m) fun b => he s H C cl fp b.1 b.2.1 b.2.2) hs) fun D σ H ⟨ρ, F, re, w⟩ => ?_
  exact tO_lc (fun _ _ _ h => h) hmg hts hvo σ H _ ⟨ρ, F, re, w.bind fun y wy a H1 F1 re1 mo1 nF _ h0 hn hv => by
    have w1 : Wa B (kS X.K B ⟨i :: own, bk, ct⟩ D) F1 H1 (.ok (.nx (y.1.set i (some y.2)))) := wy.mono mo1
    exact w1 _ H1 F1 (re1.setO nF h0 hv (fun j hj e _ => hn j hj) ho) Mono.refl⟩
end
end Kd

end T_KD12
section T_KD13
set_option maxRecDepth 100000
set_option maxHeartbeats 1000000
/-! KD13: what a slot owns, lent to an expression. -/
namespace Kd
open PySem PySem.Spec PyProof.Rows L2

mutual
/-- no list, no dict in it -/
def flatD : PyData → Bool
  | .list _ => false
  | .dict _ => false
  | .tuple xs => flatAll xs
  | _ => true
def flatAll : List PyData → Bool
  | [] => true
  | x :: xs => flatD x && flatAll xs
end
mutual
theorem Rp.flat {K : PySem.W.Frag} {F F2 : Addr → Prop} {H : Hp} : ∀ {v : V} {d : PyData}, Rp K F H v d → flatD d = true → Rp K F2 H v d
  | _, _, .non, _ => .non
  | _, _, .bl b, _ => .bl b
  | _, _, .int i, _ => .int i
  | _, _, .str x, _ => .str x
  | _, _, .lst _ _, h => by cases h
  | _, _, .tup hl hs, h => .tup hl (Rps.flat hs h)
  | _, _, .dK _ _ _, h => by cases h
  | _, _, .dT _ _ _, h => by cases h
  | _, _, .exN _ _, h => by cases h
  | _, _, .exS _ _ _ _ _, h => by cases h
theorem Rps.flat {K : PySem.W.Frag} {F F2 : Addr → Prop} {H : Hp} : ∀ {vs : List V} {ds : List PyData}, Rps K F H vs ds → flatAll ds = true → Rps K F2 H vs ds
  | _, _, .nil, _ => .nil
  | _, _, .cons h t, q => by
    have q := Bool.and_eq_true_iff.mp q
    exact .cons (Rp.flat h q.1) (Rps.flat t q.2)
end
/-- what an owned slot may hold while others are lent -/
def contF : Option PyData → Bool
  | some (.list ds) => flatAll ds
  | some _ => false
  | none => true
section
variable {K : PySem.W.Frag} {io : List Nat} {B : Bs io} {own own' : List Nat} {F F' : Addr → Prop} {H H' : Hp} {ρ ρ' : Ev} {σ : Sl}
def lent (own own' : List Nat) (ρ : Ev) (σ : Sl) (a : Addr) : Prop := ∃ i d, i ∈ own ∧ i ∉ own' ∧ ρ[i]? = some (some d) ∧ σ[i]? = some (some (V.ref a))
theorem RE.thaw (r : RE K B own F ρ σ H) (sub : ∀ i ∈ own', i ∈ own) (hio : ∀ i ∈ io, i ∈ own') (r' : RE K B own' F' ρ' σ H') (m : Mn K (frzF own own' F ρ σ) H F' H') (hc : (own'.all fun i => contF ((ρ'[i]?).getD none)) = true) :
    RE K B own (fun a => F' a ∧ ¬ lent own own' ρ σ a) (keepE ρ' own' ρ) σ H' ∧ Mn K F H (fun a => F' a ∧ ¬ lent own own' ρ σ a) H' := by
  have len : ρ'.length = ρ.length := r'.len.trans r.len.symm
  have atIn : ∀ {i : Nat}, i ∈ own' → i < ρ.length → (keepE ρ' own' ρ)[i]? = ρ'[i]? := fun {i} h hl => keepE_in hl (by omega) h
  have atOut : ∀ {i : Nat}, i ∉ own' → (keepE ρ' own' ρ)[i]? = ρ[i]? := fun {i} h => keepE_get h
  have lenOf : ∀ {i : Nat} {o}, (keepE ρ' own' ρ)[i]? = some o → i < ρ.length := fun {i o} h => by
    have := (List.getElem?_eq_some_iff.mp h).1
    rwa [keepE_length] at this
  have notF : ∀ {a}, F a → ¬ lent own own' ρ σ a := fun {a} h ⟨i, d, h1, _, h3, h4⟩ => by
    obtain ⟨b, e, nF, _⟩ := r.ow i d h1 h3
    rw [h4] at e; cases e
    exact nF h
  have mo : Mono K F H (fun a => F' a ∧ ¬ lent own own' ρ σ a) H' := ⟨fun a h => ⟨m.sub a (.inl h), notF h⟩, fun a o h e => m.ex a o (.inl h) e, fun a xs h => m.tup a xs h⟩
  have stay : ∀ {a o}, lent own own' ρ σ a → H a = some o → H' a = some o ∧ F' a := fun {a o} ⟨i, d, h1, h2, h3, h4⟩ e => ⟨m.ex a o (.inr ⟨i, d, h1, h2, h3, h4⟩) e, m.sub a (.inr ⟨i, d, h1, h2, h3, h4⟩)⟩
  refine ⟨⟨by rw [keepE_length]; exact r.len, fun i d hi e => ?_, fun i d hi e => ?_, fun i j d e hi hj hn h1 h2 => ?_, fun a h => r'.dom a h.1, r'.old, fun a h => ⟨r'.fold a h, notF (r.fold a h)⟩, fun a h => r'.fnew a h.1, fun p hp => ?_, fun i e => ?_⟩, mo, fun a h => ?_, m.keep⟩
  · rw [atOut (fun z => hi (sub i z))] at e
    obtain ⟨v, h1, h2⟩ := r.fz i d hi e
    exact ⟨v, h1, h2.mono mo⟩
  · by_cases h' : i ∈ own'
    · have hl := lenOf e
      rw [atIn h' hl] at e
      obtain ⟨a, h1, h2, h3, h4⟩ := r'.ow i d h' e
      refine ⟨a, h1, fun z => h2 z.1, h3, ?_⟩
      have hf := List.all_eq_true.mp hc i h'
      rw [e] at hf
      cases h4 with
      | lst q w => exact .lst q (w.flat hf)
      | dK q w => cases hf
      | dT q w => cases hf
    · rw [atOut h'] at e
      obtain ⟨a, h1, h2, h3, h4⟩ := r.ow i d hi e
      have hL : lent own own' ρ σ a := ⟨i, d, hi, h', e, h1⟩
      refine ⟨a, h1, fun z => z.2 hL, h3, ?_⟩
      cases h4 with
      | lst q w => exact .lst (stay hL q).1 (w.mono mo)
      | dK q w => exact .dK (stay hL q).1 (w.mono mo)
      | dT q w => exact .dT (stay hL q).1 (w.mono mo)
  · have cross : ∀ {i j : Nat} {d e : PyData}, i ∈ own' → j ∉ own' → j ∈ own → (keepE ρ' own' ρ)[i]? = some (some d) → (keepE ρ' own' ρ)[j]? = some (some e) → σ[i]? ≠ σ[j]? := fun {i j d e} h1 h2 h3 h4 h5 z => by
      rw [atIn h1 (lenOf h4)] at h4
      rw [atOut h2] at h5
      obtain ⟨a, q1, q2, _⟩ := r'.ow i d h1 h4
      obtain ⟨b, w1, _, _, w4⟩ := r.ow j e h3 h5
      rw [q1, w1] at z
      cases z
      cases hb : H a with
      | none => exact w4.there hb
      | some o => exact q2 (stay ⟨j, e, h3, h2, h5, w1⟩ hb).2
    by_cases h3 : i ∈ own' <;> by_cases h4 : j ∈ own'
    · have q1 := h1
      have q2 := h2
      rw [atIn h3 (lenOf h1)] at q1
      rw [atIn h4 (lenOf h2)] at q2
      exact r'.ne i j d e h3 h4 hn q1 q2
    · exact cross h3 h4 hj h1 h2
    · exact fun z => cross h4 h3 hi h2 h1 z.symm
    · rw [atOut h3] at h1
      rw [atOut h4] at h2
      exact r.ne i j d e hi hj hn h1 h2
  · obtain ⟨h1, h2, d, h3⟩ := r'.io p hp
    have hl : p.1 < ρ.length := by have := (List.getElem?_eq_some_iff.mp h3).1; omega
    exact ⟨h1, sub _ h2, d, by rw [atIn h2 hl]; exact h3⟩
  · by_cases h' : i ∈ own'
    · rw [atIn h' (lenOf e)] at e; exact r'.un i e
    · rw [atOut h'] at e; exact r.un i e
  · rcases m.new a h.1 with z | z
    · rcases z with z | z
      · exact .inl z
      · exact absurd z h.2
    · exact .inr z
end
/-- an expression to which what the slots own is lent (but own'): its value has no list in it -/
def mBor (own' : List Nat) (m : EM) : EM := fun ρ => (m ρ).bind fun x => if (flatD x.2 && own'.all fun i => contF ((x.1[i]?).getD none)) = true then .ok (keepE x.1 own' ρ, x.2) else .bad
def flatL : PyData → Bool
  | .list ds => flatAll ds
  | _ => false
def mBorL (own' : List Nat) (m : EM) : EM := fun ρ => (m ρ).bind fun x => if (flatL x.2 && own'.all fun i => contF ((x.1[i]?).getD none)) = true then .ok (keepE x.1 own' ρ, x.2) else .bad
section
variable {X : Cx} {io : List Nat} {B : Bs io} {own : List Nat} {e : Expr} {m : EM}
theorem ExcW.from {K : PySem.W.Frag} {F F1 : Addr → Prop} {H : Hp} {c : Str} {x : Option PyData} (w : ExcW K B F H c x) (m : Mono K F H F1 H) : ExcW K B F1 H c x := ExcW.mono w m
theorem de_bor (own' : List Nat) (h : De X B own' e m) (sub : ∀ i ∈ own', i ∈ own := by decide) (hio : ∀ i ∈ io, i ∈ own' := by decide) : De X B own e (mBor own' m) :=
  pe_imp h fun σ H Q ⟨ρ, F, re, w⟩ => by
    obtain ⟨re1, mo1, _⟩ := re.freezeX sub hio
    refine ⟨ρ, _, re1, ?_⟩
    unfold mBor at w
    cases hm : m ρ with
    | bad => rw [hm] at w; exact w
    | exc c x => rw [hm] at w; exact ExcW.mono w mo1
    | ok x =>
      rw [hm] at w
      rw [Rs.bind] at w
      split at w
      · rename_i hc
        obtain ⟨hf, hc⟩ := Bool.and_eq_true_iff.mp hc
        intro v H' F' re' mn rp
        obtain ⟨re2, mn2⟩ := re.thaw sub hio re' mn hc
        exact w v H' _ re2 mn2 (rp.flat hf)
      · exact w.elim
theorem tDO_bor (own' : List Nat) (sub : ∀ i ∈ own', i ∈ own) (hio : ∀ i ∈ io, i ∈ own') : ∀ σ H Q, tDO X.K B own (mBorL own' m) σ H Q → tDO X.K B own' m σ H Q := fun σ H Q ⟨ρ, F, re, w⟩ => by
    obtain ⟨re1, mo1, _⟩ := re.freezeX sub hio
    refine ⟨ρ, _, re1, ?_⟩
    unfold mBorL at w
    cases hm : m ρ with
    | bad => rw [hm] at w; exact w
    | exc c x => rw [hm] at w; exact ExcW.mono w mo1
    | ok x =>
      rw [hm] at w
      rw [Rs.bind] at w
      split at w
      · rename_i hc
        obtain ⟨hf, hc⟩ := Bool.and_eq_true_iff.mp hc
        intro a H' F' re' mn nF hH h0 hn hv
        obtain ⟨re2, mn2⟩ := re.thaw sub hio re' mn hc
        refine w a H' _ re2 mn2 (fun z => nF z.1) hH h0 (fun j hj q => ?_) ?_
        · by_cases hj' : j ∈ own'
          · exact hn j hj' q
          · cases hg : ρ[j]? with
            | none =>
              have h1 := List.getElem?_eq_none_iff.mp hg
              have h2 := (List.getElem?_eq_some_iff.mp q).1
              have := re.len
              omega
            | some o =>
              cases o with
              | none => rw [re.un j hg] at q; cases q
              | some d =>
                obtain ⟨b, e1, _, _, e4⟩ := re.ow j d hj hg
                rw [q] at e1; cases e1
                exact e4.there hH
        · obtain ⟨x1, x2⟩ := x
          cases hv with
          | lst q w' => exact .lst q (w'.flat hf)
          | dK q w' => cases hf
          | dT q w' => cases hf
      · exact w.elim
theorem do_bor (own' : List Nat) (h : Do X B own' e m) (sub : ∀ i ∈ own', i ∈ own := by decide) (hio : ∀ i ∈ io, i ∈ own' := by decide) : Do X B own e (mBorL own' m) := pe_imp h (tDO_bor own' sub hio)
theorem tDO_of_tD : ∀ σ H Q, tD X.K B own m σ H Q → tDO X.K B own m σ H Q := fun σ H Q ⟨ρ, F, re, w⟩ => ⟨ρ, F, re, by
    cases q : m ρ with
    | bad => rw [q] at w; exact w
    | exc c x => rw [q] at w; exact w
    | ok x =>
      rw [q] at w
      intro a H' F' re' mo nF hz h0 hn hv
      obtain ⟨re2, mo2⟩ := re'.addF hv.there hn h0
      refine w _ H' _ re2 ⟨mo.toMono.trans mo2, fun b hb => ?_, mo.keep⟩ ((hv.mono mo2 rfl).rp (.inr rfl))
      rcases hb with hb | rfl
      · exact mo.new b hb
      · exact .inr hz⟩
def tBor (own' : List Nat) (t : TM) : TM := fun ρ => (t ρ).bind fun x => if (own'.all fun i => contF ((x.1[i]?).getD none)) = true then .ok (keepE x.1 own' ρ, x.2) else .bad
theorem dt_bor {t : TM} (own' : List Nat) (h : Dt X B own' e t) (sub : ∀ i ∈ own', i ∈ own := by decide) (hio : ∀ i ∈ io, i ∈ own' := by decide) : Dt X B own e (tBor own' t) :=
  pt_imp h fun σ H Q ⟨ρ, F, re, w⟩ => by
    obtain ⟨re1, mo1, _⟩ := re.freezeX sub hio
    refine ⟨ρ, _, re1, ?_⟩
    unfold tBor at w
    cases hm : t ρ with
    | bad => rw [hm] at w; exact w
    | exc c x => rw [hm] at w; exact ExcW.mono w mo1
    | ok x =>
      rw [hm] at w
      rw [Rs.bind] at w
      split at w
      · rename_i hc
        intro H' F' re' mn
        obtain ⟨re2, mn2⟩ := re.thaw sub hio re' mn hc
        exact w H' _ re2 mn2
      · exact w.elim
/-- name = [..], with what is owned lent -/
theorem ds_setLcB {i : Nat} {y : Str} {py spos : Pos} {bk ct : List Nat} {elt tg iter : Expr} {ifs : List Expr} {scope : Scope} {ownp : List (Str × Nat)} {pos : Pos} {it : IM} {g : GM} {t : TM} {m : EM} {vs ts : List Nat} (own' : List Nat) (hc : X.calm = true) (nd : X.N.Nodup) (hmg : B.mg = X.mg) (hsw : swapsWith (.ListComp elt [⟨tg, iter, ifs, 0⟩] scope pos) (some (.Name y py)) spos.line X.env = pure true) (hi : Di X B own' tg iter it) (ok : BlkOk X.N X.env.scope scope ownp)
    (hg : ∀ (s : Shared) (H : Hp) (C : Addr) (cl : List (Str × Addr)) (fp : List Addr) (b : Bs own'), b.W = (fun _ _ _ _ => False) → b.mg = X.mg → Dg (X.blk s H scope (compEnvC scope cl C X.env) fp) b own' own' ts tg g)
    (ht : ∀ (s : Shared) (H : Hp) (C : Addr) (cl : List (Str × Addr)) (fp : List Addr) (b : Bs own'), b.W = (fun _ _ _ _ => False) → b.mg = X.mg → Dts (X.blk s H scope (compEnvC scope cl C X.env) fp) b own' ifs t)
    (he : ∀ (s : Shared) (H : Hp) (C : Addr) (cl : List (Str × Addr)) (fp : List Addr) (b : Bs own'), b.W = (fun _ _ _ _ => False) → b.mg = X.mg → De (X.blk s H scope (compEnvC scope cl C X.env) fp) b own' elt m)
    (ho : i ∉ io := by decide) (hy : X.N[i]? = some y := by rfl) (hyl : X.env.scope.names.lookup y = some .local := by rfl)
    (sub : ∀ i ∈ own', i ∈ own := by decide) (hio : ∀ i ∈ io, i ∈ own' := by decide)
    (hv : ownp.map (·.2) = vs := by rfl) (hts : ∀ i ∈ ts, i ∈ vs := by decide) (hvo : ∀ v ∈ vs, v ∉ own' := by decide) (hs : ∀ x, foldedSetIterable iter X.env x = pure x := by intro _; rfl) :
    Ds X B own ⟨own.filter (· ≠ i), bk, ct⟩ (.Assign [.Name y py] (.ListComp elt [⟨tg, iter, ifs, 0⟩] scope pos) spos) (sSet i (mBorL own' (mLc own' it g t m vs))) := by
  subst hv
  refine ps_imp (ps_setLc hc nd hy hyl hsw hi ok (fun s H C cl fp => pg_ex (t := fun b : Bq own' X.mg => tDG X.K b.1 own' own' ts g) fun b => hg s H C cl fp b.1 b.2.1 b.2.2) (fun s H C cl fp => pts_ex (t := fun b : Bq own' X.mg => tDT X.K b.1 own' t) fun b => ht s H C cl fp b.1 b.2.1 b.2.2) (fun s H C cl fp => pe_ex (t := fun b : Bq own' X.mg => tD X.K b.1 own' m) fun b => he s H C cl fp b.1 b.2.1 b.2.2) hs) fun D σ H ⟨ρ, F, re, w⟩ => ?_
  exact tO_lc (fun _ _ _ h => h) hmg hts hvo σ H _ (tDO_bor own' sub hio σ H _ (tDO_of_tD σ H _ ⟨ρ, F, re, thE w fun ρ1 d1 v1 H1 F1 re1 mo1 rp1 w1 => w1 _ H1 F1 (re1.set rp1 ho) Mono.refl⟩))
theorem ds_setLcBO {i : Nat} {y : Str} {py spos : Pos} {bk ct : List Nat} {elt tg iter : Expr} {ifs : List Expr} {scope : Scope} {ownp : List (Str × Nat)} {pos : Pos} {it : IM} {g : GM} {t : TM} {m : EM} {vs ts : List Nat} (own' : List Nat) (hc : X.calm = true) (nd : X.N.Nodup) (hmg : B.mg = X.mg) (hsw : swapsWith (.ListComp elt [⟨tg, iter, ifs, 0⟩] scope pos) (some (.Name y py)) spos.line X.env = pure true) (hi : Di X B own' tg iter it) (ok : BlkOk X.N X.env.scope scope ownp)
    (hg : ∀ (s : Shared) (H : Hp) (C : Addr) (cl : List (Str × Addr)) (fp : List Addr) (b : Bs own'), b.W = (fun _ _ _ _ => False) → b.mg = X.mg → Dg (X.blk s H scope (compEnvC scope cl C X.env) fp) b own' own' ts tg g)
    (ht : ∀ (s : Shared) (H : Hp) (C : Addr) (cl : List (Str × Addr)) (fp : List Addr) (b : Bs own'), b.W = (fun _ _ _ _ => False) → b.mg = X.mg → Dts (X.blk s H scope (compEnvC scope cl C X.env) fp) b own' ifs t)
    (he : ∀ (s : Shared) (H : Hp) (C : Addr) (cl : List (Str × Addr)) (fp : List Addr) (b : Bs own'), b.W = (fun _ _ _ _ => False) → b.mg = X.mg → De (X.blk s H scope (compEnvC scope cl C X.env) fp) b own' elt m)
    (ho : i ∉ io := by decide) (hy : X.N[i]? = some y := by rfl) (hyl : X.env.scope.names.lookup y = some .local := by rfl)
    (sub : ∀ i ∈ own', i ∈ own := by decide) (hio : ∀ i ∈ io, i ∈ own' := by decide)
    (hv : ownp.map (·.2) = vs := by rfl) (hts : ∀ i ∈ ts, i ∈ vs := by decide) (hvo : ∀ v ∈ vs, v ∉ own' := by decide) (hs : ∀ x, foldedSetIterable iter X.env x = pure x := by intro _; rfl) :
    Ds X B own ⟨i :: own, bk, ct⟩ (.Assign [.Name y py] (.ListComp elt [⟨tg, iter, ifs, 0⟩] scope pos) spos) (sSet i (mBorL own' (mLc own' it g t m vs))) := by
  subst hv
  refine ps_imp (ps_setLc hc nd hy hyl hsw hi ok (fun s H C cl fp => pg_ex (t := fun b : Bq own' X.mg => tDG X.K b.1 own' own' ts g) fun b => hg s H C cl fp b.1 b.2.1 b.2.2) (fun s H C cl fp => pts_ex (t := fun b : Bq own' X.mg => tDT X.K b.1 own' t) fun b => ht s H C cl fp b.1 b.2.1 b.2.2) (fun s H C cl fp => pe_ex (t := fun b : Bq own' X.mg => tD X.K b.1 own' m) fun b => he s H C cl fp b.1 b.2.1 b.2.2) hs) fun D σ H ⟨ρ, F, re, w⟩ => ?_
  exact tO_lc (fun _ _ _ h => h) hmg hts hvo σ H _ (tDO_bor own' sub hio σ H _ ⟨ρ, F, re, w.bind fun y wy a H1 F1 re1 mo1 nF _ h0 hn hv => by
    have w1 : Wa B (kS X.K B ⟨i :: own, bk, ct⟩ D) F1 H1 (.ok (.nx (y.1.set i (some y.2)))) := wy.mono mo1
    exact w1 _ H1 F1 (re1.setO nF h0 hv (fun j hj e _ => hn j hj) ho) Mono.refl⟩)
end
end Kd

end T_KD13
section T_KD14
set_option maxRecDepth 100000
set_option maxHeartbeats 1000000
/-! KD14: lists times ints. -/
namespace Kd
open PySem PySem.Spec PyProof.Rows L2
section
variable {X : Cx} {io : List Nat} {B : Bs io} {own : List Nat} {a b : Expr} {pos : Pos} {ma mb : EM}
def fRepL : PyData → PyData → Option PyData
  | .list xs, .int k => iff' (decide (-(2 ^ 63) ≤ k ∧ k < 2 ^ 63 ∧ xs.length * k.toNat ≤ sizeLine)) (.list (List.replicate k.toNat xs).flatten)
  | _, _ => none
theorem rps_rep {K : PySem.W.Frag} {F : Addr → Prop} {H : Hp} {vs : List V} {ds : List PyData} (h : Rps K F H vs ds) : ∀ k : Nat, Rps K F H (List.replicate k vs).flatten (List.replicate k ds).flatten
  | 0 => .nil
  | k + 1 => by rw [List.replicate_succ, List.replicate_succ, List.flatten_cons, List.flatten_cons]; exact h.append (rps_rep h k)
theorem do_repL (ha : Do X B own a ma) (hb : De X B own b mb) : Do X B own (.BinOp a .Mult b pos) (m2 fRepL ma mb) :=
  pe_imp (pe_op op_rep ha hb) fun σ H Q ⟨ρ, F, re, w⟩ => ⟨ρ, F, re, w.bind fun x w0 a0 H1 F1 re1 mo1 nF hH h0 hn hv => by
    obtain ⟨re2, mo2⟩ := re1.addF hv.there hn h0
    have mn2 : Mn X.K F H (fun b => F1 b ∨ b = a0) H1 := ⟨mo1.toMono.trans mo2, fun b hb => by
      rcases hb with hb | rfl
      · exact mo1.new b hb
      · exact .inr hH, mo1.keep⟩
    refine ⟨x.1, _, re2, thE (w0.mono mn2) fun ρ3 d3 v3 H3 F3 re3 mo3 rp3 w3 => ?_⟩
    obtain ⟨z, hz, w4⟩ := Wa.opt w3
    obtain ⟨x1, x2⟩ := x
    cases hv with
    | dK _ _ => cases hz
    | dT _ _ => cases hz
    | lst q hs =>
      cases rp3 <;> first | (cases hz; done) | skip
      obtain ⟨h1, rfl⟩ := iff_some hz
      obtain ⟨g1, g2, g3⟩ := of_decide_eq_true h1
      exact ⟨_, _, _, rfl, rfl, mo3.ex _ _ (.inr rfl) q, g1, g2, by rw [hs.length]; exact g3, fun p np => kO_new w4 re3 np (rps_rep (hs.mono (mo2.trans mo3.toMono)) _)⟩⟩
end
end Kd

end T_KD14
section T_KD15
set_option maxRecDepth 100000
set_option maxHeartbeats 1000000
/-! KD15: order of data: comparisons, sorted, min, max, count. -/
namespace Kd
open PySem PySem.Spec PyProof.Rows L2

/-! ### comparisons -/
theorem u64 {k : Nat} {A : Around} (hr : Room k A) : A.units + 64 < cLine := by have := hr.un; omega
def ordB (d e : PyData) : Bool := d.canLay0 && (e.canLay0 && (PySem.W.alike d e && (!isNonD d && decide (d.depth ≤ 60))))
theorem ordB_l {d e : PyData} (h : ordB d e = true) : d.canLay0 = true ∧ e.canLay0 = true ∧ PySem.W.alike d e = true ∧ d ≠ .none ∧ d.depth ≤ 60 := by
  simp only [ordB, Bool.and_eq_true, Bool.not_eq_true', decide_eq_true_eq] at h
  obtain ⟨h1, h2, h3, h4, h5⟩ := h
  exact ⟨h1, h2, h3, fun z => (by subst z; cases h4), h5⟩
def rOrd (K : PySem.W.Frag) (f : PyData → PyData → Bool) : R2 := fun x y H Q => ∃ d e, Dp K H x d ∧ Dp K H y e ∧ PySem.W.alike d e = true ∧ d ≠ .none ∧ d.depth ≤ 60 ∧ Q (.bl (f d e)) H
section
variable {X : Cx}
theorem op_ltD (hu : X.A.units + 64 < cLine) : OpR X (compareOp .Lt) (rOrd X.K PySem.W.dataLt) := by
  intro pins s σ H x y v u Q I rx ry h
  obtain ⟨d, e, hd, he, al, hn, dp, q⟩ := h
  obtain ⟨as, r1⟩ := Dp.reads I d x v hd rx
  obtain ⟨bs, r2⟩ := Dp.reads I e y u he ry
  exact PySem.W.lt_data r1 r2 al hn (by omega) ⟨.bl _, H, I, rfl, q⟩
theorem op_gtD (hu : X.A.units + 64 < cLine) : OpR X (compareOp .Gt) (rOrd X.K fun d e => PySem.W.dataLt e d) := by
  intro pins s σ H x y v u Q I rx ry h
  obtain ⟨d, e, hd, he, al, hn, dp, q⟩ := h
  obtain ⟨as, r1⟩ := Dp.reads I d x v hd rx
  obtain ⟨bs, r2⟩ := Dp.reads I e y u he ry
  exact PySem.W.gt_data r1 r2 al hn (by omega) ⟨.bl _, H, I, rfl, q⟩
theorem op_leD (hu : X.A.units + 64 < cLine) : OpR X (compareOp .LtE) (rOrd X.K fun d e => !PySem.W.dataLt e d) := by
  intro pins s σ H x y v u Q I rx ry h
  obtain ⟨d, e, hd, he, al, hn, dp, q⟩ := h
  obtain ⟨as, r1⟩ := Dp.reads I d x v hd rx
  obtain ⟨bs, r2⟩ := Dp.reads I e y u he ry
  exact PySem.W.le_data r1 r2 al hn (by omega) ⟨.bl _, H, I, rfl, q⟩
theorem op_geD (hu : X.A.units + 64 < cLine) : OpR X (compareOp .GtE) (rOrd X.K fun d e => !PySem.W.dataLt d e) := by
  intro pins s σ H x y v u Q I rx ry h
  obtain ⟨d, e, hd, he, al, hn, dp, q⟩ := h
  obtain ⟨as, r1⟩ := Dp.reads I d x v hd rx
  obtain ⟨bs, r2⟩ := Dp.reads I e y u he ry
  exact PySem.W.ge_data r1 r2 al hn (by omega) ⟨.bl _, H, I, rfl, q⟩
end
def fOrd (f : PyData → PyData → Bool) (d e : PyData) : Option PyData := iff' (ordB d e) (.bool (f d e))
def fLtD := fOrd PySem.W.dataLt
def fGtD := fOrd fun d e => PySem.W.dataLt e d
def fLeD := fOrd fun d e => !PySem.W.dataLt e d
def fGeD := fOrd fun d e => !PySem.W.dataLt d e
theorem opd_ord {K : PySem.W.Frag} (f : PyData → PyData → Bool) : OpD K (rOrd K f) (fOrd f) := fun F H x y d e z Q dom rx ry hz k => by
  obtain ⟨h, rfl⟩ := iff_some hz
  obtain ⟨h1, h2, h3, h4, h5⟩ := ordB_l h
  exact ⟨d, e, rx.dp h1, ry.dp h2, h3, h4, h5, k _ H F (Grow.refl dom) (.bl _)⟩
theorem opd_ltD {K : PySem.W.Frag} : OpD K (rOrd K PySem.W.dataLt) fLtD := opd_ord _
theorem opd_gtD {K : PySem.W.Frag} : OpD K (rOrd K fun d e => PySem.W.dataLt e d) fGtD := opd_ord _
theorem opd_leD {K : PySem.W.Frag} : OpD K (rOrd K fun d e => !PySem.W.dataLt e d) fLeD := opd_ord _
theorem opd_geD {K : PySem.W.Frag} : OpD K (rOrd K fun d e => !PySem.W.dataLt d e) fGeD := opd_ord _

/-! ### sorted -/
/-- all alike, all tuples with items or none a tuple or None, none deep -/
def srtB (ds : List PyData) : Bool := PyData.canLayAll0 ds && ((ds.all fun d => ds.all fun e => PySem.W.alike d e) && ((ds.all fun d => match d with
  | .tuple (_ :: _) => true
  | _ => false) || (ds.all fun d => match d with
  | .tuple _ => false
  | .none => false
  | _ => true)) && decide (PyData.depthAll ds ≤ 60))
theorem depAll_mem {ds : List PyData} : ∀ d ∈ ds, d.depth ≤ PyData.depthAll ds := by
  induction ds with
  | nil => intro d h; cases h
  | cons x r ih =>
    intro d h
    simp only [PyData.depthAll]
    rcases List.mem_cons.mp h with rfl | h
    · omega
    · have := ih d h; omega
theorem srtB_l {ds : List PyData} (h : srtB ds = true) : PyData.canLayAll0 ds = true ∧ PySem.W.AllAlike ds ∧ PySem.W.Sortable ds ∧ ∀ d ∈ ds, d.depth ≤ 60 := by
  simp only [srtB, Bool.and_eq_true, Bool.or_eq_true, List.all_eq_true, decide_eq_true_eq] at h
  obtain ⟨h1, ⟨h2, h3⟩, h4⟩ := h
  refine ⟨h1, h2, ?_, fun d hd => Nat.le_trans (depAll_mem d hd) h4⟩
  rcases h3 with h3 | h3
  · refine .inl fun d hd => ?_
    have := h3 d hd
    split at this
    · exact ⟨_, _, rfl⟩
    · cases this
  · refine .inr fun d hd => ?_
    have := h3 d hd
    split at this
    · cases this
    · cases this
    · rename_i n1 n2
      exact ⟨fun z => n2 z, fun xs z => n1 xs z⟩
def leD (d e : PyData) : Bool := PySem.W.dataLe false (fun d : PyData => d) d e
/-- sorted, stable -/
def srtD (ds : List PyData) : List PyData := ds.mergeSort leD
theorem dpAll_mem {K : PySem.W.Frag} {H : Hp} : ∀ {vs : List V} {ds : List PyData}, DpAll K H vs ds → ∀ z ∈ vs.zip ds, Dp K H z.1 z.2
  | _, _, .nil, z, h => by simp at h
  | _, _, .cons r t, z, h => by
    rw [List.zip_cons_cons] at h
    rcases List.mem_cons.mp h with rfl | h
    · exact r
    · exact dpAll_mem t z h
def rSrtD (K : PySem.W.Frag) : List V → Hp → VK → Prop := fun vs H Q => ∃ (a : Addr) (xs : List V) (ds : List PyData), vs = [.ref a] ∧ SqL K H a xs ∧ DpAll K H xs ds ∧ srtB ds = true ∧
  ∀ p, H p = none → Q (.ref p) (upd H p (.lst (((xs.zip ds).mergeSort (PySem.W.dataLe false Prod.snd)).map Prod.fst)))
theorem dpAll_len {K : PySem.W.Frag} {H : Hp} : ∀ {vs : List V} {ds : List PyData}, DpAll K H vs ds → vs.length = ds.length
  | _, _, .nil => rfl
  | _, _, .cons _ t => congrArg (· + 1) (dpAll_len t)
theorem each_rel : ∀ {xs : List V} {its : List Value}, Vals xs its → ∀ {ds : List PyData}, xs.length = ds.length → PySem.W.EachIs (fun (u : Value) (b : V × PyData) => RelV b.1 u) its (xs.zip ds)
  | _, _, .nil, ds, _ => by rw [List.zip_nil_left]; exact .nil
  | _, _, .cons r t, [], h => by cases h
  | _, _, .cons r t, d :: ds, h => by
    rw [List.zip_cons_cons]
    exact .cons r (each_rel t (by simpa using h))
theorem each_snd {P : Value → PyData → Prop} : ∀ {its : List Value} {ds : List PyData}, PySem.W.EachIs P its ds → ∀ {xs : List V}, xs.length = ds.length → PySem.W.EachIs (fun v (b : V × PyData) => P v b.2) its (xs.zip ds)
  | _, _, .nil, xs, _ => by rw [List.zip_nil_right]; exact .nil
  | _, _, .cons _ _, [], h => by cases h
  | _, _, .cons r t, x :: xs, h => by
    rw [List.zip_cons_cons]
    exact .cons r (each_snd t (by simpa using h))
theorem vals_each : ∀ {its : List Value} {bs : List (V × PyData)}, PySem.W.EachIs (fun (u : Value) (b : V × PyData) => RelV b.1 u) its bs → Vals (bs.map Prod.fst) its
  | _, _, .nil => .nil
  | _, _, .cons r t => .cons r (vals_each t)
theorem call_srtD {X : Cx} (hu : X.A.units + 64 < cLine) : CallR X (.builtin "sorted") (rSrtD X.K) := by
  intro pins s σ H vs us Q I r h
  obtain ⟨a, xs, ds, rfl, hs, hd, hb, q⟩ := h
  obtain ⟨h1, h2, h3, h4⟩ := srtB_l hb
  obtain ⟨its, rv, hl, hz⟩ := I.list hs
  rw [Vals.ref1 r]
  have hlen := rv.length
  have ld := dpAll_len hd
  have reads : PySem.W.EachIs (fun (v : Value) (d : PyData) => ∃ as, Reads s.heap v d as) its ds := by
    clear q hb h1 h2 h3 h4 hs hl hz
    induction rv generalizing ds with
    | nil => cases hd; exact .nil
    | cons r1 t ih =>
      cases hd with
      | cons d1 t1 => exact .cons (Dp.reads I _ _ _ d1 r1) (ih _ t1 (by simpa using t.length) (by simpa using ld))
  have hr : (s.heap.objs.size + 1) = s.heap.objs.size + 1 := rfl
  have reads' : PySem.W.EachIs (fun (v : Value) (d : PyData) => ∃ as, Reads (PySem.W.sortingHeap (PySem.W.copyHeap s.heap its) (s.heap.objs.size + 1) its) v d as) its ds :=
    PySem.W.EachIs.mono (fun v d ⟨as, z⟩ => ⟨as, Reads.keeps (fun b o e => PySem.W.sorting_copy_old e) z⟩) reads
  refine PySem.W.sorted_vals hl.isList (PySem.W.SortsAt.data reads' h2 h3 fun d hm => ?_) (by rw [← hlen]; omega) ?_
  · have := h4 d hm
    show X.A.units + 1 + 1 + _ < _
    omega
  · have er := each_rel rv (ds := ds) ld
    have ek : PySem.W.EachIs (fun (v : Value) (b : V × PyData) => (PySem.W.dataKind (PySem.W.sortingHeap (PySem.W.copyHeap s.heap its) (s.heap.objs.size + 1) its) ds).keyOf v = some (PySem.W.keyToks b.2)) its (xs.zip ds) := each_snd (PySem.W.each_keys h2 reads') ld
    have eo := PySem.W.sortVals_each (κ := PySem.W.dataKind (PySem.W.sortingHeap (PySem.W.copyHeap s.heap its) (s.heap.objs.size + 1) its) ds) (rev := false) (fun b : V × PyData => PySem.W.keyToks b.2) er ek
    have vo := vals_each eo
    obtain ⟨ep, he'⟩ := PyProof.Rows.sortedAll_at s.heap its (PySem.W.sortVals (PySem.W.dataKind (PySem.W.sortingHeap (PySem.W.copyHeap s.heap its) (s.heap.objs.size + 1) its) ds) false its its).toArray
    refine ⟨.ref _, _, I.laid (o := HO.lst (((xs.zip ds).mergeSort (PySem.W.dataLe false Prod.snd)).map Prod.fst)) (t' := s.toks) (fun _ _ => PyProof.Rows.sortedAll_old) (Nat.le_succ _) ⟨?_, _, ep, vo, he'⟩, rfl, q _ (I.hok.fresh (Nat.le_succ _))⟩
    rw [List.length_map, (List.mergeSort_perm _ _).length_eq, List.length_zip]
    omega
theorem rps_dp {K : PySem.W.Frag} {F : Addr → Prop} {H : Hp} {vs : List V} {ds : List PyData} (h : Rps K F H vs ds) (hl : PyData.canLayAll0 ds = true) : DpAll K H vs ds := Rps.dp h hl
theorem rps_zip {K : PySem.W.Frag} {F : Addr → Prop} {H : Hp} : ∀ {vs : List V} {ds : List PyData}, Rps K F H vs ds → ∀ z ∈ vs.zip ds, Rp K F H z.1 z.2
  | _, _, .nil, z, h => by simp at h
  | _, _, .cons r t, z, h => by
    rw [List.zip_cons_cons] at h
    rcases List.mem_cons.mp h with rfl | h
    · exact r
    · exact rps_zip t z h
theorem rps_of {K : PySem.W.Frag} {F : Addr → Prop} {H : Hp} : ∀ {bs : List (V × PyData)}, (∀ z ∈ bs, Rp K F H z.1 z.2) → Rps K F H (bs.map Prod.fst) (bs.map Prod.snd)
  | [], _ => .nil
  | z :: bs, h => .cons (h z List.mem_cons_self) (rps_of fun y hy => h y (List.mem_cons_of_mem _ hy))
theorem srt_zip {vs : List V} {ds : List PyData} (h : vs.length = ds.length) : ((vs.zip ds).mergeSort (PySem.W.dataLe false Prod.snd)).map Prod.snd = srtD ds := by
  have e := PySem.W.sort_maps (r := PySem.W.dataLe false Prod.snd) (s := leD) (Prod.snd : V × PyData → PyData) (l := vs.zip ds) fun a _ b _ => rfl
  rw [e, List.map_snd_zip (by omega)]
  rfl
def fSrtD : PyData → Option PyData
  | .list ds => iff' (srtB ds) (.list (srtD ds))
  | _ => none
section
variable {X : Cx} {io : List Nat} {B : Bs io} {own : List Nat} {a b : Expr} {pos p : Pos} {ma mb : EM}
theorem do_srt (hu : X.A.units + 64 < cLine) (hm : X.mg "sorted" = none) (ha : De X B own a ma) (hg : Gl X "sorted" := by rfl) (hv : bootBuiltins "sorted" = some (.builtin "sorted") := by decide +kernel) (hs : starEach [a] X.env = (false, eval a X.env) :: starEach [] X.env := by rfl) (hpl : (backTo pos (starEach [] X.env)).any (·.1) = false := by rfl) :
    Do X B own (.Call (.Name "sorted" p) [a] [] pos) (m1 fSrtD ma) :=
  pe_imp (pe_callB (call_srtD hu) hg hm hv (pa_cons ha pa_nil hs) (by decide) (by decide) hs hpl) fun σ H Q ⟨ρ, F, re, w⟩ => ⟨ρ, F, re, thE w fun ρ1 d1 v1 H1 F1 re1 mo1 rp1 w1 => by
    obtain ⟨z, hz, w3⟩ := Wa.opt w1
    cases rp1 <;> first | (cases hz; done) | skip
    rename_i hl hs
    obtain ⟨h1, rfl⟩ := iff_some hz
    refine ⟨_, _, _, rfl, hl.sq, rps_dp hs (srtB_l h1).1, h1, fun p np => ?_⟩
    have hr := rps_of (bs := ((_ : List V).zip _).mergeSort (PySem.W.dataLe false Prod.snd)) fun z hz => rps_zip hs z ((List.mergeSort_perm _ _).mem_iff.mp hz)
    rw [srt_zip hs.length] at hr
    exact kO_new w3 re1 np hr⟩
/-- a method of a frozen list -/
def mMl (f : List PyData → List PyData → Option PyData) (ma : EM) (mb : List EM) : EM := fun ρ => (ma ρ).bind fun x => Rs.opt (asL x.2) fun ds => (mArgs mb x.1).bind fun y => Rs.opt (f ds y.2) fun z => .ok (y.1, z)
def fCntI (ds : List PyData) : List PyData → Option PyData
  | [.int k] => (intsD ds).map fun ns => .int (ns.count k : Nat)
  | _ => none
/-- r serves f on a frozen list -/
def MlD (K : PySem.W.Frag) (r : V → List V → Hp → VK → Prop) (f : List PyData → List PyData → Option PyData) : Prop :=
  ∀ (F : Addr → Prop) (H : Hp) (a : Addr) (xs ws : List V) (ds as : List PyData) (z : PyData) (Q : VK), (∀ a, F a → H a ≠ none) → SqL K H a xs → Rps K F H xs ds → Rps K F H ws as → f ds as = some z →
  (∀ v H' F', Grow F H F' H' → Rp K F' H' v z → Q v H') → r (.ref a) ws H Q
theorem de_ml {name : Str} {id : String} {r : V → List V → Hp → VK → Prop} {f : List PyData → List PyData → Option PyData} {ms : List EM} {apos : Pos} (slot : Slot "list" name id) (hty : typeOf (.builtin id) = pure (.type "method_descriptor")) (hr : MtR X id r) (hf : MlD X.K r f) (ho : De X B own a ma) (ha : Da X B own (e :: es) ms)
    (hbase : attributeBase a name X.env (eval a X.env) = eval a X.env := by rfl)
    (hfew : ((backTo pos (starEach (e :: es) X.env)).all (fun x => !x.1) && (backToKw pos (keywordEach [] X.env)).all (fun x => x.1.isSome) && decide ((e :: es).length + ([] : List Keyword).length + (if ([] : List Keyword).isEmpty then 0 else 1) < 30)) = true := by rfl)
    (hline : (apos.endLine == pos.line) = true := by rfl) (hs : starEach (e :: es) X.env = (false, eval e X.env) :: starEach es X.env := by rfl) (hpl : (backTo pos (starEach es X.env)).any (·.1) = false := by rfl) : De X B own (.Call (.Attribute a name apos) (e :: es) [] pos) (mMl f ma ms) :=
  pe_imp (pe_bm PySem.F.plainAttrs_list slot hty hr ho ha (hbase := hbase) (hfew := hfew) (hline := hline) (hs := hs) (hplain := hpl)) fun σ H Q ⟨ρ, F, re, w⟩ => ⟨ρ, F, re, thE w fun ρ1 d1 v1 H1 F1 re1 mo1 rp1 w1 => by
    obtain ⟨ds, hz, w2⟩ := Wa.opt w1
    cases rp1 <;> first | (cases hz; done) | skip
    rename_i hl hs
    cases hz
    refine ⟨.inl ⟨rfl, _, hl.sq⟩, ρ1, F1, re1, thA w2 fun ρ2 as ws H2 F2 re2 mo2 rps w3 => ?_⟩
    obtain ⟨z, h1, w4⟩ := Wa.opt w3
    refine hf F2 H2 _ _ ws ds as z Q re2.dom (by first | exact (hl.mono mo2.toMono).sq | exact (hl.imp (fun x => mo2.toMono.rd _ _ x.1 x.2) fun z => z : SqL _ _ _ _)) (hs.mono mo2.toMono) rps h1 fun v H' F' g rp => ?_
    exact w4 v H' F' (re2.grow g) g.mn rp⟩
theorem mld_cntI {K : PySem.W.Frag} : MlD K (rCntI K) fCntI := fun F H a xs ws ds as z Q dom sq r1 r2 hz k => by
  cases r2 with
  | nil => cases hz
  | cons rp r3 =>
    cases r3 with
    | cons _ _ => simp [fCntI] at hz
    | nil =>
      cases rp <;> first | (cases hz; done) | skip
      obtain ⟨ns, h1, rfl⟩ := Option.map_eq_some_iff.mp hz
      have ev := rps_intsD r1 h1
      subst ev
      exact ⟨_, _, _, rfl, rfl, sq, k _ H F (Grow.refl dom) (.int _)⟩
end
end Kd

end T_KD15
section T_KD16
set_option maxRecDepth 100000
set_option maxHeartbeats 1000000
/-! KD16: a list of new lists that one slot holds alone: read, then changed in depth. -/
namespace Kd
open PySem PySem.Spec PyProof.Rows L2

theorem pt_ex {X : Cx} {β : Type} {e : Expr} {t : β → TT} (h : ∀ b, PT X e (t b)) : PT X e (fun σ H Q => ∃ b, t b σ H Q) := ⟨fun pins s σ H Q I ⟨b, q⟩ => (h b).run pins s σ H Q I q⟩

/-! ### return a if c else v, v a list that a slot owns -/
def sRtIf (i : Nat) (t : TM) (m : EM) : SM := fun ρ => (t ρ).bind fun x => if x.2 then sRt m x.1 else sRtV i x.1
section
variable {X : Cx} {io : List Nat} {B : Bs io} {own : List Nat} {ow : Ow} {c e : Expr} {m : EM} {t : TM} {pos p : Pos}
theorem rtO_of (hfr : B.fr = true) (hio : ∀ i ∈ io, i ∈ own) : ∀ D σ H, tS X.K B own ow (sRt m) D σ H → tDO X.K B own m σ H D.rt :=
  fun D σ H ⟨ρ, F, re, w⟩ => ⟨ρ, F, re, w.bind fun y wy a H1 F1 re1 mo1 nF _ h0 hn hv => by
    obtain ⟨F2, re2, mo2, hF2⟩ := re1.freeze' hio (fun i h => h)
    have w1 : Wa B (kS X.K B ow D) F1 H1 (.ok (.rt y.1 y.2)) := wy.mono mo1
    refine w1 _ σ H1 F2 re2 mo2 ?_
    unfold RetR
    rw [hfr]
    refine ⟨a, rfl, fun z => ?_, h0, hv.mono mo2 rfl⟩
    rcases hF2 a z with q | ⟨i, hi, q, _⟩
    · exact nF q
    · exact hn i hi q⟩
theorem rtV_of {i : Nat} (hfr : B.fr = true) (hi : i ∈ own) (hni : i ∉ io) (hio : ∀ i ∈ io, i ∈ own) : ∀ D σ H, tS X.K B own ow (sRtV i) D σ H → tVar i σ H D.rt := fun D σ H ⟨ρ, F, re, w⟩ => by
    obtain ⟨d, hg, w2⟩ := Wa.opt w
    obtain ⟨a, e1, nF, h0, ov⟩ := re.ow i d hi (gt_ok hg)
    refine ⟨_, e1, ?_⟩
    have e0 : ∀ j ∈ own, (σ.set i none)[j]? ≠ some (some (V.ref a)) := fun j hj q => by
      by_cases hji : j = i
      · subst hji
        rw [List.getElem?_set_self (List.getElem?_eq_some_iff.mp e1).1] at q; cases q
      · rw [List.getElem?_set_ne (Ne.symm hji)] at q
        cases ej : ρ[j]? with
        | none =>
          have h1 := List.getElem?_eq_none_iff.mp ej
          have h2 := (List.getElem?_eq_some_iff.mp q).1
          rw [← re.len] at h2; omega
        | some o => cases o with
          | none => rw [re.un j ej] at q; cases q
          | some dj => exact re.ne i j d dj hi hj (fun z => hji z.symm) (gt_ok hg) ej (e1.trans q.symm)
    obtain ⟨F2, re2, mo2, hF2⟩ := (re.forget hni).freeze' hio (fun i h => h)
    refine w2 _ _ H F2 re2 mo2 ?_
    unfold RetR
    rw [hfr]
    refine ⟨a, rfl, fun z => ?_, ?_, ov.mono mo2 rfl⟩
    · rcases hF2 a z with q | ⟨j, hj, q, hnj⟩
      · exact nF q
      · exact e0 j hj q
    · rcases h0 with h0 | h0
      · exact h0
      · obtain ⟨p, hp, rfl⟩ := List.mem_map.mp h0
        obtain ⟨q1, q2, dp, q3⟩ := re.io p hp
        have hpi : p.1 ≠ i := fun z => hni (by rw [← B.hio, ← z]; exact List.mem_map.mpr ⟨p, hp, rfl⟩)
        exact absurd (q1.trans e1.symm) (re.ne p.1 i dp d q2 hi hpi q3 (gt_ok hg))
theorem ds_retIf {x : Str} {p1 : Pos} (i : Nat) (hfr : B.fr = true) (hc : Dt X B own c t) (he : Do X B own e m) (hi : i ∈ own := by decide) (hni : i ∉ io := by decide) (hio : ∀ j ∈ io, j ∈ own := by decide) (hN : X.N[i]? = some x := by rfl) (hv : Vis X.env.scope x := by first | exact Or.inl rfl | exact Or.inr (Or.inl rfl) | exact Or.inr (Or.inr rfl))
    (hd : (x == ("__debug__" : Str)) = false := by decide) (hcd : (x == ("__classdict__" : Str)) = false := by decide) : Ds X B own ow (.Return (some (.IfExp c e (.Name x p) p1)) pos) (sRtIf i t m) :=
  ps_imp (ps_ret (pe_ifExp hc he (pe_var hN hv hd hcd))) fun D σ H ⟨ρ, F, re, w⟩ => ⟨ρ, F, re, thT w fun ρ1 c1 H1 F1 re1 mo1 w1 => by
    cases c1 with
    | true => exact rtO_of hfr hio D σ H1 ⟨ρ1, F1, re1, w1⟩
    | false => exact rtV_of hfr hi hni hio D σ H1 ⟨ρ1, F1, re1, w1⟩⟩
end

/-! ### new lists -/
inductive Dms (K : PySem.W.Frag) (F : Addr → Prop) (H : Hp) : List Addr → List (List PyData) → Prop
  | nil : Dms K F H [] []
  | cons {a : Addr} {vs : List V} {ds : List PyData} {as : List Addr} {dss : List (List PyData)} : H a = some (HO.lst vs) → Rps K F H vs ds → Dms K F H as dss → Dms K F H (a :: as) (ds :: dss)
section
variable {K : PySem.W.Frag} {F F' : Addr → Prop} {H H' : Hp}
theorem Dms.keep (m : Mono K F H F' H') : ∀ {as : List Addr} {dss : List (List PyData)}, Dms K F H as dss → (∀ a ∈ as, ∀ o, H a = some o → H' a = some o) → Dms K F' H' as dss
  | _, _, .nil, _ => .nil
  | _, _, .cons h r t, e => .cons (e _ List.mem_cons_self _ h) (r.mono m) (t.keep m fun a ha => e a (List.mem_cons_of_mem _ ha))
theorem Dms.there : ∀ {as : List Addr} {dss : List (List PyData)}, Dms K F H as dss → ∀ a ∈ as, ∃ vs, H a = some (HO.lst vs)
  | _, _, .nil, a, h => by cases h
  | _, _, .cons h r t, a, ha => by
    rcases List.mem_cons.mp ha with rfl | ha
    · exact ⟨_, h⟩
    · exact t.there a ha
theorem Dms.rps (m : Mono K F H F' H') : ∀ {as : List Addr} {dss : List (List PyData)}, Dms K F H as dss → (∀ a ∈ as, F' a ∧ ∀ o, H a = some o → H' a = some o) → Rps K F' H' (as.map V.ref) (dss.map .list)
  | _, _, .nil, _ => .nil
  | _, _, .cons h r t, e => .cons (.lst (.inl ⟨(e _ List.mem_cons_self).1, .inl ((e _ List.mem_cons_self).2 _ h)⟩) (r.mono m)) (t.rps m fun a ha => e a (List.mem_cons_of_mem _ ha))
theorem Dms.len : ∀ {as : List Addr} {dss : List (List PyData)}, Dms K F H as dss → as.length = dss.length
  | _, _, .nil => rfl
  | _, _, .cons _ _ t => congrArg (· + 1) t.len
theorem Dms.get : ∀ {as : List Addr} {dss : List (List PyData)} {k : Nat} {a : Addr}, Dms K F H as dss → as[k]? = some a → ∃ ds vs, dss[k]? = some ds ∧ H a = some (HO.lst vs) ∧ Rps K F H vs ds
  | _, _, _, _, .nil, e => by simp at e
  | _, _, 0, _, .cons h r t, e => by simp at e; subst e; exact ⟨_, _, rfl, h, r⟩
  | _, _, k + 1, _, .cons h r t, e => by
    obtain ⟨ds, vs, q⟩ := t.get (k := k) (by simpa using e)
    exact ⟨ds, vs, by simpa using q⟩
end
def tDAO (K : PySem.W.Frag) (mg : Str → Option Value) (ms : List EM) : TA := fun σ H Q => ∃ (ρ : Ev) (F : Addr → Prop) (B : Bs []), RE K B [] F ρ σ H ∧ B.mg = mg ∧ ∃ (ρ' : Ev) (dss : List (List PyData)), mArgs ms ρ = .ok (ρ', dss.map .list) ∧
  ∀ as H' F', RE K B [] F' ρ' σ H' → Mn K F H F' H' → (∀ b o, H b = some o → H' b = some o) → Dms K F' H' as dss → (∀ a ∈ as, ¬ F' a ∧ H a = none) → as.Nodup → Q (as.map V.ref) H'
abbrev DaO (X : Cx) (es : List Expr) (ms : List EM) : Prop := PA X es (tDAO X.K X.mg ms)
theorem dao_nil {X : Cx} : DaO X [] [] := pa_imp pa_nil fun σ H Q ⟨ρ, F, B, re, hm, ρ', dss, e, k⟩ => by
  cases dss with
  | cons d r => cases e
  | nil =>
    cases e
    exact k [] H F re Mn.refl (fun _ _ h => h) .nil (fun a h => by cases h) List.nodup_nil
theorem dao_cons {X : Cx} {e : Expr} {es : List Expr} {m : EM} {ms : List EM} (ha : ∀ B : Bs [], (B.W = fun _ _ _ _ => False) → B.mg = X.mg → Do X B [] e m) (hr : DaO X es ms) (hs : starEach (e :: es) X.env = (false, eval e X.env) :: starEach es X.env := by rfl) : DaO X (e :: es) (m :: ms) :=
  pa_imp (pa_cons (pe_ex (t := fun b : Bq [] X.mg => tDO X.K b.1 [] m) fun b => ha b.1 b.2.1 b.2.2) hr hs) fun σ H Q ⟨ρ, F, B, re, hm, ρ', dss, e, k⟩ => by
    obtain ⟨x, hx, e1⟩ := Rs.bind_ok e
    obtain ⟨y, hy, e2⟩ := Rs.bind_ok e1
    obtain ⟨y1, y2⟩ := y
    cases dss with
    | nil => cases e2
    | cons ds dss =>
      simp only [List.map_cons, Rs.ok.injEq, Prod.mk.injEq, List.cons.injEq] at e2
      obtain ⟨rfl, q1, q2⟩ := e2
      subst q2
      obtain ⟨B1, re1, hB0, hA, back, hW, hmg1⟩ := re.rebase (fun j hj => by cases hj)
      refine ⟨⟨B1, hW, hmg1.trans hm⟩, ρ, F, re1, ?_⟩
      rw [hx]
      intro a H1 F1 re2 mo nF hH h0 hn hv
      rw [q1] at hv
      cases hv with
      | lst q r =>
        refine ⟨x.1, F1, B, back re2, hm, y1, dss, hy, fun as H' F' re3 mo3 pres3 dms nn nd => k (a :: as) H' F' re3 (mo.trans mo3) (fun b o hb => pres3 b o (re2.old b o (by rw [hB0]; exact hb) fun z => ?_)) (.cons (pres3 _ _ q) (r.mono mo3.toMono) dms) (fun a' ha' => ?_) ?_⟩
        · obtain ⟨j, hj, _⟩ := hA b z
          cases hj
        · rcases List.mem_cons.mp ha' with rfl | ha'
          · refine ⟨fun z => ?_, hH⟩
            rcases mo3.new a' z with z | z
            · exact nF z
            · rw [q] at z; cases z
          · obtain ⟨z1, z2⟩ := nn a' ha'
            refine ⟨z1, ?_⟩
            cases hq : H a' with
            | none => rfl
            | some o =>
              have := re2.old a' o (by rw [hB0]; exact hq) fun z => by
                obtain ⟨j, hj, _⟩ := hA a' z
                cases hj
              rw [this] at z2; cases z2
        · refine List.nodup_cons.mpr ⟨fun z => ?_, nd⟩
          have := (nn a z).2
          rw [q] at this; cases this

/-! ### the scope -/
structure Doom (K : PySem.W.Frag) (B : Bs []) (i : Nat) (F : Addr → Prop) (ρ : Ev) (σ0 : Sl) (Hs : Hp) (a0 : Addr) (as : List Addr) (dss : List (List PyData)) (σ : Sl) (H : Hp) : Prop where
  re : RE K B [] F ρ σ0 Hs
  il : i < ρ.length
  h0 : Hs a0 = some (HO.lst (as.map V.ref))
  dm : Dms K F Hs as dss
  nF : ∀ a ∈ a0 :: as, ¬ F a ∧ B.H0 a = none
  nd : (a0 :: as).Nodup
  pres : ∀ b o, Hs b = some o → H b = some o
  sg : σ = σ0.set i (some (V.ref a0))
section
variable {K : PySem.W.Frag} {B : Bs []} {i : Nat} {F : Addr → Prop} {ρ : Ev} {σ0 σ : Sl} {Hs H H' : Hp} {a0 : Addr} {as : List Addr} {dss : List (List PyData)}
theorem io_nil (re : RE K B [] F ρ σ0 Hs) : ∀ p, p ∉ B.IO := fun p hp => by
  have := (re.io p hp).2.1
  cases this
theorem mono_pres {F F' : Addr → Prop} (sub : ∀ a, F a → F' a) (pres : ∀ b o, Hs b = some o → H b = some o) : Mono K F Hs F' H :=
  ⟨sub, fun a o _ h => pres a o h, fun a xs h => pres a _ h⟩
theorem Doom.view (d : Doom K B i F ρ σ0 Hs a0 as dss σ H) : RE K B [] (fun a => F a ∨ a ∈ a0 :: as) (ρ.set i (some (.list (dss.map .list)))) σ H ∧ Mono K F Hs (fun a => F a ∨ a ∈ a0 :: as) H := by
  have mo : Mono K F Hs (fun a => F a ∨ a ∈ a0 :: as) H := mono_pres (fun _ h => .inl h) d.pres
  have re := d.re
  have sg := d.sg
  subst sg
  have hl : i < σ0.length := by rw [← re.len]; exact d.il
  refine ⟨⟨by simp [re.len], fun j e hj q => ?_, fun j e hj q => (by cases hj), fun j k e f hj hk hn q1 q2 => (by cases hj), fun a h => ?_, fun b o h hA => d.pres b o (re.old b o h hA), fun a h => .inl (re.fold a h), fun a h => ?_, fun p hp => absurd hp (io_nil re p), re.unSet⟩, mo⟩
  · by_cases hji : j = i
    · subst hji
      rw [List.getElem?_set_self d.il] at q
      cases q
      refine ⟨_, by rw [List.getElem?_set_self hl], .lst (.inl ⟨.inr List.mem_cons_self, .inl (d.pres _ _ d.h0)⟩) (d.dm.rps mo fun a ha => ⟨.inr (List.mem_cons_of_mem _ ha), d.pres a⟩)⟩
    · rw [List.getElem?_set_ne (Ne.symm hji)] at q ⊢
      obtain ⟨v, h1, h2⟩ := re.fz j e (fun z => by cases z) q
      exact ⟨v, h1, h2.mono mo⟩
  · rcases h with h | h
    · intro z
      cases hq : Hs a with
      | none => exact re.dom a h hq
      | some o => rw [d.pres a o hq] at z; cases z
    · rcases List.mem_cons.mp h with rfl | h
      · rw [d.pres _ _ d.h0]; simp
      · obtain ⟨vs, hv⟩ := d.dm.there a h
        rw [d.pres _ _ hv]; simp
  · rcases h with h | h
    · exact re.fnew a h
    · exact .inr (d.nF a h).2
theorem Doom.step (d : Doom K B i F ρ σ0 Hs a0 as dss σ H) (p : ∀ b o, H b = some o → H' b = some o) : Doom K B i F ρ σ0 Hs a0 as dss σ H' :=
  ⟨d.re, d.il, d.h0, d.dm, d.nF, d.nd, fun b o h => p b o (d.pres b o h), d.sg⟩
end
def tSc (K : PySem.W.Frag) (B : Bs []) (ow : Ow) (i : Nat) (k : Ev → List (List PyData) → Rs Fl) : TS := fun D σ H => ∃ F ρ σ0 Hs a0 as dss, Doom K B i F ρ σ0 Hs a0 as dss σ H ∧ WantS K B ow D F Hs (k ρ dss)
def listsOf : List PyData → Option (List (List PyData))
  | [] => some []
  | .list ds :: r => (listsOf r).map fun dss => ds :: dss
  | _ :: _ => none
theorem listsOf_eq : ∀ {xs : List PyData} {dss : List (List PyData)}, listsOf xs = some dss → xs = dss.map .list
  | [], _, h => by cases h; rfl
  | .list ds :: r, _, h => by
    obtain ⟨dss', h1, rfl⟩ := Option.map_eq_some_iff.mp h
    rw [listsOf_eq h1]; rfl
  | .none :: _, _, h => by cases h
  | .bool _ :: _, _, h => by cases h
  | .int _ :: _, _, h => by cases h
  | .str _ :: _, _, h => by cases h
  | .tuple _ :: _, _, h => by cases h
  | .dict _ :: _, _, h => by cases h
def sDoom (i : Nat) (ms : List EM) (k : Ev → List (List PyData) → Rs Fl) : SM := fun ρ => (mArgs ms ρ).quiet.bind fun x => Rs.opt (listsOf x.2) fun dss => if (decide (dss.length ≤ sizeLine) && decide (i < x.1.length)) = true then k x.1 dss else .bad
def gS (i : Nat) (t : TM) (k : Ev → List (List PyData) → Rs Fl) : Ev → List (List PyData) → Rs Fl := fun ρ dss =>
  (t (ρ.set i (some (.list (dss.map .list))))).quiet.bind fun x => if x.2 then .ok (.rt (ρ.set i (some (.list (dss.map .list)))) (.bool false)) else k ρ dss
def wrL (ds : List PyData) : List PyData := ds ++ [.none]
def kWr (i ix : Nat) : Ev → List (List PyData) → Rs Fl := fun ρ dss => if (decide (ix < ρ.length) && dss.all fun ds => decide (ds.length < sizeLine)) = true then Rs.opt dss.getLast? fun l => .ok (.nx ((ρ.set i (some (.list (dss.map fun ds => .list (wrL ds))))).set ix (some (.list (wrL l))))) else .bad
section
variable {X : Cx} {B : Bs []} {ow : Ow} {c : Expr} {t : TM} {sts : List Stmt} {es : List Expr} {ms : List EM} {i ix : Nat} {k : Ev → List (List PyData) → Rs Fl} {pos p : Pos}
theorem dss_doom {x : Str} {p' lp : Pos} (nd : X.N.Nodup) (hmg : B.mg = X.mg) (ha : DaO X es ms) (rest : PSs X sts (tSc X.K B ow i k)) (hi : X.N[i]? = some x := by rfl) (hx : Loc X.env.scope x := by first | exact Or.inl rfl | exact Or.inr rfl)
    (hs : swapsWith (.List es lp) (some (.Name x p')) pos.line X.env = pure false := by rfl) (hf : X.fn x = true ∨ X.env.scope.names.lookup x = some .local := by first | exact .inl rfl | exact .inr rfl | assumption) :
    Dss X B [] ow (.Assign [.Name x p'] (.List es lp) pos :: sts) (sDoom i ms k) :=
  pss_imp (pss_cons (L2.ps_set nd hi hx (pe_lst ha) hs hf) rest) fun D σ H ⟨ρ, F, re, w⟩ => by
    unfold sDoom at w
    cases hm : mArgs ms ρ with
    | bad => rw [hm] at w; exact w.elim
    | exc c d => rw [hm] at w; exact w.elim
    | ok y =>
      rw [hm] at w
      obtain ⟨dss, hd, w2⟩ := Wa.opt w
      split at w2
      · rename_i hc
        obtain ⟨h1, h2⟩ := Bool.and_eq_true_iff.mp hc
        have h1 := of_decide_eq_true h1
        have h2 := of_decide_eq_true h2
        refine ⟨ρ, F, B, re, hmg, y.1, dss, by rw [hm, ← listsOf_eq hd], fun as H' F' re' mn pres dms nn ndp => ⟨by rw [List.length_map, dms.len]; exact h1, fun q hq => ?_⟩⟩
        have g : Grow F' H' F' (upd H' q (.lst (as.map V.ref))) := Grow.att re'.dom hq
        have hne : ∀ a ∈ as, a ≠ q := fun a ha z => by
          obtain ⟨vs, hv⟩ := dms.there a ha
          rw [z, hq] at hv; cases hv
        refine ⟨F', y.1, σ, _, q, as, dss, ⟨re'.grow g, h2, upd_same, dms.keep g.mono fun a ha o h => by rw [upd_ne (hne a ha)]; exact h, fun a ha => ?_, List.nodup_cons.mpr ⟨fun z => hne q z rfl, ndp⟩, fun _ _ h => h, rfl⟩, WantS.mono w2 (mn.toMono.trans g.mono)⟩
        rcases List.mem_cons.mp ha with rfl | ha
        · exact ⟨fun z => re'.dom _ z hq, re'.h0 hq⟩
        · exact ⟨(nn a ha).1, re.h0 (nn a ha).2⟩
      · exact w2.elim
theorem dsc_guard {cp rp : Pos} {j : Nat} (ht : ∀ b : Bs [], (b.W = fun _ _ _ _ => False) → b.mg = X.mg → Dt X b [] c t) (hmg : B.mg = X.mg) (hfr : B.fr = false) (rest : PSs X sts (tSc X.K B ow i k)) :
    PSs X (.If c [.Return (some (.Constant (.bool false) j cp)) rp] [] pos :: sts) (tSc X.K B ow i (gS i t k)) :=
  pss_imp (pss_cons (ps_if (pt_ex (t := fun b : Bq [] X.mg => tDT X.K b.1 [] t) fun b => ht b.1 b.2.1 b.2.2) (pss_one (ps_ret pe_bl)) pss_nil) rest) fun D σ H ⟨F, ρ, σ0, Hs, a0, as, dss, d, w⟩ => by
    obtain ⟨rv, mv⟩ := d.view
    obtain ⟨B1, re1, hB0, hA, back, hW, hmg1⟩ := rv.rebase (fun j hj => by cases hj)
    refine ⟨⟨B1, hW, hmg1.trans hmg⟩, ρ.set i (some (.list (dss.map .list))), _, re1, ?_⟩
    unfold gS at w
    cases hm : t (ρ.set i (some (.list (dss.map .list)))) with
    | bad => rw [hm] at w; exact w.elim
    | exc c x => rw [hm] at w; exact w.elim
    | ok x =>
      rw [hm] at w
      intro H3 F3 re3 mo3
      have d3 := d.step (H' := H3) fun b o hb => re3.old b o (by rw [hB0]; exact hb) fun z => by
        obtain ⟨j, hj, _⟩ := hA b z
        cases hj
      obtain ⟨x1, x2⟩ := x
      cases x2 with
      | true =>
        have w3 : WantS X.K B ow D F Hs (.ok (.rt (ρ.set i (some (.list (dss.map .list)))) (.bool false))) := w
        obtain ⟨rv3, mv3⟩ := d3.view
        refine w3 _ σ H3 _ rv3 mv3 ?_
        unfold RetR
        rw [hfr]
        exact .bl _
      | false => exact ⟨F, ρ, σ0, Hs, a0, as, dss, d3, w⟩
theorem dms_wrote {K : PySem.W.Frag} {F F' : Addr → Prop} {Hs H : Hp} (m : Mono K F Hs F' H) : ∀ {as : List Addr} {dss : List (List PyData)}, Dms K F Hs as dss → (∀ a ∈ as, ∀ vs, Hs a = some (HO.lst vs) → H a = some (HO.lst (vs ++ [.non]))) → Dms K F' H as (dss.map wrL)
  | _, _, .nil, _ => .nil
  | _, _, .cons h r t, e => .cons (e _ List.mem_cons_self _ h) ((r.mono m).append (.one .non)) (dms_wrote m t fun a ha => e a (List.mem_cons_of_mem _ ha))
theorem dsc_for {x y : Str} {tp ip p1 apos cpos epos kpos : Pos} {j : Nat} {bk ct : List Nat} (hp : PassesOwn (model X.prog X.w) X.A X.env X.xe) (hc : X.calm = true) (nd : X.N.Nodup) (hne : i ≠ ix := by decide) (hNx : X.N[ix]? = some x := by rfl) (hNy : X.N[i]? = some y := by rfl)
    (hx : Loc X.env.scope x := by first | exact Or.inl rfl | exact Or.inr rfl) (hf : X.fn x = true ∨ X.env.scope.names.lookup x = some .local := by first | exact .inl rfl | exact .inr rfl | assumption)
    (hvy : Vis X.env.scope y := by first | exact Or.inl rfl | exact Or.inr (Or.inl rfl) | exact Or.inr (Or.inr rfl)) (hdy : (y == ("__debug__" : Str)) = false := by decide) (hcy : (y == ("__classdict__" : Str)) = false := by decide)
    (hvx : Vis X.env.scope x := by first | exact Or.inl rfl | exact Or.inr (Or.inl rfl) | exact Or.inr (Or.inr rfl)) (hdx : (x == ("__debug__" : Str)) = false := by decide) (hcx : (x == ("__classdict__" : Str)) = false := by decide)
    (hbase : attributeBase (.Name x p1) "append" X.env (eval (.Name x p1) X.env) = eval (.Name x p1) X.env := by rfl)
    (hfew : ((backTo cpos (starEach [.Constant .none j kpos] X.env)).all (fun x => !x.1) && (backToKw cpos (keywordEach [] X.env)).all (fun x => x.1.isSome) && decide (([.Constant .none j kpos] : List Expr).length + ([] : List Keyword).length + (if ([] : List Keyword).isEmpty then 0 else 1) < 30)) = true := by rfl)
    (hline : (apos.endLine == cpos.line) = true := by rfl) (hs1 : starEach [.Constant .none j kpos] X.env = (false, eval (.Constant .none j kpos) X.env) :: starEach [] X.env := by rfl) (hpl : (backTo cpos (starEach [] X.env)).any (·.1) = false := by rfl)
    (hsw : swapsWith (.Call (.Attribute (.Name x p1) "append" apos) [.Constant .none j kpos] [] cpos) none epos.line X.env = pure false := by rfl)
    (hs : ∀ z, foldedSetIterable (.Name y ip) X.env z = pure z := by intro _; rfl) :
    PSs X [.For (.Name x tp) (.Name y ip) [.Expr (.Call (.Attribute (.Name x p1) "append" apos) [.Constant .none j kpos] [] cpos) epos] [] pos] (tSc X.K B ⟨[], bk, ct⟩ i (kWr i ix)) :=
  pss_one <| ps_imp (ps_for hp hc (pi_list (pe_var hNy hvy hdy hcy)) (pg_name nd hNx hx hf) (pss_one (ps_expr (pe_bm PySem.F.plainAttrs_list PySem.F.slot_list_append PySem.F.type_list_append mt_append (pe_var hNx hvx hdx hcx) (pa_cons pe_non pa_nil hs1) (hbase := hbase) (hfew := hfew) (hline := hline) (hs := hs1) (hplain := hpl)) hsw)) hs) fun D σ H ⟨F, ρ, σ0, Hs, a0, as, dss, d, w⟩ => by
    unfold kWr at w
    split at w
    · rename_i hsz0
      obtain ⟨hixl, hsz⟩ := Bool.and_eq_true_iff.mp hsz0
      have hixl := of_decide_eq_true hixl
      obtain ⟨l, hlast, w2⟩ := Wa.opt w
      have hl : i < σ0.length := by rw [← d.re.len]; exact d.il
      have sg := d.sg
      have hget : σ[i]? = some (some (V.ref a0)) := by rw [sg, List.getElem?_set_self hl]
      have lenA := d.dm.len
      obtain ⟨hnd0, hnd⟩ := List.nodup_cons.mp d.nd
      refine ⟨_, hget, a0, rfl, ⟨_, SqL.of (d.pres _ _ d.h0)⟩, ?_⟩
      refine for_it (walk_list (K := X.K) (a := a0) (xs := as.map V.ref)) (fun k σ' H' => (σ' = σ ∧ k = 0 ∨ ∃ a, as[k - 1]? = some a ∧ 0 < k ∧ σ' = σ.set ix (some (V.ref a))) ∧ (∀ b o, b ∉ as.take k → H b = some o → H' b = some o) ∧ ∀ a ∈ as.take k, ∀ vs, Hs a = some (HO.lst vs) → H' a = some (HO.lst (vs ++ [.non])))
        ⟨.inl ⟨rfl, rfl⟩, fun b o _ h => h, fun a h => by simp at h⟩ (fun k σ' H' hk ⟨_, q, _⟩ => SqL.of (q a0 _ (fun z => hnd0 (List.mem_of_mem_take z)) (d.pres _ _ d.h0))) (fun k v σ' H' H2 hk ⟨q1, q2, q3⟩ yv => ?_) (fun σ' H' ⟨q1, q2, q3⟩ => ?_)
      · obtain ⟨rfl, e⟩ := yv
        rw [List.getElem?_map] at e
        obtain ⟨a, ea, rfl⟩ := Option.map_eq_some_iff.mp e
        obtain ⟨ds, vs, e1, e2, e3⟩ := d.dm.get ea
        have ha : a ∈ as := List.mem_of_getElem? ea
        have hnt : a ∉ as.take k := fun z => by
          obtain ⟨m, hm, em⟩ := List.getElem_of_mem z
          have hm' : m < k := by simp at hm; omega
          have hk' : k < as.length := (List.getElem?_eq_some_iff.mp ea).1
          rw [List.getElem_take] at em
          have e4 := (List.getElem?_eq_some_iff.mp ea).2
          have := (List.getElem_inj (h₀ := by omega) (h₁ := hk') hnd).mp (em.trans e4.symm)
          omega
        have hnow : H2 a = some (HO.lst vs) := q2 a _ hnt (d.pres _ _ e2)
        have hxl : ix < σ0.length := by rw [← d.re.len]; exact hixl
        have hset : ∀ {τ : Sl}, (τ = σ ∧ k = 0 ∨ ∃ a, as[k - 1]? = some a ∧ 0 < k ∧ τ = σ.set ix (some (V.ref a))) → τ.set ix (some (V.ref a)) = σ.set ix (some (V.ref a)) := fun {τ} h => by
          rcases h with ⟨rfl, _⟩ | ⟨a', _, _, rfl⟩
          · rfl
          · rw [List.set_set]
        show tDrop _ _ _ _
        rw [hset q1]
        refine ⟨V.ref a, by rw [List.getElem?_set_self (by rw [sg]; simpa using hxl)], .inl ⟨rfl, _, SqL.of hnow⟩, a, vs, .non, rfl, rfl, hnow, ?_, ?_⟩
        · have := List.all_eq_true.mp hsz ds (List.mem_of_getElem? e1)
          rw [e3.length]
          exact of_decide_eq_true this
        · have htk : as.take (k + 1) = as.take k ++ [a] := by
            rw [List.take_add_one, ea]; rfl
          refine ⟨.inr ⟨a, by simpa using ea, by omega, rfl⟩, fun b o hb h => ?_, fun a' ha' vs' hv' => ?_⟩
          · rw [htk] at hb
            simp only [List.mem_append, List.mem_singleton, not_or] at hb
            rw [upd_ne hb.2]
            exact q2 b o hb.1 h
          · rw [htk] at ha'
            rcases List.mem_append.mp ha' with z | z
            · have hz : a' ≠ a := fun z' => hnt (z' ▸ z)
              rw [upd_ne hz]
              exact q3 a' z vs' hv'
            · simp at z
              subst z
              rw [e2] at hv'
              cases hv'
              exact upd_same
      · rw [List.length_map] at q1 q2 q3
        rw [List.take_length] at q2 q3
        rcases q1 with ⟨_, h0⟩ | ⟨a, ea, hn, rfl⟩
        · exfalso
          rw [lenA] at h0
          have : dss = [] := List.eq_nil_of_length_eq_zero h0
          subst this
          cases hlast
        · have hxl : ix < σ0.length := by rw [← d.re.len]; exact hixl
          have mo : Mono X.K F Hs (fun a => F a ∨ a ∈ a0 :: as) H' := by
            refine ⟨fun _ h => .inl h, fun b o hb h => q2 b o (fun z => (d.nF b (List.mem_cons_of_mem _ z)).1 hb) (d.pres b o h), fun b xs h => ?_⟩
            have hb : b ∉ as := fun z => by
              obtain ⟨vs, hv⟩ := d.dm.there b z
              rw [hv] at h; cases h
            exact q2 b _ hb (d.pres b _ h)
          have dw := dms_wrote mo d.dm fun a ha vs hv => q3 a ha vs hv
          have hea : dss[as.length - 1]? = some l := by
            rw [lenA, ← List.getLast?_eq_getElem?]
            exact hlast
          obtain ⟨ds', vs', g1, g2, g3⟩ := dw.get ea
          rw [List.getElem?_map, hea] at g1
          cases g1
          have ha : a ∈ as := List.mem_of_getElem? ea
          have re := d.re
          refine w2 _ H' _ ⟨by simp [sg, re.len], fun j e hj q => ?_, fun j e hj q => (by cases hj), fun j k e f hj hk hn q1 q2 => (by cases hj), fun b h => ?_, fun b o h hA => ?_, fun b h => .inl (re.fold b h), fun b h => ?_, fun p hp => absurd hp (io_nil re p), fun j q => ?_⟩ mo
          · by_cases hjx : j = ix
            · subst hjx
              rw [List.getElem?_set_self (by simpa using hixl)] at q
              cases q
              exact ⟨V.ref a, by rw [List.getElem?_set_self (by rw [sg]; simpa using hxl)], .lst (.inl ⟨.inr (List.mem_cons_of_mem _ ha), .inl g2⟩) g3⟩
            · rw [List.getElem?_set_ne (Ne.symm hjx)] at q ⊢
              by_cases hji : j = i
              · subst hji
                rw [List.getElem?_set_self d.il] at q
                cases q
                refine ⟨_, hget, .lst (.inl ⟨.inr List.mem_cons_self, .inl (q2 a0 _ hnd0 (d.pres _ _ d.h0))⟩) ?_⟩
                have := dw.rps Mono.refl fun a ha => ⟨.inr (List.mem_cons_of_mem _ ha), fun _ h => h⟩
                rw [List.map_map] at this
                exact this
              · rw [sg]
                rw [List.getElem?_set_ne (Ne.symm hji)] at q ⊢
                obtain ⟨v, h1, h2⟩ := re.fz j e (fun z => by cases z) q
                exact ⟨v, h1, h2.mono mo⟩
          · rcases h with h | h
            · cases hq : Hs b with
              | none => exact absurd hq (re.dom b h)
              | some o => rw [mo.ex b o h hq]; simp
            · rcases List.mem_cons.mp h with rfl | h
              · rw [q2 b _ hnd0 (d.pres _ _ d.h0)]; simp
              · obtain ⟨vs, hv⟩ := d.dm.there b h
                rw [q3 b h vs hv]; simp
          · refine q2 b o (fun z => ?_) (d.pres b o (re.old b o h hA))
            rw [(d.nF b (List.mem_cons_of_mem _ z)).2] at h; cases h
          · rcases h with h | h
            · exact re.fnew b h
            · exact .inr (d.nF b h).2
          · by_cases hjx : j = ix
            · subst hjx
              rw [List.getElem?_set_self (by simpa using hixl)] at q; cases q
            · rw [List.getElem?_set_ne (Ne.symm hjx)] at q ⊢
              by_cases hji : j = i
              · subst hji
                rw [List.getElem?_set_self d.il] at q; cases q
              · rw [sg]
                rw [List.getElem?_set_ne (Ne.symm hji)] at q ⊢
                exact re.un j q
    · exact w.elim
end
end Kd

end T_KD16
section T_KD17
set_option maxRecDepth 100000
set_option maxHeartbeats 1000000
/-! KD17: min and max of two data, remove of data, dicts with tuples as keys that a slot owns. -/
namespace PySem
open PySem PySem.Spec PyProof.Rows
section
variable {prog : Program} {w : World} {A : Around} {E : Value → Shared → Prop} {s : Shared}
theorem call_min_twoH {a b : Value} {Q : Value → Shared → Prop}
    (h : wpAny (model prog w) A.in1 (pyIter (.ref s.heap.objs.size)) (fun it s₂ => ∃ I fp wr G n P St H bt, it = .ref I ∧ WalksS prog w A.in1 I fp wr G n P St ∧ St 0 s₂ ∧ (∀ b ∈ fp, b < s₂.heap.objs.size) ∧ 0 < n ∧
      (∀ b o, H.get? b = some o → b ∉ wr) ∧ (∀ b o, H.get? b = some o → s₂.heap.get? b = some o) ∧ CmpIn prog w A.in1 .Lt H P bt ∧ ∀ v s', P (argBest bt (n - 1)) v → Moved wr G s₂ s' → Q v s') E { s with heap := s.heap.push { cls := .type "tuple", data := .seq #[a, b] } }) :
    wpAny (model prog w) A (call (.builtin "min") [a, b]) Q E s := by
  have hname : (toString "min" ++ toString ".loop" : String) = "min.loop" := by decide
  refine call_function_tree F.kind_min F.plain_min F.entry_min (F.args_min2 _ _) ?_
  show wpAny _ A.in1 (Builtin.Builtins.bindParams "min" ["key", "default"] 0 ⟨[], []⟩ >>= _) _ _ s
  refine wpAny_bind (wpAny_of_eq (show Builtin.Builtins.bindParams "min" ["key", "default"] 0 ⟨[], []⟩ = pure [none, none] from rfl) ?_)
  show wpAny _ A.in1 (newTuple [a, b] >>= _) _ _ s
  refine wpAny_bind (wpAny_newObj_type ?_)
  refine wpAny_bind (wpAny_mono h (fun it s₂ h₂ => ?_) fun _ _ e => e)
  obtain ⟨I, fp, wr, G, n, P, St, H, bt, rfl, W, hst, hfp, hn, hw, hkeep, hcmp, hQ⟩ := h₂
  refine wpAny_bind (wpAny_newObj_type ?_)
  have hSf : s₂.heap.objs.size ∉ fp := fun hm => Nat.lt_irrefl _ (hfp _ hm)
  rw [hname]
  refine wpAny_pure ⟨plainId_quiet F.plain_min_loop _, codeAny_min_loop_firstH W H hw bt hcmp s₂.heap.objs.size hSf (fresh_in hkeep) _ hn (fun b o e => Heap.get?_push_of_some _ (hkeep b o e)) (W.frame 0 s₂ _ s₂.toks hst (Nat.le_refl _) fun b _ o e => Heap.get?_push_of_some _ e) (Heap.get?_push_size _ rfl) fun v s' hP hm => ?_⟩
  exact hQ v s' hP (Moved.drop_new (tk := s₂.toks) hm (Nat.le_refl _))
theorem call_max_twoH {a b : Value} {Q : Value → Shared → Prop}
    (h : wpAny (model prog w) A.in1 (pyIter (.ref s.heap.objs.size)) (fun it s₂ => ∃ I fp wr G n P St H bt, it = .ref I ∧ WalksS prog w A.in1 I fp wr G n P St ∧ St 0 s₂ ∧ (∀ b ∈ fp, b < s₂.heap.objs.size) ∧ 0 < n ∧
      (∀ b o, H.get? b = some o → b ∉ wr) ∧ (∀ b o, H.get? b = some o → s₂.heap.get? b = some o) ∧ CmpIn prog w A.in1 .Gt H P bt ∧ ∀ v s', P (argBest bt (n - 1)) v → Moved wr G s₂ s' → Q v s') E { s with heap := s.heap.push { cls := .type "tuple", data := .seq #[a, b] } }) :
    wpAny (model prog w) A (call (.builtin "max") [a, b]) Q E s := by
  have hname : (toString "max" ++ toString ".loop" : String) = "max.loop" := by decide
  refine call_function_tree F.kind_max F.plain_max F.entry_max (F.args_max2 _ _) ?_
  show wpAny _ A.in1 (Builtin.Builtins.bindParams "max" ["key", "default"] 0 ⟨[], []⟩ >>= _) _ _ s
  refine wpAny_bind (wpAny_of_eq (show Builtin.Builtins.bindParams "max" ["key", "default"] 0 ⟨[], []⟩ = pure [none, none] from rfl) ?_)
  show wpAny _ A.in1 (newTuple [a, b] >>= _) _ _ s
  refine wpAny_bind (wpAny_newObj_type ?_)
  refine wpAny_bind (wpAny_mono h (fun it s₂ h₂ => ?_) fun _ _ e => e)
  obtain ⟨I, fp, wr, G, n, P, St, H, bt, rfl, W, hst, hfp, hn, hw, hkeep, hcmp, hQ⟩ := h₂
  refine wpAny_bind (wpAny_newObj_type ?_)
  have hSf : s₂.heap.objs.size ∉ fp := fun hm => Nat.lt_irrefl _ (hfp _ hm)
  rw [hname]
  refine wpAny_pure ⟨plainId_quiet F.plain_max_loop _, codeAny_max_loop_firstH W H hw bt hcmp s₂.heap.objs.size hSf (fresh_in hkeep) _ hn (fun b o e => Heap.get?_push_of_some _ (hkeep b o e)) (W.frame 0 s₂ _ s₂.toks hst (Nat.le_refl _) fun b _ o e => Heap.get?_push_of_some _ e) (Heap.get?_push_size _ rfl) fun v s' hP hm => ?_⟩
  exact hQ v s' hP (Moved.drop_new (tk := s₂.toks) hm (Nat.le_refl _))
end
end PySem
namespace Kd
open PySem PySem.Spec PyProof.Rows L2
/-! ### min and max of two -/
section
variable {prog : Program} {w : World} {A : Around} {E : Value → Shared → Prop} {s : Shared} {a b : Value} {d e : PyData} {as bs : List Addr} {Q : Value → Shared → Prop}
theorem two_reads (r1 : Reads s.heap a d as) (r2 : Reads s.heap b e bs) : ∃ cs, ReadsAll (s.heap.push { cls := .type "tuple", data := .seq #[a, b] }) (#[a, b] : Array Value).toList [d, e] cs :=
  ⟨_, .cons (Reads.keeps (fun _ _ q => Heap.get?_push_of_some _ q) r1) (.cons (Reads.keeps (fun _ _ q => Heap.get?_push_of_some _ q) r2) .nil)⟩
theorem two_like (al : PySem.W.alike d e = true) (bl : PySem.W.alike e d = true) (h1 : PySem.W.alike d d = true) (h2 : PySem.W.alike e e = true) (hd : d ≠ .none) (he : e ≠ .none) : PySem.W.AlikeAll [d, e] := by
  refine ⟨fun x hx y hy => ?_, fun x hx => ?_⟩
  · simp at hx hy
    rcases hx with rfl | rfl <;> rcases hy with rfl | rfl <;> assumption
  · simp at hx
    rcases hx with rfl | rfl <;> assumption
theorem min_two_data (hh : A.handled = none) (r1 : Reads s.heap a d as) (r2 : Reads s.heap b e bs) (al : PySem.W.AlikeAll [d, e]) (hu : A.units + 1 + PyData.depthAll [d, e] < cLine)
    (h : ∀ h' tk, (∀ c o, s.heap.get? c = some o → h'.get? c = some o) → Q (if PySem.W.dataLt e d then b else a) { s with heap := h', toks := tk }) : wpAny (model prog w) A (call (.builtin "min") [a, b]) Q E s := by
  have hT : (s.heap.push { cls := .type "tuple", data := .seq #[a, b] }).IsTuple s.heap.objs.size #[a, b] := ⟨_, Heap.get?_push_size _ rfl, rfl, 0, rfl⟩
  obtain ⟨cs, rr⟩ := two_reads r1 r2
  refine call_min_twoH (PySem.W.iter_tupleW (A := A.in1) (s := { s with heap := s.heap.push { cls := .type "tuple", data := .seq #[a, b] } }) hh hT fun s₂ e' W st hfp hw hk => ?_)
  refine ⟨_, _, _, _, _, _, _, s.heap.push { cls := .type "tuple", data := .seq #[a, b] }, _, rfl, W, st, hfp, by simp, hw, hk, PySem.W.cmpIn_lt (A := A.in1) (s := { s with heap := s.heap.push { cls := .type "tuple", data := .seq #[a, b] } }) rr al (by show A.units + 1 + _ < _; exact hu), fun v s' hP m => ?_⟩
  obtain ⟨h', tk, rfl, hk'⟩ := PySem.W.moved_old e' rfl m
  have hv : v = if PySem.W.dataLt e d then b else a := by
    cases hc : PySem.W.dataLt e d <;> simp [argBest, hc] at hP <;> simp [hP]
  rw [hv]
  exact h h' tk fun c o q => hk' c o (Heap.get?_push_of_some _ q)
theorem max_two_data (hh : A.handled = none) (r1 : Reads s.heap a d as) (r2 : Reads s.heap b e bs) (al : PySem.W.AlikeAll [d, e]) (hu : A.units + 1 + PyData.depthAll [d, e] < cLine)
    (h : ∀ h' tk, (∀ c o, s.heap.get? c = some o → h'.get? c = some o) → Q (if PySem.W.dataLt d e then b else a) { s with heap := h', toks := tk }) : wpAny (model prog w) A (call (.builtin "max") [a, b]) Q E s := by
  have hT : (s.heap.push { cls := .type "tuple", data := .seq #[a, b] }).IsTuple s.heap.objs.size #[a, b] := ⟨_, Heap.get?_push_size _ rfl, rfl, 0, rfl⟩
  obtain ⟨cs, rr⟩ := two_reads r1 r2
  refine call_max_twoH (PySem.W.iter_tupleW (A := A.in1) (s := { s with heap := s.heap.push { cls := .type "tuple", data := .seq #[a, b] } }) hh hT fun s₂ e' W st hfp hw hk => ?_)
  refine ⟨_, _, _, _, _, _, _, s.heap.push { cls := .type "tuple", data := .seq #[a, b] }, _, rfl, W, st, hfp, by simp, hw, hk, PySem.W.cmpIn_gt (A := A.in1) (s := { s with heap := s.heap.push { cls := .type "tuple", data := .seq #[a, b] } }) rr al (by show A.units + 1 + _ < _; exact hu), fun v s' hP m => ?_⟩
  obtain ⟨h', tk, rfl, hk'⟩ := PySem.W.moved_old e' rfl m
  have hv : v = if PySem.W.dataLt d e then b else a := by
    cases hc : PySem.W.dataLt d e <;> simp [argBest, hc] at hP <;> simp [hP]
  rw [hv]
  exact h h' tk fun c o q => hk' c o (Heap.get?_push_of_some _ q)
end
def twoB (d e : PyData) : Bool := d.canLay0 && (e.canLay0 && (PySem.W.alike d e && (PySem.W.alike e d && (PySem.W.alike d d && (PySem.W.alike e e && (!isNonD d && (!isNonD e && (decide (d.depth ≤ 60) && decide (e.depth ≤ 60)))))))))
def rTwo (K : PySem.W.Frag) (f : PyData → PyData → Bool) : List V → Hp → VK → Prop := fun vs H Q => ∃ x y d e, vs = [x, y] ∧ Dp K H x d ∧ Dp K H y e ∧ twoB d e = true ∧ Q (if f d e then y else x) H
theorem twoB_l {d e : PyData} (h : twoB d e = true) : d.canLay0 = true ∧ e.canLay0 = true ∧ PySem.W.AlikeAll [d, e] ∧ d.depth ≤ 60 ∧ e.depth ≤ 60 := by
  simp only [twoB, Bool.and_eq_true, Bool.not_eq_true', decide_eq_true_eq] at h
  obtain ⟨h1, h2, h3, h4, h5, h6, h7, h8, h9, h10⟩ := h
  exact ⟨h1, h2, two_like h3 h4 h5 h6 (fun z => by subst z; cases h7) (fun z => by subst z; cases h8), h9, h10⟩
section
variable {X : Cx}
theorem call_min2D (hc : X.calm = true) (hu : X.A.units + 65 < cLine) : CallR X (.builtin "min") (rTwo X.K fun d e => PySem.W.dataLt e d) := by
  intro pins s σ H xs us Q I r h
  obtain ⟨x, y, d, e, rfl, hd, he, hb, q⟩ := h
  obtain ⟨h1, h2, h3, h4, h5⟩ := twoB_l hb
  obtain ⟨u, w', rfl, r1, r2⟩ := vals2 r
  obtain ⟨as, q1⟩ := Dp.reads I d x u hd r1
  obtain ⟨bs, q2⟩ := Dp.reads I e y w' he r2
  refine min_two_data (I.ok.hd hc) q1 q2 h3 (by simp only [PyData.depthAll]; omega) fun h' tk k => ⟨_, H, I.kept k, ?_, q⟩
  show RelV (if PySem.W.dataLt e d = true then y else x) (if PySem.W.dataLt e d = true then w' else u)
  split
  · exact r2
  · exact r1
theorem call_max2D (hc : X.calm = true) (hu : X.A.units + 65 < cLine) : CallR X (.builtin "max") (rTwo X.K fun d e => PySem.W.dataLt d e) := by
  intro pins s σ H xs us Q I r h
  obtain ⟨x, y, d, e, rfl, hd, he, hb, q⟩ := h
  obtain ⟨h1, h2, h3, h4, h5⟩ := twoB_l hb
  obtain ⟨u, w', rfl, r1, r2⟩ := vals2 r
  obtain ⟨as, q1⟩ := Dp.reads I d x u hd r1
  obtain ⟨bs, q2⟩ := Dp.reads I e y w' he r2
  refine max_two_data (I.ok.hd hc) q1 q2 h3 (by simp only [PyData.depthAll]; omega) fun h' tk k => ⟨_, H, I.kept k, ?_, q⟩
  show RelV (if PySem.W.dataLt d e = true then y else x) (if PySem.W.dataLt d e = true then w' else u)
  split
  · exact r2
  · exact r1
end
def fTwo (f : PyData → PyData → Bool) : List PyData → Option PyData
  | [d, e] => iff' (twoB d e) (if f d e then e else d)
  | _ => none
def fMin2D := fTwo fun d e => PySem.W.dataLt e d
def fMax2D := fTwo fun d e => PySem.W.dataLt d e
theorem fnd_two {K : PySem.W.Frag} (f : PyData → PyData → Bool) : FnD K (rTwo K f) (fTwo f) := fun F H xs ds z Q dom r hz k => by
  cases r with
  | nil => cases hz
  | cons r1 r => cases r with
    | nil => cases hz
    | cons r2 r => cases r with
      | cons _ _ => cases hz
      | nil =>
        obtain ⟨h, rfl⟩ := iff_some hz
        obtain ⟨h1, h2, _⟩ := twoB_l h
        refine ⟨_, _, _, _, rfl, r1.dp h1, r2.dp h2, h, k _ H F (Grow.refl dom) ?_⟩
        split
        · exact r2
        · exact r1
theorem fnd_min2D {K : PySem.W.Frag} : FnD K (rTwo K fun d e => PySem.W.dataLt e d) fMin2D := fnd_two _
theorem fnd_max2D {K : PySem.W.Frag} : FnD K (rTwo K fun d e => PySem.W.dataLt d e) fMax2D := fnd_two _

/-! ### remove -/
def rRemD (K : PySem.W.Frag) : V → List V → Hp → VK → Prop := fun x xs H Q => ∃ (l : Addr) (vs : List V) (ds : List PyData) (y : V) (d : PyData) (j : Nat), x = .ref l ∧ xs = [y] ∧ H l = some (.lst vs) ∧ DpAll K H vs ds ∧ Dp K H y d ∧
  PyData.plainAll ds = true ∧ d.plain = true ∧ d.depth ≤ 60 ∧ SeqAt.dataPlace ds d = some j ∧ Q .non (upd H l (.lst (vs.eraseIdx j)))
theorem mt_removeD {X : Cx} (hu : X.A.units + 65 < cLine) : MtM X "list.remove" (rRemD X.K) := by
  intro pins s σ H x xs v us Q I rx rxs h
  obtain ⟨l, vs, ds, y, d, j, rfl, rfl, hH, hds, hd, p1, p2, hdp, hj, q⟩ := h
  cases rx
  obtain ⟨u, rfl, ru⟩ := rxs.one
  obtain ⟨z, its, n, r, hl, e⟩ := I.lstM hH
  obtain ⟨as, q1⟩ := Dp.readsAll I ds vs its hds r
  obtain ⟨bs, q2⟩ := Dp.reads I d y u hd ru
  refine SeqAt.remove_list_data (vs := its.toArray) (j := j) ⟨_, e, rfl, n, rfl⟩ (by simpa using q1) q2 p1 p2 (by omega) hj (by rw [List.size_toArray]; omega) ?_
  refine ⟨.non, _, I.lset (its' := its.eraseIdx j) (t' := s.toks) hH e ?_ (r.eraseIdx j) ?_, rfl, q⟩
  · show its.toArray.eraseIdxIfInBounds j = (its.eraseIdx j).toArray
    rw [List.eraseIdxIfInBounds_toArray]
  · have := List.length_eraseIdx_le vs j
    omega
def fRemD : List PyData → List PyData → Option (List PyData × PyData)
  | ds, [d] => if (PyData.canLayAll0 ds && (d.canLay0 && decide (d.depth ≤ 60))) = true then (SeqAt.dataPlace ds d).map fun j => (ds.eraseIdx j, .none) else none
  | _, _ => none
theorem plainAll_lay : ∀ {ds : List PyData}, PyData.canLayAll0 ds = true → PyData.plainAll ds = true
  | [], _ => rfl
  | d :: r, h => by
    have h := Bool.and_eq_true_iff.mp h
    simp only [PyData.plainAll, PyData.plain_of_canLay0 d h.1, plainAll_lay h.2, Bool.and_self]
theorem rps_erase {K : PySem.W.Frag} {F : Addr → Prop} {H : Hp} : ∀ {vs : List V} {ds : List PyData} (j : Nat), Rps K F H vs ds → Rps K F H (vs.eraseIdx j) (ds.eraseIdx j)
  | _, _, _, .nil => by simpa using Rps.nil
  | _, _, 0, .cons _ t => by simpa using t
  | _, _, j + 1, .cons h t => by simpa using Rps.cons h (rps_erase j t)
theorem mtd_rem {K : PySem.W.Frag} : MtD K (rRemD K) fRemD := fun F H a vs ws ds as ds' z Q h r1 r2 hz k => by
  cases r2 with
  | nil => cases hz
  | cons q1 q2 => cases q2 with
    | cons _ _ => cases hz
    | nil =>
      simp only [fRemD] at hz
      split at hz
      · rename_i hc
        simp only [Bool.and_eq_true, decide_eq_true_eq] at hc
        obtain ⟨j, hj, e⟩ := Option.map_eq_some_iff.mp hz
        cases e
        exact ⟨a, vs, ds, _, _, j, rfl, rfl, h, Rps.dp r1 hc.1, q1.dp hc.2.1, plainAll_lay hc.1, PyData.plain_of_canLay0 _ hc.2.1, hc.2.2, hj, k _ _ (rps_erase j r1) .non⟩
      · cases hz

/-! ### dicts with tuples as keys -/
def kO1 : PyData → Option Key
  | .int i => some (.inl i)
  | .str x => some (.inr x)
  | _ => none
def kOs : List PyData → Option (List Key)
  | [] => some []
  | d :: r => (kO1 d).bind fun k => (kOs r).map fun ks => k :: ks
def kOf : PyData → Option (List Key)
  | .tuple ds => kOs ds
  | _ => none
theorem kO1_kD (k : Key) : kO1 (kD k) = some k := by cases k <;> rfl
theorem kOs_kD : ∀ ks : List Key, kOs (ks.map kD) = some ks
  | [] => rfl
  | k :: r => by simp [kOs, kO1_kD, kOs_kD r]
theorem kOf_kD (ks : List Key) : kOf (.tuple (ks.map kD)) = some ks := kOs_kD ks
section
variable {K : PySem.W.Frag} {F : Addr → Prop} {H : Hp}
theorem rp_kO1 {v : V} {d : PyData} {k : Key} (r : Rp K F H v d) (h : kO1 d = some k) : v = kV k ∧ d = kD k := by
  cases r <;> first | (cases h; done) | skip
  · cases h; exact ⟨rfl, rfl⟩
  · cases h; exact ⟨rfl, rfl⟩
theorem rps_kOs : ∀ {vs : List V} {ds : List PyData} {ks : List Key}, Rps K F H vs ds → kOs ds = some ks → vs = ks.map kV ∧ ds = ks.map kD
  | _, _, _, .nil, h => by cases h; exact ⟨rfl, rfl⟩
  | _, _, _, .cons r t, h => by
    obtain ⟨k, h1, h2⟩ := Option.bind_eq_some_iff.mp h
    obtain ⟨ks, h3, rfl⟩ := Option.map_eq_some_iff.mp h2
    obtain ⟨rfl, rfl⟩ := rp_kO1 r h1
    obtain ⟨rfl, rfl⟩ := rps_kOs t h3
    exact ⟨rfl, rfl⟩
theorem rp_kOf {v : V} {d : PyData} {ks : List Key} (r : Rp K F H v d) (h : kOf d = some ks) : ∃ b, v = .ref b ∧ H b = some (HO.tup (ks.map kV)) ∧ d = .tuple (ks.map kD) := by
  cases r <;> first | (cases h; done) | skip
  rename_i hl hs
  obtain ⟨rfl, rfl⟩ := rps_kOs hs h
  exact ⟨_, rfl, hl, rfl⟩
end
abbrev dctT (kvs : List (PyData × PyData)) : PyData := .dict ((.bool true, .none) :: kvs)
def asTD : PyData → Option (List (PyData × PyData))
  | .dict ((.bool true, .none) :: kvs) => some kvs
  | _ => none
def valD (kvs : List (PyData × PyData)) (k : List Key) : Option PyData := (kvs.find? fun p => decide (kOf p.1 = some k)).map (·.2)
def putD (kvs : List (PyData × PyData)) (k : List Key) (d : PyData) : List (PyData × PyData) :=
  if (kvs.any fun p => decide (kOf p.1 = some k)) = true then kvs.map (fun p => if kOf p.1 = some k then (p.1, d) else p) else kvs ++ [(.tuple (k.map kD), d)]
section
variable {K : PySem.W.Frag} {F : Addr → Prop} {H : Hp}
theorem RpT.len : ∀ {ws : List (List Key × V)} {kvs : List (PyData × PyData)}, RpT K F H ws kvs → ws.length = kvs.length
  | _, _, .nil => rfl
  | _, _, .cons _ t => congrArg (· + 1) t.len
theorem RpT.any (k : List Key) : ∀ {ws : List (List Key × V)} {kvs : List (PyData × PyData)}, RpT K F H ws kvs → (ws.any fun kv => decide (kv.1 = k)) = kvs.any fun p => decide (kOf p.1 = some k)
  | _, _, .nil => rfl
  | _, _, .cons _ t => by simp only [List.any_cons, kOf_kD, Option.some.injEq, t.any k]
theorem RpT.val (k : List Key) : ∀ {ws : List (List Key × V)} {kvs : List (PyData × PyData)}, RpT K F H ws kvs → (valV ws k = none ∧ valD kvs k = none) ∨ ∃ v d, valV ws k = some v ∧ valD kvs k = some d ∧ Rp K F H v d
  | _, _, .nil => .inl ⟨rfl, rfl⟩
  | _, _, .cons (k := k') (v := v) (d := d) r t => by
    by_cases h : k' = k
    · refine .inr ⟨v, d, valV_pos h, ?_, r⟩
      simp [valD, List.find?_cons, kOf_kD, h]
    · rw [valV_neg (p := (k', v)) h]
      have e2 : ∀ kvs : List (PyData × PyData), valD ((.tuple (k'.map kD), d) :: kvs) k = valD kvs k := fun kvs => by simp [valD, List.find?_cons, kOf_kD, h]
      rw [e2]
      exact t.val k
theorem RpT.repl (k : List Key) {v : V} {d : PyData} (hr : Rp K F H v d) : ∀ {ws : List (List Key × V)} {kvs : List (PyData × PyData)}, RpT K F H ws kvs → RpT K F H (ws.map fun kv => if kv.1 = k then (kv.1, v) else kv) (kvs.map fun p => if kOf p.1 = some k then (p.1, d) else p)
  | _, _, .nil => .nil
  | _, _, .cons (k := k') r t => by
    simp only [List.map_cons, kOf_kD, Option.some.injEq]
    by_cases h : k' = k
    · rw [if_pos h, if_pos h]; exact .cons hr (t.repl k hr)
    · rw [if_neg h, if_neg h]; exact .cons r (t.repl k hr)
theorem RpT.snoc (k : List Key) {v : V} {d : PyData} (hr : Rp K F H v d) : ∀ {ws : List (List Key × V)} {kvs : List (PyData × PyData)}, RpT K F H ws kvs → RpT K F H (ws ++ [(k, v)]) (kvs ++ [(.tuple (k.map kD), d)])
  | _, _, .nil => .cons hr .nil
  | _, _, .cons r t => .cons r (t.snoc k hr)
theorem RpT.put (k : List Key) {v : V} {d : PyData} (hr : Rp K F H v d) {ws : List (List Key × V)} {kvs : List (PyData × PyData)} (h : RpT K F H ws kvs) : RpT K F H (putK ws k v) (putD kvs k d) := by
  unfold putK putD
  rw [h.any k]
  split
  · exact h.repl k hr
  · exact h.snoc k hr
end
def mDget (i : Nat) (mk : EM) : EM := fun ρ => Rs.opt (gt ρ i) fun _ => (mk ρ).bind fun y => Rs.opt ((gt y.1 i).bind asTD) fun kvs => Rs.opt (kOf y.2) fun k => Rs.opt (valD kvs k) fun d => .ok (y.1, d)
def mDin (neg : Bool) (i : Nat) (mk : EM) : EM := fun ρ => (mk ρ).bind fun y => Rs.opt ((gt y.1 i).bind asTD) fun kvs => Rs.opt (kOf y.2) fun k => .ok (y.1, .bool (if neg then !(valD kvs k).isSome else (valD kvs k).isSome))
def sDput (i : Nat) (mk mv : EM) : SM := fun ρ => (mv ρ).bind fun x => Rs.opt (gt x.1 i) fun _ => (mk x.1).bind fun y => Rs.opt ((gt y.1 i).bind asTD) fun kvs => Rs.opt (kOf y.2) fun k =>
  if kvs.length < sizeLine then .ok (.nx (y.1.set i (some (dctT (putD kvs k x.2))))) else .bad
theorem own_dict {K : PySem.W.Frag} {io : List Nat} {B : Bs io} {own : List Nat} {F : Addr → Prop} {H : Hp} {ρ : Ev} {σ : Sl} (re : RE K B own F ρ σ H) {i : Nat} (hi : i ∈ own) {kvs : List (PyData × PyData)} (h : (gt ρ i).bind asTD = some kvs) :
    ∃ a ws, σ[i]? = some (some (V.ref a)) ∧ ρ[i]? = some (some (dctT kvs)) ∧ ¬ F a ∧ H a = some (HO.dT ws) ∧ RpT K F H ws kvs := by
  obtain ⟨d, h1, h2⟩ := Option.bind_eq_some_iff.mp h
  unfold asTD at h2
  split at h2
  · cases h2
    obtain ⟨a, q1, q2, _, q4⟩ := re.ow i _ hi (gt_ok h1)
    cases q4 with
    | dT q r => exact ⟨a, _, q1, gt_ok h1, q2, q, r⟩
  · cases h2
section
variable {X : Cx} {io : List Nat} {B : Bs io} {own : List Nat} {e k : Expr} {m mk mv : EM} {pos p p2 : Pos}
theorem do_dnewT : Do X B own (.Dict [] [] pos) (mC (dctT [])) :=
  pe_imp pe_dnewT fun σ H Q ⟨ρ, F, re, w⟩ => fun q nq => by
    have g : Grow F H F (upd H q (.dT [])) := Grow.att re.dom nq
    exact w q _ F (re.grow g) g.mn (fun z => re.dom q z nq) nq (re.h0 nq) (re.notIn nq) (.dT upd_same .nil)
theorem de_dget {x : Str} (i : Nat) (hu : X.A.units + 65 < cLine) (hk : De X B own k mk) (hi : i ∈ own := by decide) (hs : NoSl k := by exact fun _ _ => rfl) (hN : X.N[i]? = some x := by rfl) (hv : Vis X.env.scope x := by first | exact Or.inl rfl | exact Or.inr (Or.inl rfl) | exact Or.inr (Or.inr rfl))
    (hd : (x == ("__debug__" : Str)) = false := by decide) (hcd : (x == ("__classdict__" : Str)) = false := by decide) : De X B own (.Subscript (.Name x p) k pos) (mDget i mk) :=
  pe_imp (pe_dget (by omega) (pe_var hN hv hd hcd) hk hs) fun σ H Q ⟨ρ, F, re, w⟩ => by
    obtain ⟨d0, h0, w0⟩ := Wa.opt w
    obtain ⟨a, e1, _⟩ := re.ow i d0 hi (gt_ok h0)
    refine ⟨_, e1, ρ, F, re, thE w0 fun ρ1 d1 v1 H1 F1 re1 mo1 rp1 w1 => ?_⟩
    obtain ⟨kvs, g1, w2⟩ := Wa.opt w1
    obtain ⟨ks, g2, w3⟩ := Wa.opt w2
    obtain ⟨d, g3, w4⟩ := Wa.opt w3
    obtain ⟨a', ws, u1, u2, u3, u4, u5⟩ := own_dict re1 hi g1
    rw [e1] at u1; cases u1
    obtain ⟨b, rfl, hb, _⟩ := rp_kOf rp1 g2
    rcases u5.val ks with ⟨_, z⟩ | ⟨v, d', q1, q2, q3⟩
    · rw [g3] at z; cases z
    · rw [g3] at q2; cases q2
      exact ⟨a, v, rfl, by rw [← q1]; exact DGet.t u4 hb, w4 v H1 F1 re1 Mn.refl q3⟩
theorem tdin_of {i : Nat} (hi : i ∈ own) : ∀ σ H Q, tD X.K B own (mDin false i mk) σ H Q → tDIn (tD X.K B own mk) (tVar i) σ H Q := fun σ H Q ⟨ρ, F, re, w⟩ => ⟨ρ, F, re, thE w fun ρ1 d1 v1 H1 F1 re1 mo1 rp1 w1 => by
    obtain ⟨kvs, g1, w2⟩ := Wa.opt w1
    obtain ⟨ks, g2, w3⟩ := Wa.opt w2
    obtain ⟨a, ws, u1, u2, u3, u4, u5⟩ := own_dict re1 hi g1
    obtain ⟨b, rfl, hb, _⟩ := rp_kOf rp1 g2
    refine ⟨_, u1, a, valV ws ks, rfl, DGet.t u4 hb, ?_⟩
    have e : (valV ws ks).isSome = (valD kvs ks).isSome := by
      rcases u5.val ks with ⟨z1, z2⟩ | ⟨v, d', q1, q2, q3⟩
      · rw [z1, z2]; rfl
      · rw [q1, q2]; rfl
    rw [e]
    exact w3 _ H1 F1 re1 Mn.refl (.bl _)⟩
theorem de_din {x : Str} (i : Nat) (hu : X.A.units + 65 < cLine) (hk : De X B own k mk) (hi : i ∈ own := by decide) (hN : X.N[i]? = some x := by rfl) (hv : Vis X.env.scope x := by first | exact Or.inl rfl | exact Or.inr (Or.inl rfl) | exact Or.inr (Or.inr rfl))
    (hd : (x == ("__debug__" : Str)) = false := by decide) (hcd : (x == ("__classdict__" : Str)) = false := by decide) (h1 : behindInMarks .In (.Name x p) = false := by rfl) : De X B own (.Compare k [.In] [.Name x p] pos) (mDin false i mk) :=
  pe_imp (pe_cmp (pc_din (by omega) hk (pe_var hN hv hd hcd)) h1) (tdin_of hi)
theorem dt_din {x : Str} (i : Nat) (hu : X.A.units + 65 < cLine) (hk : De X B own k mk) (hi : i ∈ own := by decide) (hN : X.N[i]? = some x := by rfl) (hv : Vis X.env.scope x := by first | exact Or.inl rfl | exact Or.inr (Or.inl rfl) | exact Or.inr (Or.inr rfl))
    (hd : (x == ("__debug__" : Str)) = false := by decide) (hcd : (x == ("__classdict__" : Str)) = false := by decide) (h1 : behindInMarks .In (.Name x p) = false := by rfl) : Dt X B own (.Compare k [.In] [.Name x p] pos) (Kd.tB (mDin false i mk)) :=
  pt_imp (pt_cmp (pc_din (by omega) hk (pe_var hN hv hd hcd)) h1) fun σ H Q ⟨ρ, F, re, w⟩ => tdin_of hi σ H _ ⟨ρ, F, re, thE w fun ρ1 d1 v1 H1 F1 re1 mo1 rp1 w1 => by
    obtain ⟨c, hc, w2⟩ := Wa.opt w1
    obtain rfl := asB_ok hc
    cases rp1
    exact ⟨_, rfl, w2 H1 F1 re1 Mn.refl⟩⟩
/-- .. that stay as they are -/
def fDget (d k : PyData) : Option PyData := (asTD d).bind fun kvs => (kOf k).bind fun ks => valD kvs ks
def fDin (k d : PyData) : Option PyData := (asTD d).bind fun kvs => (kOf k).map fun ks => .bool (valD kvs ks).isSome
theorem rp_dct {K : PySem.W.Frag} {F : Addr → Prop} {H : Hp} {v : V} {d : PyData} {kvs : List (PyData × PyData)} (r : Rp K F H v d) (h : asTD d = some kvs) : ∃ a ws, v = .ref a ∧ Rd H a (.dT ws) ∧ RpT K F H ws kvs := by
  unfold asTD at h
  split at h
  · cases h
    cases r with
    | dT _ h q => exact ⟨_, _, rfl, h, q⟩
  · cases h
theorem de_dgetF {o : Expr} {mo : EM} (hu : X.A.units + 65 < cLine) (ho : De X B own o mo) (hk : De X B own k mk) (hs : NoSl k := by exact fun _ _ => rfl) : De X B own (.Subscript o k pos) (m2 fDget mo mk) :=
  pe_imp (pe_dget (by omega) ho hk hs) fun σ H Q ⟨ρ, F, re, w⟩ => ⟨ρ, F, re, thE w fun ρ1 d1 v1 H1 F1 re1 mo1 rp1 w1 => ⟨ρ1, F1, re1, thE w1 fun ρ2 d2 v2 H2 F2 re2 mo2 rp2 w2 => by
    obtain ⟨z, hz, w3⟩ := Wa.opt w2
    obtain ⟨kvs, g1, hz⟩ := Option.bind_eq_some_iff.mp hz
    obtain ⟨ks, g2, g3⟩ := Option.bind_eq_some_iff.mp hz
    obtain ⟨a, ws, rfl, u4, u5⟩ := rp_dct (rp1.mono mo2.toMono) g1
    obtain ⟨b, rfl, hb, _⟩ := rp_kOf rp2 g2
    rcases u5.val ks with ⟨_, z⟩ | ⟨v, d', q1, q2, q3⟩
    · rw [g3] at z; cases z
    · rw [g3] at q2; cases q2
      exact ⟨a, v, rfl, .inr ⟨ws, ks, b, u4, rfl, hb, q1.symm⟩, w3 v H2 F2 re2 Mn.refl q3⟩⟩⟩
theorem tdinF_of {o : Expr} {mo : EM} : ∀ σ H Q, tD X.K B own (m2 fDin mk mo) σ H Q → tDIn (tD X.K B own mk) (tD X.K B own mo) σ H Q := fun σ H Q ⟨ρ, F, re, w⟩ => ⟨ρ, F, re, thE w fun ρ1 d1 v1 H1 F1 re1 mo1 rp1 w1 => ⟨ρ1, F1, re1, thE w1 fun ρ2 d2 v2 H2 F2 re2 mo2 rp2 w2 => by
    obtain ⟨z, hz, w3⟩ := Wa.opt w2
    obtain ⟨kvs, g1, hz⟩ := Option.bind_eq_some_iff.mp hz
    obtain ⟨ks, g2, rfl⟩ := Option.map_eq_some_iff.mp hz
    obtain ⟨a, ws, rfl, u4, u5⟩ := rp_dct rp2 g1
    obtain ⟨b, rfl, hb, _⟩ := rp_kOf (rp1.mono mo2.toMono) g2
    refine ⟨a, valV ws ks, rfl, .inr ⟨ws, ks, b, u4, rfl, hb, rfl⟩, ?_⟩
    have e : (valV ws ks).isSome = (valD kvs ks).isSome := by
      rcases u5.val ks with ⟨z1, z2⟩ | ⟨v, d', q1, q2, q3⟩
      · rw [z1, z2]; rfl
      · rw [q1, q2]; rfl
    rw [e]
    exact w3 _ H2 F2 re2 Mn.refl (.bl _)⟩⟩
theorem de_dinF {o : Expr} {mo : EM} (hu : X.A.units + 65 < cLine) (hk : De X B own k mk) (ho : De X B own o mo) (h1 : behindInMarks .In o = false := by rfl) : De X B own (.Compare k [.In] [o] pos) (m2 fDin mk mo) :=
  pe_imp (pe_cmp (pc_din (by omega) hk ho) h1) (tdinF_of (o := o))
theorem dt_dinF {o : Expr} {mo : EM} (hu : X.A.units + 65 < cLine) (hk : De X B own k mk) (ho : De X B own o mo) (h1 : behindInMarks .In o = false := by rfl) : Dt X B own (.Compare k [.In] [o] pos) (Kd.tB (m2 fDin mk mo)) :=
  pt_imp (pt_cmp (pc_din (by omega) hk ho) h1) fun σ H Q ⟨ρ, F, re, w⟩ => tdinF_of (o := o) σ H _ ⟨ρ, F, re, thE w fun ρ1 d1 v1 H1 F1 re1 mo1 rp1 w1 => by
    obtain ⟨c, hc, w2⟩ := Wa.opt w1
    obtain rfl := asB_ok hc
    cases rp1
    exact ⟨_, rfl, w2 H1 F1 re1 Mn.refl⟩⟩
theorem ds_dput {x : Str} {bk ct : List Nat} (i : Nat) (hu : X.A.units + 65 < cLine) (he : De X B own e mv) (hk : De X B own k mk) (hi : i ∈ own := by decide) (hN : X.N[i]? = some x := by rfl) (hv : Vis X.env.scope x := by first | exact Or.inl rfl | exact Or.inr (Or.inl rfl) | exact Or.inr (Or.inr rfl))
    (hd : (x == ("__debug__" : Str)) = false := by decide) (hcd : (x == ("__classdict__" : Str)) = false := by decide) (hs : swapsWith e (some (.Subscript (.Name x p) k p2)) pos.line X.env = pure false := by rfl) :
    Ds X B own ⟨own, bk, ct⟩ (.Assign [.Subscript (.Name x p) k p2] e pos) (sDput i mk mv) :=
  ps_imp (ps_dput (by omega) (pe_var hN hv hd hcd) hk he hs) fun D σ H ⟨ρ, F, re, w⟩ => ⟨ρ, F, re, thE w fun ρ1 d1 v1 H1 F1 re1 mo1 rp1 w1 => by
    obtain ⟨d0, h0, w2⟩ := Wa.opt w1
    obtain ⟨a, q1, _⟩ := re1.ow i d0 hi (gt_ok h0)
    refine ⟨_, q1, ρ1, F1, re1, thE w2 fun ρ2 d2 v2 H2 F2 re2 mo2 rp2 w3 => ?_⟩
    obtain ⟨kvs, g1, w4⟩ := Wa.opt w3
    obtain ⟨ks, g2, w5⟩ := Wa.opt w4
    split at w5
    · rename_i hlt
      obtain ⟨a', ws, u1, u2, u3, u4, u5⟩ := own_dict re2 hi g1
      rw [q1] at u1; cases u1
      obtain ⟨b, rfl, hb, _⟩ := rp_kOf rp2 g2
      refine ⟨a, _, rfl, DPut.t u4 hb (by rw [u5.len]; exact hlt), ?_⟩
      have pre := (re2.updOwn (o := HO.dT (putK ws ks v1)) (d' := .list []) hi u2 q1 (fun _ z => by cases z) rfl).2
      obtain ⟨re3, mo3⟩ := re2.write (d' := dctT (putD kvs ks d1)) (o := HO.dT (putK ws ks v1)) hi u2 q1 (fun _ z => by cases z) (.dT upd_same ((u5.put ks (rp1.mono mo2.toMono)).mono pre.toMono))
      exact w5 σ _ F2 re3 mo3.toMono
    · exact w5.elim⟩
end
end Kd

end T_KD17
section T_KD18
set_option maxRecDepth 100000
set_option maxHeartbeats 1000000
/-! KD18: texts: split, partition, join, index, str, int, a sign in a text; displays with a star. -/
namespace Kd
open PySem PySem.Spec PyProof.Rows L2

def asS : PyData → Option Str
  | .str z => some z
  | _ => none
/-- a text's method of one argument -/
def mT1 (f : Str → PyData → Option PyData) (a b : EM) : EM := fun ρ => (a ρ).bind fun x => Rs.opt (asS x.2) fun z => (b x.1).bind fun y => Rs.opt (f z y.2) fun d => .ok (y.1, d)
def TmD (K' : PySem.W.Frag) (r : V → List V → Hp → VK → Prop) (f : Str → PyData → Option PyData) : Prop := ∀ (F : Addr → Prop) (H : Hp) (s : Str) (y : V) (g z : PyData) (Q : VK), (∀ p, F p → H p ≠ none) → Rp K' F H y g → f s g = some z →
  (∀ v H' F', Grow F H F' H' → Rp K' F' H' v z → Q v H') → r (.str s) [y] H Q
def fPartn (s : Str) : PyData → Option PyData
  | .str b => iff' (!(b.length == 0) && decide (s.length ≤ sizeLine)) (.tuple [.str (Txt.partition s b).1, .str (Txt.partition s b).2.1, .str (Txt.partition s b).2.2])
  | _ => none
def fSplit (s : Str) : PyData → Option PyData
  | .str b => iff' (!(b.length == 0) && decide (s.length + 2 ≤ sizeLine)) (.list ((Txt.split s b).map .str))
  | _ => none
/-- texts -/
def strsD : List PyData → Option (List Str)
  | [] => some []
  | .str i :: r => (strsD r).map fun ns => i :: ns
  | _ => none
def fJoin (s : Str) : PyData → Option PyData
  | .list ds => (strsD ds).bind fun ys => iff' (decide ((ys.map (·.length)).sum + ys.length * s.length ≤ 16777216)) (.str (Txt.join s ys))
  | .tuple ds => (strsD ds).bind fun ys => iff' (decide ((ys.map (·.length)).sum + ys.length * s.length ≤ 16777216)) (.str (Txt.join s ys))
  | _ => none
def fTIdx (s : Str) : PyData → Option PyData
  | .str b => (Txt.index0 s b).map fun k => .int (k : Nat)
  | _ => none
section
variable {X : Cx} {io : List Nat} {B : Bs io} {own : List Nat} {o e : Expr} {es : List Expr} {pos apos p : Pos} {m ma mb : EM}
theorem asS_ok {d : PyData} {z : Str} (h : asS d = some z) : d = .str z := by
  cases d <;> first | (cases h; rfl) | cases h
theorem de_tm1 {id : String} {name : Str} {r : V → List V → Hp → VK → Prop} {f : Str → PyData → Option PyData} (slot : Slot "str" name id) (ty : typeOf (.builtin id) = pure (.type "method_descriptor")) (rule : MtR X id r) (hf : TmD X.K r f) (ho : De X B own o ma) (he : De X B own e mb)
    (hs : starEach [e] X.env = [(false, eval e X.env)] := by rfl) (hbase : attributeBase o name X.env (eval o X.env) = eval o X.env := by rfl) (hline : (apos.endLine == pos.line) = true := by rfl) :
    De X B own (.Call (.Attribute o name apos) [e] [] pos) (mT1 f ma mb) :=
  pe_imp (pe_m1 slot ty rule ho he hs hbase hline) fun σ H Q ⟨ρ, F, re, w⟩ => ⟨ρ, F, re, thE w fun ρ1 d1 v1 H1 F1 re1 mo1 rp1 w1 => by
    obtain ⟨z, hz, w2⟩ := Wa.opt w1
    obtain rfl := asS_ok hz
    cases rp1
    refine ⟨⟨z, rfl⟩, ρ1, F1, re1, thE w2 fun ρ2 d2 v2 H2 F2 re2 mo2 rp2 w3 => ?_⟩
    obtain ⟨y, hy, w4⟩ := Wa.opt w3
    exact hf F2 H2 z v2 d2 y Q re2.dom rp2 hy fun v H' F' g rp => w4 v H' F' (re2.grow g) g.mn rp⟩
theorem nb_false {b : Bool} (h : (!b) = true) : b = false := by cases b <;> simp at h ⊢
theorem tmd_part {K : PySem.W.Frag} : TmD K (fun x xs H Q => ∃ a b, x = .str a ∧ xs = [.str b] ∧ (b.length == 0) = false ∧ a.length ≤ sizeLine ∧
    ∀ p, H p = none → Q (.ref p) (upd H p (.tup [.str (Txt.partition a b).1, .str (Txt.partition a b).2.1, .str (Txt.partition a b).2.2]))) fPartn := fun F H s y g z Q dom rp hz k => by
  cases rp <;> first | (cases hz; done) | skip
  obtain ⟨h1, rfl⟩ := iff_some hz
  obtain ⟨h1, h2⟩ := Bool.and_eq_true_iff.mp h1
  refine ⟨_, _, rfl, rfl, nb_false h1, of_decide_eq_true h2, fun p np => ?_⟩
  refine k _ _ F (Grow.att dom np) (.tup upd_same (.cons (.str _) (.cons (.str _) (.cons (.str _) .nil))))
theorem rps_strs {K : PySem.W.Frag} {F : Addr → Prop} {H : Hp} : ∀ ys : List Str, Rps K F H (ys.map V.str) (ys.map PyData.str)
  | [] => .nil
  | y :: r => .cons (.str y) (rps_strs r)
theorem rps_strsD {K : PySem.W.Frag} {F : Addr → Prop} {H : Hp} : ∀ {vs : List V} {ds : List PyData} {ys : List Str}, Rps K F H vs ds → strsD ds = some ys → vs = ys.map V.str
  | _, _, ys, .nil, h => by cases h; rfl
  | _, _, ys, .cons rp r, h => by
    cases rp <;> first | (cases h; done) | skip
    obtain ⟨zs, h1, rfl⟩ := Option.map_eq_some_iff.mp h
    rw [rps_strsD r h1]
    rfl
theorem tmd_join {K : PySem.W.Frag} : TmD K (fun x xs H Q => ∃ a p, ∃ ys : List Str, x = .str a ∧ xs = [.ref p] ∧ (SqL K H p (ys.map V.str) ∨ SqT K H p (ys.map V.str)) ∧
    (ys.map (·.length)).sum + ys.length * a.length ≤ 16777216 ∧ Q (.str (Txt.join a ys)) H) fJoin := fun F H s y g z Q dom rp hz k => by
  cases rp <;> first | (cases hz; done) | skip
  · rename_i hl hs
    obtain ⟨ys, h1, h2⟩ := Option.bind_eq_some_iff.mp hz
    obtain ⟨h3, rfl⟩ := iff_some h2
    have e := rps_strsD hs h1
    subst e
    exact ⟨_, _, ys, rfl, rfl, .inl hl.sq, of_decide_eq_true h3, k _ H F (Grow.refl dom) (.str _)⟩
  · rename_i hl hs
    obtain ⟨ys, h1, h2⟩ := Option.bind_eq_some_iff.mp hz
    obtain ⟨h3, rfl⟩ := iff_some h2
    have e := rps_strsD hs h1
    subst e
    exact ⟨_, _, ys, rfl, rfl, .inr (SqT.of hl), of_decide_eq_true h3, k _ H F (Grow.refl dom) (.str _)⟩
/-- s.index(t), found -/
theorem mt_tidx : MtR X "str.index" (fun x xs H Q => ∃ (a b : Str) (k : Nat), x = .str a ∧ xs = [.str b] ∧ Txt.index0 a b = some k ∧ Q (.int (k : Nat)) H) := by
  intro pins s σ H x xs v us Q I rx rs h
  obtain ⟨a, b, j, rfl, rfl, hk, w⟩ := h
  obtain ⟨t, rfl⟩ := rx
  cases rs with
  | cons r1 rs =>
    cases rs
    obtain ⟨u, rfl⟩ := r1
    cases q : Builtin.Str.occurrences a b 0 a.length 1 with
    | nil =>
      unfold Txt.index0 at hk
      rw [q] at hk
      cases hk
    | cons k rest =>
      have e : k = j := by
        unfold Txt.index0 at hk
        rw [q] at hk
        exact Option.some.inj hk
      subst e
      exact PySem.SC.index q ⟨.int (k : Nat), H, I.tok _, ⟨_, rfl⟩, w⟩
theorem tmd_tidx {K : PySem.W.Frag} : TmD K (fun x xs H Q => ∃ (a b : Str) (k : Nat), x = .str a ∧ xs = [.str b] ∧ Txt.index0 a b = some k ∧ Q (.int (k : Nat)) H) fTIdx := fun F H s y g z Q dom rp hz k => by
  cases rp <;> first | (cases hz; done) | skip
  obtain ⟨j, h1, rfl⟩ := Option.map_eq_some_iff.mp hz
  exact ⟨_, _, j, rfl, rfl, h1, k _ H F (Grow.refl dom) (.int _)⟩
/-- s.split(t): a new list -/
theorem do_split (ho : De X B own o ma) (he : De X B own e mb) (hs : starEach [e] X.env = [(false, eval e X.env)] := by rfl) (hbase : attributeBase o "split" X.env (eval o X.env) = eval o X.env := by rfl) (hline : (apos.endLine == pos.line) = true := by rfl) :
    Do X B own (.Call (.Attribute o "split" apos) [e] [] pos) (mT1 fSplit ma mb) :=
  pe_imp (pe_split ho he hs hbase hline) fun σ H Q ⟨ρ, F, re, w⟩ => ⟨ρ, F, re, thE w fun ρ1 d1 v1 H1 F1 re1 mo1 rp1 w1 => by
    obtain ⟨z, hz, w2⟩ := Wa.opt w1
    obtain rfl := asS_ok hz
    cases rp1
    refine ⟨⟨z, rfl⟩, ρ1, F1, re1, thE w2 fun ρ2 d2 v2 H2 F2 re2 mo2 rp2 w3 => ?_⟩
    obtain ⟨y, hy, w4⟩ := Wa.opt w3
    cases rp2 <;> first | (cases hy; done) | skip
    obtain ⟨h1, rfl⟩ := iff_some hy
    obtain ⟨h1, h2⟩ := Bool.and_eq_true_iff.mp h1
    exact ⟨_, _, rfl, rfl, nb_false h1, of_decide_eq_true h2, fun p np => kO_new w4 re2 np (rps_strs _)⟩⟩
/-! ### str(int), int(text) -/
def fStrI : List PyData → Option PyData
  | [.int i] => iff' (decide (i.natAbs.log2 < 1920)) (.str (Str.ofString (toString i)))
  | _ => none
theorem fnd_strI {K : PySem.W.Frag} : FnD K (fun xs H Q => ∃ i : Int, xs = [.int i] ∧ i.natAbs.log2 < 1920 ∧ Q (.str (toString i)) H) fStrI := fun F H xs ds z Q dom r hz k => by
  cases r with
  | nil => cases hz
  | cons r1 r2 => cases r2 with
    | cons _ _ => cases r1 <;> cases hz
    | nil =>
      cases r1 <;> first | (cases hz; done) | skip
      obtain ⟨h, rfl⟩ := iff_some hz
      exact ⟨_, rfl, of_decide_eq_true h, k _ H F (Grow.refl dom) (.str _)⟩
def fIntS : List PyData → Option PyData
  | [.str a] => if a.length ≤ 640 then (PySem.intText? a).map .int else none
  | _ => none
theorem fnd_intS {K : PySem.W.Frag} : FnD K (fun xs H Q => ∃ (a : Str) (n : Int), xs = [.str a] ∧ PySem.intText? a = some n ∧ a.length ≤ 640 ∧ Q (.int n) H) fIntS := fun F H xs ds z Q dom r hz k => by
  cases r with
  | nil => cases hz
  | cons r1 r2 => cases r2 with
    | cons _ _ => cases r1 <;> cases hz
    | nil =>
      cases r1 <;> first | (cases hz; done) | skip
      simp only [fIntS] at hz
      split at hz
      · rename_i hl
        obtain ⟨n, h1, rfl⟩ := Option.map_eq_some_iff.mp hz
        exact ⟨_, n, rfl, h1, hl, k _ H F (Grow.refl dom) (.int _)⟩
      · cases hz
/-! ### a sign in a text -/
def sign1 (x : Str) : Option Nat := if x.cps.size = 1 then x.cps[0]? else none
theorem sign1_ok {x : Str} {c : Nat} (h : sign1 x = some c) : x = ⟨#[c]⟩ := by
  unfold sign1 at h
  split at h
  · rename_i hs
    refine Str.ext' ?_
    apply Array.ext
    · simpa using hs
    · intro i h1 h2
      have : i = 0 := by simp at h2; exact h2
      subst this
      rw [Array.getElem?_eq_getElem (by omega)] at h
      simpa using h
  · cases h
def fInS : PyData → PyData → Option PyData
  | .str x, .str z => (sign1 x).map fun c => .bool (decide (c ∈ z.cps.toList))
  | _, _ => none
def fNinS : PyData → PyData → Option PyData
  | .str x, .str z => (sign1 x).map fun c => .bool (!decide (c ∈ z.cps.toList))
  | _, _ => none
theorem opd_inS {K : PySem.W.Frag} : OpD K (fun x y H Q => ∃ (c : Nat) (z : Str), x = .str ⟨#[c]⟩ ∧ y = .str z ∧ Q (.bl (decide (c ∈ z.cps.toList))) H) fInS := fun F H x y d e z Q dom rx ry hz k => by
  cases rx <;> first | (cases hz; done) | skip
  cases ry <;> first | (cases hz; done) | skip
  obtain ⟨c, h1, rfl⟩ := Option.map_eq_some_iff.mp hz
  have := sign1_ok h1
  subst this
  exact ⟨c, _, rfl, rfl, k _ H F (Grow.refl dom) (.bl _)⟩
theorem opd_ninS {K : PySem.W.Frag} : OpD K (fun x y H Q => ∃ (c : Nat) (z : Str), x = .str ⟨#[c]⟩ ∧ y = .str z ∧ Q (.bl (!decide (c ∈ z.cps.toList))) H) fNinS := fun F H x y d e z Q dom rx ry hz k => by
  cases rx <;> first | (cases hz; done) | skip
  cases ry <;> first | (cases hz; done) | skip
  obtain ⟨c, h1, rfl⟩ := Option.map_eq_some_iff.mp hz
  have := sign1_ok h1
  subst this
  exact ⟨c, _, rfl, rfl, k _ H F (Grow.refl dom) (.bl _)⟩
/-! ### displays with a star -/
def asLT : PyData → Option (List PyData)
  | .list xs => some xs
  | .tuple xs => some xs
  | _ => none
def mArgS : List (Bool × EM) → Ev → Rs (Ev × List PyData)
  | [], ρ => .ok (ρ, [])
  | (false, m) :: r, ρ => (m ρ).bind fun x => (mArgS r x.1).bind fun y => .ok (y.1, x.2 :: y.2)
  | (true, m) :: r, ρ => (m ρ).bind fun x => Rs.opt (asLT x.2) fun xs => (mArgS r x.1).bind fun y => .ok (y.1, xs ++ y.2)
def mNS (f : List PyData → Option PyData) (as : List (Bool × EM)) : EM := fun ρ => (mArgS as ρ).bind fun x => Rs.opt (f x.2) fun d => .ok (x.1, d)
def tDAS (K' : PySem.W.Frag) {io : List Nat} (B : Bs io) (own : List Nat) (ms : List (Bool × EM)) : TA := fun σ H Q => ∃ ρ F, RE K' B own F ρ σ H ∧ Wa B (kA (K := K') B own σ Q) F H (mArgS ms ρ)
abbrev DaS (X : Cx) {io : List Nat} (B : Bs io) (own : List Nat) (es : List Expr) (ms : List (Bool × EM)) : Prop := PA X es (tDAS X.K B own ms)
theorem das_nil : DaS X B own [] [] := pa_imp pa_nil fun σ H Q ⟨ρ, F, re, w⟩ => w [] H F re Mn.refl .nil
theorem das_cons {ms : List (Bool × EM)} (ha : De X B own e m) (hr : DaS X B own es ms) (hs : starEach (e :: es) X.env = (false, eval e X.env) :: starEach es X.env := by rfl) : DaS X B own (e :: es) ((false, m) :: ms) :=
  pa_imp (pa_cons ha hr hs) fun σ H Q ⟨ρ, F, re, w⟩ => ⟨ρ, F, re, thE w fun ρ1 d1 v1 H1 F1 re1 mo1 rp1 w1 => ⟨ρ1, F1, re1, thA w1 fun ρ2 ds vs H2 F2 re2 mo2 rp2 w2 =>
    w2 _ H2 F2 re2 Mn.refl (.cons (rp1.mono mo2.toMono) rp2)⟩⟩
theorem das_star {ms : List (Bool × EM)} (ha : De X B own e m) (hr : DaS X B own es ms) (hs : starEach (.Starred e p :: es) X.env = (true, eval e X.env) :: starEach es X.env := by rfl) : DaS X B own (.Starred e p :: es) ((true, m) :: ms) :=
  pa_imp (StX.pa_star ha hr hs) fun σ H Q ⟨ρ, F, re, w⟩ => ⟨ρ, F, re, thE w fun ρ1 d1 v1 H1 F1 re1 mo1 rp1 w1 => by
    obtain ⟨xs, hx, w2⟩ := Wa.opt w1
    cases rp1 <;> first | (cases hx; done) | skip
    · rename_i a vs hl hs
      cases hx
      refine ⟨_, _, rfl, .inr hl.sq, ρ1, F1, re1, thA w2 fun ρ2 ds us H2 F2 re2 mo2 rp2 w3 => w3 _ H2 F2 re2 Mn.refl ((hs.mono mo2.toMono).append rp2)⟩
    · rename_i a vs hl hs
      cases hx
      refine ⟨_, _, rfl, .inl (SqT.of hl), ρ1, F1, re1, thA w2 fun ρ2 ds us H2 F2 re2 mo2 rp2 w3 => w3 _ H2 F2 re2 Mn.refl ((hs.mono mo2.toMono).append rp2)⟩⟩
theorem de_tupS {ms : List (Bool × EM)} {k : Nat} (h : DaS X B own es ms) : De X B own (.Tuple es k pos) (mNS fTup ms) :=
  pe_imp (pe_tup h) fun σ H Q ⟨ρ, F, re, w⟩ => ⟨ρ, F, re, thA w fun ρ1 ds vs H1 F1 re1 mo1 rps w1 => by
    obtain ⟨z, hz, w2⟩ := Wa.opt w1
    obtain ⟨h3, rfl⟩ := iff_some hz
    refine ⟨by rw [rps.length]; exact of_decide_eq_true h3, fun p np => ?_⟩
    have g : Grow F1 H1 F1 (upd H1 p (.tup vs)) := Grow.att re1.dom np
    exact w2 _ _ F1 (re1.grow g) g.mn (.tup upd_same (rps.mono g.mono))⟩
theorem do_lstS {ms : List (Bool × EM)} (h : DaS X B own es ms) : Do X B own (.List es pos) (mNS fLst ms) :=
  pe_imp (pe_lst h) fun σ H Q ⟨ρ, F, re, w⟩ => ⟨ρ, F, re, thA w fun ρ1 ds vs H1 F1 re1 mo1 rps w1 => by
    obtain ⟨z, hz, w2⟩ := Wa.opt w1
    obtain ⟨h3, rfl⟩ := iff_some hz
    exact ⟨by rw [rps.length]; exact of_decide_eq_true h3, fun p np => kO_new w2 re1 np rps⟩⟩
end
end Kd

end T_KD18
section T_KD19
set_option maxRecDepth 100000
set_option maxHeartbeats 1000000
/-! KD19: enumerate(xs, k); str * int. -/
namespace Kd
open PySem PySem.Spec PyProof.Rows L2

/-- the list at a as it stands at each turn, each item in a new pair with the turn's number from k on -/
def IteC (K : PySem.W.Frag) (a : Addr) (k : Int) : It :=
  ⟨fun i H => ∃ (xs : List V) (x : V), SqL K H a xs ∧ xs[i]? = some x, fun i H v H' => ∃ T x, v = .ref T ∧ H T = none ∧ H' = upd H T (.tup [.int (k + (i : Nat)), x]) ∧ ∀ xs, SqL K H a xs → xs[i]? = some x, fun i H => ∃ xs : List V, SqL K H a xs ∧ xs.length ≤ i⟩
theorem turn_enumC {P : Program} {w : World} {K : PySem.W.Frag} {elts : List Expr} {kk : Nat} {tpos : Pos} (a e it : Addr) (k : Int) :
    Turn P w K (.Tuple elts kk tpos) (IteC K a k) [e, it] e (fun i h => (∃ old, IsEnum h e it (k + ((i : Nat) : Int)) old) ∧ h.IsListIter it a i ∧ e ≠ it) where
  mem := by simp
  obj := fun i h st b hb => by
    obtain ⟨⟨old, he⟩, ⟨o, ho, hc, hd⟩, _⟩ := st
    have e' : b = e ∨ b = it := by simpa using hb
    rcases e' with z | z
    · rw [z]; exact ⟨_, he, fun v q => nomatch q⟩
    · rw [z]; exact ⟨o, ho, fun v q => by rw [hd] at q; cases q⟩
  keep := fun i h h' st k => let ⟨⟨old, he⟩, hi, hne⟩ := st; ⟨⟨old, k e (by simp) _ he⟩, hi.at fun o q => k it (by simp) o q, hne⟩
  item := by
    intro X hP hw hK hc i pins s σ H E I hf st hg
    subst hP hw hK
    obtain ⟨⟨old, he⟩, hit, hne⟩ := st
    obtain ⟨xs, x, hq, hx⟩ := hg
    obtain ⟨its, rv, p, hz⟩ := I.list hq
    obtain ⟨u, hu, ru⟩ := rv.get hx
    have hel : e < s.heap.objs.size := Heap.lt_size he
    have hil : it < s.heap.objs.size := by obtain ⟨_, q, _⟩ := hit; exact Heap.lt_size q
    have hae : e ≠ a := fun z => by
      obtain ⟨o, h1, h2, _⟩ := p.isList
      rw [z] at he
      rw [he] at h1
      cases h1
      exact absurd (show Value.type "enumerate" = Value.type "list" from h2) (by decide)
    have hai : a ≠ it := fun z => by
      obtain ⟨o, h1, h2, _⟩ := p.isList
      obtain ⟨o', h3, h4, _⟩ := hit
      rw [z, h3] at h1
      cases h1
      rw [h4] at h2
      exact absurd h2 (by decide)
    have D := Draws.list (prog := X.prog) (w := X.w) (A := X.A.in1) (I.ok.hd hc) it a hai its.toArray
    have hlt : i < its.toArray.size := by
      have := (List.getElem?_eq_some_iff.mp hu).1
      simpa using this
    refine wpAny_pyNext_enum_itemC (i := i) D he ⟨hit, p.isList⟩ hlt hne (by simp [hne, hae]) fun y h' tk hy ho st' hT hsz hk => ?_
    have hyu : y = u := by
      have : its[i]? = some y := by simpa using hy
      rw [hu] at this
      exact (Option.some.inj this).symm
    subst hyu
    refine ⟨_, rfl, wpAny_letOwnedTupleGo_enum (s := { s with heap := h', toks := tk + 1 }) ho fun h'' he' sb => ?_⟩
    have hT2 : h''.get? s.heap.objs.size = some { cls := .type "tuple", data := .seq #[.int (k + i) tk, y] } := (sb.2 _ (Nat.ne_of_gt hel)).trans hT
    have new : ObjOk X.prog X.w (upd H s.heap.objs.size (.tup [.int (k + (i : Nat)), x])) h'' s.heap.objs.size (.tup [.int (k + (i : Nat)), x]) :=
      ⟨by show 2 ≤ sizeLine; decide, [.int (k + i) tk, y], .cons ⟨_, rfl⟩ (.cons ru .nil), ⟨_, hT2, rfl, _, rfl⟩⟩
    have I1 : Inv X pins σ (upd H s.heap.objs.size (.tup [.int (k + (i : Nat)), x])) { s with heap := h'', toks := tk + 1 } :=
      I.turnedNew (ch := [e, it]) (fun b ob hb q => (sb.2 b (fun z => hb (by simp [z]))).trans (hk b ob (fun z => hb (by simp [z])) (fun z => hb (by simp [z])) q)) hf (Nat.le_refl _) new
    refine ⟨.ref s.heap.objs.size, _, I1, rfl, ⟨_, x, rfl, I.hok.fresh (Nat.le_refl _), rfl, fun ys hy => by rw [I.list_inj hy hq]; exact hx⟩, ⟨⟨y, ?_⟩, st'.1.at fun o q => (sb.2 it (Ne.symm hne)).trans q, hne⟩, fun b hb => ?_⟩
    · have e1 : k + ((i + 1 : Nat) : Int) = k + (i : Int) + 1 := by omega
      rw [e1]; exact he'
    · have hb' : b < s.heap.objs.size := by
        have e' : b = e ∨ b = it := by simpa using hb
        rcases e' with z | z
        · rw [z]; exact hel
        · rw [z]; exact hil
      rw [upd_ne (Nat.ne_of_lt hb')]
      exact (hf b hb).1
  done := by
    intro X hP hw hK hc i pins s σ H E I hf st hg
    subst hP hw hK
    obtain ⟨⟨old, he⟩, hit, hne⟩ := st
    obtain ⟨xs, hq, hx⟩ := hg
    obtain ⟨its, rv, p, hz⟩ := I.list hq
    obtain ⟨f0, f1, f2, f3, f4, f5⟩ := hf it (by simp)
    have hl := rv.length
    have hT : s.TypeIs (.ref e) "enumerate" := ⟨_, he, rfl⟩
    unfold pyNext
    refine wpAny_bind (wpAny_attempt (wpAny_callSpecial?_slot (name := Str.ofString "__next__") hT PySem.F.slot_enumerate_next
      (wpAny_call_entry PySem.F.slot_enumerate_next hT PySem.F.entry_enumerate_next ?_ (PySem.F.args_enumerate_next_1 _))))
    show wpAny _ _ (field (.ref e) 2 >>= _) _ _ _
    refine wpAny_bind (wpAny_field he rfl (x := .ref it) rfl ?_)
    refine wpAny_bind (wpAny_nextOf_list_end (I.ok.hd hc) hit p.isList (by simp; omega) fun h' x he' hx' => ?_)
    obtain ⟨o, ho, hcl⟩ := hx'
    refine wpAny_bind (wpAny_isInstance (T := "StopIteration") (b := true) ⟨o, ho, hcl⟩ isSubtype_stop ?_)
    exact wpAny_pure ⟨rfl, I.turned (t' := s.toks) (fun b o hb q => he' b o hb q) f0 f1 f3 f4 f5⟩
  self := fun A i s Q E st h => let ⟨⟨_, he⟩, _⟩ := st; wpAny_pyIter_enum he h
def iEnumC (K : PySem.W.Frag) (ta : TA) : TI := fun σ H R => ta σ H fun vs H1 => ∃ (a : Addr) (xs : List V) (k : Int), vs = [.ref a, .int k] ∧ SqL K H1 a xs ∧ -(2 ^ 62) ≤ k ∧ k < 2 ^ 62 ∧ R (IteC K a k) H1
theorem pi_enumC {X : Cx} {e e2 : Expr} {ta : TA} {p pos tpos : Pos} {elts : List Expr} {kk : Nat} (hg : Gl X "enumerate") (hm : X.mg "enumerate" = none) (ha : PA X [e, e2] ta) (hs : starEach [e, e2] X.env = (false, eval e X.env) :: starEach [e2] X.env := by rfl) (hpl : (backTo pos (starEach [e2] X.env)).any (·.1) = false := by rfl) :
    PI X (.Tuple elts kk tpos) (.Call (.Name "enumerate" p) [e, e2] [] pos) (iEnumC X.K ta) := by
  refine ⟨fun pins s σ H R I h => ?_⟩
  refine Call_ (ld_blt I hg hm boot_enumerate (PyProof.Rows.callWith_type1 (thn (ha.run pos pins s σ H _ I h) fun us s1 ⟨vs, H1, I1, r1, q1⟩ => ?_) hs hpl))
  obtain ⟨a, xs, k, ex, hq, k0, k1, q⟩ := q1
  subst ex
  cases r1 with
  | cons r rr =>
    cases rr with
    | cons r2 rr =>
    cases rr
    cases r
    obtain ⟨t, rfl⟩ := r2
    obtain ⟨its, rv, p', hz⟩ := I1.list hq
    refine enum_begins (begins_list a its.toArray) p'.isList (by omega) (by omega) fun h' he hit hsz hk => wpAny_pyIter_enum he ?_
    have I2 : Inv X pins σ H1 { s1 with heap := h' } := I1.kept (t' := s1.toks) hk
    refine ⟨s1.heap.objs.size + 1, [s1.heap.objs.size + 1, s1.heap.objs.size], _, _, H1, rfl, I2, turn_enumC a (s1.heap.objs.size + 1) s1.heap.objs.size k, ⟨⟨.none, by simpa using he⟩, ⟨_, hit, rfl, rfl⟩, Nat.succ_ne_self _⟩, fun b hb => ?_, q⟩
    have e' : b = s1.heap.objs.size + 1 ∨ b = s1.heap.objs.size := by simpa using hb
    have hle : s1.heap.objs.size ≤ b := by
      rcases e' with z | z
      · rw [z]; exact Nat.le_add_right _ _
      · rw [z]; exact Nat.le_refl _
    exact I1.fpOk hle (I1.hok.fresh hle)
theorem walk_enumC {K : PySem.W.Frag} {a : Addr} {xs : List V} {k : Int} : Walk (IteC K a k) xs.length (fun H => SqL K H a xs) (YPair (fun i => some (.int (k + (i : Nat)))) (fun i => xs[i]?)) := by
  refine ⟨fun i _ hi q => ⟨xs, xs[i], q, by simp [hi]⟩, fun _ q => ⟨xs, q, Nat.le_refl _⟩, fun i H v H' _ q y => ?_⟩
  obtain ⟨T, x, h1, h2, h3, h4⟩ := y
  exact ⟨T, .int (k + (i : Nat)), x, h1, h2, h3, rfl, h4 xs q⟩
section
variable {X : Cx} {tg e e2 : Expr} {io : List Nat} {B : Bs io} {own : List Nat} {m : EM} {pos p tpos : Pos}
def enumC : List PyData → Option (List PyData)
  | [.list xs, .int k] => if -(2 ^ 62) ≤ k ∧ k < 2 ^ 62 then some (xs.zipIdx.map fun p => .tuple [.int (k + (p.2 : Nat)), p.1]) else none
  | _ => none
theorem di_enumC {elts : List Expr} {kk : Nat} {ms : List EM} (hm : X.mg "enumerate" = none) (ha : Da X B own [e, e2] ms) (hg : Gl X "enumerate" := by rfl) (hs : starEach [e, e2] X.env = (false, eval e X.env) :: starEach [e2] X.env := by rfl) (hpl : (backTo pos (starEach [e2] X.env)).any (·.1) = false := by rfl) :
    Di X B own (.Tuple elts kk tpos) (.Call (.Name "enumerate" p) [e, e2] [] pos) (iNg enumC ms) :=
  pi_imp (pi_enumC hg hm ha hs hpl) fun σ H R ⟨ρ, F, re, w⟩ => ⟨ρ, F, re, thA w fun ρ1 ds vs H1 F1 re1 mo1 rp1 w1 => by
    obtain ⟨ds', hd, w2⟩ := Wa.opt w1
    unfold enumC at hd
    split at hd
    · rename_i xs k he
      split at hd
      · rename_i hk
        cases he
        cases hd
        cases rp1 with
        | cons r1 r2 =>
          cases r2 with
          | cons r2 r3 =>
          cases r3
          cases r2
          cases r1 with
          | lst hl1 hs1 =>
            rename_i a vs1
            refine ⟨a, vs1, k, rfl, hl1.sq, hk.1, hk.2, w2 _ H1 F1 re1 Mn.refl ⟨fun H => SqL X.K H a vs1, YPair (fun i => some (.int (k + (i : Nat)))) (fun i => vs1[i]?), ?_, fun F2 H2 mo => hl1.imp (fun x => mo.rd _ _ x.1 x.2) id, fun F2 i H2 v H3 mo dom y => ?_⟩⟩
            · have e : (xs.zipIdx.map fun p => PyData.tuple [.int (k + (p.2 : Nat)), p.1]).length = vs1.length := by
                rw [hs1.length]; simp
              rw [e]
              exact walk_enumC
            · obtain ⟨T, x, z, rfl, hT, rfl, e1, e2⟩ := y
              have e2 : vs1[i]? = some z := e2
              cases e1
              have l2 := (List.getElem?_eq_some_iff.mp e2).1
              rw [hs1.length] at l2
              obtain ⟨z', q2, r2⟩ := hs1.get (List.getElem?_eq_getElem l2)
              rw [e2] at q2; cases q2
              have g : Grow F2 H2 F2 (upd H2 T (.tup [.int (k + (i : Nat)), z])) := Grow.att dom hT
              refine ⟨.tuple [.int (k + (i : Nat)), xs[i]], ?_, g, .tup (upd_same ..) (.cons (.int _) (.cons ((r2.mono mo).mono g.mono) .nil))⟩
              simp [l2]
      · cases hd
    · cases hd⟩
end
/-! ### str * int -/
def fMulS : PyData → PyData → Option PyData
  | .str x, .int n => if 2 ≤ n ∧ n ≤ 1000 ∧ x.length ≠ 0 ∧ x.length * n.toNat ≤ 100000 ∧ (⟨(List.replicate n.toNat x.cps).foldl (· ++ ·) #[]⟩ : Str).length ≤ sizeLine then some (.str ⟨(List.replicate n.toNat x.cps).foldl (· ++ ·) #[]⟩) else none
  | _, _ => none
def rMulS : R2 := fun x y H Q => ∃ (a : Str) (n : Int), x = .str a ∧ y = .int n ∧ 2 ≤ n ∧ n ≤ 1000 ∧ a.length ≠ 0 ∧ a.length * n.toNat ≤ 100000 ∧ (⟨(List.replicate n.toNat a.cps).foldl (· ++ ·) #[]⟩ : Str).length ≤ sizeLine ∧ Q (.str ⟨(List.replicate n.toNat a.cps).foldl (· ++ ·) #[]⟩) H
theorem op_mulS {X : Cx} : OpR X (binaryOp .Mult) rMulS := by
  intro pins s σ H x y v u Q I rx ry h
  obtain ⟨a, n, rfl, rfl, h2, h3, h4, h5, h6, q⟩ := h
  obtain ⟨t, rfl⟩ := rx
  obtain ⟨t', rfl⟩ := ry
  have e1 : ¬ n < 1 := by omega
  have e2 : (n == 1 || a.length == 0) = false := by
    have : (n == 1) = false := by simpa using (by omega : n ≠ 1)
    rw [this]
    simpa using h4
  refine PySem.P.mul_str (by
      have z1 : ¬ n < -(2 ^ 63 : Int) := by omega
      have z2 : ¬ n ≥ 2 ^ 63 := by omega
      rw [decide_eq_false z1, decide_eq_false z2]; rfl) (fun _ _ => ?_) (fun _ _ => ?_) ?_
  · have ha : a.length ≤ 100000 := by
      have : a.length * 1 ≤ a.length * n.toNat := Nat.mul_le_mul_left _ (by omega)
      omega
    have : (100000 : Int) ≤ (2 ^ 63 - 1) / n := by
      refine (Int.le_ediv_iff_mul_le (by omega)).mpr ?_
      omega
    omega
  · unfold Builtin.Str.tooLong
    refine decide_eq_false ?_
    rw [sizeLine_eq]
    omega
  · rw [if_neg e1, if_neg (by rw [e2]; simp)]
    exact ⟨h6, ⟨.str _, H, I.tok _, ⟨_, rfl⟩, q⟩⟩
theorem opd_mulS {K : PySem.W.Frag} : OpD K rMulS fMulS := fun F H x y d e z Q dom rx ry hz k => by
  cases rx <;> first | (cases hz; done) | skip
  cases ry <;> first | (cases hz; done) | skip
  simp only [fMulS] at hz
  split at hz
  · rename_i h
    cases hz
    exact ⟨_, _, rfl, rfl, h.1, h.2.1, h.2.2.1, h.2.2.2.1, h.2.2.2.2, k _ H F (Grow.refl dom) (.str _)⟩
  · cases hz
end Kd

end T_KD19
section T_KD20
set_option maxRecDepth 100000
set_option maxHeartbeats 1000000
/-! KD20: exceptions with a field: raise C(x), e.f of a kept exception. -/
namespace Kd
open PySem PySem.Spec PyProof.Rows L2

/-- what the text's top says of an exception class with a field -/
def oexC (K : PySem.W.Frag) (C : Addr) : Bool := match K.lookup C with
  | some ⟨.type "type", _, .cls cd, sl⟩ => (match cd.mro, sl.toList with
    | .ref C' :: bm, [_, _, _, _, some (.builtin n), _] => C' == C && (n == "ValueError.__new__" && (!cd.hasDel && (PySem.HandSPX.refsVE bm && cd.hasDict)))
    | _, _ => false)
  | _ => false
def oexB (K : PySem.W.Frag) (x : Str) : Bool := oexC K (He.ga K x) && (decide (PySem.W.findIn K (.ref (He.ga K x)) "__setattr__" = some (some (.builtin "object.__setattr__"))) && (decide (PySem.W.subIn K (.ref (He.ga K x)) (.type "BaseException") = some true) &&
  (decide (PySem.W.typeIn K (.ref (He.ga K x)) = some (.type "type")) && (PySem.W.keepIn K (.ref (He.ga K x)) && (decide (PySem.W.findIn K (.ref (He.ga K x)) (fldN x) = some none) &&
  (decide (PySem.W.findIn K (.ref (He.ga K x)) "__init__" = some (some (.ref (He.ma K (He.ga K x) "__init__")))) && decide (PySem.W.typeIn K (.ref (He.ma K (He.ga K x) "__init__")) = some (.type "function"))))))))
def excsF (L Lf : List Str) (K : PySem.W.Frag) : Bool := excsB L K && Lf.all (oexB K)
structure OexK (K : PySem.W.Frag) (x : Str) : Prop where
  t : OexC K (He.ga K x)
  no : PySem.W.findIn K (.ref (He.ga K x)) (fldN x) = some none
  iC : PySem.W.findIn K (.ref (He.ga K x)) "__init__" = some (some (.ref (He.ma K (He.ga K x) "__init__")))
  tI : PySem.W.typeIn K (.ref (He.ma K (He.ga K x) "__init__")) = some (.type "function")
theorem oexC_ok {K : PySem.W.Frag} {C : Addr} (q : oexC K C = true) : ∃ nm q N bs bm sn sub ab col dd k0 k1 k2 k3 k5, K.lookup C = some (excClassObj nm q C N bs bm true sn sub ab col dd k0 k1 k2 k3 k5 "ValueError.__new__") ∧ PySem.HandSPX.refsVE bm = true := by
  unfold oexC at q
  split at q
  · rename_i dd cd sl ho
    split at q
    · rename_i C' bm k0 k1 k2 k3 n k5 hm hs
      simp only [Bool.and_eq_true, beq_iff_eq, Bool.not_eq_true'] at q
      obtain ⟨rfl, rfl, hdel, ht, hdi⟩ := q
      obtain ⟨nm, bs, mro, ns, qn, hd, sn, sub, ab, col, del⟩ := cd
      dsimp only at hm hdel hdi
      subst hm hdel hdi
      have hsl : sl = #[k0, k1, k2, k3, some (.builtin "ValueError.__new__"), k5] := by
        obtain ⟨l⟩ := sl
        simp only at hs
        rw [hs]
      subst hsl
      exact ⟨nm, qn, ns, bs, bm, sn, sub, ab, col, dd, k0, k1, k2, k3, k5, ho, ht⟩
    · cases q
  · cases q
theorem oexB_ok {K : PySem.W.Frag} {x : Str} (h : oexB K x = true) : OexK K x := by
  unfold oexB at h
  simp only [Bool.and_eq_true] at h
  obtain ⟨a1, a2, a3, a4, a5, a6, a7, a8⟩ := h
  exact ⟨⟨oexC_ok a1, dcd a2, dcd a3, dcd a4, a5⟩, dcd a6, dcd a7, dcd a8⟩
theorem excsF_b {L Lf : List Str} {K : PySem.W.Frag} (h : excsF L Lf K = true) : excsB L K = true := (Bool.and_eq_true_iff.mp h).1
theorem excsF_f {L Lf : List Str} {K : PySem.W.Frag} (h : excsF L Lf K = true) {x : Str} (hx : x ∈ Lf) : OexK K x := oexB_ok (List.all_eq_true.mp (Bool.and_eq_true_iff.mp h).2 x hx)

/-! ### raise C(x) -/
/-- what C.__init__ does -/
def spInit (C : Addr) (f : Str) : Sp := fun vs H Q _ => ∃ (a : Addr) (v : V), vs = [.ref a, v] ∧ H a = some (exo a C none) ∧ ∀ dx, H dx = none → dx ≠ a → Q .non (upd (upd H dx (exd dx [(f, v)])) a (exo a C (some dx)))
theorem init_ok {P : Program} {w : World} {K : PySem.W.Frag} {mg : Str → Option Value} {base : Heap} {C : Addr} {f : Str} {qual : Str} {params : Arguments} {scope : Scope} {fI : Addr} {fd : FuncData} {p1 p2 p3 p4 : Pos} (T : OexC K C) (hno : PySem.W.findIn K (.ref C) f = some none)
    (F : FunD K "__init__" qual params [.Assign [.Attribute (.Name "self" p1) f p2] (.Name f p3) p4] scope [] [] fI fd) (S : FnScope ["self", f] ["self", f] scope) (hf : (f == ("__debug__" : Str)) = false) (hf2 : (f == ("__classdict__" : Str)) = false)
    (hv0 : scope.names.lookup ("self" : Str) = some .local) (hv1 : scope.names.lookup f = some .local) (hs : ∀ env, swapsWith (.Name f p3) (some (.Attribute (.Name "self" p1) f p2)) p4.line env = pure false) :
    FnOk P w K mg base (L2.CX P w) 1 fI fd ["self", f] (spInit C f) := by
  refine FunD.ok F S (fun vs H Q E ⟨a, v, e, _⟩ => by rw [e]; rfl) fun cdv A outer s H vs Q E hr ⟨a, v, e, ha, h⟩ => ?_
  subst e
  have b := pss_one (ps_ost (X := cxOf (L2.CX P w) P w K mg base ["self", f] qual scope fI cdv A outer s H E) (pos := p4) (p' := p2) (f := f) (pv (pos := p1) 0 (x := "self") rfl (.inl hv0)) (pv (pos := p3) 1 (x := f) rfl (.inl hv1) hf hf2) (hs _))
  refine ⟨_, b, ?_⟩
  exact ⟨v, rfl, .ref a, rfl, a, C, rfl, T, hno, .inl ⟨ha, fun dx hdx hne => h dx hdx hne⟩⟩
/-- C.__init__ as raise sees it -/
def RzF (P : Program) (w : World) (K : PySem.W.Frag) (mg : Str → Option Value) (base : Heap) (x : Str) : Prop := ∃ fd, FnOk P w K mg base (L2.CX P w) 1 (He.ma K (He.ga K x) "__init__") fd ["self", fldN x] (spInit (He.ga K x) (fldN x)) ∧ Binds K fd ["self", fldN x] []
theorem excsF_sub {L Lf Lg : List Str} {K : PySem.W.Frag} (h : excsF L Lf K = true) (hs : ∀ c ∈ Lg, c ∈ Lf) : excsF L Lg K = true := by
  obtain ⟨h1, h2⟩ := Bool.and_eq_true_iff.mp h
  exact Bool.and_eq_true_iff.mpr ⟨h1, List.all_eq_true.mpr fun c hc => List.all_eq_true.mp h2 c (hs c hc)⟩
def sRaiseF (c : Str) (m : EM) : SM := fun ρ => (m ρ).bind fun x => .exc c (some x.2)
section
variable {X : Cx} {io : List Nat} {B : Bs io} {own : List Nat} {pos p pos' : Pos} {e a : Expr} {m ma : EM}
theorem ds_raiseF {x : Str} {ow : Ow} (o : OexK X.K x) (R : RzF X.prog X.w X.K X.mg X.base x) (hmx : X.mg x = some (.ref (He.ga X.K x))) (tk : Takes X B.W) {k : Nat} (hr : Room k X.A) (he : De X B own e m) (hk : 2 ≤ k := by decide) (hio : ∀ i ∈ io, i ∈ own := by decide) (hc : X.calm = true := by rfl) (hg : Gl X x := by rfl) (hdb : (x == ("__debug__" : Str)) = false := by decide)
    (hs : starEach [e] X.env = (false, eval e X.env) :: starEach [] X.env := by rfl) (hpl : (backTo pos (starEach [] X.env)).any (·.1) = false := by rfl) :
    Ds X B own ow (.Raise (some (.Call (.Name x p) [e] [] pos)) none pos') (sRaiseF x m) := by
  obtain ⟨fd, F1, hb⟩ := R
  refine ps_imp (ps_raise hc tk (pmk_oex o.t o.iC o.tI F1 (hr.mono hk) hb .nil (fun pins σ H s ev s' I z => by
    obtain ⟨_, _, _, _, _, _, _, _, _, _, _, _, q⟩ := z
    exact q.elim) hg hmx (pa_cons he pa_nil hs) hdb hs hpl)) fun D σ H ⟨ρ, F, re, w⟩ => ?_
  refine ⟨ρ, F, re, thE w fun ρ1 d1 v1 H1 F1 re1 mo1 rp1 w1 => ?_⟩
  refine ⟨Nat.le_of_ble_eq_true rfl, fun a na => ⟨a, v1, rfl, upd_same, fun dx hdx hne => ⟨rfl, dx, [(fldN x, v1)], upd_same, ?_, ?_, ?_⟩⟩⟩
  · rw [upd_ne hne, upd_same]
  · rw [upd_ne hne] at hdx
    exact hdx
  · have hd1 : H1 dx = none := by rw [upd_ne hne] at hdx; exact hdx
    have e : upd (del (upd (upd (upd H1 a (exo a (He.ga X.K x) none)) dx (exd dx [(fldN x, v1)])) a (exo a (He.ga X.K x) (some dx))) a) dx (HO.xd [(fldN x, v1)]) = upd H1 dx (HO.xd [(fldN x, v1)]) := by
      funext b
      by_cases hb : b = dx
      · subst hb; rw [upd_same, upd_same]
      · rw [upd_ne hb, upd_ne hb]
        by_cases ha : b = a
        · subst ha; rw [del_same, na]
        · rw [del_ne ha, upd_ne ha, upd_ne hb, upd_ne ha]
    rw [e]
    obtain ⟨F2, re2, mo2⟩ := re1.freeze hio fun i h => h
    have g : Grow F2 H1 (fun b => F2 b ∨ b = dx) (upd H1 dx (HO.xd [(fldN x, v1)])) := Grow.atp re2.dom hd1
    exact w1 (.ref (He.ga X.K x)) (some dx) ρ1 σ _ _ (re2.grow g) (mo2.trans g.mono) ⟨rfl, dx, v1, rfl, .inr rfl, upd_same, (rp1.mono mo2).mono g.mono⟩
/-! ### e.f -/
def fFldX (L : List Str) : PyData → Option PyData
  | .dict [(.none, .str c), (.none, d)] => iff' (L.contains c) d
  | _ => none
theorem exS_inv {K : PySem.W.Frag} {F : Addr → Prop} {H : Hp} {v : V} {c : Str} {d : PyData} (h : Rp K F H v (.dict [(.none, .str c), (.none, d)])) : ∃ (a dd : Addr) (u : V), v = .ref a ∧ Rd H a (exq a (He.ga K c) (some dd)) ∧ Rd H dd (.xd [(fldN c, u)]) ∧ Rp K F H u d := by
  cases h with
  | exS h1 h2 r1 r2 rv => exact ⟨_, _, _, rfl, r1, r2, rv⟩
theorem de_fldX {L Lf : List Str} {n : Str} (hL : excsF L Lf X.K = true) (ha : De X B own a ma) (hsub : ∀ c ∈ Lf, c ∈ L := by decide) (hn : ∀ c ∈ Lf, fldN c = n := by decide) (hb : attributeBase a n X.env (eval a X.env) = eval a X.env := by rfl) :
    De X B own (.Attribute a n pos) (m1 (fFldX Lf) ma) := by
  refine ⟨fun pins s σ H Q I ⟨ρ, F, re, w⟩ => ?_⟩
  refine attr_of hb (thn (ha.run pins s σ H _ I ⟨ρ, F, re, thE w fun ρ1 d1 v1 H1 F1 re1 mo1 rp1 w1 => (?_ : ∃ (a : Addr) (c : Str) (dd : Addr) (v : V), v1 = .ref a ∧ c ∈ Lf ∧ Rd H1 a (exq a (He.ga X.K c) (some dd)) ∧ Rd H1 dd (.xd [(fldN c, v)]) ∧ Q v H1)⟩) fun u s1 hh => ?_)
  · obtain ⟨z, hz, w2⟩ := Wa.opt w1
    dsimp only at hz w2
    unfold fFldX at hz
    split at hz
    · obtain ⟨hc, rfl⟩ := iff_some hz
      obtain ⟨a0, dd, u, rfl, r1, r2, rv⟩ := exS_inv rp1
      exact ⟨_, _, _, _, rfl, by simpa using hc, r1, r2, w2 _ H1 F1 re1 Mn.refl rv⟩
    · cases hz
  · obtain ⟨x, H1, I1, rx, a0, c, dd, v, ex, hc, ra, rd, q⟩ := hh
    subst ex
    obtain rfl : u = Value.ref a0 := rx
    have E := excs_k (excsF_b hL) (hsub c hc)
    have O := excsF_f hL hc
    obtain ⟨oe, vs, h1, h2, h3⟩ := exq_get I1.hok ra
    have hx : ObjOk X.prog X.w H1 s1.heap dd (.xd [(fldN c, v)]) := by
      rcases rd with rd | ⟨o, rd⟩
      · exact I1.hok dd _ rd
      · have z : ObjOk X.prog X.w H1 s1.heap dd (.frz o (.xd [(fldN c, v)])) := I1.hok dd _ rd
        exact z.2
    obtain ⟨mA, hns, hr⟩ := hx
    obtain ⟨od, ho, hl⟩ := lookIn_ns hns
    have l : ([(fldN c, v)] : List (Str × V)).lookup (fldN c) = some v := by simp [List.lookup]
    obtain ⟨u, hu, ru⟩ := RelO.some_of (v := v) (o := mA (fldN c)) (by rw [← l]; exact hr (fldN c))
    have J : PySem.W.InstAt s1.heap a0 oe (He.ga X.K c) (some od) := ⟨h1, h2.1, by unfold PySem.W.notCls; rw [h3] <;> rfl, by rw [h2.2]; exact ho⟩
    have hno := O.no
    have en := hn c hc
    rw [en] at hno hu
    exact HandSPX.exc_get I1.kIn J E.ga E.gg E.sb (PySem.W.findObj_own E.hd hno rfl (by rw [hl, hu])) (handed_of ru) ⟨v, H1, I1.tok _, ru, q⟩
end
end Kd

end T_KD20
section T_KD21
set_option maxRecDepth 100000
set_option maxHeartbeats 1000000
/-! KD21: count and index of data; y = f(..) within a try. -/
namespace Kd
open PySem PySem.Spec PyProof.Rows L2

def rCntD (K : PySem.W.Frag) : V → List V → Hp → VK → Prop := fun x xs H Q => ∃ (a : Addr) (y : V) (d : PyData) (ds : List PyData), x = V.ref a ∧ xs = [y] ∧ Dp K H (V.ref a) (.list ds) ∧ Dp K H y d ∧
  SeqAt.shaped (.list ds) = true ∧ SeqAt.shaped d = true ∧ Q (.int (ds.countP (fun z => PyData.eqv z d) : Nat)) H
theorem mt_countD {X : Cx} (hu : X.A.units + 65 < cLine) : MtR X "list.count" (rCntD X.K) := by
  intro pins s σ H x xs v us Q I rx rxs h
  obtain ⟨a, y, d, ds, rfl, rfl, hl, hy, sl, sd, q⟩ := h
  cases rx
  cases rxs with
  | cons ry rt =>
    rename_i uy ut
    cases rt
    obtain ⟨bs, r1⟩ := Dp.reads I d y uy hy ry
    have hxs : PyData.canLayAll0 ds = true := SeqAt.canLay_of_shaped sl
    have hroom : X.A.units + 1 + min (PyData.depthAll ds) d.depth < cLine := room_in_shaped sd hu
    cases hl with
    | lst hs ha =>
      obtain ⟨its, rv, ⟨⟨cls, dd, data, sls⟩, n, ho, hc, hdn, hdt⟩, hlen⟩ := I.list hs
      simp only at hc hdt
      subst hc hdt
      obtain ⟨as, h4⟩ := Dp.readsAll I ds _ its ha rv
      have hmap : its.map (SeqAt.readOf s.heap) = ds := SeqAt.readsAll_map ds its as hxs h4
      refine call_meets PySem.F.slot_list_count ⟨_, ho, rfl⟩ PySem.F.entry_list_count (PySem.F.args_list_count_2 _ _)
        (SeqAt.list_countAt a its.toArray n dd sls uy (fun u => PyData.eqv (SeqAt.readOf s.heap u) d)) ⟨ho, SeqAt.items_eqAt (vs := its.toArray) (show ReadsAll s.heap its.toArray.toList ds as from h4) r1 hxs (SeqAt.canLay_of_shaped sd) hroom, ?_⟩
      have ec : its.toArray.toList.countP (fun u => PyData.eqv (SeqAt.readOf s.heap u) d) = ds.countP (fun z => PyData.eqv z d) := by
        rw [← hmap, List.countP_map]
        rfl
      refine ⟨.int (ds.countP (fun z => PyData.eqv z d) : Nat), H, I.tok _, ⟨s.toks, ?_⟩, q⟩
      show Value.int ((its.toArray.toList.countP (fun u => PyData.eqv (SeqAt.readOf s.heap u) d) : Nat) : Int) s.toks = Value.int ((ds.countP (fun z => PyData.eqv z d) : Nat) : Int) s.toks
      rw [ec]
def fCntD (ds : List PyData) : List PyData → Option PyData
  | [d] => iff' (SeqAt.shaped (.list ds) && SeqAt.shaped d) (.int (ds.countP (fun z => PyData.eqv z d) : Nat))
  | _ => none
def fIdxD (ds : List PyData) : List PyData → Option PyData
  | [d] => if (SeqAt.shaped (.list ds) && SeqAt.shaped d) = true then (ds.findIdx? (fun z => PyData.eqv z d)).map fun j => .int (j : Nat) else none
  | _ => none
theorem mld_cntD {K : PySem.W.Frag} : MlD K (rCntD K) fCntD := fun F H a xs ws ds as z Q dom sq r1 r2 hz k => by
  cases r2 with
  | nil => cases hz
  | cons rp r3 =>
    cases r3 with
    | cons _ _ => cases hz
    | nil =>
      obtain ⟨h1, rfl⟩ := iff_some hz
      obtain ⟨s1, s2⟩ := Bool.and_eq_true_iff.mp h1
      exact ⟨a, _, _, ds, rfl, rfl, .lst sq (Rps.dp r1 (SeqAt.canLay_of_shaped s1)), rp.dp (SeqAt.canLay_of_shaped s2), s1, s2, k _ H F (Grow.refl dom) (.int _)⟩
theorem mld_idxD {K : PySem.W.Frag} : MlD K (rIndexD K) fIdxD := fun F H a xs ws ds as z Q dom sq r1 r2 hz k => by
  cases r2 with
  | nil => cases hz
  | cons rp r3 =>
    cases r3 with
    | cons _ _ => cases hz
    | nil =>
      simp only [fIdxD] at hz
      split at hz
      · rename_i h1
        obtain ⟨s1, s2⟩ := Bool.and_eq_true_iff.mp h1
        obtain ⟨j, hj, rfl⟩ := Option.map_eq_some_iff.mp hz
        obtain ⟨hl, q1, q2⟩ := List.findIdx?_eq_some_iff_getElem.mp hj
        refine ⟨a, _, _, ds, j, ds[j], rfl, rfl, .lst sq (Rps.dp r1 (SeqAt.canLay_of_shaped s1)), rp.dp (SeqAt.canLay_of_shaped s2), s1, s2, List.getElem?_eq_getElem hl, q1, fun m z' hm e => ?_, k _ H F (Grow.refl dom) (.int _)⟩
        have hml : m < ds.length := by omega
        rw [List.getElem?_eq_getElem hml] at e
        cases e
        simpa using q2 m hm
      · cases hz
/-! ### x in a tuple -/
def rInT (K : PySem.W.Frag) : R2 := fun x y H Q => ∃ d ds, Dp K H x d ∧ Dp K H y (.tuple ds) ∧ SeqAt.shaped d = true ∧ SeqAt.shaped (.tuple ds) = true ∧ Q (.bl (ds.any fun z => PyData.eqv z d)) H
def rNotInT (K : PySem.W.Frag) : R2 := fun x y H Q => ∃ d ds, Dp K H x d ∧ Dp K H y (.tuple ds) ∧ SeqAt.shaped d = true ∧ SeqAt.shaped (.tuple ds) = true ∧ Q (.bl (!ds.any fun z => PyData.eqv z d)) H
theorem op_inT {X : Cx} (hu : X.A.units + 65 < cLine) : OpR X (compareOp .In) (rInT X.K) := by
  intro pins s σ H x y v u Q I rx ry h
  obtain ⟨d, ds, hd, he, sd, se, q⟩ := h
  obtain ⟨as, r1⟩ := Dp.reads I d x v hd rx
  obtain ⟨bs, r2⟩ := Dp.reads I (.tuple ds) y u he ry
  exact SeqAt.in_tuple_reads r2 r1 (SeqAt.canLay_of_shaped se) (SeqAt.canLay_of_shaped sd) (room_in_shaped sd hu) ⟨.bl _, H, I, rfl, q⟩
theorem op_notInT {X : Cx} (hu : X.A.units + 65 < cLine) : OpR X (compareOp .NotIn) (rNotInT X.K) := by
  intro pins s σ H x y v u Q I rx ry h
  obtain ⟨d, ds, hd, he, sd, se, q⟩ := h
  obtain ⟨as, r1⟩ := Dp.reads I d x v hd rx
  obtain ⟨bs, r2⟩ := Dp.reads I (.tuple ds) y u he ry
  exact SeqAt.notIn_tuple_reads r2 r1 (SeqAt.canLay_of_shaped se) (SeqAt.canLay_of_shaped sd) (room_in_shaped sd hu) ⟨.bl _, H, I, rfl, q⟩
def fInT : PyData → PyData → Option PyData
  | d, .tuple ds => iff' (SeqAt.shaped d && SeqAt.shaped (.tuple ds)) (.bool (memD d ds))
  | _, _ => none
def fNinT : PyData → PyData → Option PyData
  | d, .tuple ds => iff' (SeqAt.shaped d && SeqAt.shaped (.tuple ds)) (.bool (!memD d ds))
  | _, _ => none
theorem opd_inT {K : PySem.W.Frag} : OpD K (rInT K) fInT := fun F H x y d e z Q dom rx ry hz k => by
  cases ry with
  | tup hl hs =>
    obtain ⟨h, rfl⟩ := iff_some hz
    obtain ⟨h1, h2⟩ := Bool.and_eq_true_iff.mp h
    exact ⟨d, _, rx.dp (SeqAt.canLay_of_shaped h1), (Rp.tup hl hs).dp (SeqAt.canLay_of_shaped h2), h1, h2, k _ H F (Grow.refl dom) (.bl _)⟩
  | _ => cases hz
theorem opd_ninT {K : PySem.W.Frag} : OpD K (rNotInT K) fNinT := fun F H x y d e z Q dom rx ry hz k => by
  cases ry with
  | tup hl hs =>
    obtain ⟨h, rfl⟩ := iff_some hz
    obtain ⟨h1, h2⟩ := Bool.and_eq_true_iff.mp h
    exact ⟨d, _, rx.dp (SeqAt.canLay_of_shaped h1), (Rp.tup hl hs).dp (SeqAt.canLay_of_shaped h2), h1, h2, k _ H F (Grow.refl dom) (.bl _)⟩
  | _ => cases hz
section
variable {X : Cx} {io : List Nat} {B : Bs io} {own nx bk ct : List Nat} {e c : Expr} {es : List Expr} {pos : Pos} {W : WX}
/-- y = f(..) within a try -/
theorem dx_set {k j : Nat} (i : Nat) {x y : Str} {p py spos : Pos} {f : FM} {as : List Ar} {iol : List Nat} {n : Nat} {dfl : List PyData} (C : Cal X.prog X.w X.K X.mg X.base j x dfl iol n f false) (hr : Room k X.A) (gd : X.A.guards = some []) (tk : Takes X W) (hB : B.mg = X.mg) (nd0 : X.N.Nodup) (ha : Dr X B own (e :: es) as) (hjk : j ≤ k := by decide)
    (ho : i ∉ io := by decide) (how : own.filter (· ≠ i) = own := by rfl) (hi : X.N[i]? = some y := by rfl) (hy : Loc X.env.scope y := by first | exact Or.inl rfl | exact Or.inr rfl) (hf : X.fn y = true ∨ X.env.scope.names.lookup y = some .local := by first | exact .inl rfl | exact .inr rfl | assumption)
    (hg : Gl X x := by rfl) (hio : ioOf as 0 = iol := by rfl) (hj : ∀ j ∈ jsOf as, j ∈ own := by decide) (nd : (jsOf as).Nodup := by decide) (hn : as.length + dfl.length = n := by rfl) (hdb : (x == ("__debug__" : Str)) = false := by decide)
    (hs : starEach (e :: es) X.env = (false, eval e X.env) :: starEach es X.env := by rfl) (hpl : (backTo pos (starEach es X.env)).any (·.1) = false := by rfl) (hsw : swapsWith (.Call (.Name x p) (e :: es) [] pos) (some (.Name y py)) spos.line X.env = pure false := by rfl) :
    PS X (.Assign [.Name y py] (.Call (.Name x p) (e :: es) [] pos) spos) (tX X.K B own ⟨own, bk, ct⟩ W (xSet i f as dfl)) := by
  obtain ⟨fa, fd, ps, dvs, ds, h1, h2, h3, h4, h5, h6⟩ := C.ex
  refine ps_imp (L2.ps_set nd0 hi hy (pe_callG h3 (hr.mono hjk) gd hg h1 h2 h4 h5 tk ha hdb hs hpl) hsw hf) fun D σ H ⟨ρ, F, re, w⟩ => ?_
  unfold xSet xCall at w
  cases ey : evA as ρ with
  | bad => rw [ey] at w; exact w.elim
  | exc c x => rw [ey] at w; exact w.elim
  | ok y =>
    rw [ey] at w
    dsimp only at w
    cases hr : resolve y.1 y.2 with
    | none => rw [hr] at w; exact w.elim
    | some ds =>
      rw [hr] at w
      dsimp only at w
      refine call_gen (fr := false) hio hj nd hn h6 re ey hr fun F1 H1 mo1 re1 => ?_
      have w1 := WantX.mono w mo1.toMono
      cases hf : f (ds ++ dfl) with
      | bad => rw [hf] at w1; exact w1.elim
      | ok z =>
        rw [hf] at w1
        intro v F' H' re2 mo2 rc
        have rs := re2.set (show Rp X.K F' H' v z.2 from rc) ho
        rw [how] at rs
        exact w1 _ H' F' rs mo2.toMono
      | exc c x =>
        rw [hf] at w1
        dsimp only at w1
        by_cases he : (jsOf as).isEmpty = true
        · rw [if_pos he] at w1
          exact ⟨List.isEmpty_iff.mp he, fun cls dx F' H' re2 mo2 xd => w1 cls dx F' H' re2 mo2.toMono (hB ▸ xd)⟩
        · rw [if_neg he] at w1; exact w1.elim
end
end Kd

end T_KD21
section T_KD22
set_option maxRecDepth 100000
set_option maxHeartbeats 1000000
/-! KD22: a new list told within a try, judged, then changed. -/
namespace Kd
open PySem PySem.Spec PyProof.Rows L2

theorem ps_or {X : Cx} {s : Stmt} {t u : TS} (h : PS X s t) (k : PS X s u) : PS X s (fun D σ H => t D σ H ∨ u D σ H) := ⟨fun pins s σ H D I q => q.elim (h.run pins s σ H D I) (k.run pins s σ H D I)⟩
/-- slot i alone holds the new list at a0 -/
structure Doom1 (K : PySem.W.Frag) (B : Bs []) (i : Nat) (F : Addr → Prop) (ρ : Ev) (σ0 : Sl) (Hs : Hp) (a0 : Addr) (vs : List V) (ds : List PyData) (σ : Sl) (H : Hp) : Prop where
  re : RE K B [] F ρ σ0 Hs
  il : i < ρ.length
  h0 : Hs a0 = some (HO.lst vs)
  rp : Rps K F Hs vs ds
  nF : ¬ F a0 ∧ B.H0 a0 = none
  pres : ∀ b o, Hs b = some o → H b = some o
  sg : σ = σ0.set i (some (V.ref a0))
section
variable {K : PySem.W.Frag} {B : Bs []} {i : Nat} {F : Addr → Prop} {ρ : Ev} {σ0 σ : Sl} {Hs H H' : Hp} {a0 : Addr} {vs : List V} {ds : List PyData}
theorem Doom1.view (d : Doom1 K B i F ρ σ0 Hs a0 vs ds σ H) : RE K B [] (fun a => F a ∨ a = a0) (ρ.set i (some (.list ds))) σ H ∧ Mono K F Hs (fun a => F a ∨ a = a0) H := by
  have mo : Mono K F Hs (fun a => F a ∨ a = a0) H := mono_pres (fun _ h => .inl h) d.pres
  have re := d.re
  have sg := d.sg
  subst sg
  have hl : i < σ0.length := by rw [← re.len]; exact d.il
  refine ⟨⟨by simp [re.len], fun j e hj q => ?_, fun j e hj q => (by cases hj), fun j k e f hj hk hn q1 q2 => (by cases hj), fun a h => ?_, fun b o h hA => d.pres b o (re.old b o h hA), fun a h => .inl (re.fold a h), fun a h => ?_, fun p hp => absurd hp (io_nil re p), re.unSet⟩, mo⟩
  · by_cases hji : j = i
    · subst hji
      rw [List.getElem?_set_self d.il] at q
      cases q
      exact ⟨_, by rw [List.getElem?_set_self hl], .lst (.inl ⟨.inr rfl, .inl (d.pres _ _ d.h0)⟩) (d.rp.mono mo)⟩
    · rw [List.getElem?_set_ne (Ne.symm hji)] at q ⊢
      obtain ⟨v, h1, h2⟩ := re.fz j e (fun z => by cases z) q
      exact ⟨v, h1, h2.mono mo⟩
  · rcases h with h | rfl
    · intro z
      cases hq : Hs a with
      | none => exact re.dom a h hq
      | some o => rw [d.pres a o hq] at z; cases z
    · rw [d.pres _ _ d.h0]; simp
  · rcases h with h | rfl
    · exact re.fnew a h
    · exact .inr d.nF.2
theorem Doom1.step (d : Doom1 K B i F ρ σ0 Hs a0 vs ds σ H) (p : ∀ b o, H b = some o → H' b = some o) : Doom1 K B i F ρ σ0 Hs a0 vs ds σ H' :=
  ⟨d.re, d.il, d.h0, d.rp, d.nF, fun b o h => p b o (d.pres b o h), d.sg⟩
end
def tSc1 (K : PySem.W.Frag) (B : Bs []) (ow : Ow) (f : Nat) (kd : Ev → List PyData → Rs Fl) : TS := fun D σ H => ∃ F ρ σ0 Hs a0 vs ds, Doom1 K B f F ρ σ0 Hs a0 vs ds σ H ∧ WantS K B ow D F Hs (kd ρ ds)
/-- the try, then the two ways on -/
def sTD (L : List Str) (i j f : Nat) (fm : FM) (as : List Ar) (dfl : List PyData) (kx : SM) (kd : Ev → List PyData → Rs Fl) : SM := fun ρ => match evA as ρ with
  | .ok y => (match resolve y.1 y.2 with
    | some ds => (match fm (ds ++ dfl) with
      | .ok z => (match z.2 with
        | .list xs => if f < (setL y.1 (jsOf as) z.1).length then kd (setL y.1 (jsOf as) z.1) xs else .bad
        | _ => .bad)
      | .exc c x => if (jsOf as).isEmpty && L.contains c then kx (((y.1.set i (some (excD c x))).set j (some (excD c x))).set i none) else .bad
      | .bad => .bad)
    | none => .bad)
  | _ => .bad
/-- the told list is judged, then None put behind it -/
def gD (f : Nat) (c0 c2 : TM) : Ev → List PyData → Rs Fl := fun ρ ds =>
  (c0 (ρ.set f (some (.list ds)))).quiet.bind fun x => if x.2 then .bad else (c2 (ρ.set f (some (.list ds)))).quiet.bind fun y =>
    if y.2 then .ok (.rt (ρ.set f (some (.list ds))) (.bool false)) else if ds.length < sizeLine then .ok (.nx (ρ.set f (some (.list (ds ++ [.none]))))) else .bad
section
variable {X : Cx} {B : Bs []} {ow : Ow} {bk ct : List Nat} {c0 c1 c2 e : Expr} {t0 t1 t2 : TM} {sts : List Stmt} {es : List Expr} {f : Nat} {kx : SM} {kd : Ev → List PyData → Rs Fl} {pos p : Pos}
/-- y = f(..) within the try, the list in y's slot alone -/
def tXD (K : PySem.W.Frag) (B : Bs []) (f : Nat) (fm : FM) (as : List Ar) (dfl : List PyData) (W : WX) : TS := fun D σ H => ∃ ρ F, RE K B [] F ρ σ H ∧ ∃ y ds, evA as ρ = .ok y ∧ resolve y.1 y.2 = some ds ∧ match fm (ds ++ dfl) with
  | .ok z => ∃ xs, z.2 = .list xs ∧ ∀ F' H' a0 vs, RE K B [] F' (setL y.1 (jsOf as) z.1) σ H' → Mono K F H F' H' → ¬ F' a0 → B.H0 a0 = none → H' a0 = some (HO.lst vs) → Rps K F' H' vs xs → D.nx (σ.set f (some (V.ref a0))) H'
  | .exc c x => jsOf as = [] ∧ ∀ cls dx F' H', RE K B [] F' y.1 σ H' → Mono K F H F' H' → XD K B.mg F' H' c x cls dx → W cls dx σ H'
  | .bad => False
theorem dx_setD {k jl : Nat} (f : Nat) {x y : Str} {py spos : Pos} {W : WX} {fm : FM} {as : List Ar} {n : Nat} {dfl : List PyData} (Cl : Cal X.prog X.w X.K X.mg X.base jl x dfl [] n fm true) (hr : Room k X.A) (gd : X.A.guards = some []) (tk : Takes X W) (hB : B.mg = X.mg) (nd0 : X.N.Nodup)
    (ha : Dr X B [] (e :: es) as) (hjk : jl ≤ k := by decide)
    (hi : X.N[f]? = some y := by rfl) (hy : Loc X.env.scope y := by first | exact Or.inl rfl | exact Or.inr rfl) (hf : X.fn y = true ∨ X.env.scope.names.lookup y = some .local := by first | exact .inl rfl | exact .inr rfl | assumption)
    (hg : Gl X x := by rfl) (hio : ioOf as 0 = [] := by rfl) (hj : ∀ j ∈ jsOf as, j ∈ ([] : List Nat) := by decide) (nd : (jsOf as).Nodup := by decide) (hn : as.length + dfl.length = n := by rfl) (hdb : (x == ("__debug__" : Str)) = false := by decide)
    (hs : starEach (e :: es) X.env = (false, eval e X.env) :: starEach es X.env := by rfl) (hpl : (backTo pos (starEach es X.env)).any (·.1) = false := by rfl) (hsw : swapsWith (.Call (.Name x p) (e :: es) [] pos) (some (.Name y py)) spos.line X.env = pure false := by rfl) :
    PS X (.Assign [.Name y py] (.Call (.Name x p) (e :: es) [] pos) spos) (tXD X.K B f fm as dfl W) := by
  obtain ⟨fa, fd, ps, dvs, ds, h1, h2, h3, h4, h5, h6⟩ := Cl.ex
  refine ps_imp (L2.ps_set nd0 hi hy (pe_callG h3 (hr.mono hjk) gd hg h1 h2 h4 h5 tk ha hdb hs hpl) hsw hf) fun D σ H ⟨ρ, F, re, y, ds, ey, hr, w⟩ => ?_
  refine call_gen (fr := true) hio hj nd hn h6 re ey hr fun F1 H1 mo1 re1 => ?_
  cases hf : fm (ds ++ dfl) with
  | bad => rw [hf] at w; exact w.elim
  | ok z =>
    rw [hf] at w
    obtain ⟨xs, hx, w⟩ := w
    intro v F' H' re2 mo2 rc
    obtain ⟨a, rfl, nF, h0, ov⟩ := (show ∃ a, v = .ref a ∧ ¬ F' a ∧ H1 a = none ∧ OwnV X.K F' H' a z.2 from rc)
    rw [hx] at ov
    cases ov with
    | lst q r => exact w F' H' a _ re2 (mo1.toMono.trans mo2.toMono) nF (re1.h0 h0) q r
  | exc c x =>
    rw [hf] at w
    exact ⟨w.1, fun cls dx F' H' re2 mo2 xd => w.2 cls dx F' H' re2 (mo1.toMono.trans mo2.toMono) (hB ▸ xd)⟩
/-- the way on of a told list -/
theorem dsd_if {cp rp ip epos apos cpos kpos : Pos} {jc jk : Nat} {y : Str} {p1 : Pos} {thenB : List Stmt} (h0 : ∀ b : Bs [], (b.W = fun _ _ _ _ => False) → b.mg = X.mg → Dt X b [] c0 t0) (h2 : ∀ b : Bs [], (b.W = fun _ _ _ _ => False) → b.mg = X.mg → Dt X b [] c2 t2) (hmg : B.mg = X.mg) (hfr : B.fr = false) (hA : PSs X thenB (fun _ _ _ => False))
    (hN : X.N[f]? = some y := by rfl) (hv : Vis X.env.scope y := by first | exact Or.inl rfl | exact Or.inr (Or.inl rfl) | exact Or.inr (Or.inr rfl)) (hd : (y == ("__debug__" : Str)) = false := by decide) (hcd : (y == ("__classdict__" : Str)) = false := by decide)
    (hbase : attributeBase (.Name y p1) "append" X.env (eval (.Name y p1) X.env) = eval (.Name y p1) X.env := by rfl)
    (hfew : ((backTo cpos (starEach [.Constant .none jk kpos] X.env)).all (fun x => !x.1) && (backToKw cpos (keywordEach [] X.env)).all (fun x => x.1.isSome) && decide (([.Constant .none jk kpos] : List Expr).length + ([] : List Keyword).length + (if ([] : List Keyword).isEmpty then 0 else 1) < 30)) = true := by rfl)
    (hline : (apos.endLine == cpos.line) = true := by rfl) (hs1 : starEach [.Constant .none jk kpos] X.env = (false, eval (.Constant .none jk kpos) X.env) :: starEach [] X.env := by rfl) (hpl : (backTo cpos (starEach [] X.env)).any (·.1) = false := by rfl)
    (hsw : swapsWith (.Call (.Attribute (.Name y p1) "append" apos) [.Constant .none jk kpos] [] cpos) none epos.line X.env = pure false := by rfl) :
    PS X (.If c0 thenB [.If c2 [.Return (some (.Constant (.bool false) jc cp)) rp] [.Expr (.Call (.Attribute (.Name y p1) "append" apos) [.Constant .none jk kpos] [] cpos) epos] ip] pos) (tSc1 X.K B ⟨[], bk, ct⟩ f (gD f t0 t2)) :=
  ps_imp (ps_if (pt_ex (t := fun b : Bq [] X.mg => tDT X.K b.1 [] t0) fun b => h0 b.1 b.2.1 b.2.2) hA (pss_one (ps_if (pt_ex (t := fun b : Bq [] X.mg => tDT X.K b.1 [] t2) fun b => h2 b.1 b.2.1 b.2.2) (pss_one (ps_ret pe_bl))
    (pss_one (ps_expr (pe_bm PySem.F.plainAttrs_list PySem.F.slot_list_append PySem.F.type_list_append mt_append (pe_var hN hv hd hcd) (pa_cons pe_non pa_nil hs1) (hbase := hbase) (hfew := hfew) (hline := hline) (hs := hs1) (hplain := hpl)) hsw))))) fun D σ H ⟨F, ρ, σ0, Hs, a0, vs, ds, d, w⟩ => by
    unfold gD at w
    obtain ⟨rv, mv⟩ := d.view
    obtain ⟨B1, re1, hB0, hA1, back, hW, hmg1⟩ := rv.rebase (fun j hj => by cases hj)
    refine ⟨⟨B1, hW, hmg1.trans hmg⟩, ρ.set f (some (.list ds)), _, re1, ?_⟩
    cases hm : t0 (ρ.set f (some (.list ds))) with
    | bad => rw [hm] at w; exact w.elim
    | exc c x => rw [hm] at w; exact w.elim
    | ok x =>
      rw [hm] at w
      intro H3 F3 re3 mo3
      have d3 := d.step (H' := H3) fun b o hb => re3.old b o (by rw [hB0]; exact hb) fun z => by
        obtain ⟨j, hj, _⟩ := hA1 b z
        cases hj
      obtain ⟨x1, x2⟩ := x
      cases x2 with
      | true => exact absurd w (by intro z; exact z)
      | false =>
        have w : WantS X.K B ⟨[], bk, ct⟩ D F Hs ((t2 (ρ.set f (some (.list ds)))).quiet.bind fun y => if y.2 then .ok (.rt (ρ.set f (some (.list ds))) (.bool false)) else if ds.length < sizeLine then .ok (.nx (ρ.set f (some (.list (ds ++ [.none]))))) else .bad) := w
        obtain ⟨rv3, mv3⟩ := d3.view
        obtain ⟨B2, re4, hB4, hA4, back4, hW4, hmg4⟩ := rv3.rebase (fun j hj => by cases hj)
        refine ⟨⟨B2, hW4, hmg4.trans hmg⟩, ρ.set f (some (.list ds)), _, re4, ?_⟩
        cases hm2 : t2 (ρ.set f (some (.list ds))) with
        | bad => rw [hm2] at w; exact w.elim
        | exc c x => rw [hm2] at w; exact w.elim
        | ok z =>
          rw [hm2] at w
          intro H5 F5 re5 mo5
          have d5 := d3.step (H' := H5) fun b o hb => re5.old b o (by rw [hB4]; exact hb) fun z => by
            obtain ⟨j, hj, _⟩ := hA4 b z
            cases hj
          obtain ⟨z1, z2⟩ := z
          cases z2 with
          | true =>
            have w3 : WantS X.K B ⟨[], bk, ct⟩ D F Hs (.ok (.rt (ρ.set f (some (.list ds))) (.bool false))) := w
            obtain ⟨rv5, mv5⟩ := d5.view
            refine w3 _ σ H5 _ rv5 mv5 ?_
            unfold RetR
            rw [hfr]
            exact .bl _
          | false =>
            have w3 : WantS X.K B ⟨[], bk, ct⟩ D F Hs (if ds.length < sizeLine then .ok (.nx (ρ.set f (some (.list (ds ++ [.none]))))) else .bad) := w
            split at w3
            · rename_i hlen
              have hl : f < σ0.length := by rw [← d5.re.len]; exact d5.il
              have hget : σ[f]? = some (some (V.ref a0)) := by rw [d5.sg, List.getElem?_set_self hl]
              have hnow : H5 a0 = some (HO.lst vs) := d5.pres _ _ d5.h0
              refine ⟨_, hget, .inl ⟨rfl, _, SqL.of hnow⟩, a0, vs, .non, rfl, rfl, hnow, by rw [d5.rp.length]; exact hlen, ?_⟩
              have mo : Mono X.K F Hs (fun a => F a ∨ a = a0) (upd H5 a0 (HO.lst (vs ++ [.non]))) := by
                refine ⟨fun _ h => .inl h, fun b o hb h => ?_, fun b xs h => ?_⟩
                · have hba : b ≠ a0 := fun z => by subst z; exact d5.nF.1 hb
                  rw [upd_ne hba]; exact d5.pres b o h
                · have hb : b ≠ a0 := fun z => by rw [z, d5.h0] at h; cases h
                  rw [upd_ne hb]; exact d5.pres b _ h
              have re := d5.re
              refine w3 σ _ _ ⟨by simp [d5.sg, re.len], fun j e hj q => ?_, fun j e hj q => (by cases hj), fun j k e f hj hk hn q1 q2 => (by cases hj), fun b h => ?_, fun b o h hA => ?_, fun b h => .inl (re.fold b h), fun b h => ?_, fun p hp => absurd hp (io_nil re p), fun j q => ?_⟩ mo
              · by_cases hji : j = f
                · subst hji
                  rw [List.getElem?_set_self d5.il] at q
                  cases q
                  exact ⟨_, hget, .lst (.inl ⟨.inr rfl, .inl upd_same⟩) ((d5.rp.mono mo).append (.one .non))⟩
                · rw [d5.sg]
                  rw [List.getElem?_set_ne (Ne.symm hji)] at q ⊢
                  obtain ⟨v, h1, h2⟩ := re.fz j e (fun z => by cases z) q
                  exact ⟨v, h1, h2.mono mo⟩
              · by_cases hb : b = a0
                · subst hb; rw [upd_same]; simp
                · rw [upd_ne hb]
                  rcases h with h | h
                  · intro z
                    cases hq : Hs b with
                    | none => exact re.dom b h hq
                    | some o => rw [d5.pres b o hq] at z; cases z
                  · exact absurd h hb
              · have hb : b ≠ a0 := fun z => by rw [z, d5.nF.2] at h; cases h
                rw [upd_ne hb]
                exact d5.pres b o (re.old b o h hA)
              · rcases h with h | h
                · exact re.fnew b h
                · subst h; exact .inr d5.nF.2
              · by_cases hji : j = f
                · subst hji
                  rw [List.getElem?_set_self d5.il] at q; cases q
                · rw [d5.sg]
                  rw [List.getElem?_set_ne (Ne.symm hji)] at q ⊢
                  exact re.un j q
            · exact w3.elim
/-- try: y = f(..) except ..: x = e, then the if -/
theorem dss_td {n y : Str} {C : Value} {body : List Stmt} {np pn py pa tpos tpos' : Pos} {ifst : Stmt} {fm : FM} {as : List Ar} {dfl : List PyData} (L : List Str) (i j f : Nat) (nd : X.N.Nodup) {x : Str}
    (hL : ∀ c ∈ L, PySem.W.exmOne X.K (.ref (He.ga X.K c)) C = some true) (hc : Names X x C)
    (hb : ∀ (W : WX) (pn : List (Addr × Obj)) (xe : Value → Shared → Prop), Takes (X.tr pn xe) W → PassesOwn (model X.prog X.w) X.A X.env xe → PSs (X.tr pn xe) body (tXD X.K B f fm as dfl W))
    (hl : Ds X B [] ⟨[], bk, ct⟩ ifst kx) (hrt : PS X ifst (tSc1 X.K B ⟨[], bk, ct⟩ f kd))
    (hex : X.ex = [] := by rfl) (hs : X.stack = X.env :: X.outer := by rfl) (hf : X.env.frame = some X.env.locals := by rfl) (hi : X.N[i]? = some n := by rfl) (hli : X.env.kindOf n = some .local := by rfl) (hj : X.N[j]? = some y := by rfl) (hlj : X.env.kindOf y = some .local := by rfl)
    (hvn : Vis X.env.scope n := by exact Or.inl rfl) (hsw : swapsWith (.Name n pn) (some (.Name y py)) pa.line X.env = pure false := by rfl) (hdn : (n == ("__debug__" : Str)) = false := by decide) (hcn : (n == ("__classdict__" : Str)) = false := by decide) :
    Dss X B [] ⟨[], bk, ct⟩ [.Try body [.ExceptHandler (some (.Name x np)) (some n) [.Assign [.Name y py] (.Name n pn) pa] tpos'] [] [] tpos, ifst] (sTD L i j f fm as dfl kx kd) := by
  refine pss_imp (pss_cons (ps_keep (tb := fun W => tXD X.K B f fm as dfl W) hex hs hf nd hi hli hj hlj hvn hc hsw hdn hcn hb) (pss_one (ps_or hl hrt))) fun D σ H ⟨ρ, F, re, w⟩ => ?_
  unfold sTD at w
  cases ey : evA as ρ with
  | bad => rw [ey] at w; exact w.elim
  | exc c x => rw [ey] at w; exact w.elim
  | ok y0 =>
    rw [ey] at w
    dsimp only at w
    cases hr : resolve y0.1 y0.2 with
    | none => rw [hr] at w; exact w.elim
    | some ds0 =>
      rw [hr] at w
      dsimp only at w
      refine ⟨ρ, F, re, y0, ds0, ey, hr, ?_⟩
      cases hf : fm (ds0 ++ dfl) with
      | bad => rw [hf] at w; exact w.elim
      | ok z0 =>
        rw [hf] at w
        dsimp only at w
        cases hz : z0.2 with
        | list xs =>
          rw [hz] at w
          dsimp only at w
          split at w
          · rename_i hfl
            refine ⟨xs, hz, fun F' H' a0 vs re' mo' nF h0 hv rp => .inr ⟨F', _, σ, H', a0, vs, xs, ⟨re', hfl, hv, rp, ⟨nF, h0⟩, fun _ _ h => h, rfl⟩, WantS.mono w mo'⟩⟩
          · exact w.elim
        | _ => rw [hz] at w; exact w.elim
      | exc c x0 =>
        rw [hf] at w
        dsimp only at w
        split at w
        · rename_i hcl
          obtain ⟨hj0, hcl⟩ := Bool.and_eq_true_iff.mp hcl
          have hmem : c ∈ L := by simpa using hcl
          refine ⟨List.isEmpty_iff.mp hj0, fun cls dx F' H' re' mo xd => ⟨by rw [xd.1]; exact hL c hmem, _, xd.1, fun a na => ?_⟩⟩
          obtain ⟨g, rp⟩ := rp_exc re'.dom xd na
          have r1 := (re'.grow g).set rp (i := i) (by simp)
          have r2 := r1.set rp (i := j) (by simp)
          have r3 := r2.forget (i := i) (by simp)
          exact .inl ⟨_, _, r3, WantS.mono w (mo.trans g.mono)⟩
        · exact w.elim
end
end Kd

end T_KD22
section T_KD23
set_option maxRecDepth 100000
set_option maxHeartbeats 1000000
/-! KD23: a call that tells a new list or None: x = f(..); if x is None: raise ..; return x. -/
namespace Kd
open PySem PySem.Spec PyProof.Rows L2

theorem pe_or {X : Cx} {e : Expr} {t u : TE} (h : PE X e t) (k : PE X e u) : PE X e (fun σ H Q => t σ H Q ∨ u σ H Q) := ⟨fun pins s σ H Q I q => q.elim (h.run pins s σ H Q I) (k.run pins s σ H Q I)⟩
theorem pe_never {X : Cx} {e : Expr} : PE X e (fun _ _ _ => False) := ⟨fun _ _ _ _ _ _ q => q.elim⟩
/-! ### tuple * int -/
def fMulT : PyData → PyData → Option PyData
  | .tuple xs, .int k => if xs ≠ [] ∧ 2 ≤ k ∧ k ≤ 1000 ∧ xs.length ≤ 1000 then some (PyData.tuple (List.replicate k.toNat xs).flatten) else none
  | _, _ => none
theorem rps_repl {K : PySem.W.Frag} {F : Addr → Prop} {H : Hp} {vs : List V} {ds : List PyData} (h : Rps K F H vs ds) : ∀ n : Nat, Rps K F H (List.replicate n vs).flatten (List.replicate n ds).flatten
  | 0 => .nil
  | n + 1 => by simpa [List.replicate_succ] using h.append (rps_repl h n)
theorem opd_mulT {K : PySem.W.Frag} : OpD K (rRepT K) fMulT := fun F H x y d e z Q dom rx ry hz k => by
  cases rx <;> first | (cases hz; done) | skip
  rename_i hl hs
  cases ry <;> first | (cases hz; done) | skip
  simp only [fMulT] at hz
  split at hz
  · rename_i h
    cases hz
    refine ⟨_, _, _, rfl, rfl, SqT.of hl, fun z => ?_, h.2.1, h.2.2.1, by rw [hs.length]; exact h.2.2.2, fun p np => ?_⟩
    · have := hs.length
      rw [z] at this
      exact h.1 (List.eq_nil_of_length_eq_zero this.symm)
    · exact k _ _ F (Grow.att dom np) (.tup upd_same ((rps_repl hs _).mono (Grow.att dom np).mono))
  · cases hz
/-- return v if c else .., where c is so -/
def sRtIfF (i : Nat) (t : TM) : SM := fun ρ => (t ρ).bind fun x => if x.2 then sRtV i x.1 else .bad
section
variable {X : Cx} {io : List Nat} {B : Bs io} {own : List Nat} {ow : Ow} {c e : Expr} {m : EM} {t : TM} {pos p : Pos}
theorem ds_retIfF {x : Str} {p1 : Pos} (i : Nat) (hfr : B.fr = true) (hc : Dt X B own c t) (hi : i ∈ own := by decide) (hni : i ∉ io := by decide) (hio : ∀ j ∈ io, j ∈ own := by decide) (hN : X.N[i]? = some x := by rfl) (hv : Vis X.env.scope x := by first | exact Or.inl rfl | exact Or.inr (Or.inl rfl) | exact Or.inr (Or.inr rfl))
    (hd : (x == ("__debug__" : Str)) = false := by decide) (hcd : (x == ("__classdict__" : Str)) = false := by decide) : Ds X B own ow (.Return (some (.IfExp c (.Name x p) e p1)) pos) (sRtIfF i t) :=
  ps_imp (ps_ret (pe_ifExp hc (pe_var hN hv hd hcd) pe_never)) fun D σ H ⟨ρ, F, re, w⟩ => ⟨ρ, F, re, thT w fun ρ1 c1 H1 F1 re1 mo1 w1 => by
    cases c1 with
    | true => exact rtV_of hfr hi hni hio D σ H1 ⟨ρ1, F1, re1, w1⟩
    | false => exact w1.elim⟩
end
/-- x = f(..); then what follows -/
def sGet (f : Nat) (fm fmF : FM) (as : List Ar) (dfl : List PyData) (kx : SM) (kd : Ev → List PyData → Rs Fl) : SM := fun ρ => match evA as ρ with
  | .ok y => (match resolve y.1 y.2 with
    | some ds => (match fm (ds ++ dfl) with
      | .ok z => if isNonD z.2 then kx ((setL y.1 (jsOf as) z.1).set f (some .none)) else (match fmF (ds ++ dfl) with
        | .ok w => (match w.2 with
          | .list xs => if f < (setL y.1 (jsOf as) w.1).length then kd (setL y.1 (jsOf as) w.1) xs else .bad
          | _ => .bad)
        | _ => .bad)
      | _ => .bad)
    | none => .bad)
  | _ => .bad
/-- the told list is no None: it is handed back -/
def gRet (f : Nat) (c0 : TM) : Ev → List PyData → Rs Fl := fun ρ ds => (c0 (ρ.set f (some (.list ds)))).quiet.bind fun x => if x.2 then .bad else .ok (.rt (ρ.set f none) (.list ds))
section
variable {X : Cx} {B : Bs []} {ow : Ow} {c0 e : Expr} {t0 : TM} {sts : List Stmt} {es : List Expr} {f : Nat} {kx : SM} {kd : Ev → List PyData → Rs Fl} {pos p : Pos}
theorem RE.pres {K : PySem.W.Frag} {F : Addr → Prop} {ρ : Ev} {σ : Sl} {H H' : Hp} (re : RE K B [] F ρ σ H) (pres : ∀ b o, H b = some o → H' b = some o) : RE K B [] F ρ σ H' := by
  have mo : Mono K F H F H' := mono_pres (fun _ h => h) pres
  refine ⟨re.len, fun j e hj q => ?_, fun j e hj q => (by cases hj), fun j k e f hj hk hn q1 q2 => (by cases hj), fun a h => ?_, fun b o h hA => pres b o (re.old b o h hA), re.fold, re.fnew, fun p hp => absurd hp (io_nil re p), re.un⟩
  · obtain ⟨v, h1, h2⟩ := re.fz j e hj q
    exact ⟨v, h1, h2.mono mo⟩
  · intro z
    cases hq : H a with
    | none => exact re.dom a h hq
    | some o => rw [pres a o hq] at z; cases z
theorem dsd_ret {y : Str} {rp p1 : Pos} {body : List Stmt} (h0 : ∀ b : Bs [], (b.W = fun _ _ _ _ => False) → b.mg = X.mg → Dt X b [] c0 t0) (hmg : B.mg = X.mg) (hfr : B.fr = true) (hA : PSs X body (fun _ _ _ => False))
    (hN : X.N[f]? = some y := by rfl) (hv : Vis X.env.scope y := by first | exact Or.inl rfl | exact Or.inr (Or.inl rfl) | exact Or.inr (Or.inr rfl)) (hd : (y == ("__debug__" : Str)) = false := by decide) (hcd : (y == ("__classdict__" : Str)) = false := by decide) :
    PSs X [.If c0 body [] pos, .Return (some (.Name y p1)) rp] (tSc1 X.K B ow f (gRet f t0)) :=
  pss_imp (pss_cons (ps_if (pt_ex (t := fun b : Bq [] X.mg => tDT X.K b.1 [] t0) fun b => h0 b.1 b.2.1 b.2.2) hA pss_nil) (pss_one (ps_ret (pe_var hN hv hd hcd)))) fun D σ H ⟨F, ρ, σ0, Hs, a0, vs, ds, d, w⟩ => by
    unfold gRet at w
    obtain ⟨rv, mv⟩ := d.view
    obtain ⟨B1, re1, hB0, hA1, back, hW, hmg1⟩ := rv.rebase (fun j hj => by cases hj)
    refine ⟨⟨B1, hW, hmg1.trans hmg⟩, ρ.set f (some (.list ds)), _, re1, ?_⟩
    cases hm : t0 (ρ.set f (some (.list ds))) with
    | bad => rw [hm] at w; exact w.elim
    | exc c x => rw [hm] at w; exact w.elim
    | ok x =>
      rw [hm] at w
      intro H3 F3 re3 mo3
      have d3 := d.step (H' := H3) fun b o hb => re3.old b o (by rw [hB0]; exact hb) fun z => by
        obtain ⟨j, hj, _⟩ := hA1 b z
        cases hj
      obtain ⟨x1, x2⟩ := x
      cases x2 with
      | true => exact absurd w (by intro z; exact z)
      | false =>
        have w : WantS X.K B ow D F Hs (.ok (.rt (ρ.set f none) (.list ds))) := w
        have hl : f < σ0.length := by rw [← d3.re.len]; exact d3.il
        have hget : σ[f]? = some (some (V.ref a0)) := by rw [d3.sg, List.getElem?_set_self hl]
        refine ⟨_, hget, ?_⟩
        have mo : Mono X.K F Hs F H3 := mono_pres (fun _ h => h) d3.pres
        refine w _ (σ0.set f none) H3 F ((RE.pres d3.re d3.pres).forget (by simp)) mo ?_
        unfold RetR
        rw [hfr]
        exact ⟨a0, rfl, d3.nF.1, d3.nF.2, .lst (d3.pres _ _ d3.h0) (d3.rp.mono mo)⟩
theorem dss_get {k jl : Nat} (f : Nat) {x y : Str} {py spos : Pos} {fm fmF : FM} {as : List Ar} {n : Nat} {dfl : List PyData} (C1 : Cal X.prog X.w X.K X.mg X.base jl x dfl [] n fm false) (C2 : Cal X.prog X.w X.K X.mg X.base jl x dfl [] n fmF true) (hr : Room k X.A) (gd : X.A.guards = some []) (tk : Takes X B.W) (hB : B.mg = X.mg) (nd0 : X.N.Nodup)
    (ha : Dr X B [] (e :: es) as) (hl : Dss X B [] ow sts kx) (hrt : PSs X sts (tSc1 X.K B ow f kd)) (hjk : jl ≤ k := by decide)
    (hi : X.N[f]? = some y := by rfl) (hy : Loc X.env.scope y := by first | exact Or.inl rfl | exact Or.inr rfl) (hf : X.fn y = true ∨ X.env.scope.names.lookup y = some .local := by first | exact .inl rfl | exact .inr rfl | assumption)
    (hg : Gl X x := by rfl) (hio : ioOf as 0 = [] := by rfl) (hj : ∀ j ∈ jsOf as, j ∈ ([] : List Nat) := by decide) (nd : (jsOf as).Nodup := by decide) (hn : as.length + dfl.length = n := by rfl) (hdb : (x == ("__debug__" : Str)) = false := by decide)
    (hs : starEach (e :: es) X.env = (false, eval e X.env) :: starEach es X.env := by rfl) (hpl : (backTo pos (starEach es X.env)).any (·.1) = false := by rfl) (hsw : swapsWith (.Call (.Name x p) (e :: es) [] pos) (some (.Name y py)) spos.line X.env = pure false := by rfl) :
    Dss X B [] ow (.Assign [.Name y py] (.Call (.Name x p) (e :: es) [] pos) spos :: sts) (sGet f fm fmF as dfl kx kd) := by
  obtain ⟨fa, fd, ps, dvs, ds, h1, h2, h3, h4, h5, h6⟩ := C1.ex
  obtain ⟨fa', fd', ps', dvs', ds', h1', h2', h3', h4', h5', h6'⟩ := C2.ex
  refine pss_imp (pss_cons (L2.ps_set nd0 hi hy (pe_or (pe_callG h3 (hr.mono hjk) gd hg h1 h2 h4 h5 tk ha hdb hs hpl) (pe_callG h3' (hr.mono hjk) gd hg h1' h2' h4' h5' tk ha hdb hs hpl)) hsw hf) (show PSs X sts (fun D σ H => tS X.K B [] ow kx D σ H ∨ tSc1 X.K B ow f kd D σ H) from ⟨fun pins s σ H D I q => q.elim (hl.run pins s σ H D I) (hrt.run pins s σ H D I)⟩)) fun D σ H ⟨ρ, F, re, w⟩ => ?_
  unfold sGet at w
  cases ey : evA as ρ with
  | bad => rw [ey] at w; exact w.elim
  | exc c x => rw [ey] at w; exact w.elim
  | ok y0 =>
    rw [ey] at w
    dsimp only at w
    cases hr : resolve y0.1 y0.2 with
    | none => rw [hr] at w; exact w.elim
    | some ds0 =>
      rw [hr] at w
      dsimp only at w
      cases hf : fm (ds0 ++ dfl) with
      | bad => rw [hf] at w; exact w.elim
      | exc c x => rw [hf] at w; exact w.elim
      | ok z =>
        rw [hf] at w
        dsimp only at w
        split at w
        · rename_i hz
          refine .inl (call_gen (fr := false) hio hj nd hn h6 re ey hr fun F1 H1 mo1 re1 => ?_)
          rw [hf]
          intro v F' H' re2 mo2 rc
          have rp : Rp X.K F' H' v z.2 := rc
          have ez : z.2 = .none := by
            cases hq : z.2 with
            | none => rfl
            | _ => rw [hq] at hz; cases hz
          rw [ez] at rp
          have rs := re2.set rp (i := f) (by simp)
          exact .inl ⟨_, F', rs, WantS.mono w (mo1.toMono.trans mo2.toMono)⟩
        · cases hF : fmF (ds0 ++ dfl) with
          | bad => rw [hF] at w; exact w.elim
          | exc c x => rw [hF] at w; exact w.elim
          | ok u =>
            rw [hF] at w
            dsimp only at w
            cases hu : u.2 with
            | list xs =>
              rw [hu] at w
              dsimp only at w
              split at w
              · rename_i hfl
                refine .inr (call_gen (fr := true) hio hj nd hn h6' re ey hr fun F1 H1 mo1 re1 => ?_)
                rw [hF]
                intro v F' H' re2 mo2 rc
                obtain ⟨a, rfl, nF, h0, ov⟩ := (show ∃ a, v = .ref a ∧ ¬ F' a ∧ H1 a = none ∧ OwnV X.K F' H' a u.2 from rc)
                rw [hu] at ov
                cases ov with
                | lst q r => exact .inr ⟨F', _, σ, H', a, _, xs, ⟨re2, hfl, q, r, ⟨nF, re1.h0 h0⟩, fun _ _ h => h, rfl⟩, WantS.mono w (mo1.toMono.trans mo2.toMono)⟩
              · exact w.elim
            | _ => rw [hu] at w; exact w.elim
end
end Kd

end T_KD23
section T_KM0
set_option maxRecDepth 100000
/-! KM0: reckoning with the combinators. -/
namespace Kd
open PySem PySem.Spec PyProof.Rows L2

@[simp] theorem bind_ok' {α β : Type} (a : α) (f : α → Rs β) : (Rs.ok a).bind f = f a := (rfl)
@[simp] theorem bind_bad {α β : Type} (f : α → Rs β) : (Rs.bad : Rs α).bind f = .bad := (rfl)
@[simp] theorem bind_exc {α β : Type} (c : Str) (d : Option PyData) (f : α → Rs β) : (Rs.exc c d : Rs α).bind f = .exc c d := (rfl)
@[simp] theorem bind_ite {α β : Type} {c : Prop} [Decidable c] (x y : Rs α) (f : α → Rs β) : (if c then x else y).bind f = if c then x.bind f else y.bind f := by split <;> rfl
@[simp] theorem opt_some {α β : Type} (a : α) (f : α → Rs β) : Rs.opt (some a) f = f a := (rfl)
@[simp] theorem opt_none {α β : Type} (f : α → Rs β) : Rs.opt none f = .bad := (rfl)
@[simp] theorem quiet_ok' {α : Type} (a : α) : (Rs.ok a).quiet = .ok a := (rfl)
@[simp] theorem iff_true {α : Type} (x : α) : iff' true x = some x := (rfl)
@[simp] theorem iff_false {α : Type} (x : α) : iff' false x = none := (rfl)
@[simp] theorem gt_zero (a : Option PyData) (ρ : Ev) : gt (a :: ρ) 0 = a := (rfl)
@[simp] theorem gt_succ (a : Option PyData) (ρ : Ev) (n : Nat) : gt (a :: ρ) (n + 1) = gt ρ n := by
  unfold gt; rw [List.getElem?_cons_succ]
@[simp] theorem mV_ (i : Nat) (ρ : Ev) : mV i ρ = Rs.opt (gt ρ i) fun d => .ok (ρ, d) := (rfl)
@[simp] theorem mC_ (d : PyData) (ρ : Ev) : mC d ρ = .ok (ρ, d) := (rfl)
@[simp] theorem m1_ (f) (a : EM) (ρ : Ev) : m1 f a ρ = (a ρ).bind fun x => Rs.opt (f x.2) fun d => .ok (x.1, d) := (rfl)
@[simp] theorem m2_ (f) (a b : EM) (ρ : Ev) : m2 f a b ρ = (a ρ).bind fun x => (b x.1).bind fun y => Rs.opt (f x.2 y.2) fun d => .ok (y.1, d) := (rfl)
@[simp] theorem mAnd_ (a b : EM) (ρ : Ev) : mAnd a b ρ = (a ρ).bind fun x => Rs.opt (asB x.2) fun c => if c then b x.1 else .ok (x.1, .bool false) := (rfl)
@[simp] theorem mOr_ (a b : EM) (ρ : Ev) : mOr a b ρ = (a ρ).bind fun x => Rs.opt (asB x.2) fun c => if c then .ok (x.1, .bool true) else b x.1 := (rfl)
@[simp] theorem mNot_ (a : EM) (ρ : Ev) : mNot a ρ = (a ρ).bind fun x => Rs.opt (asB x.2) fun c => .ok (x.1, .bool (!c)) := (rfl)
@[simp] theorem mIf_ (t : TM) (a b : EM) (ρ : Ev) : mIf t a b ρ = (t ρ).bind fun x => if x.2 then a x.1 else b x.1 := (rfl)
@[simp] theorem tE_ (a : EM) (ρ : Ev) : tE a ρ = (a ρ).bind fun x => Rs.opt (truD x.2) fun c => .ok (x.1, c) := (rfl)
@[simp] theorem tB_ (a : EM) (ρ : Ev) : Kd.tB a ρ = (a ρ).bind fun x => Rs.opt (asB x.2) fun c => .ok (x.1, c) := (rfl)
@[simp] theorem tAnd_ (a b : TM) (ρ : Ev) : Kd.tAnd a b ρ = (a ρ).bind fun x => if x.2 then b x.1 else .ok (x.1, false) := (rfl)
@[simp] theorem tOr_ (a b : TM) (ρ : Ev) : Kd.tOr a b ρ = (a ρ).bind fun x => if x.2 then .ok (x.1, true) else b x.1 := (rfl)
@[simp] theorem tNot_ (a : TM) (ρ : Ev) : Kd.tNot a ρ = (a ρ).bind fun x => .ok (x.1, !x.2) := (rfl)
@[simp] theorem mArgs_nil (ρ : Ev) : mArgs [] ρ = .ok (ρ, []) := (rfl)
@[simp] theorem mArgs_cons (m : EM) (r : List EM) (ρ : Ev) : mArgs (m :: r) ρ = (m ρ).bind fun x => (mArgs r x.1).bind fun y => .ok (y.1, x.2 :: y.2) := (rfl)
@[simp] theorem mN_ (f) (as : List EM) (ρ : Ev) : mN f as ρ = (mArgs as ρ).bind fun x => Rs.opt (f x.2) fun d => .ok (x.1, d) := (rfl)
@[simp] theorem evA_nil (ρ : Ev) : evA [] ρ = .ok (ρ, []) := (rfl)
@[simp] theorem evA_e (m : EM) (r : List Ar) (ρ : Ev) : evA (.e m :: r) ρ = (m ρ).bind fun x => (evA r x.1).bind fun y => .ok (y.1, .inl x.2 :: y.2) := (rfl)
@[simp] theorem evA_io (j : Nat) (r : List Ar) (ρ : Ev) : evA (.io j :: r) ρ = Rs.opt (gt ρ j) fun _ => (evA r ρ).bind fun y => .ok (y.1, .inr j :: y.2) := (rfl)
@[simp] theorem res_nil (ρ : Ev) : resolve ρ [] = some [] := (rfl)
@[simp] theorem res_inl (ρ : Ev) (d : PyData) (r) : resolve ρ (.inl d :: r) = (resolve ρ r).map fun ds => d :: ds := (rfl)
@[simp] theorem res_inr (ρ : Ev) (j : Nat) (r) : resolve ρ (.inr j :: r) = (gt ρ j).bind fun d => (resolve ρ r).map fun ds => d :: ds := (rfl)
@[simp] theorem js_nil : jsOf [] = [] := (rfl)
@[simp] theorem js_e (m : EM) (r) : jsOf (.e m :: r) = jsOf r := (rfl)
@[simp] theorem js_io (j : Nat) (r) : jsOf (.io j :: r) = j :: jsOf r := (rfl)
@[simp] theorem setL_nil (ρ : Ev) (os) : setL ρ [] os = ρ := by cases os <;> rfl
@[simp] theorem setL_cons (ρ : Ev) (j : Nat) (js) (d : PyData) (ds) : setL ρ (j :: js) (d :: ds) = (setL ρ js ds).set j (some d) := (rfl)
@[simp] theorem mCall_ (f : FM) (as : List Ar) (dfl : List PyData) (ρ : Ev) : mCall f as dfl ρ = (evA as ρ).bind fun x => Rs.opt (resolve x.1 x.2) fun ds => (if (jsOf as).isEmpty then f (ds ++ dfl) else (f (ds ++ dfl)).quiet).bind fun y => .ok (setL x.1 (jsOf as) y.1, y.2) := (rfl)
@[simp] theorem sNx_ (ρ : Ev) : sNx ρ = .ok (.nx ρ) := (rfl)
@[simp] theorem sBk_ (ρ : Ev) : sBk ρ = .ok (.bk ρ) := (rfl)
@[simp] theorem sCt_ (ρ : Ev) : sCt ρ = .ok (.ct ρ) := (rfl)
@[simp] theorem sNo_ (ρ : Ev) : sNo ρ = .bad := (rfl)
@[simp] theorem sSet_ (i : Nat) (m : EM) (ρ : Ev) : sSet i m ρ = (m ρ).bind fun x => .ok (.nx (x.1.set i (some x.2))) := (rfl)
@[simp] theorem sE_ (m : EM) (ρ : Ev) : sE m ρ = (m ρ).bind fun x => .ok (.nx x.1) := (rfl)
@[simp] theorem sRt_ (m : EM) (ρ : Ev) : sRt m ρ = (m ρ).bind fun x => .ok (.rt x.1 x.2) := (rfl)
@[simp] theorem sIf_ (t : TM) (a b : SM) (ρ : Ev) : sIf t a b ρ = (t ρ).bind fun x => if x.2 then a x.1 else b x.1 := (rfl)
/-- what follows a statement -/
def thenS (b : SM) (f : Fl) : Rs Fl := match f with
  | .nx ρ' => b ρ'
  | f => .ok f
@[simp] theorem sSeq_ (a b : SM) (ρ : Ev) : sSeq a b ρ = (a ρ).bind (thenS b) := (rfl)
@[simp] theorem then_nx (b : SM) (ρ : Ev) : thenS b (.nx ρ) = b ρ := (rfl)
@[simp] theorem then_rt (b : SM) (ρ : Ev) (d) : thenS b (.rt ρ d) = .ok (.rt ρ d) := (rfl)
@[simp] theorem then_bk (b : SM) (ρ : Ev) : thenS b (.bk ρ) = .ok (.bk ρ) := (rfl)
@[simp] theorem then_ct (b : SM) (ρ : Ev) : thenS b (.ct ρ) = .ok (.ct ρ) := (rfl)
/-- a def's end -/
def endF (io : List Nat) (fr : Bool) (fl : Fl) : Rs (List PyData × PyData) := match fl with
  | .rt ρ d => Rs.opt (outs ρ io) fun os => .ok (os, d)
  | .nx ρ => if fr then .bad else Rs.opt (outs ρ io) fun os => .ok (os, .none)
  | _ => .bad
@[simp] theorem fnM_ (N : Nat) (io : List Nat) (fr : Bool) (m : SM) (ds : List PyData) : fnM N io fr m ds = (m (ini N ds)).bind (endF io fr) := (rfl)
@[simp] theorem end_rt (io fr ρ d) : endF io fr (.rt ρ d) = Rs.opt (outs ρ io) fun os => .ok (os, d) := (rfl)
@[simp] theorem end_nx (io ρ) : endF io false (.nx ρ) = Rs.opt (outs ρ io) fun os => .ok (os, .none) := (rfl)
@[simp] theorem outs_nil (ρ : Ev) : outs ρ [] = some [] := (rfl)
@[simp] theorem outs_cons (ρ : Ev) (i : Nat) (r) : outs ρ (i :: r) = (gt ρ i).bind fun d => (outs ρ r).map fun ds => d :: ds := (rfl)
@[simp] theorem ini_ (N : Nat) (ds : List PyData) : ini N ds = ds.map some ++ List.replicate (N - ds.length) none := (rfl)
@[simp] theorem gN_ (i : Nat) (d : PyData) (ρ : Ev) : gN i d ρ = some (ρ.set i (some d)) := (rfl)
@[simp] theorem gAll_nil (ρ : Ev) : gAll [] [] ρ = some ρ := (rfl)
@[simp] theorem gAll_cons (g : GM) (gs d ds) (ρ : Ev) : gAll (g :: gs) (d :: ds) ρ = (g d ρ).bind fun ρ' => gAll gs ds ρ' := (rfl)
@[simp] theorem gT_ (gs : List GM) (ds : List PyData) (ρ : Ev) : gT gs (.tuple ds) ρ = gAll gs ds ρ := (rfl)
@[simp] theorem sAs_ (g : GM) (m : EM) (ρ : Ev) : sAs g m ρ = (m ρ).bind fun x => Rs.opt (g x.2 x.1) fun ρ' => .ok (.nx ρ') := (rfl)
@[simp] theorem iOf_ (f m) (ρ : Ev) : iOf f m ρ = (m ρ).bind fun x => Rs.opt (f x.2) fun ds => .ok (x.1, ds) := (rfl)
@[simp] theorem iNg_ (f ms) (ρ : Ev) : iNg f ms ρ = (mArgs ms ρ).bind fun x => Rs.opt (f x.2) fun ds => .ok (x.1, ds) := (rfl)
@[simp] theorem sFor_ (it g b) (ρ : Ev) : sFor it g b ρ = (it ρ).bind fun x => forL g b x.2 x.1 := (rfl)
@[simp] theorem mIxO_ (i mb) (ρ : Ev) : mIxO i mb ρ = Rs.opt (gt ρ i) fun _ => (mb ρ).bind fun y => Rs.opt ((gt y.1 i).bind asL) fun ds => Rs.opt (fIx (.list ds) y.2) fun d => .ok (y.1, d) := (rfl)
@[simp] theorem mLenO_ (i) (ρ : Ev) : mLenO i ρ = Rs.opt ((gt ρ i).bind asL) fun ds => .ok (ρ, .int ds.length) := (rfl)
@[simp] theorem mMt_ (i f ms) (ρ : Ev) : mMt i f ms ρ = Rs.opt ((gt ρ i).bind asL) fun _ => (mArgs ms ρ).bind fun x => Rs.opt ((gt x.1 i).bind asL) fun ds => Rs.opt (f ds x.2) fun y => .ok (x.1.set i (some (.list y.1)), y.2) := (rfl)
@[simp] theorem sSto_ (i mi me) (ρ : Ev) : sSto i mi me ρ = (me ρ).bind fun x => Rs.opt (gt x.1 i) fun _ => (mi x.1).bind fun y => Rs.opt (asI y.2) fun k => Rs.opt ((gt y.1 i).bind asL) fun ds => Rs.opt (ixN ds.length k) fun j => .ok (.nx (y.1.set i (some (.list (ds.set j x.2))))) := (rfl)
@[simp] theorem sPar_ (i j ma mb) (ρ : Ev) : sPar i j ma mb ρ = (ma ρ).bind fun x => (mb x.1).bind fun y => .ok (.nx ((y.1.set i (some x.2)).set j (some y.2))) := (rfl)
@[simp] theorem sRtV_ (i) (ρ : Ev) : sRtV i ρ = Rs.opt (gt ρ i) fun d => .ok (.rt (ρ.set i none) d) := (rfl)
@[simp] theorem mPart_n (ρ : Ev) : mPart none ρ = .ok (ρ, none) := (rfl)
@[simp] theorem mPart_s (m) (ρ : Ev) : mPart (some m) ρ = (m ρ).bind fun x => Rs.opt (asI x.2) fun i => .ok (x.1, some i) := (rfl)
@[simp] theorem mSl_ (m lo hi) (ρ : Ev) : mSl m lo hi ρ = (m ρ).bind fun x => (mPart lo x.1).bind fun y => (mPart hi y.1).bind fun z => Rs.opt (fSl x.2 y.2 z.2) fun d => .ok (z.1, d) := (rfl)
@[simp] theorem tTrue_ (ρ : Ev) : tTrue ρ = .ok (ρ, true) := (rfl)
@[simp] theorem asB_b (b) : asB (.bool b) = some b := (rfl)
@[simp] theorem asI_i (i) : asI (.int i) = some i := (rfl)
@[simp] theorem asL_l (xs) : asL (.list xs) = some xs := (rfl)
@[simp] theorem asT_t (xs) : asT (.tuple xs) = some xs := (rfl)
@[simp] theorem truD_b (b) : truD (.bool b) = some b := (rfl)
@[simp] theorem truD_l (b) : truD (.list b) = some (!b.isEmpty) := (rfl)
@[simp] theorem truD_t (b) : truD (.tuple b) = some (!b.isEmpty) := (rfl)
@[simp] theorem truD_i (b) : truD (.int b) = some (b != 0) := (rfl)
@[simp] theorem truD_n : truD .none = some false := (rfl)
/-! ### operations -/
@[simp] theorem fAdd_i (i j) : fAdd (.int i) (.int j) = some (.int (i + j)) := (rfl)
@[simp] theorem fAdd_l (i j) : fAdd (.list i) (.list j) = iff' (decide (i.length + j.length ≤ sizeLine)) (.list (i ++ j)) := (rfl)
@[simp] theorem fAdd_t (i j) : fAdd (.tuple i) (.tuple j) = iff' (decide (i.length + j.length ≤ sizeLine)) (.tuple (i ++ j)) := (rfl)
@[simp] theorem fAdd_s (i j) : fAdd (.str i) (.str j) = iff' (decide (i.length + j.length ≤ sizeLine)) (.str (i ++ j)) := (rfl)
@[simp] theorem fSub_i (i j) : fSub (.int i) (.int j) = some (.int (i - j)) := (rfl)
@[simp] theorem fLt_i (i j) : fLt (.int i) (.int j) = some (.bool (decide (i < j))) := (rfl)
@[simp] theorem fLe_i (i j) : fLe (.int i) (.int j) = some (.bool (decide (i ≤ j))) := (rfl)
@[simp] theorem fGt_i (i j) : fGt (.int i) (.int j) = some (.bool (decide (j < i))) := (rfl)
@[simp] theorem fGe_i (i j) : fGe (.int i) (.int j) = some (.bool (decide (j ≤ i))) := (rfl)
@[simp] theorem fMul_i (i j) : fMul (.int i) (.int j) = iff' (mulOk i j) (.int (i * j)) := (rfl)
@[simp] theorem fMod_i (i j) : fMod (.int i) (.int j) = iff' (!decide (j = 0)) (.int (i.fmod j)) := by
  show iff' (j != 0) _ = _
  rw [show (j != 0) = !decide (j = 0) from rfl]
@[simp] theorem fDiv_i (i j) : fDiv (.int i) (.int j) = iff' (!decide (j = 0) && decide (j.natAbs < 1073741824)) (.int (i.fdiv j)) := by
  show iff' (j != 0 && decide (j.natAbs < 1073741824)) _ = _
  rw [show (j != 0) = !decide (j = 0) from rfl]
@[simp] theorem fPow_i (i j) : fPow (.int i) (.int j) = iff' (decide (0 ≤ j ∧ j ≤ 1000000 ∧ i.natAbs < 2 ^ 64)) (.int (i ^ j.toNat)) := (rfl)
@[simp] theorem fNeg_i (i) : fNeg (.int i) = some (.int (-i)) := (rfl)
@[simp] theorem fInt_i (i) : fInt [.int i] = some (.int i) := (rfl)
@[simp] theorem fInt_b (i) : fInt [.bool i] = some (.int (if i then 1 else 0)) := (rfl)
@[simp] theorem fLen_l (xs) : fLen [.list xs] = some (.int xs.length) := (rfl)
@[simp] theorem fLen_t (xs) : fLen [.tuple xs] = some (.int xs.length) := (rfl)
@[simp] theorem fList_l (xs) : fList [.list xs] = some (.list xs) := (rfl)
@[simp] theorem fList_t (xs) : fList [.tuple xs] = some (.list xs) := (rfl)
@[simp] theorem fTuple_l (xs) : fTuple [.list xs] = some (.tuple xs) := (rfl)
@[simp] theorem fTuple_t (xs) : fTuple [.tuple xs] = some (.tuple xs) := (rfl)
@[simp] theorem fIx_l (xs i) : fIx (.list xs) (.int i) = atI xs i := (rfl)
@[simp] theorem fIx_t (xs i) : fIx (.tuple xs) (.int i) = atI xs i := (rfl)
@[simp] theorem fSl_l (xs lo hi) : fSl (.list xs) lo hi = some (.list (cutD xs lo hi)) := (rfl)
@[simp] theorem fSl_t (xs lo hi) : fSl (.tuple xs) lo hi = some (.tuple (cutD xs lo hi)) := (rfl)
@[simp] theorem fTup_ (xs) : fTup xs = iff' (decide (xs.length ≤ sizeLine)) (.tuple xs) := (rfl)
@[simp] theorem fLst_ (xs) : fLst xs = iff' (decide (xs.length ≤ sizeLine)) (.list xs) := (rfl)
@[simp] theorem fMax2_ (i j) : fMax2 [.int i, .int j] = some (.int (if j > i then j else i)) := (rfl)
@[simp] theorem fMin2_ (i j) : fMin2 [.int i, .int j] = some (.int (if j < i then j else i)) := (rfl)
@[simp] theorem fApp_ (ds d) : fApp ds [d] = iff' (decide (ds.length < sizeLine)) (ds ++ [d], .none) := (rfl)
@[simp] theorem fIns_ (ds i d) : fIns ds [.int i, d] = iff' (decide (ds.length < sizeLine) && decide (0 ≤ i ∧ i < 2 ^ 63)) (ds.take i.toNat ++ [d] ++ ds.drop i.toNat, .none) := (rfl)
@[simp] theorem atI_n {α : Type} (xs : List α) (n : Nat) : atI xs (n : Int) = xs[n]? := by
  unfold atI ixN
  rw [if_pos (by omega)]
  by_cases h : n < xs.length
  · rw [if_pos (by omega)]; rfl
  · rw [if_neg (by omega), List.getElem?_eq_none (by omega)]; rfl
@[simp] theorem atI_0 {α : Type} (a : α) (xs : List α) : atI (a :: xs) 0 = some a := by
  have := atI_n (a :: xs) 0; simpa using this
@[simp] theorem atI_1 {α : Type} (a b : α) (xs : List α) : atI (a :: b :: xs) 1 = some b := by
  have := atI_n (a :: b :: xs) 1; simpa using this
@[simp] theorem atI_2 {α : Type} (a b c : α) (xs : List α) : atI (a :: b :: c :: xs) 2 = some c := by
  have := atI_n (a :: b :: c :: xs) 2; simpa using this
theorem sl : sizeLine = 16777216 := sizeLine_eq
@[simp] theorem isi_none (T) : fIsi T .none = some (.bool (isB "NoneType" T)) := (rfl)
@[simp] theorem isi_bool (T b) : fIsi T (.bool b) = some (.bool (isB "bool" T)) := (rfl)
@[simp] theorem isi_int (T b) : fIsi T (.int b) = some (.bool (isB "int" T)) := (rfl)
@[simp] theorem isi_str (T b) : fIsi T (.str b) = some (.bool (isB "str" T)) := (rfl)
@[simp] theorem isi_list (T b) : fIsi T (.list b) = some (.bool (isB "list" T)) := (rfl)
@[simp] theorem isi_tuple (T b) : fIsi T (.tuple b) = some (.bool (isB "tuple" T)) := (rfl)
theorem sh_i (i : Int) : SeqAt.shaped (.int i) = true := by simp [SeqAt.shaped, PyData.canLay0, PyData.depth]
theorem sh_b (i : Bool) : SeqAt.shaped (.bool i) = true := by simp [SeqAt.shaped, PyData.canLay0, PyData.depth]
@[simp] theorem fEq_ii (i j : Int) : fEq (.int i) (.int j) = some (.bool (decide (i = j))) := by
  simp only [fEq, sh2, sh_i, Bool.and_self, iff_true, PyData.eqv]
  rfl
@[simp] theorem fNe_ii (i j : Int) : fNe (.int i) (.int j) = some (.bool (!decide (i = j))) := by
  simp only [fNe, sh2, sh_i, Bool.and_self, iff_true, PyData.eqv]
  rfl
@[simp] theorem fEq_bb (i j : Bool) : fEq (.bool i) (.bool j) = some (.bool (i == j)) := by
  simp only [fEq, sh2, sh_b, Bool.and_self, iff_true, PyData.eqv]
@[simp] theorem fNe_bb (i j : Bool) : fNe (.bool i) (.bool j) = some (.bool (!(i == j))) := by
  simp only [fNe, sh2, sh_b, Bool.and_self, iff_true, PyData.eqv]
theorem shaped_of {d : PyData} (h : d.canLay0 = true) (hd : d.depth ≤ 64) : SeqAt.shaped d = true := by
  unfold SeqAt.shaped
  rw [h, decide_eq_true hd]; rfl
@[simp] theorem isN_n (d) : fIsN d .none = some (.bool (isNonD d)) := by cases d <;> rfl
@[simp] theorem isN_b (a b : Bool) : fIsN (.bool a) (.bool b) = some (.bool (a == b)) := (rfl)
@[simp] theorem notN_n (d) : fNotN d .none = some (.bool (!isNonD d)) := by cases d <;> rfl
@[simp] theorem notN_b (a b : Bool) : fNotN (.bool a) (.bool b) = some (.bool (!(a == b))) := (rfl)

/-! ### walks -/
@[simp] theorem for_nil (g b) (ρ : Ev) : forL g b [] ρ = .ok (.nx ρ) := (rfl)
theorem for_cons (g b d ds) (ρ : Ev) : forL g b (d :: ds) ρ = Rs.opt (g d ρ) fun ρ1 => (b ρ1).bind fun f => match f with
    | .nx ρ2 => forL g b ds ρ2
    | .ct ρ2 => forL g b ds ρ2
    | .bk ρ2 => .ok (.nx ρ2)
    | .rt ρ2 r => .ok (.rt ρ2 r) := rfl
@[simp] theorem rng1_ (j : Int) : rng1 [.int j] = iff' (decide (-(2 ^ 62) ≤ j ∧ j < 2 ^ 62)) (numL 0 j.toNat) := (rfl)
@[simp] theorem rng2_ (i j : Int) : rng2 [.int i, .int j] = iff' (decide (-(2 ^ 62) ≤ i ∧ i < 2 ^ 62 ∧ -(2 ^ 62) ≤ j ∧ j < 2 ^ 62)) (numL i (j - i).toNat) := (rfl)
theorem numL_eq (n : Nat) : numL 0 n = (List.range n).map fun i : Nat => .int i := by
  unfold numL
  congr 1
  funext i
  simp
@[simp] theorem lc_nil (g t m vs) (ρ : Ev) : lcL g t m vs [] ρ = .ok (ρ, []) := (rfl)
theorem lc_cons (g t m vs d ds) (ρ : Ev) : lcL g t m vs (d :: ds) ρ = Rs.opt (g d (wipeE ρ vs)) fun ρ1 => (t ρ1).bind fun x => if x.2 then (m x.1).bind fun y => (lcL g t m vs ds y.1).bind fun z => .ok (z.1, y.2 :: z.2)
    else lcL g t m vs ds x.1 := rfl
@[simp] theorem mLc_ (own it g t m vs) (ρ : Ev) : mLc own it g t m vs ρ = (it ρ).bind fun x => Rs.opt (allSet own x.1) fun _ => (lcL g t m vs x.2 x.1).quiet.bind fun y => Rs.opt (fLst y.2) fun d => .ok (keepE x.1 vs y.1, d) := (rfl)
@[simp] theorem allSet_nil (ρ : Ev) : allSet [] ρ = some () := (rfl)
@[simp] theorem wipe_nil (ρ : Ev) : wipeE ρ [] = ρ := (rfl)
@[simp] theorem wipe_cons (ρ : Ev) (v vs) : wipeE ρ (v :: vs) = (wipeE ρ vs).set v none := (rfl)
@[simp] theorem keep_nil (ρ1 ρ : Ev) : keepE ρ1 [] ρ = ρ := (rfl)
@[simp] theorem keep_cons (ρ1 ρ : Ev) (v vs) : keepE ρ1 (v :: vs) ρ = (keepE ρ1 vs ρ).set v ((ρ1[v]?).getD none) := (rfl)
/-- a comprehension whose element leaves all else as it is -/
theorem lc_map {g : GM} {m : EM} {vs : List Nat} {ρw : Ev} (G : PyData → Ev) (f : PyData → PyData) :
    ∀ (ds : List PyData) (ρ : Ev), wipeE ρ vs = ρw → (∀ d ∈ ds, g d ρw = some (G d) ∧ m (G d) = .ok (G d, f d) ∧ wipeE (G d) vs = ρw) → ∃ ρ', lcL g tTrue m vs ds ρ = .ok (ρ', ds.map f) ∧ wipeE ρ' vs = ρw
  | [], ρ, hw, _ => ⟨ρ, rfl, hw⟩
  | d :: ds, ρ, hw, h => by
    obtain ⟨h1, h2, h3⟩ := h d List.mem_cons_self
    obtain ⟨ρ', q1, q2⟩ := lc_map G f ds (G d) h3 fun d' hd => h d' (List.mem_cons_of_mem _ hd)
    refine ⟨ρ', ?_, q2⟩
    rw [lc_cons, hw, h1]
    simp only [opt_some, tTrue_, bind_ok', if_true, h2, q1, List.map_cons]
theorem lc_filter {g : GM} {t : TM} {m : EM} {vs : List Nat} {ρw : Ev} (G : PyData → Ev) (p : PyData → Bool) (f : PyData → PyData) :
    ∀ (ds : List PyData) (ρ : Ev), wipeE ρ vs = ρw → (∀ d ∈ ds, g d ρw = some (G d) ∧ t (G d) = .ok (G d, p d) ∧ (p d = true → m (G d) = .ok (G d, f d)) ∧ wipeE (G d) vs = ρw) →
      ∃ ρ', lcL g t m vs ds ρ = .ok (ρ', (ds.filter p).map f) ∧ wipeE ρ' vs = ρw
  | [], ρ, hw, _ => ⟨ρ, rfl, hw⟩
  | d :: ds, ρ, hw, h => by
    obtain ⟨h1, h2, h3, h4⟩ := h d List.mem_cons_self
    obtain ⟨ρ', q1, q2⟩ := lc_filter G p f ds (G d) h4 fun d' hd => h d' (List.mem_cons_of_mem _ hd)
    refine ⟨ρ', ?_, q2⟩
    rw [lc_cons, hw, h1]
    simp only [opt_some, h2, bind_ok']
    cases hp : p d with
    | true => simp only [if_true, h3 hp, bind_ok', q1, List.filter_cons, hp, List.map_cons]
    | false => simp only [if_false, Bool.false_eq_true, q1, List.filter_cons, hp]
/-- what stands behind a comprehension of one name, or two -/
theorem keep1 {ρ ρ' : Ev} {i : Nat} (h : wipeE ρ' [i] = wipeE ρ [i]) (hl : i < ρ.length) : keepE ρ [i] ρ' = ρ := by
  simp only [wipe_cons, wipe_nil] at h
  simp only [keep_cons, keep_nil]
  have h2 : (ρ'.set i none).set i ((ρ[i]?).getD none) = (ρ.set i none).set i ((ρ[i]?).getD none) := by rw [h]
  rw [List.set_set, List.set_set] at h2
  rw [h2, List.getElem?_eq_getElem hl]
  simp
/-- [e for x in ds]: the slot i is x's -/
theorem mLc_map {it : IM} {m : EM} {i : Nat} {ρ : Ev} {ds : List PyData} (f : PyData → PyData) (hi : i < ρ.length) (hit : it ρ = .ok (ρ, ds)) (hl : ds.length ≤ sizeLine) (hm : ∀ d ∈ ds, m (ρ.set i (some d)) = .ok (ρ.set i (some d), f d)) :
    mLc [] it (gN i) tTrue m [i] ρ = .ok (ρ, .list (ds.map f)) := by
  obtain ⟨ρ', q1, q2⟩ := lc_map (g := gN i) (m := m) (vs := [i]) (ρw := wipeE ρ [i]) (fun d => ρ.set i (some d)) f ds ρ rfl fun d hd => ⟨by simp, hm d hd, by simp⟩
  rw [mLc_, hit]
  simp only [bind_ok', allSet_nil, opt_some, q1, quiet_ok', fLst_, List.length_map, decide_eq_true hl, iff_true]
  rw [keep1 q2 hi]
theorem mLc_filter {it : IM} {t : TM} {m : EM} {i : Nat} {ρ : Ev} {ds : List PyData} (p : PyData → Bool) (f : PyData → PyData) (hi : i < ρ.length) (hit : it ρ = .ok (ρ, ds)) (hl : ds.length ≤ sizeLine) (ht : ∀ d ∈ ds, t (ρ.set i (some d)) = .ok (ρ.set i (some d), p d))
    (hm : ∀ d ∈ ds, p d = true → m (ρ.set i (some d)) = .ok (ρ.set i (some d), f d)) : mLc [] it (gN i) t m [i] ρ = .ok (ρ, .list ((ds.filter p).map f)) := by
  obtain ⟨ρ', q1, q2⟩ := lc_filter (g := gN i) (t := t) (m := m) (vs := [i]) (ρw := wipeE ρ [i]) (fun d => ρ.set i (some d)) p f ds ρ rfl fun d hd => ⟨by simp, ht d hd, hm d hd, by simp⟩
  rw [mLc_, hit]
  have hl2 : (ds.filter p).length ≤ sizeLine := Nat.le_trans (List.length_filter_le _ _) hl
  simp only [bind_ok', allSet_nil, opt_some, q1, quiet_ok', fLst_, List.length_map, decide_eq_true hl2, iff_true]
  rw [keep1 q2 hi]
theorem boolsD_map {α : Type} (f : α → Bool) (xs : List α) : boolsD (xs.map fun x => .bool (f x)) = some (xs.map f) := by
  induction xs with
  | nil => rfl
  | cons x xs ih => simp only [List.map_cons, boolsD, ih, Option.map_some]
@[simp] theorem fAll_map (f : PyData → Bool) (xs : List PyData) : fAll [.list (xs.map fun x => .bool (f x))] = some (.bool (xs.all f)) := by
  simp only [fAll, boolsD_map, Option.map_some, List.all_map]; rfl
@[simp] theorem fAny_map (f : PyData → Bool) (xs : List PyData) : fAny [.list (xs.map fun x => .bool (f x))] = some (.bool (xs.any f)) := by
  simp only [fAny, boolsD_map, Option.map_some, List.any_map]; rfl
theorem lay_all {xs : List PyData} (h : PyData.canLayAll0 xs = true) : ∀ x ∈ xs, x.canLay0 = true := by
  induction xs with
  | nil => intro x hx; cases hx
  | cons a r ih =>
    simp only [PyData.canLayAll0, Bool.and_eq_true] at h
    intro x hx
    rcases List.mem_cons.mp hx with rfl | hx
    · exact h.1
    · exact ih h.2 x hx
theorem lay_tup {xs : List PyData} (h : (PyData.tuple xs).canLay0 = true) : ∀ x ∈ xs, x.canLay0 = true := lay_all (by simpa [PyData.canLay0] using h)
theorem lay_lst {xs : List PyData} (h : (PyData.list xs).canLay0 = true) : ∀ x ∈ xs, x.canLay0 = true := lay_all (by simpa [PyData.canLay0] using h)
end Kd

end T_KM0
section T_KW
/-! KW: what a mirror comes to, without its steps. -/
namespace Kd
open PySem PySem.Spec PyProof.Rows L2

/-- it ends well, and with this -/
def W {α : Type} (r : Rs α) (Q : α → Prop) : Prop := ∃ a, r = .ok a ∧ Q a
@[simp] theorem W_ok {α : Type} (a : α) (Q : α → Prop) : W (.ok a) Q ↔ Q a := ⟨fun ⟨b, h, q⟩ => by cases h; exact q, fun q => ⟨a, rfl, q⟩⟩
@[simp] theorem W_bad {α : Type} (Q : α → Prop) : W (.bad : Rs α) Q ↔ False := by
  constructor
  · rintro ⟨b, h, q⟩; cases h
  · exact False.elim
theorem W.mono {α : Type} {r : Rs α} {P Q : α → Prop} (h : W r P) (k : ∀ a, P a → Q a) : W r Q := by
  obtain ⟨a, e, p⟩ := h
  exact ⟨a, e, k a p⟩
theorem W_bind {α β : Type} {r : Rs α} {f : α → Rs β} {Q : β → Prop} (h : W r fun a => W (f a) Q) : W (r.bind f) Q := by
  obtain ⟨a, e, h⟩ := h
  rw [e]; exact h
/-- behind a statement -/
def KS (b : SM) (Q : Fl → Prop) (fl : Fl) : Prop := W (thenS b fl) Q
theorem W_seq {a b : SM} {ρ : Ev} {Q : Fl → Prop} (h : W (a ρ) (KS b Q)) : W (sSeq a b ρ) Q := W_bind h
@[simp] theorem KS_nx (b : SM) (Q : Fl → Prop) (ρ : Ev) : KS b Q (.nx ρ) ↔ W (b ρ) Q := Iff.rfl
@[simp] theorem KS_rt (b : SM) (Q : Fl → Prop) (ρ : Ev) (d) : KS b Q (.rt ρ d) ↔ Q (.rt ρ d) := W_ok _ _
@[simp] theorem KS_bk (b : SM) (Q : Fl → Prop) (ρ : Ev) : KS b Q (.bk ρ) ↔ Q (.bk ρ) := W_ok _ _
@[simp] theorem KS_ct (b : SM) (Q : Fl → Prop) (ρ : Ev) : KS b Q (.ct ρ) ↔ Q (.ct ρ) := W_ok _ _
/-- at a def's end -/
def KE (io : List Nat) (fr : Bool) (Q : List PyData × PyData → Prop) (fl : Fl) : Prop := W (endF io fr fl) Q
theorem W_fn {N : Nat} {io : List Nat} {fr : Bool} {m : SM} {ds : List PyData} {Q : List PyData × PyData → Prop} (h : W (m (ds.map some ++ List.replicate (N - ds.length) none)) (KE io fr Q)) : W (fnM N io fr m ds) Q := W_bind h
@[simp] theorem KE_rt (io fr ρ d) (Q) : KE io fr Q (.rt ρ d) ↔ W (Rs.opt (outs ρ io) fun os => .ok (os, d)) Q := Iff.rfl
@[simp] theorem KE_nx (io ρ) (Q) : KE io false Q (.nx ρ) ↔ W (Rs.opt (outs ρ io) fun os => .ok (os, .none)) Q := Iff.rfl
/-- a walk: what stands at each turn -/
theorem W_forL {g : GM} {b : SM} {Q : Fl → Prop} (I : List PyData → Ev → Prop) (hs : ∀ d r ρ, I (d :: r) ρ → ∃ ρ1, g d ρ = some ρ1 ∧ W (b ρ1) fun fl => match fl with
    | .nx ρ2 => I r ρ2
    | .ct ρ2 => I r ρ2
    | .bk ρ2 => Q (.nx ρ2)
    | .rt ρ2 v => Q (.rt ρ2 v)) (he : ∀ ρ, I [] ρ → Q (.nx ρ)) : ∀ (ds : List PyData) (ρ : Ev), I ds ρ → W (forL g b ds ρ) Q
  | [], ρ, h => by rw [for_nil]; exact (W_ok _ _).mpr (he ρ h)
  | d :: r, ρ, h => by
    obtain ⟨ρ1, h1, fl, h2, h3⟩ := hs d r ρ h
    rw [for_cons, h1, opt_some, h2, bind_ok']
    cases fl with
    | nx ρ2 => exact W_forL I hs he r ρ2 h3
    | ct ρ2 => exact W_forL I hs he r ρ2 h3
    | bk ρ2 => exact (W_ok _ _).mpr h3
    | rt ρ2 v => exact (W_ok _ _).mpr h3
theorem W_for {it : IM} {g : GM} {b : SM} {Q : Fl → Prop} {ρ ρ1 : Ev} {ds : List PyData} (I : List PyData → Ev → Prop) (hit : it ρ = .ok (ρ1, ds)) (h0 : I ds ρ1) (hs : ∀ d r ρ, I (d :: r) ρ → ∃ ρ1, g d ρ = some ρ1 ∧ W (b ρ1) fun fl => match fl with
    | .nx ρ2 => I r ρ2
    | .ct ρ2 => I r ρ2
    | .bk ρ2 => Q (.nx ρ2)
    | .rt ρ2 v => Q (.rt ρ2 v)) (he : ∀ ρ, I [] ρ → Q (.nx ρ)) : W (sFor it g b ρ) Q := by
  rw [sFor_, hit, bind_ok']
  exact W_forL I hs he ds ρ1 h0
theorem numL_succ (i : Int) (n : Nat) : numL i (n + 1) = .int i :: numL (i + 1) n := by
  unfold numL
  rw [List.range_succ_eq_map, List.map_cons, List.map_map]
  congr 1
  · simp
  · congr 1
    funext k
    simp [Function.comp, Int.add_assoc, Int.add_comm 1]
@[simp] theorem numL_zero (i : Int) : numL i 0 = [] := rfl
@[simp] theorem numL_len' (i : Int) (n : Nat) : (numL i n).length = n := by unfold numL; simp
/-- a walk over 0 .. n - 1 -/
theorem W_rng {it : IM} {g : GM} {b : SM} {Q : Fl → Prop} {ρ ρ1 : Ev} (n : Nat) (I : Nat → Ev → Prop) (hit : it ρ = .ok (ρ1, numL 0 n)) (h0 : I 0 ρ1) (hs : ∀ k ρ, k < n → I k ρ → ∃ ρ1, g (.int (k : Int)) ρ = some ρ1 ∧ W (b ρ1) fun fl => match fl with
    | .nx ρ2 => I (k + 1) ρ2
    | .ct ρ2 => I (k + 1) ρ2
    | .bk ρ2 => Q (.nx ρ2)
    | .rt ρ2 v => Q (.rt ρ2 v)) (he : ∀ ρ, I n ρ → Q (.nx ρ)) : W (sFor it g b ρ) Q := by
  refine W_for (fun r ρ => ∃ k, k + r.length = n ∧ r = numL (k : Int) (n - k) ∧ I k ρ) hit ⟨0, by simp, rfl, h0⟩ ?_ ?_
  · rintro d r ρ ⟨k, h1, h2, h3⟩
    have hk : k < n := by simp only [List.length_cons] at h1; omega
    rw [show n - k = (n - (k + 1)) + 1 by omega, numL_succ] at h2
    cases h2
    obtain ⟨ρ1, q1, q2⟩ := hs k ρ hk h3
    refine ⟨ρ1, q1, q2.mono fun fl h => ?_⟩
    have hr : k + 1 + (numL ((k : Int) + 1) (n - (k + 1))).length = n := by rw [numL_len']; omega
    cases fl with
    | nx ρ2 => exact ⟨k + 1, hr, by simp, h⟩
    | ct ρ2 => exact ⟨k + 1, hr, by simp, h⟩
    | bk ρ2 => exact h
    | rt ρ2 v => exact h
  · rintro ρ ⟨k, h1, h2, h3⟩
    simp only [List.length_nil, Nat.add_zero] at h1
    subst h1
    exact he ρ h3
/-- a comprehension: what stands at each turn; acc: what is there -/
theorem W_lcL {g : GM} {t : TM} {m : EM} {vs : List Nat} (I : List PyData → List PyData → Ev → Prop) (hs : ∀ acc d r ρ, I acc (d :: r) ρ → ∃ ρ1, g d (wipeE ρ vs) = some ρ1 ∧ W (t ρ1) fun x => (x.2 = true → W (m x.1) fun y => I (acc ++ [y.2]) r y.1) ∧ (x.2 = false → I acc r x.1)) :
    ∀ (ds acc : List PyData) (ρ : Ev), I acc ds ρ → W (lcL g t m vs ds ρ) fun z => I (acc ++ z.2) [] z.1
  | [], acc, ρ, h => by simpa using h
  | d :: r, acc, ρ, h => by
    obtain ⟨ρ1, h1, x, h2, h3, h4⟩ := hs acc d r ρ h
    rw [lc_cons, h1, opt_some, h2, bind_ok']
    cases hx : x.2 with
    | true =>
      obtain ⟨y, q1, q2⟩ := h3 hx
      obtain ⟨z, q3, q4⟩ := W_lcL I hs r _ y.1 q2
      rw [if_pos rfl, q1, bind_ok', q3, bind_ok']
      refine (W_ok _ _).mpr ?_
      simpa using q4
    | false =>
      rw [if_neg (by simp)]
      exact W_lcL I hs r acc x.1 (h4 hx)
theorem W_mLc {own : List Nat} {it : IM} {g : GM} {t : TM} {m : EM} {vs : List Nat} {ρ ρ1 : Ev} {ds : List PyData} {Q : Ev × PyData → Prop} (I : List PyData → List PyData → Ev → Prop) (hit : it ρ = .ok (ρ1, ds)) (ho : allSet own ρ1 = some ()) (hl : ds.length ≤ sizeLine) (h0 : I [] ds ρ1)
    (hs : ∀ acc d r ρ, I acc (d :: r) ρ → ∃ ρ2, g d (wipeE ρ vs) = some ρ2 ∧ W (t ρ2) fun x => (x.2 = true → W (m x.1) fun y => I (acc ++ [y.2]) r y.1) ∧ (x.2 = false → I acc r x.1))
    (hlen : ∀ acc ρ, I acc [] ρ → acc.length ≤ sizeLine) (he : ∀ acc ρ, I acc [] ρ → Q (keepE ρ1 vs ρ, .list acc)) : W (mLc own it g t m vs ρ) Q := by
  obtain ⟨z, q1, q2⟩ := W_lcL I hs ds [] ρ1 h0
  rw [List.nil_append] at q2
  rw [mLc_, hit]
  simp only [bind_ok', ho, opt_some, q1, quiet_ok', fLst_, decide_eq_true (hlen _ _ q2), iff_true]
  exact (W_ok _ _).mpr (he _ _ q2)
theorem rng1_in (m : Nat) (q : (-(2 ^ 62) ≤ (m : Int) ∧ (m : Int) < 2 ^ 62)) : rng1 [.int (m : Int)] = some (numL 0 m) := by
  rw [rng1_, decide_eq_true q, Int.toNat_natCast]
  rfl
theorem rng1_nat (m : Nat) (h : m ≤ sizeLine) : rng1 [.int (m : Int)] = some (numL 0 m) := rng1_in m ⟨by omega, by have := Nat.le_trans h (Nat.le_of_eq sl); omega⟩
theorem it_rng {m : EM} {ρ : Ev} {n : Nat} (h : m ρ = .ok (ρ, .int (n : Int))) (hn : n ≤ sizeLine) : iNg rng1 [m] ρ = .ok (ρ, numL 0 n) := by
  have e : mArgs [m] ρ = .ok (ρ, [.int (n : Int)]) := by
    rw [mArgs_cons, h]; rfl
  rw [iNg_, e, bind_ok', rng1_nat n hn, opt_some]
@[simp] theorem allSet_one (i : Nat) (ρ : Ev) : allSet [i] ρ = (gt ρ i).bind fun _ => some () := by
  unfold allSet
  cases h : gt ρ i <;> simp [h]
/-- the same, where what is gone through has changed something -/
theorem mLc_map1 {own : List Nat} {it : IM} {m : EM} {i : Nat} {ρ ρ1 : Ev} {ds : List PyData} (f : PyData → PyData) (hi : i < ρ1.length) (hit : it ρ = .ok (ρ1, ds)) (ho : allSet own ρ1 = some ()) (hl : ds.length ≤ sizeLine) (hm : ∀ d ∈ ds, m (ρ1.set i (some d)) = .ok (ρ1.set i (some d), f d)) :
    mLc own it (gN i) tTrue m [i] ρ = .ok (ρ1, .list (ds.map f)) := by
  obtain ⟨ρ', q1, q2⟩ := lc_map (g := gN i) (m := m) (vs := [i]) (ρw := wipeE ρ1 [i]) (fun d => ρ1.set i (some d)) f ds ρ1 rfl fun d hd => ⟨by simp, hm d hd, by simp⟩
  rw [mLc_, hit]
  have hl2 : (ds.map f).length ≤ sizeLine := by rw [List.length_map]; exact hl
  simp only [bind_ok', ho, opt_some, q1, quiet_ok', fLst_, decide_eq_true hl2, iff_true]
  rw [keep1 q2 hi]
/-- on to the next turn -/
def NX (P : Ev → Prop) : Fl → Prop
  | .nx ρ => P ρ
  | .ct ρ => P ρ
  | _ => False
@[simp] theorem NX_nx (P : Ev → Prop) (ρ : Ev) : NX P (.nx ρ) ↔ P ρ := Iff.rfl
@[simp] theorem NX_ct (P : Ev → Prop) (ρ : Ev) : NX P (.ct ρ) ↔ P ρ := Iff.rfl
/-- a walk over 0 .. n - 1 that ends by itself -/
theorem W_rng' {it : IM} {g : GM} {b : SM} {Q : Fl → Prop} {ρ ρ1 : Ev} (n : Nat) (I : Nat → Ev → Prop) (hit : it ρ = .ok (ρ1, numL 0 n)) (h0 : I 0 ρ1) (hs : ∀ k ρ, k < n → I k ρ → ∃ ρ1, g (.int (k : Int)) ρ = some ρ1 ∧ W (b ρ1) (NX (I (k + 1)))) (he : ∀ ρ, I n ρ → Q (.nx ρ)) : W (sFor it g b ρ) Q :=
  W_rng n I hit h0 (fun k ρ hk h => by
    obtain ⟨ρ1, q1, q2⟩ := hs k ρ hk h
    refine ⟨ρ1, q1, q2.mono fun fl h => ?_⟩
    cases fl with
    | nx ρ2 => exact h
    | ct ρ2 => exact h
    | bk ρ2 => exact h.elim
    | rt ρ2 v => exact h.elim) he
theorem W_for' {it : IM} {g : GM} {b : SM} {Q : Fl → Prop} {ρ ρ1 : Ev} {ds : List PyData} (I : List PyData → Ev → Prop) (hit : it ρ = .ok (ρ1, ds)) (h0 : I ds ρ1) (hs : ∀ d r ρ, I (d :: r) ρ → ∃ ρ1, g d ρ = some ρ1 ∧ W (b ρ1) (NX (I r))) (he : ∀ ρ, I [] ρ → Q (.nx ρ)) : W (sFor it g b ρ) Q :=
  W_for I hit h0 (fun d r ρ h => by
    obtain ⟨ρ1, q1, q2⟩ := hs d r ρ h
    refine ⟨ρ1, q1, q2.mono fun fl h => ?_⟩
    cases fl with
    | nx ρ2 => exact h
    | ct ρ2 => exact h
    | bk ρ2 => exact h.elim
    | rt ρ2 v => exact h.elim) he
@[simp] theorem atI_n1 {α : Type} (xs : List α) (n : Nat) : atI xs ((n : Int) + 1) = xs[n + 1]? := by
  have := atI_n xs (n + 1); simpa using this
@[simp] theorem atI_z {α : Type} (xs : List α) : atI xs 0 = xs[0]? := by
  have := atI_n xs 0; simpa using this
theorem W_forE {it : IM} {g : GM} {b : SM} {Q : Fl → Prop} {ρ : Ev} (I : List PyData → Ev → Prop) (hit : W (it ρ) fun x => I x.2 x.1) (hs : ∀ d r ρ, I (d :: r) ρ → ∃ ρ1, g d ρ = some ρ1 ∧ W (b ρ1) (NX (I r))) (he : ∀ ρ, I [] ρ → Q (.nx ρ)) : W (sFor it g b ρ) Q := by
  obtain ⟨x, e, h⟩ := hit
  exact W_for' (ρ1 := x.1) (ds := x.2) I e h hs he
/-! ### products -/
theorem mulOk_of {i j : Int} {a b : Nat} (hi : i.natAbs < 2 ^ a) (hj : j.natAbs < 2 ^ b) (h : a + b ≤ 900000) : mulOk i j = true := by
  have lg : ∀ (x k : Nat), x < 2 ^ k → x.log2 ≤ k := fun x k hx => by
    by_cases h0 : x = 0
    · subst h0; simp
    · exact Nat.le_of_lt ((Nat.log2_lt h0).mpr hx)
  unfold mulOk
  refine decide_eq_true ?_
  have h1 := lg _ _ hi
  have h2 := lg _ _ hj
  omega
/-! ### what can be shown -/
mutual
def tame : PyData → Bool
  | .none => true
  | .bool _ => true
  | .int i => decide (i.natAbs < 10 ^ 22)
  | .str x => PyData.strOk x
  | .list xs => tameAll xs
  | .tuple xs => tameAll xs
  | .dict _ => false
def tameAll : List PyData → Bool
  | [] => true
  | x :: xs => tame x && tameAll xs
end
mutual
theorem tame_lay : ∀ d : PyData, tame d = true → d.canLay0 = true
  | .none, _ => rfl
  | .bool _, _ => rfl
  | .int _, _ => rfl
  | .str x, h => h
  | .list xs, h => by simpa [PyData.canLay0] using tameAll_lay xs h
  | .tuple xs, h => by simpa [PyData.canLay0] using tameAll_lay xs h
  | .dict _, h => by cases h
theorem tameAll_lay : ∀ xs : List PyData, tameAll xs = true → PyData.canLayAll0 xs = true
  | [], _ => rfl
  | x :: xs, h => by
    have h := Bool.and_eq_true_iff.mp h
    simp only [PyData.canLayAll0, tame_lay x h.1, tameAll_lay xs h.2, Bool.and_self]
end
theorem pow_bound : 10 ^ 22 ≤ 2 ^ 1920 := by decide +kernel
mutual
theorem tame_show : ∀ d : PyData, tame d = true → d.showable = true
  | .none, _ => rfl
  | .bool _, _ => rfl
  | .int i, h => by
    have h := of_decide_eq_true h
    simp only [PyData.showable]
    refine decide_eq_true ?_
    by_cases h0 : i.natAbs = 0
    · rw [h0]; decide
    · exact (Nat.log2_lt h0).mpr (Nat.lt_of_lt_of_le h pow_bound)
  | .str x, h => rfl
  | .list xs, h => by simpa [PyData.showable] using tameAll_show xs h
  | .tuple xs, h => by simpa [PyData.showable] using tameAll_show xs h
  | .dict _, h => by cases h
theorem tameAll_show : ∀ xs : List PyData, tameAll xs = true → PyData.showableAll xs = true
  | [], _ => rfl
  | x :: xs, h => by
    have h := Bool.and_eq_true_iff.mp h
    simp only [PyData.showableAll, tame_show x h.1, tameAll_show xs h.2, Bool.and_self]
end
mutual
theorem tame_short : ∀ d : PyData, tame d = true → d.leavesShort 24 = true
  | .none, _ => rfl
  | .bool _, _ => rfl
  | .int i, h => by
    have h := of_decide_eq_true h
    have e := int_text_length_le10 (k := 22) (by decide) h
    simp only [PyData.leavesShort, PyData.shown]
    refine decide_eq_true ?_
    rw [PySem.ofString_length]
    omega
  | .str x, h => by
    simp only [PyData.leavesShort]
    refine List.all_eq_true.mpr fun c hc => decide_eq_true ?_
    have h : x.cps.all (fun c => decide (c < 0x110000)) = true := h
    rw [← Array.all_toList, List.all_eq_true] at h
    have := of_decide_eq_true (h c hc)
    omega
  | .list xs, h => by simpa [PyData.leavesShort] using tameAll_short xs h
  | .tuple xs, h => by simpa [PyData.leavesShort] using tameAll_short xs h
  | .dict _, h => by cases h
theorem tameAll_short : ∀ xs : List PyData, tameAll xs = true → PyData.leavesShortAll 24 xs = true
  | [], _ => rfl
  | x :: xs, h => by
    have h := Bool.and_eq_true_iff.mp h
    simp only [PyData.leavesShortAll, tame_short x h.1, tameAll_short xs h.2, Bool.and_self]
end
/-- of at most k layers, with at most n things -/
def Sm (k n : Nat) (d : PyData) : Prop := tame d = true ∧ d.depth ≤ k ∧ d.bulk ≤ n
theorem Sm.mono {k n k' n' : Nat} {d : PyData} (h : Sm k n d) (hk : k ≤ k') (hn : n ≤ n') : Sm k' n' d := ⟨h.1, Nat.le_trans h.2.1 hk, Nat.le_trans h.2.2 hn⟩
theorem Sm.lay {k n : Nat} {d : PyData} (h : Sm k n d) : d.canLay0 = true := tame_lay d h.1
theorem Sm.repr {k n : Nat} {d : PyData} (h : Sm k n d) (hk : k ≤ 60) (hn : n ≤ 600000) : fRepr [d] = some (.str d.shown) := by
  have h4 := PyData.shown_le_bulk 24 (by decide) d (tame_short d h.1)
  have h2 := h.2.1
  have h3 := h.2.2
  have h5 : d.shown.length ≤ sizeLine := by rw [sl]; omega
  simp only [fRepr, tame_lay d h.1, tame_show d h.1, Bool.and_self, Bool.true_and, decide_eq_true (Nat.le_trans h.2.1 hk), decide_eq_true h5, iff_true]
theorem Sm.shaped {k n : Nat} {d : PyData} (h : Sm k n d) (hk : k ≤ 64) : SeqAt.shaped d = true := shaped_of h.lay (Nat.le_trans h.2.1 hk)
theorem sm_none : Sm 0 0 .none := ⟨rfl, Nat.le_refl _, Nat.le_refl _⟩
theorem sm_bool (b : Bool) : Sm 0 0 (.bool b) := ⟨rfl, Nat.le_refl _, Nat.le_refl _⟩
theorem sm_int {i : Int} (h : i.natAbs < 10 ^ 22) : Sm 0 0 (.int i) := ⟨decide_eq_true h, Nat.le_refl _, Nat.le_refl _⟩
theorem sm_all {k n : Nat} : ∀ {xs : List PyData}, (∀ x ∈ xs, Sm k n x) → tameAll xs = true ∧ PyData.depthAll xs ≤ k ∧ PyData.bulkAll xs ≤ xs.length * (n + 1)
  | [], _ => ⟨rfl, by simp [PyData.depthAll], by simp [PyData.bulkAll]⟩
  | x :: xs, h => by
    obtain ⟨a1, a2, a3⟩ := sm_all (xs := xs) fun y hy => h y (List.mem_cons_of_mem _ hy)
    obtain ⟨b1, b2, b3⟩ := h x List.mem_cons_self
    refine ⟨by simp only [tameAll, a1, b1, Bool.and_self], ?_, ?_⟩
    · simp only [PyData.depthAll]; omega
    · simp only [PyData.bulkAll, List.length_cons, Nat.add_mul]; omega
theorem sm_tup {k n l : Nat} {xs : List PyData} (h : ∀ x ∈ xs, Sm k n x) (hl : xs.length ≤ l) : Sm (k + 1) (l * (n + 1)) (.tuple xs) := by
  obtain ⟨a1, a2, a3⟩ := sm_all h
  refine ⟨a1, by simp only [PyData.depth]; omega, ?_⟩
  simp only [PyData.bulk]
  exact Nat.le_trans a3 (Nat.mul_le_mul_right _ hl)
theorem sm_lst {k n l : Nat} {xs : List PyData} (h : ∀ x ∈ xs, Sm k n x) (hl : xs.length ≤ l) : Sm (k + 1) (l * (n + 1)) (.list xs) := by
  obtain ⟨a1, a2, a3⟩ := sm_all h
  refine ⟨a1, by simp only [PyData.depth]; omega, ?_⟩
  simp only [PyData.bulk]
  exact Nat.le_trans a3 (Nat.mul_le_mul_right _ hl)
theorem tameAll_append : ∀ xs ys : List PyData, tameAll (xs ++ ys) = (tameAll xs && tameAll ys)
  | [], ys => by simp [tameAll]
  | x :: xs, ys => by simp [tameAll, tameAll_append xs ys, Bool.and_assoc]
theorem depthAll_append : ∀ xs ys : List PyData, PyData.depthAll (xs ++ ys) = max (PyData.depthAll xs) (PyData.depthAll ys)
  | [], ys => by simp [PyData.depthAll]
  | x :: xs, ys => by simp [PyData.depthAll, depthAll_append xs ys, Nat.max_assoc]
theorem bulkAll_append : ∀ xs ys : List PyData, PyData.bulkAll (xs ++ ys) = PyData.bulkAll xs + PyData.bulkAll ys
  | [], ys => by simp [PyData.bulkAll]
  | x :: xs, ys => by simp [PyData.bulkAll, bulkAll_append xs ys, Nat.add_assoc]
theorem pick_of {P : PyData → Prop} {L : List PyData} (h : ∀ x ∈ L, P x) {k : Nat} (hk : k < L.length) : ∃ d, L[k]? = some d ∧ P d := ⟨L[k], by simp [hk], h _ (List.getElem_mem hk)⟩
theorem sm_mem {k n : Nat} : ∀ {xs : List PyData}, tameAll xs = true → PyData.depthAll xs ≤ k → PyData.bulkAll xs ≤ n → ∀ x ∈ xs, Sm k n x
  | x :: xs, h1, h2, h3, y, hy => by
    have h1 := Bool.and_eq_true_iff.mp h1
    simp only [PyData.depthAll] at h2
    simp only [PyData.bulkAll] at h3
    rcases List.mem_cons.mp hy with rfl | hy
    · exact ⟨h1.1, by omega, by omega⟩
    · exact sm_mem h1.2 (by omega) (by omega) y hy
theorem sm_sub {k n : Nat} {xs ys : List PyData} (h : tameAll xs = true ∧ PyData.depthAll xs ≤ k ∧ PyData.bulkAll xs ≤ n) (hs : ys.Sublist xs) : tameAll ys = true ∧ PyData.depthAll ys ≤ k ∧ PyData.bulkAll ys ≤ n := by
  induction hs with
  | slnil => exact h
  | cons a _ ih =>
    simp only [tameAll, PyData.depthAll, PyData.bulkAll, Bool.and_eq_true] at h
    exact ih ⟨h.1.2, by omega, by omega⟩
  | @cons_cons l1 l2 a hs ih =>
    simp only [tameAll, PyData.depthAll, PyData.bulkAll, Bool.and_eq_true] at h ⊢
    obtain ⟨⟨a1, a2⟩, a3, a4⟩ := h
    have b : ∀ {xs ys : List PyData}, ys.Sublist xs → PyData.bulkAll ys ≤ PyData.bulkAll xs := fun hs => by
      induction hs with
      | slnil => exact Nat.le_refl _
      | cons a _ ih => simp only [PyData.bulkAll]; omega
      | cons_cons a _ ih => simp only [PyData.bulkAll]; omega
    have c : ∀ {xs ys : List PyData}, ys.Sublist xs → PyData.depthAll ys ≤ PyData.depthAll xs := fun hs => by
      induction hs with
      | slnil => exact Nat.le_refl _
      | cons a _ ih => simp only [PyData.depthAll]; omega
      | cons_cons a _ ih => simp only [PyData.depthAll]; omega
    have d : ∀ {xs ys : List PyData}, ys.Sublist xs → tameAll xs = true → tameAll ys = true := fun hs => by
      induction hs with
      | slnil => exact id
      | cons a _ ih => simp only [tameAll, Bool.and_eq_true]; exact fun h => ih h.2
      | cons_cons a _ ih => simp only [tameAll, Bool.and_eq_true]; exact fun h => ⟨h.1, ih h.2⟩
    have := b hs
    have := c hs
    exact ⟨⟨a1, d hs a2⟩, by omega, by omega⟩
@[simp] theorem tame_n : tame PyData.none = true := (rfl)
@[simp] theorem tame_b (x) : tame (PyData.bool x) = true := (rfl)
@[simp] theorem tame_l (x) : tame (PyData.list x) = tameAll x := (rfl)
@[simp] theorem tame_t (x) : tame (PyData.tuple x) = tameAll x := (rfl)
@[simp] theorem tameAll_n : tameAll [] = true := (rfl)
@[simp] theorem tameAll_c (x xs) : tameAll (x :: xs) = (tame x && tameAll xs) := (rfl)
@[simp] theorem dep_n : PyData.none.depth = 0 := (rfl)
@[simp] theorem dep_b (x) : (PyData.bool x).depth = 0 := (rfl)
@[simp] theorem dep_i (x) : (PyData.int x).depth = 0 := (rfl)
@[simp] theorem dep_s (x) : (PyData.str x).depth = 0 := (rfl)
@[simp] theorem dep_l (x) : (PyData.list x).depth = PyData.depthAll x + 1 := (rfl)
@[simp] theorem dep_t (x) : (PyData.tuple x).depth = PyData.depthAll x + 1 := (rfl)
@[simp] theorem depAll_n : PyData.depthAll [] = 0 := (rfl)
@[simp] theorem depAll_c (x xs) : PyData.depthAll (x :: xs) = max x.depth (PyData.depthAll xs) := (rfl)
@[simp] theorem bul_n : PyData.none.bulk = 0 := (rfl)
@[simp] theorem bul_b (x) : (PyData.bool x).bulk = 0 := (rfl)
@[simp] theorem bul_i (x) : (PyData.int x).bulk = 0 := (rfl)
@[simp] theorem bul_s (x) : (PyData.str x).bulk = x.cps.size := (rfl)
@[simp] theorem bul_l (x) : (PyData.list x).bulk = PyData.bulkAll x := (rfl)
@[simp] theorem bul_t (x) : (PyData.tuple x).bulk = PyData.bulkAll x := (rfl)
@[simp] theorem bulAll_n : PyData.bulkAll [] = 0 := (rfl)
@[simp] theorem bulAll_c (x xs) : PyData.bulkAll (x :: xs) = x.bulk + 1 + PyData.bulkAll xs := (rfl)
theorem tame_i {i : Int} (h : i.natAbs < 10 ^ 22) : tame (.int i) = true := decide_eq_true h
@[simp] theorem tame_int (i : Int) : tame (.int i) = decide (i.natAbs < 10000000000000000000000) := (rfl)
/-- each thing of a list -/
def AllS (k n : Nat) (xs : List PyData) : Prop := ∀ x ∈ xs, Sm k n x
theorem allS_n {k n : Nat} : AllS k n [] := fun x h => by cases h
theorem allS_c {k n : Nat} {x : PyData} {xs : List PyData} : AllS k n (x :: xs) ↔ Sm k n x ∧ AllS k n xs := List.forall_mem_cons
theorem allS_a {k n : Nat} {xs ys : List PyData} : AllS k n (xs ++ ys) ↔ AllS k n xs ∧ AllS k n ys := by
  unfold AllS
  constructor
  · exact fun h => ⟨fun x hx => h x (List.mem_append_left _ hx), fun x hx => h x (List.mem_append_right _ hx)⟩
  · rintro ⟨h1, h2⟩ x hx
    rcases List.mem_append.mp hx with hx | hx
    · exact h1 x hx
    · exact h2 x hx
theorem allS_1 {k n : Nat} {x : PyData} {xs : List PyData} (h : AllS k n xs) (hx : Sm k n x) : AllS k n (x :: xs) := allS_c.mpr ⟨hx, h⟩
theorem sm_iff {k n : Nat} {x : PyData} : Sm k n x ↔ tame x = true ∧ x.depth ≤ k ∧ x.bulk ≤ n := Iff.rfl
@[simp] theorem fEq_ss (a b) : fEq (.str a) (.str b) = some (.bool (a == b)) := rfl
@[simp] theorem fNe_ss (a b) : fNe (.str a) (.str b) = some (.bool (!(a == b))) := rfl
end Kd

end T_KW
section T_KM2
/-! KM2: reckoning with the combinators of KD8, KD9. -/
namespace Kd
open PySem PySem.Spec PyProof.Rows L2
@[simp] theorem asQ_l (xs) : asQ (.list xs) = some xs := (rfl)
@[simp] theorem asQ_t (xs) : asQ (.tuple xs) = some xs := (rfl)
@[simp] theorem fRevL_l (xs) : fRevL (.list xs) = some (.list xs.reverse) := (rfl)
@[simp] theorem zipD_l (xs ys) : zipD [.list xs, .list ys] = some ((xs.zip ys).map fun p => .tuple [p.1, p.2]) := (rfl)
@[simp] theorem zipD_t (xs ys) : zipD [.tuple xs, .tuple ys] = some ((xs.zip ys).map fun p => .tuple [p.1, p.2]) := (rfl)
theorem lc2_cons (g t it1 g1 t1 m vs vs1 d ds) (ρ : Ev) : lcL2 g t it1 g1 t1 m vs vs1 (d :: ds) ρ = Rs.opt (g d (wipeE ρ vs)) fun ρ1 => (t ρ1).bind fun x => if x.2 then (it1 x.1).bind fun y => (lcL g1 t1 m vs1 y.2 y.1).bind fun z => (lcL2 g t it1 g1 t1 m vs vs1 ds z.1).bind fun w => .ok (w.1, z.2 ++ w.2)
    else lcL2 g t it1 g1 t1 m vs vs1 ds x.1 := (rfl)
@[simp] theorem lc2_nil (g t it1 g1 t1 m vs vs1) (ρ : Ev) : lcL2 g t it1 g1 t1 m vs vs1 [] ρ = .ok (ρ, []) := (rfl)
/-- what stands at the end of xs[-1] -/
theorem atI_m1 {α : Type} (xs : List α) (a : α) : atI (xs ++ [a]) (-1) = some a := by
  have hl : (xs ++ [a]).length = xs.length + 1 := by simp
  have h : ixN (xs ++ [a]).length (-1) = some xs.length := by
    unfold ixN
    rw [hl, if_neg (by omega), if_pos (by omega)]
    congr 1
    omega
  unfold atI
  rw [h]
  simp
theorem keepV {ρ ρ' : Ev} {vs : List Nat} (h : wipeE ρ' vs = wipeE ρ vs) : keepE ρ vs ρ' = ρ := by
  have hl : ρ'.length = ρ.length := by rw [← wipeE_length ρ' vs, h, wipeE_length]
  refine List.ext_getElem? fun k => ?_
  by_cases hk : k ∈ vs
  · by_cases hk2 : k < ρ.length
    · rw [keepE_in (by omega) hk2 hk]
    · rw [List.getElem?_eq_none (by rw [keepE_length]; omega), List.getElem?_eq_none (by omega)]
  · rw [keepE_get hk, ← wipeE_get (ρ := ρ') hk, h, wipeE_get hk]
theorem mLc_mapV {own : List Nat} {it : IM} {g : GM} {m : EM} {vs : List Nat} {ρ ρ1 : Ev} {ds : List PyData} (G : PyData → Ev) (f : PyData → PyData) (hit : it ρ = .ok (ρ1, ds)) (ho : allSet own ρ1 = some ()) (hl : ds.length ≤ sizeLine) (hm : ∀ d ∈ ds, g d (wipeE ρ1 vs) = some (G d) ∧ m (G d) = .ok (G d, f d) ∧ wipeE (G d) vs = wipeE ρ1 vs) :
    mLc own it g tTrue m vs ρ = .ok (ρ1, .list (ds.map f)) := by
  obtain ⟨ρ', q1, q2⟩ := lc_map (g := g) (m := m) (vs := vs) (ρw := wipeE ρ1 vs) G f ds ρ1 rfl hm
  rw [mLc_, hit]
  have hl2 : (ds.map f).length ≤ sizeLine := by rw [List.length_map]; exact hl
  simp only [bind_ok', ho, opt_some, q1, quiet_ok', fLst_, decide_eq_true hl2, Kd.iff_true]
  rw [keepV q2]
theorem mLc_filterV {own : List Nat} {it : IM} {g : GM} {t : TM} {m : EM} {vs : List Nat} {ρ ρ1 : Ev} {ds : List PyData} (G : PyData → Ev) (p : PyData → Bool) (f : PyData → PyData) (hit : it ρ = .ok (ρ1, ds)) (ho : allSet own ρ1 = some ()) (hl : ds.length ≤ sizeLine)
    (hm : ∀ d ∈ ds, g d (wipeE ρ1 vs) = some (G d) ∧ t (G d) = .ok (G d, p d) ∧ (p d = true → m (G d) = .ok (G d, f d)) ∧ wipeE (G d) vs = wipeE ρ1 vs) : mLc own it g t m vs ρ = .ok (ρ1, .list ((ds.filter p).map f)) := by
  obtain ⟨ρ', q1, q2⟩ := lc_filter (g := g) (t := t) (m := m) (vs := vs) (ρw := wipeE ρ1 vs) G p f ds ρ1 rfl hm
  rw [mLc_, hit]
  have hl2 : ((ds.filter p).map f).length ≤ sizeLine := by rw [List.length_map]; exact Nat.le_trans (List.length_filter_le _ _) hl
  simp only [bind_ok', ho, opt_some, q1, quiet_ok', fLst_, decide_eq_true hl2, Kd.iff_true]
  rw [keepV q2]
theorem cut_from (xs : List PyData) (k : Nat) : cutD xs (some (k : Int)) none = xs.drop k := by
  unfold cutD
  rw [HT.sIx_nat, HT.sIx_none]
  by_cases h : k ≤ xs.length
  · rw [Nat.min_eq_left h, List.take_of_length_le (by simp)]
  · rw [Nat.min_eq_right (by omega), List.drop_eq_nil_of_le (Nat.le_refl _), List.drop_eq_nil_of_le (by omega)]; simp
theorem cut_to (xs : List PyData) (k : Nat) : cutD xs none (some (k : Int)) = xs.take k := by
  unfold cutD
  rw [HT.sIx_nat, HT.sIx_none]
  by_cases h : k ≤ xs.length
  · rw [Nat.min_eq_left h]; rfl
  · rw [Nat.min_eq_right (by omega)]
    show List.take (xs.length - 0) xs = _
    rw [List.take_of_length_le (by omega), List.take_of_length_le (by omega)]
theorem cut_1 (xs : List PyData) : cutD xs (some 1) none = xs.drop 1 := cut_from xs 1
theorem cut_s (xs : List PyData) (k : Nat) : cutD xs (some ((k : Int) + 1)) none = xs.drop (k + 1) := by
  have := cut_from xs (k + 1)
  simpa using this
/-- a walk over lo .. lo + n - 1 -/
theorem W_rngA {it : IM} {g : GM} {b : SM} {Q : Fl → Prop} {ρ ρ1 : Ev} (lo : Int) (n : Nat) (I : Nat → Ev → Prop) (hit : it ρ = .ok (ρ1, numL lo n)) (h0 : I 0 ρ1) (hs : ∀ k ρ, k < n → I k ρ → ∃ ρ1, g (.int (lo + (k : Int))) ρ = some ρ1 ∧ W (b ρ1) (NX (I (k + 1)))) (he : ∀ ρ, I n ρ → Q (.nx ρ)) : W (sFor it g b ρ) Q := by
  refine W_for' (fun r ρ => ∃ k, k + r.length = n ∧ r = numL (lo + (k : Int)) (n - k) ∧ I k ρ) hit ⟨0, by simp, by simp, h0⟩ ?_ ?_
  · rintro d r ρ ⟨k, h1, h2, h3⟩
    have hk : k < n := by simp only [List.length_cons] at h1; omega
    rw [show n - k = (n - (k + 1)) + 1 by omega, numL_succ] at h2
    cases h2
    obtain ⟨ρ1, q1, q2⟩ := hs k ρ hk h3
    refine ⟨ρ1, q1, q2.mono fun fl h => ?_⟩
    have hr : k + 1 + (numL (lo + (k : Int) + 1) (n - (k + 1))).length = n := by rw [numL_len']; omega
    have e : lo + ((k + 1 : Nat) : Int) = lo + (k : Int) + 1 := by omega
    cases fl with
    | nx ρ2 => exact ⟨k + 1, hr, by rw [e], h⟩
    | ct ρ2 => exact ⟨k + 1, hr, by rw [e], h⟩
    | bk ρ2 => exact h.elim
    | rt ρ2 v => exact h.elim
  · rintro ρ ⟨k, h1, h2, h3⟩
    simp only [List.length_nil, Nat.add_zero] at h1
    subst h1
    exact he ρ h3
theorem rng2_in (a b : Nat) (q : (-(2 ^ 62) ≤ (a : Int) ∧ (a : Int) < 2 ^ 62 ∧ -(2 ^ 62) ≤ (b : Int) ∧ (b : Int) < 2 ^ 62)) : rng2 [.int (a : Int), .int (b : Int)] = some (numL (a : Int) (b - a)) := by
  have e : ((b : Int) - (a : Int)).toNat = b - a := by omega
  rw [rng2_, decide_eq_true q, e]
  rfl
theorem it_rng2 {m m' : EM} {ρ : Ev} {a b : Nat} (h : m ρ = .ok (ρ, .int (a : Int))) (h' : m' ρ = .ok (ρ, .int (b : Int))) (ha : a ≤ sizeLine) (hb : b ≤ sizeLine) : iNg rng2 [m, m'] ρ = .ok (ρ, numL (a : Int) (b - a)) := by
  have ha := Nat.le_trans ha (Nat.le_of_eq sl)
  have hb := Nat.le_trans hb (Nat.le_of_eq sl)
  have e : mArgs [m, m'] ρ = .ok (ρ, [.int (a : Int), .int (b : Int)]) := by
    rw [mArgs_cons, h, bind_ok', mArgs_cons, h']; rfl
  rw [iNg_, e, bind_ok', rng2_in a b ⟨by omega, by omega, by omega, by omega⟩, opt_some]
end Kd

end T_KM2
section T_KM3
/-! KM3: reckoning with the combinators of KD10 .. KD14. -/
namespace Kd
open PySem PySem.Spec PyProof.Rows L2
@[simp] theorem mBor_ (own' m) (ρ : Ev) : mBor own' m ρ = (m ρ).bind fun x => if (flatD x.2 && own'.all fun i => contF ((x.1[i]?).getD none)) = true then .ok (keepE x.1 own' ρ, x.2) else .bad := (rfl)
@[simp] theorem mBorL_ (own' m) (ρ : Ev) : mBorL own' m ρ = (m ρ).bind fun x => if (flatL x.2 && own'.all fun i => contF ((x.1[i]?).getD none)) = true then .ok (keepE x.1 own' ρ, x.2) else .bad := (rfl)
@[simp] theorem tBor_ (own' t) (ρ : Ev) : tBor own' t ρ = (t ρ).bind fun x => if (own'.all fun i => contF ((x.1[i]?).getD none)) = true then .ok (keepE x.1 own' ρ, x.2) else .bad := (rfl)
@[simp] theorem flatD_n : flatD .none = true := (rfl)
@[simp] theorem flatD_b (b) : flatD (.bool b) = true := (rfl)
@[simp] theorem flatD_i (b) : flatD (.int b) = true := (rfl)
@[simp] theorem flatD_s (b) : flatD (.str b) = true := (rfl)
@[simp] theorem flatD_t (b) : flatD (.tuple b) = flatAll b := (rfl)
@[simp] theorem flatD_l (b) : flatD (.list b) = false := (rfl)
@[simp] theorem flatL_l (b) : flatL (.list b) = flatAll b := (rfl)
@[simp] theorem flatAll_n : flatAll [] = true := (rfl)
@[simp] theorem flatAll_c (x xs) : flatAll (x :: xs) = (flatD x && flatAll xs) := (rfl)
theorem flatAll_iff {xs : List PyData} : flatAll xs = true ↔ ∀ x ∈ xs, flatD x = true := by
  induction xs with
  | nil => simp
  | cons x r ih => simp [ih]
@[simp] theorem contF_l (b) : contF (some (.list b)) = flatAll b := (rfl)
@[simp] theorem contF_n : contF none = true := (rfl)
@[simp] theorem fAddL_l (i j) : fAddL (.list i) (.list j) = iff' (decide (i.length + j.length ≤ sizeLine)) (.list (i ++ j)) := (rfl)
@[simp] theorem fListQ_l (xs) : fListQ [.list xs] = some (.list xs) := (rfl)
@[simp] theorem fListQ_t (xs) : fListQ [.tuple xs] = some (.list xs) := (rfl)
@[simp] theorem fRepL_l (xs k) : fRepL (.list xs) (.int k) = iff' (decide (-(2 ^ 63) ≤ k ∧ k < 2 ^ 63 ∧ xs.length * k.toNat ≤ sizeLine)) (.list (List.replicate k.toNat xs).flatten) := (rfl)
@[simp] theorem fLrg_i (n) : fLrg (.int n) = iff' (decide (0 ≤ n ∧ n ≤ 16777216)) (.list (numL 0 n.toNat)) := (rfl)
@[simp] theorem intsD_n : intsD [] = some [] := (rfl)
@[simp] theorem intsD_c (i r) : intsD (.int i :: r) = (intsD r).map fun ns => i :: ns := (rfl)
theorem intsD_map (ns : List Int) : intsD (ns.map .int) = some ns := by
  induction ns with
  | nil => rfl
  | cons n r ih => simp [ih]
@[simp] theorem fSrtI_l (ds) : fSrtI [.list ds] = (intsD ds).map fun ns => .list ((srtI ns).map .int) := (rfl)
@[simp] theorem fIsX_n (L x) : fIsX L x .none = some (.bool false) := (rfl)
@[simp] theorem fIsV_n (L) : fIsV L .none = some (.bool false) := (rfl)
@[simp] theorem fIsX_e (L x c d) : fIsX L x (excD c d) = iff' (L.contains c) (.bool (isxB c x)) := by cases d <;> rfl
@[simp] theorem fIsV_e (L c d) : fIsV L (excD c d) = iff' (L.contains c) (.bool true) := by cases d <;> rfl
@[simp] theorem sRaise_ (c) (ρ : Ev) : sRaise c ρ = .exc c none := (rfl)
/-- a call in a try's body -/
theorem xE_ok {f : FM} {as : List Ar} {dfl : List PyData} {ρ : Ev} {y : Ev × List (PyData ⊕ Nat)} {ds : List PyData} {z : List PyData × PyData} (h1 : evA as ρ = .ok y) (h2 : resolve y.1 y.2 = some ds) (h3 : f (ds ++ dfl) = .ok z) : xE f as dfl ρ = .ok (.nx (setL y.1 (jsOf as) z.1)) := by
  simp [xE, xCall, h1, h2, h3]
theorem xE_exc {f : FM} {as : List Ar} {dfl : List PyData} {ρ : Ev} {y : Ev × List (PyData ⊕ Nat)} {ds : List PyData} {c : Str} {x : Option PyData} (h1 : evA as ρ = .ok y) (h2 : resolve y.1 y.2 = some ds) (h3 : f (ds ++ dfl) = .exc c x) (hj : (jsOf as).isEmpty = true) : xE f as dfl ρ = .exc y.1 c x := by
  simp [xE, xCall, h1, h2, h3, hj]
theorem xIf_ok {t : TM} {a b : XM} {ρ : Ev} {x : Ev × Bool} (h : t ρ = .ok x) : xIf t a b ρ = if x.2 then a x.1 else b x.1 := by
  simp [xIf, h]
theorem sTry_ok {L : List Str} {i j : Nat} {m : XM} {ρ : Ev} {f : Fl} (h : m ρ = .ok f) : sTry L i j m ρ = .ok f := by
  simp [sTry, h]
theorem sTry_exc {L : List Str} {i j : Nat} {m : XM} {ρ ρ' : Ev} {c : Str} {x : Option PyData} (h : m ρ = .exc ρ' c x) (hc : L.contains c = true) : sTry L i j m ρ = .ok (.nx (((ρ'.set i (some (excD c x))).set j (some (excD c x))).set i none)) := by
  simp only [sTry, h, hc, if_true]
end Kd

end T_KM3
section T_KM4
/-! KM4: reckoning with the combinators of KD15, KD16. -/
namespace Kd
open PySem PySem.Spec PyProof.Rows L2
@[simp] theorem sRtIf_ (i t m) (ρ : Ev) : sRtIf i t m ρ = (t ρ).bind fun x => if x.2 then sRt m x.1 else sRtV i x.1 := (rfl)
@[simp] theorem sDoom_ (i ms k) (ρ : Ev) : sDoom i ms k ρ = (mArgs ms ρ).quiet.bind fun x => Rs.opt (listsOf x.2) fun dss => if (decide (dss.length ≤ sizeLine) && decide (i < x.1.length)) = true then k x.1 dss else .bad := (rfl)
theorem gS_ (i t k) (ρ : Ev) (dss) : gS i t k ρ dss = (t (ρ.set i (some (.list (dss.map .list))))).quiet.bind fun x => if x.2 then .ok (.rt (ρ.set i (some (.list (dss.map .list)))) (.bool false)) else k ρ dss := (rfl)
theorem kWr_ (i ix) (ρ : Ev) (dss) : kWr i ix ρ dss = if (decide (ix < ρ.length) && dss.all fun ds => decide (ds.length < sizeLine)) = true then Rs.opt dss.getLast? fun l => .ok (.nx ((ρ.set i (some (.list (dss.map fun ds => .list (wrL ds))))).set ix (some (.list (wrL l))))) else .bad := (rfl)
@[simp] theorem listsOf_nil : listsOf [] = some [] := (rfl)
@[simp] theorem listsOf_cons (ds r) : listsOf (.list ds :: r) = (listsOf r).map fun dss => ds :: dss := (rfl)
/-- a test that is not so -/
theorem gS_no {i : Nat} {t : TM} {k : Ev → List (List PyData) → Rs Fl} {ρ : Ev} {dss : List (List PyData)} {ρ' : Ev} (h : t (ρ.set i (some (.list (dss.map .list)))) = .ok (ρ', false)) : gS i t k ρ dss = k ρ dss := by
  rw [gS_, h]; rfl
end Kd

end T_KM4
section T_KM5
/-! KM5: reckoning with the combinators of KD17; whiles. -/
namespace Kd
open PySem PySem.Spec PyProof.Rows L2
@[simp] theorem sDput_ (i mk mv) (ρ : Ev) : sDput i mk mv ρ = (mv ρ).bind fun x => Rs.opt (gt x.1 i) fun _ => (mk x.1).bind fun y => Rs.opt ((gt y.1 i).bind asTD) fun kvs => Rs.opt (kOf y.2) fun k =>
  if kvs.length < sizeLine then .ok (.nx (y.1.set i (some (dctT (putD kvs k x.2))))) else .bad := (rfl)
@[simp] theorem mDget_ (i mk) (ρ : Ev) : mDget i mk ρ = Rs.opt (gt ρ i) fun _ => (mk ρ).bind fun y => Rs.opt ((gt y.1 i).bind asTD) fun kvs => Rs.opt (kOf y.2) fun k => Rs.opt (valD kvs k) fun d => .ok (y.1, d) := (rfl)
@[simp] theorem mDin_ (neg i mk) (ρ : Ev) : mDin neg i mk ρ = (mk ρ).bind fun y => Rs.opt ((gt y.1 i).bind asTD) fun kvs => Rs.opt (kOf y.2) fun k => .ok (y.1, .bool (if neg then !(valD kvs k).isSome else (valD kvs k).isSome)) := (rfl)
@[simp] theorem asTD_d (kvs) : asTD (.dict ((.bool true, .none) :: kvs)) = some kvs := (rfl)
@[simp] theorem fDget_d (kvs k) : fDget (.dict ((.bool true, .none) :: kvs)) k = (kOf k).bind fun ks => valD kvs ks := (rfl)
@[simp] theorem fDin_d (kvs k) : fDin k (.dict ((.bool true, .none) :: kvs)) = (kOf k).map fun ks => .bool (valD kvs ks).isSome := (rfl)
theorem sWh_ (fuel t b) (ρ : Ev) : sWh fuel t b ρ = whL t b (fuel ρ) ρ := (rfl)
theorem wh_succ (t b n) (ρ : Ev) : whL t b (n + 1) ρ = (t ρ).bind fun x => if x.2 then (b x.1).bind fun f => match f with
      | .nx ρ2 => whL t b n ρ2
      | .ct ρ2 => whL t b n ρ2
      | .bk ρ2 => .ok (.nx ρ2)
      | .rt ρ2 r => .ok (.rt ρ2 r)
    else .ok (.nx x.1) := (rfl)
/-- a while that ends by itself -/
theorem W_whL {t : TM} {b : SM} {Q : Fl → Prop} (I : Nat → Ev → Prop) (hs : ∀ n ρ, I n ρ → W (t ρ) fun x => (x.2 = false → Q (.nx x.1)) ∧ (x.2 = true → 0 < n ∧ W (b x.1) (NX (I (n - 1))))) : ∀ (m n : Nat) (ρ : Ev), n < m → I n ρ → W (whL t b m ρ) Q
  | 0, n, ρ, h, _ => absurd h (Nat.not_lt_zero _)
  | m + 1, n, ρ, h, i => by
    obtain ⟨x, h1, h2, h3⟩ := hs n ρ i
    rw [wh_succ, h1, bind_ok']
    cases hx : x.2 with
    | false => rw [if_neg (by simp)]; exact (W_ok _ _).mpr (h2 hx)
    | true =>
      rw [if_pos rfl]
      obtain ⟨h4, fl, h5, h6⟩ := h3 hx
      rw [h5, bind_ok']
      cases fl with
      | nx ρ2 => exact W_whL I hs m (n - 1) ρ2 (by omega) h6
      | ct ρ2 => exact W_whL I hs m (n - 1) ρ2 (by omega) h6
      | bk ρ2 => exact h6.elim
      | rt ρ2 r => exact h6.elim
theorem W_wh {fuel : Ev → Nat} {t : TM} {b : SM} {Q : Fl → Prop} {ρ : Ev} (I : Nat → Ev → Prop) (n : Nat) (h0 : I n ρ) (hn : n < fuel ρ) (hs : ∀ n ρ, I n ρ → W (t ρ) fun x => (x.2 = false → Q (.nx x.1)) ∧ (x.2 = true → 0 < n ∧ W (b x.1) (NX (I (n - 1))))) : W (sWh fuel t b ρ) Q := by
  rw [sWh_]
  exact W_whL I hs _ n ρ hn h0
end Kd

end T_KM5
section T_KM6
/-! KM6: reckoning with the combinators of KD18 .. KD21; texts by lists of code points. -/
namespace Kd
open PySem PySem.Spec PyProof.Rows L2
open TL (tl spl par pre)
@[simp] theorem mT1_ (f a b) (ρ : Ev) : mT1 f a b ρ = (a ρ).bind fun x => Rs.opt (asS x.2) fun z => (b x.1).bind fun y => Rs.opt (f z y.2) fun d => .ok (y.1, d) := (rfl)
@[simp] theorem asS_s (z) : asS (.str z) = some z := (rfl)
@[simp] theorem mArgS_nil (ρ : Ev) : mArgS [] ρ = .ok (ρ, []) := (rfl)
@[simp] theorem mArgS_f (m : EM) (r) (ρ : Ev) : mArgS ((false, m) :: r) ρ = (m ρ).bind fun x => (mArgS r x.1).bind fun y => .ok (y.1, x.2 :: y.2) := (rfl)
@[simp] theorem mArgS_t (m : EM) (r) (ρ : Ev) : mArgS ((true, m) :: r) ρ = (m ρ).bind fun x => Rs.opt (asLT x.2) fun xs => (mArgS r x.1).bind fun y => .ok (y.1, xs ++ y.2) := (rfl)
@[simp] theorem mNS_ (f) (as : List (Bool × EM)) (ρ : Ev) : mNS f as ρ = (mArgS as ρ).bind fun x => Rs.opt (f x.2) fun d => .ok (x.1, d) := (rfl)
@[simp] theorem asLT_l (xs) : asLT (.list xs) = some xs := (rfl)
@[simp] theorem asLT_t (xs) : asLT (.tuple xs) = some xs := (rfl)
@[simp] theorem sRaiseF_ (c m) (ρ : Ev) : sRaiseF c m ρ = (m ρ).bind fun x => .exc c (some x.2) := (rfl)
@[simp] theorem fStrI_i (i) : fStrI [.int i] = iff' (decide (i.natAbs.log2 < 1920)) (.str (Str.ofString (toString i))) := (rfl)
@[simp] theorem mMl_ (f a b) (ρ : Ev) : mMl f a b ρ = (a ρ).bind fun x => Rs.opt (asL x.2) fun ds => (mArgs b x.1).bind fun y => Rs.opt (f ds y.2) fun z => .ok (y.1, z) := (rfl)
/-- a text by its code points -/
def sS (l : List Nat) : Str := ⟨l.toArray⟩
abbrev sD (l : List Nat) : PyData := .str (sS l)
@[simp] theorem tl_sS (l) : tl (sS l) = l := (rfl)
@[simp] theorem cps_sS (l) : (sS l).cps.toList = l := (rfl)
@[simp] theorem len_sS (l) : (sS l).length = l.length := by simp [TL.len_tl]
theorem sS_tl (x : Str) : sS (tl x) = x := TL.ext_tl rfl
@[simp] theorem sS_inj {a b : List Nat} : sS a = sS b ↔ a = b := ⟨fun h => by simpa using congrArg tl h, fun h => by rw [h]⟩
@[simp] theorem sS_app (a b : List Nat) : sS a ++ sS b = sS (a ++ b) := TL.ext_tl (by rw [TL.tl_append]; simp)
@[simp] theorem asQ_s (l) : asQ (sD l) = some (l.map fun c => sD [c]) := (rfl)
@[simp] theorem fLen_s (l) : fLen [sD l] = iff' (decide (l.length ≤ sizeLine)) (.int l.length) := by
  show iff' (decide ((sS l).length ≤ sizeLine)) (PyData.int (sS l).length) = _
  rw [len_sS]
@[simp] theorem fAdd_sD (a b) : fAdd (sD a) (sD b) = iff' (decide (a.length + b.length ≤ sizeLine)) (sD (a ++ b)) := by
  show iff' (decide ((sS a).length + (sS b).length ≤ sizeLine)) (PyData.str (sS a ++ sS b)) = _
  rw [len_sS, len_sS, sS_app]
@[simp] theorem beq_sS (a b : List Nat) : (sS a == sS b) = decide (a = b) := by
  by_cases h : a = b
  · subst h; simp
  · have : sS a ≠ sS b := fun z => h (sS_inj.mp z)
    simp [h, this]
@[simp] theorem fEq_sD (a b) : fEq (sD a) (sD b) = some (.bool (decide (a = b))) := by rw [fEq_ss, beq_sS]
@[simp] theorem fNe_sD (a b) : fNe (sD a) (sD b) = some (.bool (!decide (a = b))) := by rw [fNe_ss, beq_sS]
theorem fIx_s (l : List Nat) (i : Int) (h : l.length ≤ sizeLine) : fIx (sD l) (.int i) = (atI l i).map fun c => sD [c] := by
  show (if (sS l).length ≤ sizeLine then _ else _) = _
  rw [if_pos (by rw [len_sS]; exact h)]
  rfl
theorem fSl_s (l : List Nat) (lo hi : Option Int) (h : l.length ≤ sizeLine) : fSl (sD l) lo hi = some (sD ((l.drop (HT.sIx l.length 0 lo)).take (HT.sIx l.length l.length hi - HT.sIx l.length 0 lo))) := by
  show iff' (decide ((sS l).length ≤ sizeLine)) (PyData.str (cutS (sS l) lo hi)) = _
  rw [decide_eq_true (by rw [len_sS]; exact h), iff_true]
  congr 2
@[simp] theorem fInS_s (c l) : fInS (sD [c]) (sD l) = some (.bool (decide (c ∈ l))) := (rfl)
@[simp] theorem fNinS_s (c l) : fNinS (sD [c]) (sD l) = some (.bool (!decide (c ∈ l))) := (rfl)
theorem boolsD_mapA {α : Type} (f : α → Bool) : ∀ xs : List α, boolsD (xs.map fun x => .bool (f x)) = some (xs.map f)
  | [] => rfl
  | x :: r => by
    have h := boolsD_mapA f r
    simp only [List.map_cons, boolsD, h, Option.map_some]
theorem fAll_mapA {α : Type} (f : α → Bool) (xs : List α) : fAll [.list (xs.map fun x => .bool (f x))] = some (.bool (xs.all f)) := by
  simp only [fAll, boolsD_mapA, Option.map_some, List.all_map]; rfl
/-- a separator of plain signs -/
def sepB (S : List Nat) : Bool := !S.isEmpty && S.all (fun c => decide (c < 256))
theorem sepB_ne {S : List Nat} (h : sepB S = true) : S ≠ [] := by
  intro z; subst z; simp [sepB] at h
theorem sepB_k {S : List Nat} (h : sepB S = true) : (sS S).cps.all (· < 256) = true := by
  simp [sepB] at h
  simp only [sS]
  rw [List.all_toArray]
  simpa using h.2
theorem fSplit_s (l S : List Nat) (hS : sepB S = true) (h : l.length + 2 ≤ sizeLine) : fSplit (sS l) (sD S) = some (.list ((spl S 0 [] l).map sD)) := by
  have hne : tl (sS S) ≠ [] := sepB_ne hS
  have e := TL.split_spl (sS l) (sS S) hne (TL.kind_ok (sepB_k hS))
  have e2 : Txt.split (sS l) (sS S) = (spl S 0 [] l).map sS := by
    refine TL.map_tl_inj ?_
    rw [e, List.map_map]
    simp only [tl_sS]
    exact (List.map_id' _).symm
  show iff' (!((sS S).length == 0) && decide ((sS l).length + 2 ≤ sizeLine)) _ = _
  have h0 : ((sS S).length == 0) = false := by
    rw [len_sS]
    have := sepB_ne hS
    cases S with
    | nil => exact absurd rfl this
    | cons _ _ => rfl
  rw [h0, decide_eq_true (by rw [len_sS]; exact h), e2, List.map_map]
  rfl
theorem fPartn_s (l S : List Nat) (hS : sepB S = true) (h : l.length ≤ sizeLine) : fPartn (sS l) (sD S) = some (.tuple (match par S [] l with
    | some (a, b) => [sD a, sD S, sD b]
    | none => [sD l, sD [], sD []])) := by
  have hne : tl (sS S) ≠ [] := sepB_ne hS
  have e := TL.partition_par (sS l) (sS S) hne
  show iff' (!((sS S).length == 0) && decide ((sS l).length ≤ sizeLine)) _ = _
  have h0 : ((sS S).length == 0) = false := by
    rw [len_sS]
    have := sepB_ne hS
    cases S with
    | nil => exact absurd rfl this
    | cons _ _ => rfl
  rw [h0, decide_eq_true (by rw [len_sS]; exact h)]
  simp only [tl_sS] at e
  rw [e]
  cases par S [] l with
  | none => rfl
  | some q => rfl
theorem fIntS_d (l : List Nat) (hd : NumText.AllDigits l) (hne : l ≠ []) (h : l.length ≤ 640) : fIntS [sD l] = some (.int (NumText.digitsVal l : Nat)) := by
  have e := PySem.intText_digits (x := sS l) hd hne (by rw [len_sS]; omega)
  show (if (sS l).length ≤ 640 then (intText? (sS l)).map PyData.int else none) = _
  rw [if_pos (by rw [len_sS]; exact h), e]
  rfl
theorem strsD_s : ∀ ls : List (List Nat), strsD (ls.map sD) = some (ls.map sS)
  | [] => rfl
  | l :: r => by
    show (strsD (r.map sD)).map _ = _
    rw [strsD_s r]
    rfl
theorem fJoin_s (S : List Nat) (ls : List (List Nat)) (h : (ls.map (·.length)).sum + ls.length * S.length ≤ 16777216) : fJoin (sS S) (.list (ls.map sD)) = some (sD (TL.joinL S ls)) := by
  show (strsD (ls.map sD)).bind _ = _
  rw [strsD_s, Option.bind_some]
  have e : ((ls.map sS).map (·.length)).sum + (ls.map sS).length * (sS S).length = (ls.map (·.length)).sum + ls.length * S.length := by
    rw [List.map_map, List.length_map, len_sS]
    congr 3
  rw [e, decide_eq_true h, iff_true, TL.join_eq]
  congr 2
  refine TL.ext_tl ?_
  rw [TL.tl_join, List.map_map]
  simp only [tl_sS]
  congr 1
  exact List.map_id' _
theorem fNe_nilD {xs : List PyData} (h : SeqAt.shaped (.list xs) = true) : fNe (.list xs) (.list []) = some (.bool (!xs.isEmpty)) := by
  have e : fNe (.list xs) (.list []) = iff' (SeqAt.shaped (.list xs) && SeqAt.shaped (.list [])) (.bool (!PyData.eqv (.list xs) (.list []))) := by
    cases xs <;> rfl
  rw [e, h, show SeqAt.shaped (.list []) = true from rfl]
  cases xs <;> rfl
end Kd

end T_KM6
section T_Mir_k61
set_option maxRecDepth 100000
namespace KHead
open PySem PySem.Spec PyProof.Rows L2 Kd
def xsL : List Str := ["NoNet", "NoPlace", "NoEnd", "NoGoing", "NoPlan", "NoTable", "NoTurns", "NoCosts", "NoRoad", "NoNumber", "NoKind", "Unlike", "Barred", "NoText"]
def m_is_whole : FM := fnM 1 [] false
    (sRt (mAnd (m1 (fIsi "int") (mV 0)) (mNot (m1 (fIsi "bool") (mV 0)))))

def m_place_at : FM := fnM 2 [] false
    (sRt (m2 fIx (m2 fIx (m2 fIx (m2 fIx (mV 0) (mC (.int 1))) (m2 fIx (mV 1) (mC (.int 0)))) (m2 fIx (mV 1) (mC (.int 1)))) (mC (.int 0))))

def m_kind_at : FM := fnM 2 [] false
    (sRt (m2 fIx (m2 fIx (m2 fIx (m2 fIx (mV 0) (mC (.int 1))) (m2 fIx (mV 1) (mC (.int 0)))) (m2 fIx (mV 1) (mC (.int 1)))) (mC (.int 1))))

def m_other_end : FM := fnM 1 [] false
    (sRt (mN fTup [(m2 fIx (mV 0) (mC (.int 0))), (m2 fSub (mC (.int 1)) (m2 fIx (mV 0) (mC (.int 1))))]))

def m_going_written : FM := fnM 3 [] false
    (sRt (mT1 fJoin (mC (.str (PySem.Str.ofString " "))) (mLc [] (iOf asQ (mV 0)) (gT [(gN 1), (gN 2)]) tTrue (m2 fAdd (mN fStrI [(mV 1)]) (m2 fIx (mC (.str (PySem.Str.ofString "><"))) (mV 2))) [1, 2])))

def m_number_read : FM := fnM 2 [] false
    (sSeq (sIf (tOr (tB (m2 fEq (mV 0) (mC (.str (PySem.Str.ofString ""))))) (tOr (tB (m2 fGt (mN fLen [(mV 0)]) (mC (.int 30)))) (tNot (tE (mN fAll [(mLc [] (iOf asQ (mV 0)) (gN 1) tTrue (m2 fInS (mV 1) (mC (.str (PySem.Str.ofString "0123456789")))) [1])]))))) (sRt (mC .none)) sNx)
    (sRt (mIf (tAnd (tB (m2 fEq (m2 fIx (mV 0) (mC (.int 0))) (mC (.str (PySem.Str.ofString "0"))))) (tB (m2 fNe (mV 0) (mC (.str (PySem.Str.ofString "0")))))) (mC .none) (mN fIntS [(mV 0)]))))

def m__law_mixed : FM := fnM 3 [] false
    (sSeq (sSet 2 (m2 fMod (mN fInt [(m2 fAdd (m2 fAdd (m2 fMul (m2 fMod (mN fInt [(mV 0)]) (mC (.int 2147483647))) (mC (.int 48271))) (m2 fMul (mV 1) (mC (.int 69621)))) (mC (.int 1048583)))]) (mC (.int 2147483629))))
    (sSeq (sSet 2 (m2 fMod (mN fInt [(m2 fMul (mV 2) (mV 2))]) (mC (.int 2147483587))))
    (sRt (m2 fMod (mN fInt [(m2 fMul (mV 2) (m2 fAdd (mV 2) (mC (.int 2))))]) (mC (.int 2147483579))))))

def m__law_take : FM := fnM 3 [0] false
    (sSeq (sSet 2 (m2 fMod (mN fInt [(mIxO 0 (mC (.int 0)))]) (mV 1)))
    (sSeq (sSto 0 (mC (.int 0)) (m2 fDiv (mIxO 0 (mC (.int 0))) (mV 1)))
    (sRt (mV 2))))

def m__law_whole : FM := fnM 1 [] false
    (sRt (mAnd (m1 (fIsi "int") (mV 0)) (mNot (m1 (fIsi "bool") (mV 0)))))

def m__law_place : FM := fnM 2 [] false
    (sRt (m2 fIx (m2 fIx (m2 fIx (m2 fIx (mV 0) (mC (.int 1))) (m2 fIx (mV 1) (mC (.int 0)))) (m2 fIx (mV 1) (mC (.int 1)))) (mC (.int 0))))

def m__law_kind : FM := fnM 2 [] false
    (sRt (m2 fIx (m2 fIx (m2 fIx (m2 fIx (mV 0) (mC (.int 1))) (m2 fIx (mV 1) (mC (.int 0)))) (m2 fIx (mV 1) (mC (.int 1)))) (mC (.int 1))))

def m__law_far : FM := fnM 1 [] false
    (sRt (mN fTup [(m2 fIx (mV 0) (mC (.int 0))), (m2 fSub (mC (.int 1)) (m2 fIx (mV 0) (mC (.int 1))))]))

def m__law_ends : FM := fnM 3 [] false
    (sSeq (sSet 1 (mN fLst []))
    (sSeq (sFor (iNg rng1 [(mN fLen [(m2 fIx (mV 0) (mC (.int 1)))])]) (gN 2) (sSet 1 (m2 fAdd (mV 1) (mN fLst [(mN fTup [(mV 2), (mC (.int 0))]), (mN fTup [(mV 2), (mC (.int 1))])]))))
    (sRt (mV 1))))

def m__law_roads : FM := fnM 5 [] false
    (sSeq (sSet 1 (mN fLst []))
    (sSeq (sFor (iOf asQ (mV 0)) (gT [(gN 2), (gN 3)]) (sSet 1 (m2 fAdd (mV 1) (mLc [] (iOf asQ (mV 3)) (gN 4) tTrue (m2 fIx (mV 4) (mC (.int 0))) [4]))))
    (sRt (mV 1))))

def m__law_all_once : FM := fnM 3 [] false
    (sRt (mAnd (m2 fEq (mN fLen [(mV 1)]) (mN fLen [(m2 fIx (mV 0) (mC (.int 1)))])) (m2 fEq (mLc [] (iNg rng1 [(mN fLen [(m2 fIx (mV 0) (mC (.int 1)))])]) (gN 2) (tB (m2 fNin (mV 2) (mV 1))) (mV 2) [2]) (mN fLst []))))

def m__law_sorted : FM := fnM 1 [] false
    (sRt (m2 fIx (mN fLst [(mN fTup [(m2 fIx (mV 0) (mC (.int 0))), (m2 fIx (mV 0) (mC (.int 1)))]), (mN fTup [(m2 fIx (mV 0) (mC (.int 1))), (m2 fIx (mV 0) (mC (.int 0)))])]) (mN fInt [(m2 fLtD (m2 fIx (mV 0) (mC (.int 1))) (m2 fIx (mV 0) (mC (.int 0))))])))

def m__law_ascending : FM := fnM 4 [] false
    (sSeq (sSet 1 (mN fLst []))
    (sSeq (sFor (iOf asQ (mV 0)) (gN 2) (sE (mMt 1 fIns [(mBor [] (mN fLen [(mLc [] (iOf asQ (mV 1)) (gN 3) (tB (m2 fLtD (mV 3) (mV 2))) (mV 3) [3])])), (mV 2)])))
    (sRt (mV 1))))

def m__law_flags : FM := fnM 2 [] false
    (sSeq (sSet 1 (mN fLst [(m1 (fIsX xsL "NoNet") (mV 0)), (m1 (fIsX xsL "NoPlace") (mV 0)), (m1 (fIsX xsL "NoEnd") (mV 0))]))
    (sSeq (sSet 1 (m2 fAdd (mV 1) (mN fLst [(m1 (fIsX xsL "NoGoing") (mV 0)), (m1 (fIsX xsL "NoPlan") (mV 0)), (m1 (fIsX xsL "NoTable") (mV 0))])))
    (sSeq (sSet 1 (m2 fAdd (mV 1) (mN fLst [(m1 (fIsX xsL "NoTurns") (mV 0)), (m1 (fIsX xsL "NoCosts") (mV 0)), (m1 (fIsX xsL "NoRoad") (mV 0))])))
    (sSeq (sSet 1 (m2 fAdd (mV 1) (mN fLst [(m1 (fIsX xsL "NoNumber") (mV 0)), (m1 (fIsX xsL "NoKind") (mV 0)), (m1 (fIsX xsL "Unlike") (mV 0))])))
    (sRt (m2 fAdd (mV 1) (mN fLst [(m1 (fIsX xsL "Barred") (mV 0)), (m1 (fIsX xsL "NoText") (mV 0))])))))))

def m__law_going_text : FM := fnM 3 [] false
    (sRt (mT1 fJoin (mC (.str (PySem.Str.ofString " "))) (mLc [] (iOf asQ (mV 0)) (gT [(gN 1), (gN 2)]) tTrue (m2 fAdd (mN fStrI [(mV 1)]) (m2 fIx (mC (.str (PySem.Str.ofString "><"))) (mV 2))) [1, 2])))

def m_is_below : FM := fnM 2 [] false
    (sRt (mAnd (mCall m_is_whole [.e (mV 0)] []) (mAnd (m2 fLe (mC (.int 0)) (mV 0)) (m2 fLt (mV 0) (mV 1)))))

def m_turns_in : FM := fnM 5 [] false
    (sSeq (sSet 2 (mLc [] (iNg zipD [(mV 0), (mSl (mV 0) (some (mC (.int 1))) none)]) (gT [(gN 3), (gN 4)]) tTrue (mN fTup [(mCall m_other_end [.e (mV 3)] []), (mV 4)]) [3, 4]))
    (sRt (mIf (tE (mV 1)) (m2 fAdd (mV 2) (mN fLst [(mN fTup [(mCall m_other_end [.e (m2 fIx (mV 0) (m1 fNeg (mC (.int 1))))] []), (m2 fIx (mV 0) (mC (.int 0)))])])) (mV 2))))

def m_is_open : FM := fnM 2 [] false
    (sRt (m2 fNe (mCall m_kind_at [.e (mV 0), .e (m2 fIx (mV 1) (mC (.int 0)))] []) (mCall m_kind_at [.e (mV 0), .e (m2 fIx (mV 1) (mC (.int 1)))] [])))

def m_end_read : FM := fnM 2 [] false
    (sSeq (sSet 1 (mCall m_number_read [.e (mSl (mV 0) none (some (m1 fNeg (mC (.int 1)))))] []))
    (sRt (mIf (tOr (tB (m2 fIsN (mV 1) (mC .none))) (tB (m2 fNinS (m2 fIx (mV 0) (m1 fNeg (mC (.int 1)))) (mC (.str (PySem.Str.ofString "><")))))) (mC .none) (mN fTup [(mV 1), (mT1 fTIdx (mC (.str (PySem.Str.ofString "><"))) (m2 fIx (mV 0) (m1 fNeg (mC (.int 1)))))]))))

def m__law_written : FM := fnM 6 [0] false
    (sSeq (sAs (gT [(gN 2), (gN 3)]) (mV 1))
    (sSeq (sIf (tB (m2 fEq (mCall m__law_take [.io 0, .e (mC (.int 2))] []) (mC (.int 0)))) (sSet 3 (mLc [0] (iOf asQ (m1 fRevL (mV 3))) (gN 4) tTrue (mCall m__law_far [.e (mV 4)] []) [4])) sNx)
    (sSeq (sSet 5 (m2 fMul (mCall m__law_take [.io 0, .e (mN fLen [(mV 3)])] []) (mN fInt [(mV 2)])))
    (sRt (mN fTup [(mV 2), (m2 fAdd (mSl (mV 3) (some (mV 5)) none) (mSl (mV 3) none (some (mV 5))))])))))

def m__law_pile : FM := fnM 5 [] true
    (sSeq (sSet 2 (mC (.int 0)))
    (sSeq (sIf (tB (m2 fLt (mV 1) (mN fLen [(mV 0)]))) (sSet 2 (m2 fIx (mV 0) (mV 1))) sNx)
    (sSeq (sIf (tB (m2 fGe (mV 2) (m2 fPow (mC (.int 10)) (mC (.int 18))))) (sRt (mN fLst [(m2 fMod (mN fInt [(m2 fSub (mV 2) (m2 fPow (mC (.int 10)) (mC (.int 18))))]) (m2 fMul (m2 fMul (m2 fMul (m2 fPow (mC (.int 10)) (mC (.int 60))) (m2 fPow (mC (.int 10)) (mC (.int 60)))) (m2 fPow (mC (.int 10)) (mC (.int 60)))) (m2 fPow (mC (.int 10)) (mC (.int 60)))))])) sNx)
    (sSeq (sSet 3 (mC (.int 0)))
    (sSeq (sFor (iNg rng1 [(mC (.int 24))]) (gN 4) (sSet 3 (m2 fAdd (m2 fMul (mV 3) (mC (.int 2147483579))) (mCall m__law_mixed [.e (mV 2), .e (m2 fAdd (m2 fAdd (m2 fMul (mC (.int 7)) (mV 1)) (m2 fMul (mC (.int 100)) (mV 4))) (m2 fMul (mV 4) (mV 4)))] []))))
    (sRt (mN fLst [(mV 3)])))))))

def m__law_order_of : FM := fnM 4 [0] false
    (sSeq (sSet 2 (mN fLst []))
    (sSeq (sFor (iNg rng1 [(mV 1)]) (gN 3) (sE (mMt 2 fIns [(mCall m__law_take [.io 0, .e (m2 fAdd (mV 3) (mC (.int 1)))] []), (mV 3)])))
    (sRt (mV 2))))

def m__law_at : FM := fnM 3 [] true
    (sRt (mLc [] (iOf asL (mCall m__law_ends [.e (mV 0)] [])) (gN 2) (tB (m2 fEq (mCall m__law_place [.e (mV 0), .e (mV 2)] []) (mV 1))) (mV 2) [2]))

def m__law_is_end : FM := fnM 2 [] false
    (sSeq (sIf (tOr (tNot (tE (m1 (fIsi "tuple") (mV 1)))) (tOr (tB (m2 fNe (mN fLen [(mV 1)]) (mC (.int 2)))) (tOr (tNot (tE (mCall m__law_whole [.e (m2 fIx (mV 1) (mC (.int 0)))] []))) (tNot (tE (mCall m__law_whole [.e (m2 fIx (mV 1) (mC (.int 1)))] [])))))) (sRt (mC (.bool false))) sNx)
    (sRt (mAnd (m2 fGe (m2 fIx (mV 1) (mC (.int 0))) (mC (.int 0))) (mAnd (m2 fLt (m2 fIx (mV 1) (mC (.int 0))) (mN fLen [(m2 fIx (mV 0) (mC (.int 1)))])) (m2 fIn (m2 fIx (mV 1) (mC (.int 1))) (mN fLst [(mC (.int 0)), (mC (.int 1))]))))))

def m__law_turns : FM := fnM 4 [] false
    (sSeq (sSet 2 (mN fLst []))
    (sSeq (sFor (iNg rng2 [(mC (.int 1)), (mN fLen [(mV 0)])]) (gN 3) (sE (mMt 2 fApp [(mN fTup [(mCall m__law_far [.e (m2 fIx (mV 0) (m2 fSub (mV 3) (mC (.int 1))))] []), (m2 fIx (mV 0) (mV 3))])])))
    (sSeq (sIf (tE (mV 1)) (sE (mMt 2 fApp [(mN fTup [(mCall m__law_far [.e (m2 fIx (mV 0) (m1 fNeg (mC (.int 1))))] []), (m2 fIx (mV 0) (mC (.int 0)))])])) sNx)
    (sRt (mV 2)))))

def m__law_open : FM := fnM 2 [] false
    (sRt (m2 fNe (mCall m__law_kind [.e (mV 0), .e (m2 fIx (mV 1) (mC (.int 0)))] []) (mCall m__law_kind [.e (mV 0), .e (m2 fIx (mV 1) (mC (.int 1)))] [])))

def m__law_least : FM := fnM 6 [] false
    (sSeq (sSet 2 (mLc [] (iOf asQ (m1 fRevL (mV 0))) (gN 3) tTrue (mCall m__law_far [.e (mV 3)] []) [3]))
    (sSeq (sSet 4 (mN fLst [(mN fList [(mV 0)]), (mV 2)]))
    (sSeq (sIf (tE (mV 1)) (sFor (iNg rng2 [(mC (.int 1)), (mN fLen [(mV 0)])]) (gN 5) (sSet 4 (m2 fAdd (mV 4) (mN fLst [(m2 fAdd (mSl (mV 0) (some (mV 5)) none) (mSl (mV 0) none (some (mV 5)))), (m2 fAdd (mSl (mV 2) (some (mV 5)) none) (mSl (mV 2) none (some (mV 5))))])))) sNx)
    (sRt (m2 fIx (mCall m__law_ascending [.e (mV 4)] []) (mC (.int 0)))))))

def m__law_led : FM := fnM 6 [] false
    (sSeq (sSet 2 (mC (dctT [])))
    (sSeq (sFor (iOf asQ (mV 0)) (gT [(gN 3), (gN 4)]) (sSeq (sDput 2 (mV 3) (mV 4))
    (sDput 2 (mV 4) (mV 3))))
    (sSeq (sSet 5 (mN fLst [(mV 1)]))
    (sSeq (sWh (fun _ => 1000) (tAnd (tB (m2 fDin (mCall m__law_far [.e (mIxO 5 (m1 fNeg (mC (.int 1))))] []) (mV 2))) (tB (m2 fNe (m2 fDget (mV 2) (mCall m__law_far [.e (mIxO 5 (m1 fNeg (mC (.int 1))))] [])) (mIxO 5 (mC (.int 0)))))) (sE (mMt 5 fApp [(m2 fDget (mV 2) (mCall m__law_far [.e (mIxO 5 (m1 fNeg (mC (.int 1))))] []))])))
    (sRt (mV 5))))))

def m__law_error : FM := fnM 3 [] false
    (sSeq (sIf (tB (m2 fIsN (mV 0) (mC .none))) (sRt (mC (.str (PySem.Str.ofString "")))) sNx)
    (sSeq (sSet 1 (mCall m__law_flags [.e (mV 0)] []))
    (sSeq (sIf (tOr (tB (m2 fNe (mMl fCntD (mV 1) [(mC (.bool true))]) (mC (.int 1)))) (tOr (tNot (tE (m1 (fIsX xsL "TrailsError") (mV 0)))) (tNot (tE (m1 (fIsV xsL) (mV 0)))))) (sRt (mC (.str (PySem.Str.ofString "other")))) sNx)
    (sSeq (sSet 2 (mN fLst [(mC (.str (PySem.Str.ofString "net"))), (mC (.str (PySem.Str.ofString "place"))), (mC (.str (PySem.Str.ofString "end"))), (mC (.str (PySem.Str.ofString "going"))), (mC (.str (PySem.Str.ofString "plan"))), (mC (.str (PySem.Str.ofString "table"))), (mC (.str (PySem.Str.ofString "turns"))), (mC (.str (PySem.Str.ofString "costs"))), (mC (.str (PySem.Str.ofString "road"))), (mC (.str (PySem.Str.ofString "number"))), (mC (.str (PySem.Str.ofString "kind"))), (mC (.str (PySem.Str.ofString "unlike")))]))
    (sRt (m2 fIx (m2 fAdd (mV 2) (mN fLst [(mC (.str (PySem.Str.ofString "barred"))), (mC (.str (PySem.Str.ofString "text")))])) (mMl fIdxD (mV 1) [(mC (.bool true))])))))))

def m__law_bent : FM := fnM 8 [0] false
    (sSeq (sSet 2 (mN fLst [(mC (.str (PySem.Str.ofString "round"))), (mC (.str (PySem.Str.ofString "way"))), (mC (.str (PySem.Str.ofString "0>"))), (mC (.str (PySem.Str.ofString "1<"))), (mC (.str (PySem.Str.ofString "0<"))), (mC (.str (PySem.Str.ofString "2>"))), (mC (.str (PySem.Str.ofString "00>"))), (mC (.str (PySem.Str.ofString "-1>"))), (mC (.str (PySem.Str.ofString ">"))), (mC (.str (PySem.Str.ofString ""))), (mC (.str (PySem.Str.ofString "9>"))), (mC (.str (PySem.Str.ofString "0"))), (mC (.str (PySem.Str.ofString "rounds"))), (mC (.str (PySem.Str.ofString "1>"))), (mC (.str (PySem.Str.ofString "0>0<")))]))
    (sSeq (sSet 3 (mC (.str (PySem.Str.ofString "012><- \nroundway+_RW"))))
    (sSeq (sSet 4 (mCall m__law_take [.io 0, .e (m2 fAdd (mN fLen [(mV 1)]) (mC (.int 1)))] []))
    (sSeq (sSet 5 (mCall m__law_take [.io 0, .e (mC (.int 5))] []))
    (sSeq (sIf (tB (m2 fEq (mV 5) (mC (.int 0)))) (sRt (m2 fAdd (m2 fAdd (mSl (mV 1) none (some (mV 4))) (m2 fIx (mV 3) (mCall m__law_take [.io 0, .e (mN fLen [(mV 3)])] []))) (mSl (mV 1) (some (mV 4)) none))) sNx)
    (sSeq (sIf (tB (m2 fEq (mV 5) (mC (.int 1)))) (sRt (m2 fAdd (mSl (mV 1) none (some (mV 4))) (mSl (mV 1) (some (m2 fAdd (mV 4) (mC (.int 1)))) none))) sNx)
    (sSeq (sIf (tB (m2 fEq (mV 5) (mC (.int 2)))) (sRt (m2 fAdd (m2 fAdd (mSl (mV 1) none (some (mV 4))) (m2 fIx (mV 3) (mCall m__law_take [.io 0, .e (mN fLen [(mV 3)])] []))) (mSl (mV 1) (some (m2 fAdd (mV 4) (mC (.int 1)))) none))) sNx)
    (sSeq (sSet 6 (mT1 fSplit (mV 1) (m2 fIx (mN fLst [(mC (.str (PySem.Str.ofString " "))), (mC (.str (PySem.Str.ofString "\n")))]) (m2 fSub (mV 5) (mC (.int 3))))))
    (sSeq (sSet 7 (mCall m__law_take [.io 0, .e (mLenO 6)] []))
    (sSeq (sSto 6 (mV 7) (m2 fIx (mV 2) (mCall m__law_take [.io 0, .e (mN fLen [(mV 2)])] [])))
    (sRt (mT1 fJoin (m2 fIx (mN fLst [(mC (.str (PySem.Str.ofString " "))), (mC (.str (PySem.Str.ofString "\n")))]) (m2 fSub (mV 5) (mC (.int 3)))) (mV 6)))))))))))))

def m_is_point : FM := fnM 2 [] false
    (sRt (mAnd (m1 (fIsi "tuple") (mV 0)) (mAnd (m2 fEq (mN fLen [(mV 0)]) (mC (.int 2))) (mAnd (mCall m_is_below [.e (m2 fIx (mV 0) (mC (.int 0))), .e (mV 1)] []) (mCall m_is_below [.e (m2 fIx (mV 0) (mC (.int 1))), .e (mC (.int 10))] [])))))

def m_is_right_end : FM := fnM 2 [] false
    (sRt (mAnd (m1 (fIsi "tuple") (mV 1)) (mAnd (m2 fEq (mN fLen [(mV 1)]) (mC (.int 2))) (mAnd (mCall m_is_below [.e (m2 fIx (mV 1) (mC (.int 0))), .e (mN fLen [(m2 fIx (mV 0) (mC (.int 1)))])] []) (mCall m_is_below [.e (m2 fIx (mV 1) (mC (.int 1))), .e (mC (.int 2))] [])))))

def m_shut_in : FM := fnM 4 [] false
    (sRt (mLc [] (iOf asQ (mCall m_turns_in [.e (mV 1), .e (mV 2)] [])) (gN 3) (tNot (tE (mCall m_is_open [.e (mV 0), .e (mV 3)] []))) (mV 3) [3]))

def m__law_net : FM := fnM 14 [0] false
    (sSeq (sSet 2 (m2 fIx (mN fLst [(mC (.int 1)), (mC (.int 2)), (mC (.int 2)), (mC (.int 3)), (mC (.int 3)), (mC (.int 4)), (mC (.int 5)), (mC (.int 6))]) (mCall m__law_take [.io 0, .e (mC (.int 8))] [])))
    (sSeq (sPar 3 4 (mCall m__law_take [.io 0, .e (mC (.int 5))] []) (m2 fIx (mN fLst [(mC (.int 2)), (mC (.int 3)), (mC (.int 3)), (mC (.int 4)), (mC (.int 10))]) (mCall m__law_take [.io 0, .e (mC (.int 5))] [])))
    (sSeq (sSet 5 (mCall m__law_take [.io 0, .e (m2 fAdd (mV 1) (mC (.int 1)))] []))
    (sSeq (sSet 6 (mLc [0] (iNg rng1 [(m2 fAdd (mV 5) (mC (.int 1)))]) (gN 7) tTrue (mCall m__law_take [.io 0, .e (mV 2)] []) [7]))
    (sSeq (sSet 8 (mCall m__law_take [.io 0, .e (mV 4)] []))
    (sSeq (sSet 9 (mV 8))
    (sSeq (sSet 10 (mN fLst []))
    (sSeq (sFor (iNg rng1 [(mV 5)]) (gN 7) (sSeq (sPar 11 12 (m2 fIx (mV 6) (mV 7)) (m2 fIx (mV 6) (m2 fAdd (mV 7) (mC (.int 1)))))
    (sSeq (sIf (tB (m2 fEq (mV 3) (mC (.int 0)))) (sSet 11 (mCall m__law_take [.io 0, .e (mV 2)] [])) sNx)
    (sSeq (sIf (tAnd (tB (m2 fGt (mV 3) (mC (.int 1)))) (tB (m2 fEq (mV 7) (m2 fSub (mV 5) (mC (.int 1)))))) (sSet 12 (m2 fIx (mV 6) (mC (.int 0)))) sNx)
    (sSeq (sSet 13 (mCall m__law_take [.io 0, .e (mV 4)] []))
    (sSeq (sIf (tB (m2 fGt (mV 3) (mC (.int 2)))) (sSet 13 (m2 fMod (mN fInt [(m2 fAdd (m2 fAdd (mV 8) (mC (.int 1))) (mCall m__law_take [.io 0, .e (m2 fSub (mV 4) (mC (.int 1)))] []))]) (mV 4))) sNx)
    (sSeq (sIf (tB (m2 fEq (mV 7) (mC (.int 0)))) (sSet 9 (mV 13)) sNx)
    (sSeq (sSet 8 (mCall m__law_take [.io 0, .e (mV 4)] []))
    (sSeq (sIf (tAnd (tB (m2 fGt (mV 3) (mC (.int 2)))) (tB (m2 fEq (mV 7) (m2 fSub (mV 5) (mC (.int 1)))))) (sSet 8 (m2 fMod (mN fInt [(m2 fAdd (m2 fAdd (mV 9) (mC (.int 1))) (mCall m__law_take [.io 0, .e (m2 fSub (mV 4) (mC (.int 1)))] []))]) (mV 4))) sNx)
    (sE (mMt 10 fApp [(mN fTup [(mN fTup [(mV 11), (mV 13)]), (mN fTup [(mV 12), (mV 8)])])])))))))))))
    (sRt (mN fTup [(mV 2), (mN fTuple [(mLc [0] (iOf asL (mCall m__law_order_of [.io 0, .e (mV 5)] [])) (gN 7) tTrue (m2 fIx (mV 10) (mV 7)) [7])])]))))))))))

def m__law_is_turn : FM := fnM 2 [] false
    (sSeq (sIf (tOr (tNot (tE (m1 (fIsi "tuple") (mV 1)))) (tB (m2 fNe (mN fLen [(mV 1)]) (mC (.int 2))))) (sRt (mC (.bool false))) sNx)
    (sSeq (sIf (tOr (tNot (tE (mCall m__law_is_end [.e (mV 0), .e (m2 fIx (mV 1) (mC (.int 0)))] []))) (tOr (tNot (tE (mCall m__law_is_end [.e (mV 0), .e (m2 fIx (mV 1) (mC (.int 1)))] []))) (tB (m2 fEq (m2 fIx (mV 1) (mC (.int 0))) (m2 fIx (mV 1) (mC (.int 1))))))) (sRt (mC (.bool false))) sNx)
    (sRt (m2 fEq (mCall m__law_place [.e (mV 0), .e (m2 fIx (mV 1) (mC (.int 0)))] []) (mCall m__law_place [.e (mV 0), .e (m2 fIx (mV 1) (mC (.int 1)))] [])))))

def m__law_shut : FM := fnM 4 [] false
    (sRt (mLc [] (iOf asQ (mCall m__law_turns [.e (mV 1), .e (mV 2)] [])) (gN 3) (tNot (tE (mCall m__law_open [.e (mV 0), .e (mV 3)] []))) (mV 3) [3]))

def m__law_plan : FM := fnM 12 [] false
    (sSeq (sSet 2 (mN fLst []))
    (sSeq (sFor (iOf asQ (mV 1)) (gT [(gN 3), (gN 4)]) (sSet 2 (m2 fAdd (mV 2) (mN fLst [(mV 3), (mV 4)]))))
    (sSeq (sSet 5 (mN fLst []))
    (sSeq (sSet 6 (mN fLst []))
    (sSeq (sFor (iOf asL (m2 fAdd (mLc [5] (iOf asL (mCall m__law_ends [.e (mV 0)] [])) (gN 3) (tB (m2 fNin (mV 3) (mV 2))) (mV 3) [3]) (mCall m__law_ends [.e (mV 0)] []))) (gN 7) (sIf (tB (m2 fNin (m2 fIx (mV 7) (mC (.int 0))) (mV 6))) (sSeq (sSet 8 (mCall m__law_led [.e (mV 1), .e (mV 7)] []))
    (sSeq (sSet 6 (m2 fAdd (mV 6) (mLc [5] (iOf asQ (mV 8)) (gN 3) tTrue (m2 fIx (mV 3) (mC (.int 0))) [3])))
    (sE (mMt 5 fApp [(mN fTup [(m2 fIn (mV 7) (mV 2)), (mCall m__law_least [.e (mV 8), .e (m2 fIn (mV 7) (mV 2))] [])])])))) sNx))
    (sSeq (sSet 9 (mN fLst []))
    (sSeq (sFor (iOf asQ (mV 5)) (gT [(gN 10), (gN 8)]) (sE (mMt 9 fIns [(mBor [] (mN fLen [(mLc [] (iOf asQ (mV 9)) (gN 11) (tB (m2 fLtD (m2 fIx (mV 11) (mC (.int 1))) (mV 8))) (mV 11) [11])])), (mN fTup [(mV 10), (mV 8)])])))
    (sRt (mV 9)))))))))

def m__law_drawn_table : FM := fnM 10 [0] false
    (sSeq (sSet 3 (mN fLst []))
    (sSeq (sFor (iNg rng1 [(m2 fIx (mV 1) (mC (.int 0)))]) (gN 4) (sSeq (sSet 5 (mCall m__law_at [.e (mV 1), .e (mV 4)] []))
    (sSeq (sSet 5 (mLc [0, 3] (iOf asL (mCall m__law_order_of [.io 0, .e (mN fLen [(mV 5)])] [])) (gN 6) tTrue (m2 fIx (mV 5) (mV 6)) [6]))
    (sWh (fun _ => 1000) (tB (m2 fGt (mLenO 5) (mC (.int 1)))) (sSeq (sSet 7 (mMt 5 fPop []))
    (sSeq (sSet 8 (mBorL [0] (mLc [0] (iOf asQ (mV 5)) (gN 9) (tB (m2 fNe (mCall m__law_kind [.e (mV 1), .e (mV 9)] []) (mCall m__law_kind [.e (mV 1), .e (mV 7)] []))) (mV 9) [9])))
    (sIf (tAnd (tB (m2 fNe (mV 8) (mN fLst []))) (tB (m2 fGt (mCall m__law_take [.io 0, .e (mV 2)] []) (mC (.int 0))))) (sSeq (sE (mMt 5 fRemD [(m2 fIx (mV 8) (mC (.int 0)))]))
    (sE (mMt 3 fApp [(mCall m__law_sorted [.e (mN fTup [(mV 7), (m2 fIx (mV 8) (mC (.int 0)))])] [])]))) sNx)))))))
    (sRt (mCall m__law_ascending [.e (mV 3)] []))))

def m_is_road : FM := fnM 2 [] false
    (sRt (mAnd (m1 (fIsi "tuple") (mV 0)) (mAnd (m2 fEq (mN fLen [(mV 0)]) (mC (.int 2))) (mAnd (mCall m_is_point [.e (m2 fIx (mV 0) (mC (.int 0))), .e (mV 1)] []) (mCall m_is_point [.e (m2 fIx (mV 0) (mC (.int 1))), .e (mV 1)] [])))))

def m_is_right_going : FM := fnM 6 [] false
    (sSeq (sIf (tOr (tNot (tE (m1 (fIsi "list") (mV 1)))) (tOr (tB (m2 fEq (mV 1) (mN fLst []))) (tNot (tE (mN fAll [(mLc [] (iOf asQ (mV 1)) (gN 3) tTrue (mCall m_is_right_end [.e (mV 0), .e (mV 3)] []) [3])]))))) (sRt (mC (.bool false))) sNx)
    (sSeq (sFor (iOf asQ (mCall m_turns_in [.e (mV 1), .e (mV 2)] [])) (gT [(gN 4), (gN 5)]) (sIf (tOr (tB (m2 fEq (mV 4) (mV 5))) (tB (m2 fNe (mCall m_place_at [.e (mV 0), .e (mV 4)] []) (mCall m_place_at [.e (mV 0), .e (mV 5)] [])))) (sRt (mC (.bool false))) sNx))
    (sRt (mC (.bool true)))))

def m__law_is_going : FM := fnM 5 [] false
    (sSeq (sIf (tOr (tNot (tE (m1 (fIsi "list") (mV 1)))) (tOr (tB (m2 fEq (mV 1) (mN fLst []))) (tB (m2 fNe (mLc [] (iOf asQ (mV 1)) (gN 3) (tNot (tE (mCall m__law_is_end [.e (mV 0), .e (mV 3)] []))) (mV 3) [3]) (mN fLst []))))) (sRt (mC (.bool false))) sNx)
    (sRt (m2 fEq (mLc [] (iOf asQ (mCall m__law_turns [.e (mV 1), .e (mV 2)] [])) (gN 4) (tNot (tE (mCall m__law_is_turn [.e (mV 0), .e (mV 4)] []))) (mV 4) [4]) (mN fLst []))))

def m__law_even_net : FM := fnM 10 [0] false
    (sSeq (sSet 2 (mCall m__law_net [.io 0, .e (mV 1)] []))
    (sSeq (sSet 3 (mCall m__law_take [.io 0, .e (mC (.int 4))] []))
    (sSeq (sIf (tOr (tB (m2 fEq (mV 3) (mC (.int 0)))) (tB (m2 fLt (mN fLen [(m2 fIx (mV 2) (mC (.int 1)))]) (mC (.int 2))))) (sRt (mV 2)) sNx)
    (sSeq (sSet 4 (m2 fIx (mN fLst [(mC (.int 1)), (mC (.int 2)), (mC (.int 12))]) (mCall m__law_take [.io 0, .e (mC (.int 3))] [])))
    (sSeq (sSet 5 (mN fLst []))
    (sSeq (sFor (iOf asT (m2 fIx (mV 2) (mC (.int 1)))) (gT [(gT [(gN 6), (gN 7)]), (gT [(gN 8), (gN 9)])]) (sIf (tB (m2 fEq (mV 4) (mC (.int 12)))) (sE (mMt 5 fApp [(mN fTup [(mN fTup [(m2 fSub (mC (.int 11)) (mV 6)), (mV 7)]), (mN fTup [(m2 fSub (mC (.int 11)) (mV 8)), (mV 9)])])])) (sE (mMt 5 fApp [(mN fTup [(mN fTup [(m2 fMod (mN fInt [(mV 6)]) (mV 4)), (mV 7)]), (mN fTup [(m2 fMod (mN fInt [(mV 8)]) (mV 4)), (mV 9)])])]))))
    (sRt (mN fTup [(mV 4), (mN fTuple [(mV 5)])]))))))))

def m_is_right_net : FM := fnM 2 [] false
    (sSeq (sIf (tOr (tNot (tE (m1 (fIsi "tuple") (mV 0)))) (tOr (tB (m2 fNe (mN fLen [(mV 0)]) (mC (.int 2)))) (tNot (tE (m1 (fIsi "tuple") (m2 fIx (mV 0) (mC (.int 1)))))))) (sRt (mC (.bool false))) sNx)
    (sSeq (sIf (tOr (tNot (tE (mCall m_is_whole [.e (m2 fIx (mV 0) (mC (.int 0)))] []))) (tOr (tB (m2 fLt (m2 fIx (mV 0) (mC (.int 0))) (mC (.int 1)))) (tB (m2 fGt (m2 fIx (mV 0) (mC (.int 0))) (mC (.int 12)))))) (sRt (mC (.bool false))) sNx)
    (sRt (mN fAll [(mLc [] (iOf asT (m2 fIx (mV 0) (mC (.int 1)))) (gN 1) tTrue (mCall m_is_road [.e (mV 1), .e (m2 fIx (mV 0) (mC (.int 0)))] []) [1])]))))

def m_is_item : FM := fnM 2 [] false
    (sSeq (sIf (tOr (tNot (tE (m1 (fIsi "tuple") (mV 1)))) (tOr (tB (m2 fNe (mN fLen [(mV 1)]) (mC (.int 2)))) (tNot (tE (m1 (fIsi "bool") (m2 fIx (mV 1) (mC (.int 0)))))))) (sRt (mC (.bool false))) sNx)
    (sRt (mAnd (mCall m_is_right_going [.e (mV 0), .e (m2 fIx (mV 1) (mC (.int 1))), .e (m2 fIx (mV 1) (mC (.int 0)))] []) (m2 fEq (mCall m_shut_in [.e (mV 0), .e (m2 fIx (mV 1) (mC (.int 1))), .e (m2 fIx (mV 1) (mC (.int 0)))] []) (mN fLst [])))))

def m_going_read : FM := fnM 5 [] false
    (sSeq (sSet 3 (mLc [] (iOf asL (mT1 fSplit (mV 1) (mC (.str (PySem.Str.ofString " "))))) (gN 4) tTrue (mIf (tB (m2 fNe (mV 4) (mC (.str (PySem.Str.ofString ""))))) (mCall m_end_read [.e (mV 4)] []) (mC .none)) [4]))
    (sRt (mIf (tE (mCall m_is_right_going [.e (mV 0), .e (mV 3), .e (mV 2)] [])) (mV 3) (mC .none))))

def m__law_is_plan : FM := fnM 3 [] false
    (sSeq (sIf (tNot (tE (m1 (fIsi "list") (mV 1)))) (sRt (mC (.bool false))) sNx)
    (sSeq (sFor (iOf asQ (mV 1)) (gN 2) (sSeq (sIf (tOr (tNot (tE (m1 (fIsi "tuple") (mV 2)))) (tOr (tB (m2 fNe (mN fLen [(mV 2)]) (mC (.int 2)))) (tNot (tE (m1 (fIsi "bool") (m2 fIx (mV 2) (mC (.int 0)))))))) (sRt (mC (.bool false))) sNx)
    (sIf (tOr (tNot (tE (mCall m__law_is_going [.e (mV 0), .e (m2 fIx (mV 2) (mC (.int 1))), .e (m2 fIx (mV 2) (mC (.int 0)))] []))) (tB (m2 fNe (mCall m__law_shut [.e (mV 0), .e (m2 fIx (mV 2) (mC (.int 1))), .e (m2 fIx (mV 2) (mC (.int 0)))] []) (mN fLst [])))) (sRt (mC (.bool false))) sNx)))
    (sRt (mCall m__law_all_once [.e (mV 0), .e (mCall m__law_roads [.e (mV 1)] [])] []))))

def m__law_going_of : FM := fnM 6 [] false
    (sSeq (sSet 3 (mN fLst []))
    (sSeq (sFor (iOf asL (mT1 fSplit (mV 1) (mC (.str (PySem.Str.ofString " "))))) (gN 4) (sSeq (sIf (tOr (tB (m2 fLt (mN fLen [(mV 4)]) (mC (.int 2)))) (tOr (tB (m2 fNinS (m2 fIx (mV 4) (m1 fNeg (mC (.int 1)))) (mC (.str (PySem.Str.ofString "><"))))) (tB (m2 fNe (mLc [3] (iOf asQ (mSl (mV 4) none (some (m1 fNeg (mC (.int 1)))))) (gN 5) (tB (m2 fNinS (mV 5) (mC (.str (PySem.Str.ofString "0123456789"))))) (mV 5) [5]) (mN fLst []))))) (sRt (mC .none)) sNx)
    (sSeq (sIf (tOr (tAnd (tB (m2 fEq (m2 fIx (mV 4) (mC (.int 0))) (mC (.str (PySem.Str.ofString "0"))))) (tB (m2 fGt (mN fLen [(mV 4)]) (mC (.int 2))))) (tOr (tB (m2 fGt (mN fLen [(mV 4)]) (mC (.int 31)))) (tB (m2 fGe (mN fIntS [(mSl (mV 4) none (some (m1 fNeg (mC (.int 1)))))]) (mN fLen [(m2 fIx (mV 0) (mC (.int 1)))]))))) (sRt (mC .none)) sNx)
    (sE (mMt 3 fApp [(mN fTup [(mN fIntS [(mSl (mV 4) none (some (m1 fNeg (mC (.int 1)))))]), (mT1 fTIdx (mC (.str (PySem.Str.ofString "><"))) (m2 fIx (mV 4) (m1 fNeg (mC (.int 1)))))])])))))
    (sRt (m2 fIx (mN fLst [(mC .none), (mV 3)]) (mN fInt [(mCall m__law_is_going [.e (mV 0), .e (mV 3), .e (mV 2)] [])])))))

def m_look_at_net : FM := fnM 1 [] false
    (sIf (tNot (tE (mCall m_is_right_net [.e (mV 0)] []))) (sRaise "NoNet") sNx)

def m_is_right_plan : FM := fnM 6 [] false
    (sSeq (sIf (tOr (tNot (tE (m1 (fIsi "list") (mV 1)))) (tNot (tE (mN fAll [(mLc [] (iOf asQ (mV 1)) (gN 2) tTrue (mCall m_is_item [.e (mV 0), .e (mV 2)] []) [2])])))) (sRt (mC (.bool false))) sNx)
    (sRt (m2 fEq (m1 (fun d => fSrtI [d]) (mLc2 [] (iOf asQ (mV 1)) (gT [(gN 3), (gN 4)]) tTrue (iOf asQ (mV 4)) (gN 5) tTrue (m2 fIx (mV 5) (mC (.int 0))) [3, 4, 5] [5])) (m1 fLrg (mN fLen [(m2 fIx (mV 0) (mC (.int 1)))])))))

def m_item_read : FM := fnM 6 [] false
    (sSeq (sAs (gT [(gN 2), (gN 3), (gN 4)]) (mT1 fPartn (mV 1) (mC (.str (PySem.Str.ofString " ")))))
    (sSeq (sIf (tOr (tB (m2 fEq (mV 3) (mC (.str (PySem.Str.ofString ""))))) (tB (m2 fNinT (mV 2) (mN fTup [(mC (.str (PySem.Str.ofString "round"))), (mC (.str (PySem.Str.ofString "way")))])))) (sRt (mC .none)) sNx)
    (sSeq (sSet 5 (mCall m_going_read [.e (mV 0), .e (mV 4), .e (m2 fEq (mV 2) (mC (.str (PySem.Str.ofString "round"))))] []))
    (sRt (mIf (tB (m2 fIsN (mV 5) (mC .none))) (mC .none) (mN fTup [(m2 fEq (mV 2) (mC (.str (PySem.Str.ofString "round")))), (mV 5)]))))))

def m__law_due : FM := fnM 7 [] false
    (sSeq (sSet 2 (mT1 fSplit (mV 1) (mC (.str (PySem.Str.ofString "\n")))))
    (sSeq (sIf (tB (m2 fEq (mV 1) (mC (.str (PySem.Str.ofString ""))))) (sSet 2 (mN fLst [])) sNx)
    (sSeq (sSet 3 (mN fLst []))
    (sSeq (sFor (iNg rng1 [(mN fLen [(mV 2)])]) (gN 4) (sSeq (sSet 5 (mT1 fSplit (m2 fIx (mV 2) (mV 4)) (mC (.str (PySem.Str.ofString " ")))))
    (sSeq (sSet 6 (mC .none))
    (sSeq (sIf (tAnd (tB (m2 fIn (m2 fIx (mV 5) (mC (.int 0))) (mN fLst [(mC (.str (PySem.Str.ofString "round"))), (mC (.str (PySem.Str.ofString "way")))]))) (tB (m2 fGt (mN fLen [(mV 5)]) (mC (.int 1))))) (sSet 6 (mCall m__law_going_of [.e (mV 0), .e (mT1 fJoin (mC (.str (PySem.Str.ofString " "))) (mSl (mV 5) (some (mC (.int 1))) none)), .e (m2 fEq (m2 fIx (mV 5) (mC (.int 0))) (mC (.str (PySem.Str.ofString "round"))))] [])) sNx)
    (sSeq (sIf (tB (m2 fIsN (mV 6) (mC .none))) (sRt (m2 fAdd (mV 4) (mC (.int 1)))) sNx)
    (sE (mMt 3 fApp [(mN fTup [(m2 fEq (m2 fIx (mV 5) (mC (.int 0))) (mC (.str (PySem.Str.ofString "round")))), (mV 6)])])))))))
    (sRt (m2 fIx (mN fLst [(m2 fAdd (mN fLen [(mV 2)]) (mC (.int 1))), (mV 3)]) (mN fInt [(mCall m__law_is_plan [.e (mV 0), .e (mV 3)] [])])))))))

def m_plan_text : FM := fnM 4 [] false
    (sSeq (sE (mCall m_look_at_net [.e (mV 0)] []))
    (sSeq (sIf (tNot (tE (mCall m_is_right_plan [.e (mV 0), .e (mV 1)] []))) (sRaise "NoPlan") sNx)
    (sRt (mT1 fJoin (mC (.str (PySem.Str.ofString "\n"))) (mLc [] (iOf asQ (mV 1)) (gT [(gN 2), (gN 3)]) tTrue (m2 fAdd (mIf (tE (mV 2)) (mC (.str (PySem.Str.ofString "round "))) (mC (.str (PySem.Str.ofString "way ")))) (mCall m_going_written [.e (mV 3)] [])) [2, 3])))))

def m_read_plan : FM := fnM 7 [] true
    (sSeq (sE (mCall m_look_at_net [.e (mV 0)] []))
    (sSeq (sSet 2 (mIf (tB (m2 fEq (mV 1) (mC (.str (PySem.Str.ofString ""))))) (mN fLst []) (mT1 fSplit (mV 1) (mC (.str (PySem.Str.ofString "\n"))))))
    (sSeq (sSet 3 (mN fLst []))
    (sSeq (sFor (iNg enumC [(mV 2), (mC (.int 1))]) (gT [(gN 4), (gN 5)]) (sSeq (sSet 6 (mCall m_item_read [.e (mV 0), .e (mV 5)] []))
    (sSeq (sIf (tB (m2 fIsN (mV 6) (mC .none))) (sRaiseF "NoText" (mV 4)) sNx)
    (sE (mMt 3 fApp [(mV 6)])))))
    (sSeq (sIf (tNot (tBor [] (tE (mCall m_is_right_plan [.e (mV 0), .e (mV 3)] [])))) (sRaiseF "NoText" (m2 fAdd (mN fLen [(mV 2)]) (mC (.int 1)))) sNx)
    (sRtV 3))))))

def m__law_both : FM := fnM 7 [] false
    (sSeq (sSet 2 (mCall m__law_due [.e (mV 0), .e (mV 1)] []))
    (sSeq (sFor (iNg rng1 [(mC (.int 2))]) (gN 3) (sSeq (sSet 4 (mC .none))
    (sSeq (sSet 5 (mC .none))
    (sTD xsL 6 4 5 m_read_plan [.e (mV 0), .e (mV 1)] []
    (sIf (tB (m2 fNotN (mV 4) (mC .none))) (sIf (tOr (tB (m2 fNotN (mV 5) (mC .none))) (tOr (tB (m2 fNe (mCall m__law_error [.e (mV 4)] []) (mC (.str (PySem.Str.ofString "text"))))) (tOr (tB (m2 fNe (m1 (fFldX ["NoText"]) (mV 4)) (mV 2))) (tE (m1 (fIsi "list") (mV 2)))))) (sRt (mC (.bool false))) sNx) sNo)
    (gD 5 (tB (m2 fNotN (mV 4) (mC .none))) (tOr (tNot (tE (m1 (fIsi "list") (mV 5)))) (tOr (tB (m2 fNe (mV 5) (mV 2))) (tB (m2 fNe (mN fRepr [(mV 5)]) (mN fRepr [(mV 2)]))))))))))
    (sRt (mC (.bool true)))))

def m__law_plan_good : FM := fnM 8 [0] false
    (sSeq (sSet 3 (mN fRepr [(mV 2)]))
    (sSeq (sSet 4 (mT1 fJoin (mC (.str (PySem.Str.ofString "\n"))) (mLc [0] (iOf asQ (mV 2)) (gT [(gN 5), (gN 6)]) tTrue (m2 fAdd (m2 fIx (mN fLst [(mC (.str (PySem.Str.ofString "way "))), (mC (.str (PySem.Str.ofString "round ")))]) (mN fInt [(mV 5)])) (mCall m__law_going_text [.e (mV 6)] [])) [5, 6])))
    (sSeq (sIf (tOr (tB (m2 fNe (mCall m_plan_text [.e (mV 1), .e (mV 2)] []) (mV 4))) (tOr (tB (m2 fNe (mN fRepr [(mV 2)]) (mV 3))) (tNot (tE (mCall m__law_both [.e (mV 1), .e (mV 4)] []))))) (sRt (mC (.bool false))) sNx)
    (sSeq (sFor (iNg rng1 [(mC (.int 6))]) (gN 7) (sIf (tNot (tE (mCall m__law_both [.e (mV 1), .e (mCall m__law_bent [.io 0, .e (mV 4)] [])] []))) (sRt (mC (.bool false))) sNx))
    (sRt (m2 fEq (mN fRepr [(mV 2)]) (mV 3)))))))

def m_law : FM := fnM 8 [] false
    (sSeq (sFor (iNg rng1 [(mN fMax2 [(mC (.int 2)), (mN fMin2 [(mN fLen [(mV 0)]), (mC (.int 8))])])]) (gN 1) (sSeq (sSet 2 (mCall m__law_pile [.e (mV 0), .e (mV 1)] []))
    (sSeq (sSet 3 (mCall m__law_even_net [.io 2, .e (m2 fIx (mN fLst [(mC (.int 6)), (mC (.int 13))]) (m2 fMod (mV 1) (mC (.int 2))))] []))
    (sSeq (sSet 4 (mCall m__law_plan [.e (mV 3), .e (mCall m__law_drawn_table [.io 2, .e (mV 3), .e (mC (.int 4))] [])] []))
    (sSeq (sSet 4 (mLc [2] (iOf asL (mCall m__law_order_of [.io 2, .e (mN fLen [(mV 4)])] [])) (gN 5) tTrue (mCall m__law_written [.io 2, .e (m2 fIx (mV 4) (mV 5))] []) [5]))
    (sSeq (sIf (tNot (tE (mCall m__law_plan_good [.io 2, .e (mV 3), .e (mV 4)] []))) (sRt (mC (.bool false))) sNx)
    (sSeq (sSet 6 (mN fLst [(mC (.str (PySem.Str.ofString ""))), (mC (.str (PySem.Str.ofString "\n"))), (mC (.str (PySem.Str.ofString "round"))), (mC (.str (PySem.Str.ofString "way"))), (mC (.str (PySem.Str.ofString "way "))), (mC (.str (PySem.Str.ofString "round 0>"))), (mC (.str (PySem.Str.ofString "way 0>"))), (mC (.str (PySem.Str.ofString "way 0> 0<"))), (mC (.str (PySem.Str.ofString " way 0>"))), (mC (.str (PySem.Str.ofString "way 0>\n"))), (mC (.str (PySem.Str.ofString "0>")))]))
    (sSeq (sSet 6 (m2 fAdd (mV 6) (mN fLst [(mC (.str (PySem.Str.ofString "Way 0>"))), (mC (.str (PySem.Str.ofString "ROUND 0>"))), (mC (.str (PySem.Str.ofString "+0>"))), (mC (.str (PySem.Str.ofString "way +0>"))), (mC (.str (PySem.Str.ofString "way 0> 0>\nway x"))), (mC (.str (PySem.Str.ofString "way 0>\nway 0>\nround"))), (mC (.str (PySem.Str.ofString "way 0_0>")))])))
    (sFor (iOf asQ (m2 fAdd (mV 6) (mN fLst [(mC (.str (PySem.Str.ofString "0<"))), (mC (.str (PySem.Str.ofString "0> 0>")))]))) (gN 7) (sIf (tNot (tE (mCall m__law_both [.e (mV 3), .e (mV 7)] []))) (sRt (mC (.bool false))) sNx))))))))))
    (sRt (mAnd (mCall m__law_both [.e (mN fTup [(mC (.int 1)), (mN fTup [])]), .e (mC (.str (PySem.Str.ofString "")))] []) (mCall m__law_both [.e (mN fTup [(mC (.int 1)), (mN fTup [(mN fTup [(mN fTup [(mC (.int 0)), (mC (.int 0))]), (mN fTup [(mC (.int 0)), (mC (.int 0))])])])]), .e (mC (.str (PySem.Str.ofString "way 0> 0>")))] []))))

end KHead

end T_Mir_k61
section T_Wlk_k61
set_option maxRecDepth 100000
set_option maxHeartbeats 4000000
namespace KHead
open PySem PySem.Spec PyProof.Rows L2
def top (i : Nat) : Stmt := PySem.Challenge.pw_kindtrails_k61_plans_written.main.body.getD i (.Pass ⟨0, 0, 0, 0⟩)
def dd (n : Str) (i : Nat) : He.DefD := ⟨(n, none), n, n, defArgs (top i), defBody (top i), defScope (top i), [], []⟩
def clsAt (s : Stmt) (j : Nat) : Stmt := match s with
  | .ClassDef _ _ _ body _ _ _ _ _ _ _ => body.getD j (.Pass ⟨0, 0, 0, 0⟩)
  | s => s
def di (n q : Str) (i : Nat) : He.DefD := ⟨(n, some "__init__"), "__init__", q, defArgs (clsAt (top i) 0), defBody (clsAt (top i) 0), defScope (clsAt (top i) 0), [], []⟩
def fn : List He.DefD := [dd "is_whole" 19, dd "is_below" 20, dd "is_point" 21, dd "is_road" 22, dd "is_right_net" 23, dd "is_right_end" 24, dd "look_at_net" 25, dd "place_at" 26, dd "kind_at" 27, dd "other_end" 28, dd "is_right_going" 30, dd "turns_in" 31, dd "is_open" 32, dd "shut_in" 33, dd "is_item" 34, dd "is_right_plan" 35, dd "going_written" 38, dd "plan_text" 39, dd "number_read" 40, dd "end_read" 41, dd "going_read" 42, dd "item_read" 43, dd "read_plan" 44, dd "_law_written" 46, dd "_law_mixed" 47, dd "_law_pile" 48, dd "_law_take" 49, dd "_law_order_of" 50, dd "_law_whole" 51, dd "_law_net" 52, dd "_law_place" 53, dd "_law_kind" 54, dd "_law_far" 55, dd "_law_ends" 56, dd "_law_at" 57, dd "_law_is_end" 58, dd "_law_turns" 59, dd "_law_open" 60, dd "_law_is_turn" 61, dd "_law_is_going" 62, dd "_law_shut" 63, dd "_law_roads" 64, dd "_law_all_once" 65, dd "_law_is_plan" 66, dd "_law_sorted" 67, dd "_law_ascending" 68, dd "_law_least" 69, dd "_law_led" 70, dd "_law_plan" 71, dd "_law_drawn_table" 72, dd "_law_flags" 73, dd "_law_error" 74, dd "_law_even_net" 75, dd "_law_going_text" 76, dd "_law_going_of" 77, dd "_law_due" 78, dd "_law_both" 79, dd "_law_bent" 80, dd "_law_plan_good" 81, dd "law" 82, di "NoText" "NoText.__init__" 15]
def xsF : List Str := ["NoText"]
def fa : List He.Fa := [.glo "is_whole", .glo "is_below", .glo "is_point", .glo "is_road", .glo "is_right_net", .glo "is_right_end", .glo "look_at_net", .glo "place_at", .glo "kind_at", .glo "other_end", .glo "is_right_going", .glo "turns_in", .glo "is_open", .glo "shut_in", .glo "is_item", .glo "is_right_plan", .glo "going_written", .glo "plan_text", .glo "number_read", .glo "end_read", .glo "going_read", .glo "item_read", .glo "read_plan", .glo "_law_written", .glo "_law_mixed", .glo "_law_pile", .glo "_law_take", .glo "_law_order_of", .glo "_law_whole", .glo "_law_net", .glo "_law_place", .glo "_law_kind", .glo "_law_far", .glo "_law_ends", .glo "_law_at", .glo "_law_is_end", .glo "_law_turns", .glo "_law_open", .glo "_law_is_turn", .glo "_law_is_going", .glo "_law_shut", .glo "_law_roads", .glo "_law_all_once", .glo "_law_is_plan", .glo "_law_sorted", .glo "_law_ascending", .glo "_law_least", .glo "_law_led", .glo "_law_plan", .glo "_law_drawn_table", .glo "_law_flags", .glo "_law_error", .glo "_law_even_net", .glo "_law_going_text", .glo "_law_going_of", .glo "_law_due", .glo "_law_both", .glo "_law_bent", .glo "_law_plan_good", .glo "law", .free "ValueError", .free "all", .free "bool", .free "enumerate", .free "int", .free "isinstance", .free "len", .free "list", .free "max", .free "min", .free "range", .free "repr", .free "sorted", .free "str", .free "tuple", .free "zip", .int "MOST_PLACES" 12, .int "MOST_KINDS" 10, .str "FIGURES" "0123456789", .glo "TrailsError", .glo "NoNet", .glo "NoPlace", .glo "NoEnd", .glo "NoGoing", .glo "NoPlan", .glo "NoTable", .glo "NoTurns", .glo "NoCosts", .glo "NoRoad", .glo "NoNumber", .glo "NoKind", .glo "Unlike", .glo "Barred", .glo "NoText", .exc "NoNet", .exc "NoPlan"]
/-- the facts of the text behind its top -/
structure Tx (K : PySem.W.Frag) (mg : Str → Option Value) : Prop where
  g_is_whole : mg "is_whole" = some (.ref (He.ga K "is_whole"))
  d_is_whole : ∃ fd, FunD K "is_whole" "is_whole" (defArgs (top 19)) (defBody (top 19)) (defScope (top 19)) [] [] (He.ga K "is_whole") fd
  g_is_below : mg "is_below" = some (.ref (He.ga K "is_below"))
  d_is_below : ∃ fd, FunD K "is_below" "is_below" (defArgs (top 20)) (defBody (top 20)) (defScope (top 20)) [] [] (He.ga K "is_below") fd
  g_is_point : mg "is_point" = some (.ref (He.ga K "is_point"))
  d_is_point : ∃ fd, FunD K "is_point" "is_point" (defArgs (top 21)) (defBody (top 21)) (defScope (top 21)) [] [] (He.ga K "is_point") fd
  g_is_road : mg "is_road" = some (.ref (He.ga K "is_road"))
  d_is_road : ∃ fd, FunD K "is_road" "is_road" (defArgs (top 22)) (defBody (top 22)) (defScope (top 22)) [] [] (He.ga K "is_road") fd
  g_is_right_net : mg "is_right_net" = some (.ref (He.ga K "is_right_net"))
  d_is_right_net : ∃ fd, FunD K "is_right_net" "is_right_net" (defArgs (top 23)) (defBody (top 23)) (defScope (top 23)) [] [] (He.ga K "is_right_net") fd
  g_is_right_end : mg "is_right_end" = some (.ref (He.ga K "is_right_end"))
  d_is_right_end : ∃ fd, FunD K "is_right_end" "is_right_end" (defArgs (top 24)) (defBody (top 24)) (defScope (top 24)) [] [] (He.ga K "is_right_end") fd
  g_look_at_net : mg "look_at_net" = some (.ref (He.ga K "look_at_net"))
  d_look_at_net : ∃ fd, FunD K "look_at_net" "look_at_net" (defArgs (top 25)) (defBody (top 25)) (defScope (top 25)) [] [] (He.ga K "look_at_net") fd
  g_place_at : mg "place_at" = some (.ref (He.ga K "place_at"))
  d_place_at : ∃ fd, FunD K "place_at" "place_at" (defArgs (top 26)) (defBody (top 26)) (defScope (top 26)) [] [] (He.ga K "place_at") fd
  g_kind_at : mg "kind_at" = some (.ref (He.ga K "kind_at"))
  d_kind_at : ∃ fd, FunD K "kind_at" "kind_at" (defArgs (top 27)) (defBody (top 27)) (defScope (top 27)) [] [] (He.ga K "kind_at") fd
  g_other_end : mg "other_end" = some (.ref (He.ga K "other_end"))
  d_other_end : ∃ fd, FunD K "other_end" "other_end" (defArgs (top 28)) (defBody (top 28)) (defScope (top 28)) [] [] (He.ga K "other_end") fd
  g_is_right_going : mg "is_right_going" = some (.ref (He.ga K "is_right_going"))
  d_is_right_going : ∃ fd, FunD K "is_right_going" "is_right_going" (defArgs (top 30)) (defBody (top 30)) (defScope (top 30)) [] [] (He.ga K "is_right_going") fd
  g_turns_in : mg "turns_in" = some (.ref (He.ga K "turns_in"))
  d_turns_in : ∃ fd, FunD K "turns_in" "turns_in" (defArgs (top 31)) (defBody (top 31)) (defScope (top 31)) [] [] (He.ga K "turns_in") fd
  g_is_open : mg "is_open" = some (.ref (He.ga K "is_open"))
  d_is_open : ∃ fd, FunD K "is_open" "is_open" (defArgs (top 32)) (defBody (top 32)) (defScope (top 32)) [] [] (He.ga K "is_open") fd
  g_shut_in : mg "shut_in" = some (.ref (He.ga K "shut_in"))
  d_shut_in : ∃ fd, FunD K "shut_in" "shut_in" (defArgs (top 33)) (defBody (top 33)) (defScope (top 33)) [] [] (He.ga K "shut_in") fd
  g_is_item : mg "is_item" = some (.ref (He.ga K "is_item"))
  d_is_item : ∃ fd, FunD K "is_item" "is_item" (defArgs (top 34)) (defBody (top 34)) (defScope (top 34)) [] [] (He.ga K "is_item") fd
  g_is_right_plan : mg "is_right_plan" = some (.ref (He.ga K "is_right_plan"))
  d_is_right_plan : ∃ fd, FunD K "is_right_plan" "is_right_plan" (defArgs (top 35)) (defBody (top 35)) (defScope (top 35)) [] [] (He.ga K "is_right_plan") fd
  g_going_written : mg "going_written" = some (.ref (He.ga K "going_written"))
  d_going_written : ∃ fd, FunD K "going_written" "going_written" (defArgs (top 38)) (defBody (top 38)) (defScope (top 38)) [] [] (He.ga K "going_written") fd
  g_plan_text : mg "plan_text" = some (.ref (He.ga K "plan_text"))
  d_plan_text : ∃ fd, FunD K "plan_text" "plan_text" (defArgs (top 39)) (defBody (top 39)) (defScope (top 39)) [] [] (He.ga K "plan_text") fd
  g_number_read : mg "number_read" = some (.ref (He.ga K "number_read"))
  d_number_read : ∃ fd, FunD K "number_read" "number_read" (defArgs (top 40)) (defBody (top 40)) (defScope (top 40)) [] [] (He.ga K "number_read") fd
  g_end_read : mg "end_read" = some (.ref (He.ga K "end_read"))
  d_end_read : ∃ fd, FunD K "end_read" "end_read" (defArgs (top 41)) (defBody (top 41)) (defScope (top 41)) [] [] (He.ga K "end_read") fd
  g_going_read : mg "going_read" = some (.ref (He.ga K "going_read"))
  d_going_read : ∃ fd, FunD K "going_read" "going_read" (defArgs (top 42)) (defBody (top 42)) (defScope (top 42)) [] [] (He.ga K "going_read") fd
  g_item_read : mg "item_read" = some (.ref (He.ga K "item_read"))
  d_item_read : ∃ fd, FunD K "item_read" "item_read" (defArgs (top 43)) (defBody (top 43)) (defScope (top 43)) [] [] (He.ga K "item_read") fd
  g_read_plan : mg "read_plan" = some (.ref (He.ga K "read_plan"))
  d_read_plan : ∃ fd, FunD K "read_plan" "read_plan" (defArgs (top 44)) (defBody (top 44)) (defScope (top 44)) [] [] (He.ga K "read_plan") fd
  g__law_written : mg "_law_written" = some (.ref (He.ga K "_law_written"))
  d__law_written : ∃ fd, FunD K "_law_written" "_law_written" (defArgs (top 46)) (defBody (top 46)) (defScope (top 46)) [] [] (He.ga K "_law_written") fd
  g__law_mixed : mg "_law_mixed" = some (.ref (He.ga K "_law_mixed"))
  d__law_mixed : ∃ fd, FunD K "_law_mixed" "_law_mixed" (defArgs (top 47)) (defBody (top 47)) (defScope (top 47)) [] [] (He.ga K "_law_mixed") fd
  g__law_pile : mg "_law_pile" = some (.ref (He.ga K "_law_pile"))
  d__law_pile : ∃ fd, FunD K "_law_pile" "_law_pile" (defArgs (top 48)) (defBody (top 48)) (defScope (top 48)) [] [] (He.ga K "_law_pile") fd
  g__law_take : mg "_law_take" = some (.ref (He.ga K "_law_take"))
  d__law_take : ∃ fd, FunD K "_law_take" "_law_take" (defArgs (top 49)) (defBody (top 49)) (defScope (top 49)) [] [] (He.ga K "_law_take") fd
  g__law_order_of : mg "_law_order_of" = some (.ref (He.ga K "_law_order_of"))
  d__law_order_of : ∃ fd, FunD K "_law_order_of" "_law_order_of" (defArgs (top 50)) (defBody (top 50)) (defScope (top 50)) [] [] (He.ga K "_law_order_of") fd
  g__law_whole : mg "_law_whole" = some (.ref (He.ga K "_law_whole"))
  d__law_whole : ∃ fd, FunD K "_law_whole" "_law_whole" (defArgs (top 51)) (defBody (top 51)) (defScope (top 51)) [] [] (He.ga K "_law_whole") fd
  g__law_net : mg "_law_net" = some (.ref (He.ga K "_law_net"))
  d__law_net : ∃ fd, FunD K "_law_net" "_law_net" (defArgs (top 52)) (defBody (top 52)) (defScope (top 52)) [] [] (He.ga K "_law_net") fd
  g__law_place : mg "_law_place" = some (.ref (He.ga K "_law_place"))
  d__law_place : ∃ fd, FunD K "_law_place" "_law_place" (defArgs (top 53)) (defBody (top 53)) (defScope (top 53)) [] [] (He.ga K "_law_place") fd
  g__law_kind : mg "_law_kind" = some (.ref (He.ga K "_law_kind"))
  d__law_kind : ∃ fd, FunD K "_law_kind" "_law_kind" (defArgs (top 54)) (defBody (top 54)) (defScope (top 54)) [] [] (He.ga K "_law_kind") fd
  g__law_far : mg "_law_far" = some (.ref (He.ga K "_law_far"))
  d__law_far : ∃ fd, FunD K "_law_far" "_law_far" (defArgs (top 55)) (defBody (top 55)) (defScope (top 55)) [] [] (He.ga K "_law_far") fd
  g__law_ends : mg "_law_ends" = some (.ref (He.ga K "_law_ends"))
  d__law_ends : ∃ fd, FunD K "_law_ends" "_law_ends" (defArgs (top 56)) (defBody (top 56)) (defScope (top 56)) [] [] (He.ga K "_law_ends") fd
  g__law_at : mg "_law_at" = some (.ref (He.ga K "_law_at"))
  d__law_at : ∃ fd, FunD K "_law_at" "_law_at" (defArgs (top 57)) (defBody (top 57)) (defScope (top 57)) [] [] (He.ga K "_law_at") fd
  g__law_is_end : mg "_law_is_end" = some (.ref (He.ga K "_law_is_end"))
  d__law_is_end : ∃ fd, FunD K "_law_is_end" "_law_is_end" (defArgs (top 58)) (defBody (top 58)) (defScope (top 58)) [] [] (He.ga K "_law_is_end") fd
  g__law_turns : mg "_law_turns" = some (.ref (He.ga K "_law_turns"))
  d__law_turns : ∃ fd, FunD K "_law_turns" "_law_turns" (defArgs (top 59)) (defBody (top 59)) (defScope (top 59)) [] [] (He.ga K "_law_turns") fd
  g__law_open : mg "_law_open" = some (.ref (He.ga K "_law_open"))
  d__law_open : ∃ fd, FunD K "_law_open" "_law_open" (defArgs (top 60)) (defBody (top 60)) (defScope (top 60)) [] [] (He.ga K "_law_open") fd
  g__law_is_turn : mg "_law_is_turn" = some (.ref (He.ga K "_law_is_turn"))
  d__law_is_turn : ∃ fd, FunD K "_law_is_turn" "_law_is_turn" (defArgs (top 61)) (defBody (top 61)) (defScope (top 61)) [] [] (He.ga K "_law_is_turn") fd
  g__law_is_going : mg "_law_is_going" = some (.ref (He.ga K "_law_is_going"))
  d__law_is_going : ∃ fd, FunD K "_law_is_going" "_law_is_going" (defArgs (top 62)) (defBody (top 62)) (defScope (top 62)) [] [] (He.ga K "_law_is_going") fd
  g__law_shut : mg "_law_shut" = some (.ref (He.ga K "_law_shut"))
  d__law_shut : ∃ fd, FunD K "_law_shut" "_law_shut" (defArgs (top 63)) (defBody (top 63)) (defScope (top 63)) [] [] (He.ga K "_law_shut") fd
  g__law_roads : mg "_law_roads" = some (.ref (He.ga K "_law_roads"))
  d__law_roads : ∃ fd, FunD K "_law_roads" "_law_roads" (defArgs (top 64)) (defBody (top 64)) (defScope (top 64)) [] [] (He.ga K "_law_roads") fd
  g__law_all_once : mg "_law_all_once" = some (.ref (He.ga K "_law_all_once"))
  d__law_all_once : ∃ fd, FunD K "_law_all_once" "_law_all_once" (defArgs (top 65)) (defBody (top 65)) (defScope (top 65)) [] [] (He.ga K "_law_all_once") fd
  g__law_is_plan : mg "_law_is_plan" = some (.ref (He.ga K "_law_is_plan"))
  d__law_is_plan : ∃ fd, FunD K "_law_is_plan" "_law_is_plan" (defArgs (top 66)) (defBody (top 66)) (defScope (top 66)) [] [] (He.ga K "_law_is_plan") fd
  g__law_sorted : mg "_law_sorted" = some (.ref (He.ga K "_law_sorted"))
  d__law_sorted : ∃ fd, FunD K "_law_sorted" "_law_sorted" (defArgs (top 67)) (defBody (top 67)) (defScope (top 67)) [] [] (He.ga K "_law_sorted") fd
  g__law_ascending : mg "_law_ascending" = some (.ref (He.ga K "_law_ascending"))
  d__law_ascending : ∃ fd, FunD K "_law_ascending" "_law_ascending" (defArgs (top 68)) (defBody (top 68)) (defScope (top 68)) [] [] (He.ga K "_law_ascending") fd
  g__law_least : mg "_law_least" = some (.ref (He.ga K "_law_least"))
  d__law_least : ∃ fd, FunD K "_law_least" "_law_least" (defArgs (top 69)) (defBody (top 69)) (defScope (top 69)) [] [] (He.ga K "_law_least") fd
  g__law_led : mg "_law_led" = some (.ref (He.ga K "_law_led"))
  d__law_led : ∃ fd, FunD K "_law_led" "_law_led" (defArgs (top 70)) (defBody (top 70)) (defScope (top 70)) [] [] (He.ga K "_law_led") fd
  g__law_plan : mg "_law_plan" = some (.ref (He.ga K "_law_plan"))
  d__law_plan : ∃ fd, FunD K "_law_plan" "_law_plan" (defArgs (top 71)) (defBody (top 71)) (defScope (top 71)) [] [] (He.ga K "_law_plan") fd
  g__law_drawn_table : mg "_law_drawn_table" = some (.ref (He.ga K "_law_drawn_table"))
  d__law_drawn_table : ∃ fd, FunD K "_law_drawn_table" "_law_drawn_table" (defArgs (top 72)) (defBody (top 72)) (defScope (top 72)) [] [] (He.ga K "_law_drawn_table") fd
  g__law_flags : mg "_law_flags" = some (.ref (He.ga K "_law_flags"))
  d__law_flags : ∃ fd, FunD K "_law_flags" "_law_flags" (defArgs (top 73)) (defBody (top 73)) (defScope (top 73)) [] [] (He.ga K "_law_flags") fd
  g__law_error : mg "_law_error" = some (.ref (He.ga K "_law_error"))
  d__law_error : ∃ fd, FunD K "_law_error" "_law_error" (defArgs (top 74)) (defBody (top 74)) (defScope (top 74)) [] [] (He.ga K "_law_error") fd
  g__law_even_net : mg "_law_even_net" = some (.ref (He.ga K "_law_even_net"))
  d__law_even_net : ∃ fd, FunD K "_law_even_net" "_law_even_net" (defArgs (top 75)) (defBody (top 75)) (defScope (top 75)) [] [] (He.ga K "_law_even_net") fd
  g__law_going_text : mg "_law_going_text" = some (.ref (He.ga K "_law_going_text"))
  d__law_going_text : ∃ fd, FunD K "_law_going_text" "_law_going_text" (defArgs (top 76)) (defBody (top 76)) (defScope (top 76)) [] [] (He.ga K "_law_going_text") fd
  g__law_going_of : mg "_law_going_of" = some (.ref (He.ga K "_law_going_of"))
  d__law_going_of : ∃ fd, FunD K "_law_going_of" "_law_going_of" (defArgs (top 77)) (defBody (top 77)) (defScope (top 77)) [] [] (He.ga K "_law_going_of") fd
  g__law_due : mg "_law_due" = some (.ref (He.ga K "_law_due"))
  d__law_due : ∃ fd, FunD K "_law_due" "_law_due" (defArgs (top 78)) (defBody (top 78)) (defScope (top 78)) [] [] (He.ga K "_law_due") fd
  g__law_both : mg "_law_both" = some (.ref (He.ga K "_law_both"))
  d__law_both : ∃ fd, FunD K "_law_both" "_law_both" (defArgs (top 79)) (defBody (top 79)) (defScope (top 79)) [] [] (He.ga K "_law_both") fd
  g__law_bent : mg "_law_bent" = some (.ref (He.ga K "_law_bent"))
  d__law_bent : ∃ fd, FunD K "_law_bent" "_law_bent" (defArgs (top 80)) (defBody (top 80)) (defScope (top 80)) [] [] (He.ga K "_law_bent") fd
  g__law_plan_good : mg "_law_plan_good" = some (.ref (He.ga K "_law_plan_good"))
  d__law_plan_good : ∃ fd, FunD K "_law_plan_good" "_law_plan_good" (defArgs (top 81)) (defBody (top 81)) (defScope (top 81)) [] [] (He.ga K "_law_plan_good") fd
  g_law : mg "law" = some (.ref (He.ga K "law"))
  d_law : ∃ fd, FunD K "law" "law" (defArgs (top 82)) (defBody (top 82)) (defScope (top 82)) [] [] (He.ga K "law") fd
  b_ValueError : mg "ValueError" = none
  b_all : mg "all" = none
  b_bool : mg "bool" = none
  b_enumerate : mg "enumerate" = none
  b_int : mg "int" = none
  b_isinstance : mg "isinstance" = none
  b_len : mg "len" = none
  b_list : mg "list" = none
  b_max : mg "max" = none
  b_min : mg "min" = none
  b_range : mg "range" = none
  b_repr : mg "repr" = none
  b_sorted : mg "sorted" = none
  b_str : mg "str" = none
  b_tuple : mg "tuple" = none
  b_zip : mg "zip" = none
  c_MOST_PLACES : ∃ t, mg "MOST_PLACES" = some (.int 12 t)
  c_MOST_KINDS : ∃ t, mg "MOST_KINDS" = some (.int 10 t)
  c_FIGURES : ∃ t, mg "FIGURES" = some (.str "0123456789" t)
  g_TrailsError : mg "TrailsError" = some (.ref (He.ga K "TrailsError"))
  g_NoNet : mg "NoNet" = some (.ref (He.ga K "NoNet"))
  g_NoPlace : mg "NoPlace" = some (.ref (He.ga K "NoPlace"))
  g_NoEnd : mg "NoEnd" = some (.ref (He.ga K "NoEnd"))
  g_NoGoing : mg "NoGoing" = some (.ref (He.ga K "NoGoing"))
  g_NoPlan : mg "NoPlan" = some (.ref (He.ga K "NoPlan"))
  g_NoTable : mg "NoTable" = some (.ref (He.ga K "NoTable"))
  g_NoTurns : mg "NoTurns" = some (.ref (He.ga K "NoTurns"))
  g_NoCosts : mg "NoCosts" = some (.ref (He.ga K "NoCosts"))
  g_NoRoad : mg "NoRoad" = some (.ref (He.ga K "NoRoad"))
  g_NoNumber : mg "NoNumber" = some (.ref (He.ga K "NoNumber"))
  g_NoKind : mg "NoKind" = some (.ref (He.ga K "NoKind"))
  g_Unlike : mg "Unlike" = some (.ref (He.ga K "Unlike"))
  g_Barred : mg "Barred" = some (.ref (He.ga K "Barred"))
  g_NoText : mg "NoText" = some (.ref (He.ga K "NoText"))
  x_NoNet : (He.Fa.exc "NoNet").ok K = true
  x_NoPlan : (He.Fa.exc "NoPlan").ok K = true
  xs : Kd.excsB xsL K = true
  xf : Kd.excsF xsL xsF K = true
  i_NoText : ∃ fd, FunD K "__init__" "NoText.__init__" (defArgs (clsAt (top 15) 0)) (defBody (clsAt (top 15) 0)) (defScope (clsAt (top 15) 0)) [] [] (He.ma K (He.ga K "NoText") "__init__") fd
theorem tx_of {K : PySem.W.Frag} {h : Heap} {mg : Str → Option Value} (inK : K.In h) (G : h.Ns mainGlobals mg) (c : He.SaysD fa fn K) (cx : Kd.excsF xsL xsF K = true) : Tx K mg where
  g_is_whole := He.glo_ok inK G (c.fact 0 (f := .glo "is_whole") rfl)
  d_is_whole := c.def_ 0 (d := dd "is_whole" 19) rfl
  g_is_below := He.glo_ok inK G (c.fact 1 (f := .glo "is_below") rfl)
  d_is_below := c.def_ 1 (d := dd "is_below" 20) rfl
  g_is_point := He.glo_ok inK G (c.fact 2 (f := .glo "is_point") rfl)
  d_is_point := c.def_ 2 (d := dd "is_point" 21) rfl
  g_is_road := He.glo_ok inK G (c.fact 3 (f := .glo "is_road") rfl)
  d_is_road := c.def_ 3 (d := dd "is_road" 22) rfl
  g_is_right_net := He.glo_ok inK G (c.fact 4 (f := .glo "is_right_net") rfl)
  d_is_right_net := c.def_ 4 (d := dd "is_right_net" 23) rfl
  g_is_right_end := He.glo_ok inK G (c.fact 5 (f := .glo "is_right_end") rfl)
  d_is_right_end := c.def_ 5 (d := dd "is_right_end" 24) rfl
  g_look_at_net := He.glo_ok inK G (c.fact 6 (f := .glo "look_at_net") rfl)
  d_look_at_net := c.def_ 6 (d := dd "look_at_net" 25) rfl
  g_place_at := He.glo_ok inK G (c.fact 7 (f := .glo "place_at") rfl)
  d_place_at := c.def_ 7 (d := dd "place_at" 26) rfl
  g_kind_at := He.glo_ok inK G (c.fact 8 (f := .glo "kind_at") rfl)
  d_kind_at := c.def_ 8 (d := dd "kind_at" 27) rfl
  g_other_end := He.glo_ok inK G (c.fact 9 (f := .glo "other_end") rfl)
  d_other_end := c.def_ 9 (d := dd "other_end" 28) rfl
  g_is_right_going := He.glo_ok inK G (c.fact 10 (f := .glo "is_right_going") rfl)
  d_is_right_going := c.def_ 10 (d := dd "is_right_going" 30) rfl
  g_turns_in := He.glo_ok inK G (c.fact 11 (f := .glo "turns_in") rfl)
  d_turns_in := c.def_ 11 (d := dd "turns_in" 31) rfl
  g_is_open := He.glo_ok inK G (c.fact 12 (f := .glo "is_open") rfl)
  d_is_open := c.def_ 12 (d := dd "is_open" 32) rfl
  g_shut_in := He.glo_ok inK G (c.fact 13 (f := .glo "shut_in") rfl)
  d_shut_in := c.def_ 13 (d := dd "shut_in" 33) rfl
  g_is_item := He.glo_ok inK G (c.fact 14 (f := .glo "is_item") rfl)
  d_is_item := c.def_ 14 (d := dd "is_item" 34) rfl
  g_is_right_plan := He.glo_ok inK G (c.fact 15 (f := .glo "is_right_plan") rfl)
  d_is_right_plan := c.def_ 15 (d := dd "is_right_plan" 35) rfl
  g_going_written := He.glo_ok inK G (c.fact 16 (f := .glo "going_written") rfl)
  d_going_written := c.def_ 16 (d := dd "going_written" 38) rfl
  g_plan_text := He.glo_ok inK G (c.fact 17 (f := .glo "plan_text") rfl)
  d_plan_text := c.def_ 17 (d := dd "plan_text" 39) rfl
  g_number_read := He.glo_ok inK G (c.fact 18 (f := .glo "number_read") rfl)
  d_number_read := c.def_ 18 (d := dd "number_read" 40) rfl
  g_end_read := He.glo_ok inK G (c.fact 19 (f := .glo "end_read") rfl)
  d_end_read := c.def_ 19 (d := dd "end_read" 41) rfl
  g_going_read := He.glo_ok inK G (c.fact 20 (f := .glo "going_read") rfl)
  d_going_read := c.def_ 20 (d := dd "going_read" 42) rfl
  g_item_read := He.glo_ok inK G (c.fact 21 (f := .glo "item_read") rfl)
  d_item_read := c.def_ 21 (d := dd "item_read" 43) rfl
  g_read_plan := He.glo_ok inK G (c.fact 22 (f := .glo "read_plan") rfl)
  d_read_plan := c.def_ 22 (d := dd "read_plan" 44) rfl
  g__law_written := He.glo_ok inK G (c.fact 23 (f := .glo "_law_written") rfl)
  d__law_written := c.def_ 23 (d := dd "_law_written" 46) rfl
  g__law_mixed := He.glo_ok inK G (c.fact 24 (f := .glo "_law_mixed") rfl)
  d__law_mixed := c.def_ 24 (d := dd "_law_mixed" 47) rfl
  g__law_pile := He.glo_ok inK G (c.fact 25 (f := .glo "_law_pile") rfl)
  d__law_pile := c.def_ 25 (d := dd "_law_pile" 48) rfl
  g__law_take := He.glo_ok inK G (c.fact 26 (f := .glo "_law_take") rfl)
  d__law_take := c.def_ 26 (d := dd "_law_take" 49) rfl
  g__law_order_of := He.glo_ok inK G (c.fact 27 (f := .glo "_law_order_of") rfl)
  d__law_order_of := c.def_ 27 (d := dd "_law_order_of" 50) rfl
  g__law_whole := He.glo_ok inK G (c.fact 28 (f := .glo "_law_whole") rfl)
  d__law_whole := c.def_ 28 (d := dd "_law_whole" 51) rfl
  g__law_net := He.glo_ok inK G (c.fact 29 (f := .glo "_law_net") rfl)
  d__law_net := c.def_ 29 (d := dd "_law_net" 52) rfl
  g__law_place := He.glo_ok inK G (c.fact 30 (f := .glo "_law_place") rfl)
  d__law_place := c.def_ 30 (d := dd "_law_place" 53) rfl
  g__law_kind := He.glo_ok inK G (c.fact 31 (f := .glo "_law_kind") rfl)
  d__law_kind := c.def_ 31 (d := dd "_law_kind" 54) rfl
  g__law_far := He.glo_ok inK G (c.fact 32 (f := .glo "_law_far") rfl)
  d__law_far := c.def_ 32 (d := dd "_law_far" 55) rfl
  g__law_ends := He.glo_ok inK G (c.fact 33 (f := .glo "_law_ends") rfl)
  d__law_ends := c.def_ 33 (d := dd "_law_ends" 56) rfl
  g__law_at := He.glo_ok inK G (c.fact 34 (f := .glo "_law_at") rfl)
  d__law_at := c.def_ 34 (d := dd "_law_at" 57) rfl
  g__law_is_end := He.glo_ok inK G (c.fact 35 (f := .glo "_law_is_end") rfl)
  d__law_is_end := c.def_ 35 (d := dd "_law_is_end" 58) rfl
  g__law_turns := He.glo_ok inK G (c.fact 36 (f := .glo "_law_turns") rfl)
  d__law_turns := c.def_ 36 (d := dd "_law_turns" 59) rfl
  g__law_open := He.glo_ok inK G (c.fact 37 (f := .glo "_law_open") rfl)
  d__law_open := c.def_ 37 (d := dd "_law_open" 60) rfl
  g__law_is_turn := He.glo_ok inK G (c.fact 38 (f := .glo "_law_is_turn") rfl)
  d__law_is_turn := c.def_ 38 (d := dd "_law_is_turn" 61) rfl
  g__law_is_going := He.glo_ok inK G (c.fact 39 (f := .glo "_law_is_going") rfl)
  d__law_is_going := c.def_ 39 (d := dd "_law_is_going" 62) rfl
  g__law_shut := He.glo_ok inK G (c.fact 40 (f := .glo "_law_shut") rfl)
  d__law_shut := c.def_ 40 (d := dd "_law_shut" 63) rfl
  g__law_roads := He.glo_ok inK G (c.fact 41 (f := .glo "_law_roads") rfl)
  d__law_roads := c.def_ 41 (d := dd "_law_roads" 64) rfl
  g__law_all_once := He.glo_ok inK G (c.fact 42 (f := .glo "_law_all_once") rfl)
  d__law_all_once := c.def_ 42 (d := dd "_law_all_once" 65) rfl
  g__law_is_plan := He.glo_ok inK G (c.fact 43 (f := .glo "_law_is_plan") rfl)
  d__law_is_plan := c.def_ 43 (d := dd "_law_is_plan" 66) rfl
  g__law_sorted := He.glo_ok inK G (c.fact 44 (f := .glo "_law_sorted") rfl)
  d__law_sorted := c.def_ 44 (d := dd "_law_sorted" 67) rfl
  g__law_ascending := He.glo_ok inK G (c.fact 45 (f := .glo "_law_ascending") rfl)
  d__law_ascending := c.def_ 45 (d := dd "_law_ascending" 68) rfl
  g__law_least := He.glo_ok inK G (c.fact 46 (f := .glo "_law_least") rfl)
  d__law_least := c.def_ 46 (d := dd "_law_least" 69) rfl
  g__law_led := He.glo_ok inK G (c.fact 47 (f := .glo "_law_led") rfl)
  d__law_led := c.def_ 47 (d := dd "_law_led" 70) rfl
  g__law_plan := He.glo_ok inK G (c.fact 48 (f := .glo "_law_plan") rfl)
  d__law_plan := c.def_ 48 (d := dd "_law_plan" 71) rfl
  g__law_drawn_table := He.glo_ok inK G (c.fact 49 (f := .glo "_law_drawn_table") rfl)
  d__law_drawn_table := c.def_ 49 (d := dd "_law_drawn_table" 72) rfl
  g__law_flags := He.glo_ok inK G (c.fact 50 (f := .glo "_law_flags") rfl)
  d__law_flags := c.def_ 50 (d := dd "_law_flags" 73) rfl
  g__law_error := He.glo_ok inK G (c.fact 51 (f := .glo "_law_error") rfl)
  d__law_error := c.def_ 51 (d := dd "_law_error" 74) rfl
  g__law_even_net := He.glo_ok inK G (c.fact 52 (f := .glo "_law_even_net") rfl)
  d__law_even_net := c.def_ 52 (d := dd "_law_even_net" 75) rfl
  g__law_going_text := He.glo_ok inK G (c.fact 53 (f := .glo "_law_going_text") rfl)
  d__law_going_text := c.def_ 53 (d := dd "_law_going_text" 76) rfl
  g__law_going_of := He.glo_ok inK G (c.fact 54 (f := .glo "_law_going_of") rfl)
  d__law_going_of := c.def_ 54 (d := dd "_law_going_of" 77) rfl
  g__law_due := He.glo_ok inK G (c.fact 55 (f := .glo "_law_due") rfl)
  d__law_due := c.def_ 55 (d := dd "_law_due" 78) rfl
  g__law_both := He.glo_ok inK G (c.fact 56 (f := .glo "_law_both") rfl)
  d__law_both := c.def_ 56 (d := dd "_law_both" 79) rfl
  g__law_bent := He.glo_ok inK G (c.fact 57 (f := .glo "_law_bent") rfl)
  d__law_bent := c.def_ 57 (d := dd "_law_bent" 80) rfl
  g__law_plan_good := He.glo_ok inK G (c.fact 58 (f := .glo "_law_plan_good") rfl)
  d__law_plan_good := c.def_ 58 (d := dd "_law_plan_good" 81) rfl
  g_law := He.glo_ok inK G (c.fact 59 (f := .glo "law") rfl)
  d_law := c.def_ 59 (d := dd "law" 82) rfl
  b_ValueError := He.free_ok inK G (c.fact 60 (f := .free "ValueError") rfl)
  b_all := He.free_ok inK G (c.fact 61 (f := .free "all") rfl)
  b_bool := He.free_ok inK G (c.fact 62 (f := .free "bool") rfl)
  b_enumerate := He.free_ok inK G (c.fact 63 (f := .free "enumerate") rfl)
  b_int := He.free_ok inK G (c.fact 64 (f := .free "int") rfl)
  b_isinstance := He.free_ok inK G (c.fact 65 (f := .free "isinstance") rfl)
  b_len := He.free_ok inK G (c.fact 66 (f := .free "len") rfl)
  b_list := He.free_ok inK G (c.fact 67 (f := .free "list") rfl)
  b_max := He.free_ok inK G (c.fact 68 (f := .free "max") rfl)
  b_min := He.free_ok inK G (c.fact 69 (f := .free "min") rfl)
  b_range := He.free_ok inK G (c.fact 70 (f := .free "range") rfl)
  b_repr := He.free_ok inK G (c.fact 71 (f := .free "repr") rfl)
  b_sorted := He.free_ok inK G (c.fact 72 (f := .free "sorted") rfl)
  b_str := He.free_ok inK G (c.fact 73 (f := .free "str") rfl)
  b_tuple := He.free_ok inK G (c.fact 74 (f := .free "tuple") rfl)
  b_zip := He.free_ok inK G (c.fact 75 (f := .free "zip") rfl)
  c_MOST_PLACES := He.int_ok inK G (c.fact 76 (f := .int "MOST_PLACES" 12) rfl)
  c_MOST_KINDS := He.int_ok inK G (c.fact 77 (f := .int "MOST_KINDS" 10) rfl)
  c_FIGURES := He.str_ok inK G (c.fact 78 (f := .str "FIGURES" "0123456789") rfl)
  g_TrailsError := He.glo_ok inK G (c.fact 79 (f := .glo "TrailsError") rfl)
  g_NoNet := He.glo_ok inK G (c.fact 80 (f := .glo "NoNet") rfl)
  g_NoPlace := He.glo_ok inK G (c.fact 81 (f := .glo "NoPlace") rfl)
  g_NoEnd := He.glo_ok inK G (c.fact 82 (f := .glo "NoEnd") rfl)
  g_NoGoing := He.glo_ok inK G (c.fact 83 (f := .glo "NoGoing") rfl)
  g_NoPlan := He.glo_ok inK G (c.fact 84 (f := .glo "NoPlan") rfl)
  g_NoTable := He.glo_ok inK G (c.fact 85 (f := .glo "NoTable") rfl)
  g_NoTurns := He.glo_ok inK G (c.fact 86 (f := .glo "NoTurns") rfl)
  g_NoCosts := He.glo_ok inK G (c.fact 87 (f := .glo "NoCosts") rfl)
  g_NoRoad := He.glo_ok inK G (c.fact 88 (f := .glo "NoRoad") rfl)
  g_NoNumber := He.glo_ok inK G (c.fact 89 (f := .glo "NoNumber") rfl)
  g_NoKind := He.glo_ok inK G (c.fact 90 (f := .glo "NoKind") rfl)
  g_Unlike := He.glo_ok inK G (c.fact 91 (f := .glo "Unlike") rfl)
  g_Barred := He.glo_ok inK G (c.fact 92 (f := .glo "Barred") rfl)
  g_NoText := He.glo_ok inK G (c.fact 93 (f := .glo "NoText") rfl)
  x_NoNet := c.fact 94 (f := .exc "NoNet") rfl
  x_NoPlan := c.fact 95 (f := .exc "NoPlan") rfl
  xs := Kd.excsF_b cx
  xf := cx
  i_NoText := c.def_ 60 (d := di "NoText" "NoText.__init__" 15) rfl
theorem fx_NoText {K : PySem.W.Frag} {mg : Str → Option Value} (T : Tx K mg) (P : Program) (w : World) (base : Heap) : Kd.RzF P w K mg base "NoText" := by
  obtain ⟨fd, F⟩ := T.i_NoText
  have o := Kd.excsF_f T.xf (x := "NoText") (by decide)
  exact ⟨fd, Kd.init_ok (f := "line") o.t o.no F ⟨rfl, rfl, rfl, by decide +kernel, rfl, by decide +kernel, by decide +kernel⟩ (by decide) (by decide) (by decide +kernel) (by decide +kernel) (fun _ => rfl), F.bindsN fun _ _ _ _ _ _ us hl => match us, hl with | [_, _], _ => rfl⟩
abbrev R : PySem.W.OpenRow := PySem.W.OpenLaw.row PySem.Challenge.rw_kindtrails_k61_plans_written
abbrev hk : PySem.W.Hook := He.hookX 4 fa fn [] [] (Kd.excsF xsL xsF)
def ob (s : PySem.W.SharedT) : He.AlX := He.obsX 4 fa fn [] [] (Kd.excsF xsL xsF) (HandSHeadRun.getT s)
theorem ob_eq (s : PySem.W.SharedT) : ob s = hk.obs s.abs := He.obsX_eq (HandSHeadRun.getT_eq s)
def loose0 : List PySem.Str := ["TrailsError", "NoNet", "NoPlace", "NoEnd", "NoGoing", "NoPlan", "NoTable", "NoTurns", "NoCosts", "NoRoad", "NoNumber", "NoKind", "Unlike", "Barred", "NoText", "MOST_PLACES", "MOST_KINDS", "is_whole", "is_below", "is_point"]
def loose1 : List PySem.Str := ["is_road", "is_right_net", "is_right_end", "look_at_net", "place_at", "kind_at", "other_end", "is_right_going", "turns_in", "is_open", "shut_in", "is_item", "is_right_plan", "FIGURES", "going_written", "plan_text", "number_read", "end_read", "going_read", "item_read"]
def loose2 : List PySem.Str := ["read_plan", "_law_written", "_law_mixed", "_law_pile", "_law_take", "_law_order_of", "_law_whole", "_law_net", "_law_place", "_law_kind", "_law_far", "_law_ends", "_law_at", "_law_is_end", "_law_turns", "_law_open", "_law_is_turn", "_law_is_going", "_law_shut", "_law_roads"]
def loose3 : List PySem.Str := ["_law_all_once", "_law_is_plan", "_law_sorted", "_law_ascending", "_law_least", "_law_led", "_law_plan", "_law_drawn_table", "_law_flags", "_law_error", "_law_even_net", "_law_going_text", "_law_going_of", "_law_due", "_law_both", "_law_bent", "_law_plan_good"]
def loose : List PySem.Str := loose0 ++ loose1 ++ loose2 ++ loose3
theorem run (w : World) : HandSHeadRun.RunEq R (PySem.W.view R.prog [82]) hk ob 20000 loose w := by
  intro os
  kernel_rfl
end KHead
namespace KHead
open PySem PySem.Spec PyProof.Rows L2 Kd
abbrev nm_is_whole : List Str := ["thing"]
theorem sc_is_whole : FnScope nm_is_whole ["thing"] (defScope (top 19)) := ⟨rfl, rfl, rfl, by decide +kernel, rfl, by decide +kernel, by decide +kernel⟩
theorem ok_is_whole {K : PySem.W.Frag} {mg : Str → Option Value} (T : Tx K mg) (P : Program) (w : World) (base : Heap) : Cal P w K mg base 1 "is_whole" [] [] 1 m_is_whole false := by
  obtain ⟨fd, F⟩ := T.d_is_whole
  have scN := sc_is_whole
  refine ⟨_, fd, ["thing"], [], [], T.g_is_whole, F.kp, fun_ok [] false F sc_is_whole rfl rfl fun cdv A outer s H E B hr gd tk po hB hfr => ?_, F.bindsN fun _ _ _ _ _ _ us hl => match us, hl with | [_], _ => rfl, .nil, fun _ _ => .nil⟩
  exact (ds_one (ds_ret hfr (de_and (de_isi "int" (de_var 0) T.b_isinstance T.b_int) (de_one (de_not (de_isi "bool" (de_var 0) T.b_isinstance T.b_bool))))))

abbrev nm_place_at : List Str := ["net", "end"]
theorem sc_place_at : FnScope nm_place_at ["net", "end"] (defScope (top 26)) := ⟨rfl, rfl, rfl, by decide +kernel, rfl, by decide +kernel, by decide +kernel⟩
theorem ok_place_at {K : PySem.W.Frag} {mg : Str → Option Value} (T : Tx K mg) (P : Program) (w : World) (base : Heap) : Cal P w K mg base 1 "place_at" [] [] 2 m_place_at false := by
  obtain ⟨fd, F⟩ := T.d_place_at
  have scN := sc_place_at
  refine ⟨_, fd, ["net", "end"], [], [], T.g_place_at, F.kp, fun_ok [] false F sc_place_at rfl rfl fun cdv A outer s H E B hr gd tk po hB hfr => ?_, F.bindsN fun _ _ _ _ _ _ us hl => match us, hl with | [_, _], _ => rfl, .nil, fun _ _ => .nil⟩
  exact (ds_one (ds_ret hfr (de_ix ix_seq opd_ix (de_ix ix_seq opd_ix (de_ix ix_seq opd_ix (de_ix ix_seq opd_ix (de_var 0) de_int) (de_ix ix_seq opd_ix (de_var 1) de_int)) (de_ix ix_seq opd_ix (de_var 1) de_int)) de_int)))

abbrev nm_kind_at : List Str := ["net", "end"]
theorem sc_kind_at : FnScope nm_kind_at ["net", "end"] (defScope (top 27)) := ⟨rfl, rfl, rfl, by decide +kernel, rfl, by decide +kernel, by decide +kernel⟩
theorem ok_kind_at {K : PySem.W.Frag} {mg : Str → Option Value} (T : Tx K mg) (P : Program) (w : World) (base : Heap) : Cal P w K mg base 1 "kind_at" [] [] 2 m_kind_at false := by
  obtain ⟨fd, F⟩ := T.d_kind_at
  have scN := sc_kind_at
  refine ⟨_, fd, ["net", "end"], [], [], T.g_kind_at, F.kp, fun_ok [] false F sc_kind_at rfl rfl fun cdv A outer s H E B hr gd tk po hB hfr => ?_, F.bindsN fun _ _ _ _ _ _ us hl => match us, hl with | [_, _], _ => rfl, .nil, fun _ _ => .nil⟩
  exact (ds_one (ds_ret hfr (de_ix ix_seq opd_ix (de_ix ix_seq opd_ix (de_ix ix_seq opd_ix (de_ix ix_seq opd_ix (de_var 0) de_int) (de_ix ix_seq opd_ix (de_var 1) de_int)) (de_ix ix_seq opd_ix (de_var 1) de_int)) de_int)))

abbrev nm_other_end : List Str := ["end"]
theorem sc_other_end : FnScope nm_other_end ["end"] (defScope (top 28)) := ⟨rfl, rfl, rfl, by decide +kernel, rfl, by decide +kernel, by decide +kernel⟩
theorem ok_other_end {K : PySem.W.Frag} {mg : Str → Option Value} (T : Tx K mg) (P : Program) (w : World) (base : Heap) : Cal P w K mg base 1 "other_end" [] [] 1 m_other_end false := by
  obtain ⟨fd, F⟩ := T.d_other_end
  have scN := sc_other_end
  refine ⟨_, fd, ["end"], [], [], T.g_other_end, F.kp, fun_ok [] false F sc_other_end rfl rfl fun cdv A outer s H E B hr gd tk po hB hfr => ?_, F.bindsN fun _ _ _ _ _ _ us hl => match us, hl with | [_], _ => rfl, .nil, fun _ _ => .nil⟩
  exact (ds_one (ds_ret hfr (de_tup (da_cons (de_ix ix_seq opd_ix (de_var 0) de_int) (da_cons (de_op op_sub opd_sub de_int (de_ix ix_seq opd_ix (de_var 0) de_int)) da_nil)))))

abbrev nm_going_written : List Str := ["going", "road", "side"]
theorem sc_going_written : FnScope nm_going_written ["going"] (defScope (top 38)) := ⟨rfl, rfl, rfl, by decide +kernel, rfl, by decide +kernel, by decide +kernel⟩
theorem ok_going_written {K : PySem.W.Frag} {mg : Str → Option Value} (T : Tx K mg) (P : Program) (w : World) (base : Heap) : Cal P w K mg base 1 "going_written" [] [] 1 m_going_written false := by
  obtain ⟨fd, F⟩ := T.d_going_written
  have scN := sc_going_written
  refine ⟨_, fd, ["going"], [], [], T.g_going_written, F.kp, fun_ok [] false F sc_going_written rfl rfl fun cdv A outer s H E B hr gd tk po hB hfr => ?_, F.bindsN fun _ _ _ _ _ _ us hl => match us, hl with | [_], _ => rfl, .nil, fun _ _ => .nil⟩
  exact (ds_one (ds_ret hfr (de_tm1 PySem.F.slot_str_join PySem.F.type_str_join mt_join tmd_join de_str (de_lc rfl scN.nd hB (di_seq (de_var 0)) (blkOk_by (own := [("road", 1), ("side", 2)]) (N := nm_going_written) (sc := defScope (top 38)) (by decide +kernel)) (fun _ _ _ _ _ B hW hB => (dg_tup rfl (dgs_cons (dg_name 1 scN.nd) (dgs_cons (dg_name 2 scN.nd) dgs_nil)))) (fun _ _ _ _ _ B hW hB => dts_nil) (fun _ _ _ _ _ B hW hB => (de_op op_addG opd_add (de_callT call_str_int fnd_strI T.b_str (da_cons (de_var 1) da_nil)) (de_ix ix_seq opd_ix de_str (de_var 2))))))))

abbrev nm_number_read : List Str := ["word", "figure"]
theorem sc_number_read : FnScope nm_number_read ["word"] (defScope (top 40)) := ⟨rfl, rfl, rfl, by decide +kernel, rfl, by decide +kernel, by decide +kernel⟩
theorem ok_number_read {K : PySem.W.Frag} {mg : Str → Option Value} (T : Tx K mg) (P : Program) (w : World) (base : Heap) : Cal P w K mg base 1 "number_read" [] [] 1 m_number_read false := by
  obtain ⟨fd, F⟩ := T.d_number_read
  have scN := sc_number_read
  refine ⟨_, fd, ["word"], [], [], T.g_number_read, F.kp, fun_ok [] false F sc_number_read rfl rfl fun cdv A outer s H E B hr gd tk po hB hfr => ?_, F.bindsN fun _ _ _ _ _ _ us hl => match us, hl with | [_], _ => rfl, .nil, fun _ _ => .nil⟩
  exact (ds_cons (mid := []) (ds_if (dt_w (dw_or (dt_cmp (op_eqE hr.units) opd_eq (de_var 0) de_str) (dw_or (dt_cmp op_gt opd_gt (de_callB call_len fnd_len T.b_len (da_cons (de_var 0) da_nil)) de_int) (dw_or1 (dt_not (dt_e (de_callB (cr_all rfl) fnd_all T.b_all (da_cons (de_lc rfl scN.nd hB (di_seq (de_var 0)) (blkOk_by (own := [("figure", 1)]) (N := nm_number_read) (sc := defScope (top 40)) (by decide +kernel)) (fun _ _ _ _ _ B hW hB => (dg_name 1 scN.nd)) (fun _ _ _ _ _ B hW hB => dts_nil) (fun _ _ _ _ _ B hW hB => (de_cmp op_in_sign opd_inS (de_var 1) (de_gstr T.c_FIGURES)))) da_nil)))))))) (ds_one (ds_ret hfr de_non)) ds_nil)
    (ds_one (ds_ret hfr (de_if (dt_w (dw_and (dt_cmp (op_eqE hr.units) opd_eq (de_ix ix_seq opd_ix (de_var 0) de_int) de_str) (dw_and1 (dt_cmp (op_neE hr.units) opd_ne (de_var 0) de_str)))) de_non (de_callT call_int_str fnd_intS T.b_int (da_cons (de_var 0) da_nil))))))

abbrev nm__law_mixed : List Str := ["_law_cell", "_law_k", "_law_number"]
theorem sc__law_mixed : FnScope nm__law_mixed ["_law_cell", "_law_k"] (defScope (top 47)) := ⟨rfl, rfl, rfl, by decide +kernel, rfl, by decide +kernel, by decide +kernel⟩
theorem ok__law_mixed {K : PySem.W.Frag} {mg : Str → Option Value} (T : Tx K mg) (P : Program) (w : World) (base : Heap) : Cal P w K mg base 1 "_law_mixed" [] [] 2 m__law_mixed false := by
  obtain ⟨fd, F⟩ := T.d__law_mixed
  have scN := sc__law_mixed
  refine ⟨_, fd, ["_law_cell", "_law_k"], [], [], T.g__law_mixed, F.kp, fun_ok [] false F sc__law_mixed rfl rfl fun cdv A outer s H E B hr gd tk po hB hfr => ?_, F.bindsN fun _ _ _ _ _ _ us hl => match us, hl with | [_, _], _ => rfl, .nil, fun _ _ => .nil⟩
  exact (ds_cons (mid := []) (ds_set 2 scN.nd (de_op op_modN opd_mod (de_callT call_int1 fnd_int T.b_int (da_cons (de_op op_addG opd_add (de_op op_addG opd_add (de_op op_mulW opd_mul (de_op op_modN opd_mod (de_callT call_int1 fnd_int T.b_int (da_cons (de_var 0) da_nil)) de_int) de_int) (de_op op_mulW opd_mul (de_var 1) de_int)) de_int) da_nil)) de_int))
    (ds_cons (mid := []) (ds_set 2 scN.nd (de_op op_modN opd_mod (de_callT call_int1 fnd_int T.b_int (da_cons (de_op op_mulW opd_mul (de_var 2) (de_var 2)) da_nil)) de_int))
    (ds_one (ds_ret hfr (de_op op_modN opd_mod (de_callT call_int1 fnd_int T.b_int (da_cons (de_op op_mulW opd_mul (de_var 2) (de_op op_addG opd_add (de_var 2) de_int)) da_nil)) de_int)))))

abbrev nm__law_take : List Str := ["_law_pile_here", "_law_size", "_law_digit"]
theorem sc__law_take : FnScope nm__law_take ["_law_pile_here", "_law_size"] (defScope (top 49)) := ⟨rfl, rfl, rfl, by decide +kernel, rfl, by decide +kernel, by decide +kernel⟩
theorem ok__law_take {K : PySem.W.Frag} {mg : Str → Option Value} (T : Tx K mg) (P : Program) (w : World) (base : Heap) : Cal P w K mg base 1 "_law_take" [] [0] 2 m__law_take false := by
  obtain ⟨fd, F⟩ := T.d__law_take
  have scN := sc__law_take
  refine ⟨_, fd, ["_law_pile_here", "_law_size"], [], [], T.g__law_take, F.kp, fun_ok [0] false F sc__law_take rfl rfl fun cdv A outer s H E B hr gd tk po hB hfr => ?_, F.bindsN fun _ _ _ _ _ _ us hl => match us, hl with | [_, _], _ => rfl, .nil, fun _ _ => .nil⟩
  exact (ds_cons (mid := [0]) (ds_set 2 scN.nd (de_op op_modN opd_mod (de_callT call_int1 fnd_int T.b_int (da_cons (de_ixO 0 de_int) da_nil)) (de_var 1)))
    (ds_cons (mid := [0]) (ds_sto 0 (de_op op_fdivN opd_div (de_ixO 0 de_int) (de_var 1)) de_int)
    (ds_one (ds_ret hfr (de_var 2)))))

abbrev nm__law_whole : List Str := ["_law_thing"]
theorem sc__law_whole : FnScope nm__law_whole ["_law_thing"] (defScope (top 51)) := ⟨rfl, rfl, rfl, by decide +kernel, rfl, by decide +kernel, by decide +kernel⟩
theorem ok__law_whole {K : PySem.W.Frag} {mg : Str → Option Value} (T : Tx K mg) (P : Program) (w : World) (base : Heap) : Cal P w K mg base 1 "_law_whole" [] [] 1 m__law_whole false := by
  obtain ⟨fd, F⟩ := T.d__law_whole
  have scN := sc__law_whole
  refine ⟨_, fd, ["_law_thing"], [], [], T.g__law_whole, F.kp, fun_ok [] false F sc__law_whole rfl rfl fun cdv A outer s H E B hr gd tk po hB hfr => ?_, F.bindsN fun _ _ _ _ _ _ us hl => match us, hl with | [_], _ => rfl, .nil, fun _ _ => .nil⟩
  exact (ds_one (ds_ret hfr (de_and (de_isi "int" (de_var 0) T.b_isinstance T.b_int) (de_one (de_not (de_isi "bool" (de_var 0) T.b_isinstance T.b_bool))))))

abbrev nm__law_place : List Str := ["_law_net_here", "_law_end"]
theorem sc__law_place : FnScope nm__law_place ["_law_net_here", "_law_end"] (defScope (top 53)) := ⟨rfl, rfl, rfl, by decide +kernel, rfl, by decide +kernel, by decide +kernel⟩
theorem ok__law_place {K : PySem.W.Frag} {mg : Str → Option Value} (T : Tx K mg) (P : Program) (w : World) (base : Heap) : Cal P w K mg base 1 "_law_place" [] [] 2 m__law_place false := by
  obtain ⟨fd, F⟩ := T.d__law_place
  have scN := sc__law_place
  refine ⟨_, fd, ["_law_net_here", "_law_end"], [], [], T.g__law_place, F.kp, fun_ok [] false F sc__law_place rfl rfl fun cdv A outer s H E B hr gd tk po hB hfr => ?_, F.bindsN fun _ _ _ _ _ _ us hl => match us, hl with | [_, _], _ => rfl, .nil, fun _ _ => .nil⟩
  exact (ds_one (ds_ret hfr (de_ix ix_seq opd_ix (de_ix ix_seq opd_ix (de_ix ix_seq opd_ix (de_ix ix_seq opd_ix (de_var 0) de_int) (de_ix ix_seq opd_ix (de_var 1) de_int)) (de_ix ix_seq opd_ix (de_var 1) de_int)) de_int)))

abbrev nm__law_kind : List Str := ["_law_net_here", "_law_end"]
theorem sc__law_kind : FnScope nm__law_kind ["_law_net_here", "_law_end"] (defScope (top 54)) := ⟨rfl, rfl, rfl, by decide +kernel, rfl, by decide +kernel, by decide +kernel⟩
theorem ok__law_kind {K : PySem.W.Frag} {mg : Str → Option Value} (T : Tx K mg) (P : Program) (w : World) (base : Heap) : Cal P w K mg base 1 "_law_kind" [] [] 2 m__law_kind false := by
  obtain ⟨fd, F⟩ := T.d__law_kind
  have scN := sc__law_kind
  refine ⟨_, fd, ["_law_net_here", "_law_end"], [], [], T.g__law_kind, F.kp, fun_ok [] false F sc__law_kind rfl rfl fun cdv A outer s H E B hr gd tk po hB hfr => ?_, F.bindsN fun _ _ _ _ _ _ us hl => match us, hl with | [_, _], _ => rfl, .nil, fun _ _ => .nil⟩
  exact (ds_one (ds_ret hfr (de_ix ix_seq opd_ix (de_ix ix_seq opd_ix (de_ix ix_seq opd_ix (de_ix ix_seq opd_ix (de_var 0) de_int) (de_ix ix_seq opd_ix (de_var 1) de_int)) (de_ix ix_seq opd_ix (de_var 1) de_int)) de_int)))

abbrev nm__law_far : List Str := ["_law_end"]
theorem sc__law_far : FnScope nm__law_far ["_law_end"] (defScope (top 55)) := ⟨rfl, rfl, rfl, by decide +kernel, rfl, by decide +kernel, by decide +kernel⟩
theorem ok__law_far {K : PySem.W.Frag} {mg : Str → Option Value} (T : Tx K mg) (P : Program) (w : World) (base : Heap) : Cal P w K mg base 1 "_law_far" [] [] 1 m__law_far false := by
  obtain ⟨fd, F⟩ := T.d__law_far
  have scN := sc__law_far
  refine ⟨_, fd, ["_law_end"], [], [], T.g__law_far, F.kp, fun_ok [] false F sc__law_far rfl rfl fun cdv A outer s H E B hr gd tk po hB hfr => ?_, F.bindsN fun _ _ _ _ _ _ us hl => match us, hl with | [_], _ => rfl, .nil, fun _ _ => .nil⟩
  exact (ds_one (ds_ret hfr (de_tup (da_cons (de_ix ix_seq opd_ix (de_var 0) de_int) (da_cons (de_op op_sub opd_sub de_int (de_ix ix_seq opd_ix (de_var 0) de_int)) da_nil)))))

abbrev nm__law_ends : List Str := ["_law_net_here", "_law_found", "_law_road"]
theorem sc__law_ends : FnScope nm__law_ends ["_law_net_here"] (defScope (top 56)) := ⟨rfl, rfl, rfl, by decide +kernel, rfl, by decide +kernel, by decide +kernel⟩
theorem ok__law_ends {K : PySem.W.Frag} {mg : Str → Option Value} (T : Tx K mg) (P : Program) (w : World) (base : Heap) : Cal P w K mg base 1 "_law_ends" [] [] 1 m__law_ends false := by
  obtain ⟨fd, F⟩ := T.d__law_ends
  have scN := sc__law_ends
  refine ⟨_, fd, ["_law_net_here"], [], [], T.g__law_ends, F.kp, fun_ok [] false F sc__law_ends rfl rfl fun cdv A outer s H E B hr gd tk po hB hfr => ?_, F.bindsN fun _ _ _ _ _ _ us hl => match us, hl with | [_], _ => rfl, .nil, fun _ _ => .nil⟩
  exact (ds_cons (mid := []) (ds_set 1 scN.nd (de_lst da_nil))
    (ds_cons (mid := []) (ds_for po rfl (di_rng1 T.b_range (da_cons (de_callB call_len fnd_len T.b_len (da_cons (de_ix ix_seq opd_ix (de_var 0) de_int) da_nil)) da_nil)) (dg_name 2 scN.nd) (ds_one (ds_set 1 scN.nd (de_op op_addG opd_add (de_var 1) (de_lst (da_cons (de_tup (da_cons (de_var 2) (da_cons de_int da_nil))) (da_cons (de_tup (da_cons (de_var 2) (da_cons de_int da_nil))) da_nil)))))))
    (ds_one (ds_ret hfr (de_var 1)))))

abbrev nm__law_roads : List Str := ["_law_plan_here", "_law_found", "_law_back", "_law_going", "_law_end"]
theorem sc__law_roads : FnScope nm__law_roads ["_law_plan_here"] (defScope (top 64)) := ⟨rfl, rfl, rfl, by decide +kernel, rfl, by decide +kernel, by decide +kernel⟩
theorem ok__law_roads {K : PySem.W.Frag} {mg : Str → Option Value} (T : Tx K mg) (P : Program) (w : World) (base : Heap) : Cal P w K mg base 1 "_law_roads" [] [] 1 m__law_roads false := by
  obtain ⟨fd, F⟩ := T.d__law_roads
  have scN := sc__law_roads
  refine ⟨_, fd, ["_law_plan_here"], [], [], T.g__law_roads, F.kp, fun_ok [] false F sc__law_roads rfl rfl fun cdv A outer s H E B hr gd tk po hB hfr => ?_, F.bindsN fun _ _ _ _ _ _ us hl => match us, hl with | [_], _ => rfl, .nil, fun _ _ => .nil⟩
  exact (ds_cons (mid := []) (ds_set 1 scN.nd (de_lst da_nil))
    (ds_cons (mid := []) (ds_for po rfl (di_seq (de_var 0)) (dg_tup rfl (dgs_cons (dg_name 2 scN.nd) (dgs_cons (dg_name 3 scN.nd) dgs_nil))) (ds_one (ds_set 1 scN.nd (de_op op_addG opd_add (de_var 1) (de_lc rfl scN.nd hB (di_seq (de_var 3)) (blkOk_by (own := [("_law_end", 4)]) (N := nm__law_roads) (sc := defScope (top 64)) (by decide +kernel)) (fun _ _ _ _ _ B hW hB => (dg_name 4 scN.nd)) (fun _ _ _ _ _ B hW hB => dts_nil) (fun _ _ _ _ _ B hW hB => (de_ix ix_seq opd_ix (de_var 4) de_int)))))))
    (ds_one (ds_ret hfr (de_var 1)))))

abbrev nm__law_all_once : List Str := ["_law_net_here", "_law_roads_here", "_law_k"]
theorem sc__law_all_once : FnScope nm__law_all_once ["_law_net_here", "_law_roads_here"] (defScope (top 65)) := ⟨rfl, rfl, rfl, by decide +kernel, rfl, by decide +kernel, by decide +kernel⟩
theorem ok__law_all_once {K : PySem.W.Frag} {mg : Str → Option Value} (T : Tx K mg) (P : Program) (w : World) (base : Heap) : Cal P w K mg base 1 "_law_all_once" [] [] 2 m__law_all_once false := by
  obtain ⟨fd, F⟩ := T.d__law_all_once
  have scN := sc__law_all_once
  refine ⟨_, fd, ["_law_net_here", "_law_roads_here"], [], [], T.g__law_all_once, F.kp, fun_ok [] false F sc__law_all_once rfl rfl fun cdv A outer s H E B hr gd tk po hB hfr => ?_, F.bindsN fun _ _ _ _ _ _ us hl => match us, hl with | [_, _], _ => rfl, .nil, fun _ _ => .nil⟩
  exact (ds_one (ds_ret hfr (de_and (de_cmp (op_eqE hr.units) opd_eq (de_callB call_len fnd_len T.b_len (da_cons (de_var 1) da_nil)) (de_callB call_len fnd_len T.b_len (da_cons (de_ix ix_seq opd_ix (de_var 0) de_int) da_nil))) (de_one (de_cmp (op_eqE hr.units) opd_eq (de_lc rfl scN.nd hB (di_rng1 T.b_range (da_cons (de_callB call_len fnd_len T.b_len (da_cons (de_ix ix_seq opd_ix (de_var 0) de_int) da_nil)) da_nil)) (blkOk_by (own := [("_law_k", 2)]) (N := nm__law_all_once) (sc := defScope (top 65)) (by decide +kernel)) (fun _ _ _ _ _ B hW hB => (dg_name 2 scN.nd)) (fun _ _ _ _ _ B hW hB => (dts_one (dt_cmp (op_notInD (u65 hr)) opd_nin (de_var 2) (de_var 1)))) (fun _ _ _ _ _ B hW hB => (de_var 2))) (de_lst da_nil))))))

abbrev nm__law_sorted : List Str := ["_law_turn"]
theorem sc__law_sorted : FnScope nm__law_sorted ["_law_turn"] (defScope (top 67)) := ⟨rfl, rfl, rfl, by decide +kernel, rfl, by decide +kernel, by decide +kernel⟩
theorem ok__law_sorted {K : PySem.W.Frag} {mg : Str → Option Value} (T : Tx K mg) (P : Program) (w : World) (base : Heap) : Cal P w K mg base 1 "_law_sorted" [] [] 1 m__law_sorted false := by
  obtain ⟨fd, F⟩ := T.d__law_sorted
  have scN := sc__law_sorted
  refine ⟨_, fd, ["_law_turn"], [], [], T.g__law_sorted, F.kp, fun_ok [] false F sc__law_sorted rfl rfl fun cdv A outer s H E B hr gd tk po hB hfr => ?_, F.bindsN fun _ _ _ _ _ _ us hl => match us, hl with | [_], _ => rfl, .nil, fun _ _ => .nil⟩
  exact (ds_one (ds_ret hfr (de_ix ix_seq opd_ix (de_lst (da_cons (de_tup (da_cons (de_ix ix_seq opd_ix (de_var 0) de_int) (da_cons (de_ix ix_seq opd_ix (de_var 0) de_int) da_nil))) (da_cons (de_tup (da_cons (de_ix ix_seq opd_ix (de_var 0) de_int) (da_cons (de_ix ix_seq opd_ix (de_var 0) de_int) da_nil))) da_nil))) (de_callT call_int1 fnd_int T.b_int (da_cons (de_cmp (op_ltD (u64 hr)) opd_ltD (de_ix ix_seq opd_ix (de_var 0) de_int) (de_ix ix_seq opd_ix (de_var 0) de_int)) da_nil)))))

abbrev nm__law_ascending : List Str := ["_law_some", "_law_found", "_law_one", "_law_other"]
theorem sc__law_ascending : FnScope nm__law_ascending ["_law_some"] (defScope (top 68)) := ⟨rfl, rfl, rfl, by decide +kernel, rfl, by decide +kernel, by decide +kernel⟩
theorem ok__law_ascending {K : PySem.W.Frag} {mg : Str → Option Value} (T : Tx K mg) (P : Program) (w : World) (base : Heap) : Cal P w K mg base 1 "_law_ascending" [] [] 1 m__law_ascending false := by
  obtain ⟨fd, F⟩ := T.d__law_ascending
  have scN := sc__law_ascending
  refine ⟨_, fd, ["_law_some"], [], [], T.g__law_ascending, F.kp, fun_ok [] false F sc__law_ascending rfl rfl fun cdv A outer s H E B hr gd tk po hB hfr => ?_, F.bindsN fun _ _ _ _ _ _ us hl => match us, hl with | [_], _ => rfl, .nil, fun _ _ => .nil⟩
  exact (ds_cons (mid := [1]) (ds_setO 1 scN.nd (do_lst da_nil))
    (ds_cons (mid := []) (ds_out [1] (ds_for po rfl (di_seq (de_var 0)) (dg_name 2 scN.nd) (ds_one (ds_e (de_mt 1 PySem.F.slot_list_insert PySem.F.type_list_insert mt_insert mtd_ins (da_cons (de_bor [] (de_callB call_len fnd_len T.b_len (da_cons (de_lc rfl scN.nd hB (di_seq (de_var 1)) (blkOk_by (own := [("_law_other", 3)]) (N := nm__law_ascending) (sc := defScope (top 68)) (by decide +kernel)) (fun _ _ _ _ _ B hW hB => (dg_name 3 scN.nd)) (fun _ _ _ _ _ B hW hB => (dts_one (dt_cmp (op_ltD (u64 hr)) opd_ltD (de_var 3) (de_var 2)))) (fun _ _ _ _ _ B hW hB => (de_var 3))) da_nil))) (da_cons (de_var 2) da_nil)))))))
    (ds_one (ds_ret hfr (de_var 1)))))

abbrev nm__law_flags : List Str := ["_law_caught", "_law_flags_here"]
theorem sc__law_flags : FnScope nm__law_flags ["_law_caught"] (defScope (top 73)) := ⟨rfl, rfl, rfl, by decide +kernel, rfl, by decide +kernel, by decide +kernel⟩
theorem ok__law_flags {K : PySem.W.Frag} {mg : Str → Option Value} (T : Tx K mg) (P : Program) (w : World) (base : Heap) : Cal P w K mg base 1 "_law_flags" [] [] 1 m__law_flags false := by
  obtain ⟨fd, F⟩ := T.d__law_flags
  have scN := sc__law_flags
  refine ⟨_, fd, ["_law_caught"], [], [], T.g__law_flags, F.kp, fun_ok [] false F sc__law_flags rfl rfl fun cdv A outer s H E B hr gd tk po hB hfr => ?_, F.bindsN fun _ _ _ _ _ _ us hl => match us, hl with | [_], _ => rfl, .nil, fun _ _ => .nil⟩
  exact (ds_cons (mid := []) (ds_set 1 scN.nd (de_lst (da_cons (de_isX xsL T.xs T.g_NoNet (de_var 0) T.b_isinstance (hx := (.tail _ (.head _)))) (da_cons (de_isX xsL T.xs T.g_NoPlace (de_var 0) T.b_isinstance (hx := (.tail _ (.tail _ (.head _))))) (da_cons (de_isX xsL T.xs T.g_NoEnd (de_var 0) T.b_isinstance (hx := (.tail _ (.tail _ (.tail _ (.head _)))))) da_nil)))))
    (ds_cons (mid := []) (ds_set 1 scN.nd (de_op op_addG opd_add (de_var 1) (de_lst (da_cons (de_isX xsL T.xs T.g_NoGoing (de_var 0) T.b_isinstance (hx := (.tail _ (.tail _ (.tail _ (.tail _ (.head _))))))) (da_cons (de_isX xsL T.xs T.g_NoPlan (de_var 0) T.b_isinstance (hx := (.tail _ (.tail _ (.tail _ (.tail _ (.tail _ (.head _)))))))) (da_cons (de_isX xsL T.xs T.g_NoTable (de_var 0) T.b_isinstance (hx := (.tail _ (.tail _ (.tail _ (.tail _ (.tail _ (.tail _ (.head _))))))))) da_nil))))))
    (ds_cons (mid := []) (ds_set 1 scN.nd (de_op op_addG opd_add (de_var 1) (de_lst (da_cons (de_isX xsL T.xs T.g_NoTurns (de_var 0) T.b_isinstance (hx := (.tail _ (.tail _ (.tail _ (.tail _ (.tail _ (.tail _ (.tail _ (.head _)))))))))) (da_cons (de_isX xsL T.xs T.g_NoCosts (de_var 0) T.b_isinstance (hx := (.tail _ (.tail _ (.tail _ (.tail _ (.tail _ (.tail _ (.tail _ (.tail _ (.head _))))))))))) (da_cons (de_isX xsL T.xs T.g_NoRoad (de_var 0) T.b_isinstance (hx := (.tail _ (.tail _ (.tail _ (.tail _ (.tail _ (.tail _ (.tail _ (.tail _ (.tail _ (.head _)))))))))))) da_nil))))))
    (ds_cons (mid := []) (ds_set 1 scN.nd (de_op op_addG opd_add (de_var 1) (de_lst (da_cons (de_isX xsL T.xs T.g_NoNumber (de_var 0) T.b_isinstance (hx := (.tail _ (.tail _ (.tail _ (.tail _ (.tail _ (.tail _ (.tail _ (.tail _ (.tail _ (.tail _ (.head _))))))))))))) (da_cons (de_isX xsL T.xs T.g_NoKind (de_var 0) T.b_isinstance (hx := (.tail _ (.tail _ (.tail _ (.tail _ (.tail _ (.tail _ (.tail _ (.tail _ (.tail _ (.tail _ (.tail _ (.head _)))))))))))))) (da_cons (de_isX xsL T.xs T.g_Unlike (de_var 0) T.b_isinstance (hx := (.tail _ (.tail _ (.tail _ (.tail _ (.tail _ (.tail _ (.tail _ (.tail _ (.tail _ (.tail _ (.tail _ (.tail _ (.head _))))))))))))))) da_nil))))))
    (ds_one (ds_ret hfr (de_op op_addG opd_add (de_var 1) (de_lst (da_cons (de_isX xsL T.xs T.g_Barred (de_var 0) T.b_isinstance (hx := (.tail _ (.tail _ (.tail _ (.tail _ (.tail _ (.tail _ (.tail _ (.tail _ (.tail _ (.tail _ (.tail _ (.tail _ (.tail _ (.head _)))))))))))))))) (da_cons (de_isX xsL T.xs T.g_NoText (de_var 0) T.b_isinstance (hx := (.tail _ (.tail _ (.tail _ (.tail _ (.tail _ (.tail _ (.tail _ (.tail _ (.tail _ (.tail _ (.tail _ (.tail _ (.tail _ (.tail _ (.head _))))))))))))))))) da_nil))))))))))

abbrev nm__law_going_text : List Str := ["_law_going", "_law_road", "_law_side"]
theorem sc__law_going_text : FnScope nm__law_going_text ["_law_going"] (defScope (top 76)) := ⟨rfl, rfl, rfl, by decide +kernel, rfl, by decide +kernel, by decide +kernel⟩
theorem ok__law_going_text {K : PySem.W.Frag} {mg : Str → Option Value} (T : Tx K mg) (P : Program) (w : World) (base : Heap) : Cal P w K mg base 1 "_law_going_text" [] [] 1 m__law_going_text false := by
  obtain ⟨fd, F⟩ := T.d__law_going_text
  have scN := sc__law_going_text
  refine ⟨_, fd, ["_law_going"], [], [], T.g__law_going_text, F.kp, fun_ok [] false F sc__law_going_text rfl rfl fun cdv A outer s H E B hr gd tk po hB hfr => ?_, F.bindsN fun _ _ _ _ _ _ us hl => match us, hl with | [_], _ => rfl, .nil, fun _ _ => .nil⟩
  exact (ds_one (ds_ret hfr (de_tm1 PySem.F.slot_str_join PySem.F.type_str_join mt_join tmd_join de_str (de_lc rfl scN.nd hB (di_seq (de_var 0)) (blkOk_by (own := [("_law_road", 1), ("_law_side", 2)]) (N := nm__law_going_text) (sc := defScope (top 76)) (by decide +kernel)) (fun _ _ _ _ _ B hW hB => (dg_tup rfl (dgs_cons (dg_name 1 scN.nd) (dgs_cons (dg_name 2 scN.nd) dgs_nil)))) (fun _ _ _ _ _ B hW hB => dts_nil) (fun _ _ _ _ _ B hW hB => (de_op op_addG opd_add (de_callT call_str_int fnd_strI T.b_str (da_cons (de_var 1) da_nil)) (de_ix ix_seq opd_ix de_str (de_var 2))))))))

abbrev nm_is_below : List Str := ["thing", "many"]
theorem sc_is_below : FnScope nm_is_below ["thing", "many"] (defScope (top 20)) := ⟨rfl, rfl, rfl, by decide +kernel, rfl, by decide +kernel, by decide +kernel⟩
theorem ok_is_below {K : PySem.W.Frag} {mg : Str → Option Value} (T : Tx K mg) (P : Program) (w : World) (base : Heap) : Cal P w K mg base 2 "is_below" [] [] 2 m_is_below false := by
  obtain ⟨fd, F⟩ := T.d_is_below
  have scN := sc_is_below
  refine ⟨_, fd, ["thing", "many"], [], [], T.g_is_below, F.kp, fun_ok [] false F sc_is_below rfl rfl fun cdv A outer s H E B hr gd tk po hB hfr => ?_, F.bindsN fun _ _ _ _ _ _ us hl => match us, hl with | [_, _], _ => rfl, .nil, fun _ _ => .nil⟩
  exact (ds_one (ds_ret hfr (de_and (de_cal (ok_is_whole T P w base) hr gd tk hB (dr_e (de_var 0) dr_nil)) (de_and (de_cmp op_le opd_le de_int (de_var 0)) (de_one (de_cmp op_lt opd_lt (de_var 0) (de_var 1)))))))

abbrev nm_turns_in : List Str := ["going", "back", "found", "one", "other"]
theorem sc_turns_in : FnScope nm_turns_in ["going", "back"] (defScope (top 31)) := ⟨rfl, rfl, rfl, by decide +kernel, rfl, by decide +kernel, by decide +kernel⟩
theorem ok_turns_in {K : PySem.W.Frag} {mg : Str → Option Value} (T : Tx K mg) (P : Program) (w : World) (base : Heap) : Cal P w K mg base 2 "turns_in" [] [] 2 m_turns_in false := by
  obtain ⟨fd, F⟩ := T.d_turns_in
  have scN := sc_turns_in
  refine ⟨_, fd, ["going", "back"], [], [], T.g_turns_in, F.kp, fun_ok [] false F sc_turns_in rfl rfl fun cdv A outer s H E B hr gd tk po hB hfr => ?_, F.bindsN fun _ _ _ _ _ _ us hl => match us, hl with | [_, _], _ => rfl, .nil, fun _ _ => .nil⟩
  exact (ds_cons (mid := []) (ds_setLc rfl scN.nd hB (sw_true rfl rfl rfl (by decide +kernel)) (di_zip T.b_zip (da_cons (de_var 0) (da_cons (de_sl (de_var 0) (dp_some de_int) dp_none) da_nil))) (blkOk_by (own := [("one", 3), ("other", 4)]) (N := nm_turns_in) (sc := defScope (top 31)) (by decide +kernel)) (fun _ _ _ _ _ B hW hB => (dg_tup rfl (dgs_cons (dg_name 3 scN.nd) (dgs_cons (dg_name 4 scN.nd) dgs_nil)))) (fun _ _ _ _ _ B hW hB => dts_nil) (fun _ _ _ _ _ B hW hB => (de_tup (da_cons (de_cal (ok_other_end T P w base) hr gd (takes_q hW) hB (dr_e (de_var 3) dr_nil)) (da_cons (de_var 4) da_nil)))))
    (ds_one (ds_ret hfr (de_if (dt_e (de_var 1)) (de_op op_addG opd_add (de_var 2) (de_lst (da_cons (de_tup (da_cons (de_cal (ok_other_end T P w base) hr gd tk hB (dr_e (de_ix ix_seq opd_ix (de_var 0) (de_un un_neg und_fneg de_int)) dr_nil)) (da_cons (de_ix ix_seq opd_ix (de_var 0) de_int) da_nil))) da_nil))) (de_var 2)))))

abbrev nm_is_open : List Str := ["net", "turn"]
theorem sc_is_open : FnScope nm_is_open ["net", "turn"] (defScope (top 32)) := ⟨rfl, rfl, rfl, by decide +kernel, rfl, by decide +kernel, by decide +kernel⟩
theorem ok_is_open {K : PySem.W.Frag} {mg : Str → Option Value} (T : Tx K mg) (P : Program) (w : World) (base : Heap) : Cal P w K mg base 2 "is_open" [] [] 2 m_is_open false := by
  obtain ⟨fd, F⟩ := T.d_is_open
  have scN := sc_is_open
  refine ⟨_, fd, ["net", "turn"], [], [], T.g_is_open, F.kp, fun_ok [] false F sc_is_open rfl rfl fun cdv A outer s H E B hr gd tk po hB hfr => ?_, F.bindsN fun _ _ _ _ _ _ us hl => match us, hl with | [_, _], _ => rfl, .nil, fun _ _ => .nil⟩
  exact (ds_one (ds_ret hfr (de_cmp (op_neE hr.units) opd_ne (de_cal (ok_kind_at T P w base) hr gd tk hB (dr_e (de_var 0) (dr_e (de_ix ix_seq opd_ix (de_var 1) de_int) dr_nil))) (de_cal (ok_kind_at T P w base) hr gd tk hB (dr_e (de_var 0) (dr_e (de_ix ix_seq opd_ix (de_var 1) de_int) dr_nil))))))

abbrev nm_end_read : List Str := ["word", "road"]
theorem sc_end_read : FnScope nm_end_read ["word"] (defScope (top 41)) := ⟨rfl, rfl, rfl, by decide +kernel, rfl, by decide +kernel, by decide +kernel⟩
theorem ok_end_read {K : PySem.W.Frag} {mg : Str → Option Value} (T : Tx K mg) (P : Program) (w : World) (base : Heap) : Cal P w K mg base 2 "end_read" [] [] 1 m_end_read false := by
  obtain ⟨fd, F⟩ := T.d_end_read
  have scN := sc_end_read
  refine ⟨_, fd, ["word"], [], [], T.g_end_read, F.kp, fun_ok [] false F sc_end_read rfl rfl fun cdv A outer s H E B hr gd tk po hB hfr => ?_, F.bindsN fun _ _ _ _ _ _ us hl => match us, hl with | [_], _ => rfl, .nil, fun _ _ => .nil⟩
  exact (ds_cons (mid := []) (ds_set 1 scN.nd (de_cal (ok_number_read T P w base) hr gd tk hB (dr_e (de_sl (de_var 0) dp_none (dp_some (de_un un_neg und_fneg de_int))) dr_nil)))
    (ds_one (ds_ret hfr (de_if (dt_w (dw_or (dt_cmp op_isG opd_is (de_var 1) de_non) (dw_or1 (dt_cmp op_notIn_sign opd_ninS (de_ix ix_seq opd_ix (de_var 0) (de_un un_neg und_fneg de_int)) de_str)))) de_non (de_tup (da_cons (de_var 1) (da_cons (de_tm1 PySem.F.slot_str_index PySem.F.type_str_index mt_tidx tmd_tidx de_str (de_ix ix_seq opd_ix (de_var 0) (de_un un_neg und_fneg de_int))) da_nil)))))))

abbrev nm__law_written : List Str := ["_law_pile_here", "_law_item", "_law_back", "_law_going", "_law_end", "_law_at_here"]
theorem sc__law_written : FnScope nm__law_written ["_law_pile_here", "_law_item"] (defScope (top 46)) := ⟨rfl, rfl, rfl, by decide +kernel, rfl, by decide +kernel, by decide +kernel⟩
theorem ok__law_written {K : PySem.W.Frag} {mg : Str → Option Value} (T : Tx K mg) (P : Program) (w : World) (base : Heap) : Cal P w K mg base 2 "_law_written" [] [0] 2 m__law_written false := by
  obtain ⟨fd, F⟩ := T.d__law_written
  have scN := sc__law_written
  refine ⟨_, fd, ["_law_pile_here", "_law_item"], [], [], T.g__law_written, F.kp, fun_ok [0] false F sc__law_written rfl rfl fun cdv A outer s H E B hr gd tk po hB hfr => ?_, F.bindsN fun _ _ _ _ _ _ us hl => match us, hl with | [_, _], _ => rfl, .nil, fun _ _ => .nil⟩
  exact (ds_cons (mid := [0]) (ds_as (de_var 1) (dg_tup rfl (dgs_cons (dg_name 2 scN.nd) (dgs_cons (dg_name 3 scN.nd) dgs_nil))))
    (ds_cons (mid := [0]) (ds_if (dt_cmp (op_eqE hr.units) opd_eq (de_cal (ok__law_take T P w base) hr gd tk hB (dr_io 0 (dr_e de_int dr_nil))) de_int) (ds_one (ds_setLc rfl scN.nd hB (sw_true rfl rfl rfl (by decide +kernel)) (di_seq (de_revL (de_var 3))) (blkOk_by (own := [("_law_end", 4)]) (N := nm__law_written) (sc := defScope (top 46)) (by decide +kernel)) (fun _ _ _ _ _ B hW hB => (dg_name 4 scN.nd)) (fun _ _ _ _ _ B hW hB => dts_nil) (fun _ _ _ _ _ B hW hB => (de_cal (ok__law_far T P w base) hr gd (takes_q hW) hB (dr_e (de_var 4) dr_nil))))) ds_nil)
    (ds_cons (mid := [0]) (ds_set 5 scN.nd (de_op op_mulW opd_mul (de_cal (ok__law_take T P w base) hr gd tk hB (dr_io 0 (dr_e (de_callB call_len fnd_len T.b_len (da_cons (de_var 3) da_nil)) dr_nil))) (de_callT call_int1 fnd_int T.b_int (da_cons (de_var 2) da_nil))))
    (ds_one (ds_ret hfr (de_tup (da_cons (de_var 2) (da_cons (de_op op_addG opd_add (de_sl (de_var 3) (dp_some (de_var 5)) dp_none) (de_sl (de_var 3) dp_none (dp_some (de_var 5)))) da_nil))))))))

abbrev nm__law_pile : List Str := ["_law_script", "_law_k", "_law_cell", "_law_found", "_law_j"]
theorem sc__law_pile : FnScope nm__law_pile ["_law_script", "_law_k"] (defScope (top 48)) := ⟨rfl, rfl, rfl, by decide +kernel, rfl, by decide +kernel, by decide +kernel⟩
theorem ok__law_pile {K : PySem.W.Frag} {mg : Str → Option Value} (T : Tx K mg) (P : Program) (w : World) (base : Heap) : Cal P w K mg base 2 "_law_pile" [] [] 2 m__law_pile true := by
  obtain ⟨fd, F⟩ := T.d__law_pile
  have scN := sc__law_pile
  refine ⟨_, fd, ["_law_script", "_law_k"], [], [], T.g__law_pile, F.kp, fun_ok [] true F sc__law_pile rfl rfl fun cdv A outer s H E B hr gd tk po hB hfr => ?_, F.bindsN fun _ _ _ _ _ _ us hl => match us, hl with | [_, _], _ => rfl, .nil, fun _ _ => .nil⟩
  exact (ds_cons (mid := []) (ds_set 2 scN.nd de_int)
    (ds_cons (mid := []) (ds_if (dt_cmp op_lt opd_lt (de_var 1) (de_callB call_len fnd_len T.b_len (da_cons (de_var 0) da_nil))) (ds_one (ds_set 2 scN.nd (de_ix ix_seq opd_ix (de_var 0) (de_var 1)))) ds_nil)
    (ds_cons (mid := []) (ds_if (dt_cmp op_ge opd_ge (de_var 2) (de_op op_pow opd_pow de_int de_int)) (ds_one (ds_retO hfr (do_lst (da_cons (de_op op_modN opd_mod (de_callT call_int1 fnd_int T.b_int (da_cons (de_op op_sub opd_sub (de_var 2) (de_op op_pow opd_pow de_int de_int)) da_nil)) (de_op op_mulW opd_mul (de_op op_mulW opd_mul (de_op op_mulW opd_mul (de_op op_pow opd_pow de_int de_int) (de_op op_pow opd_pow de_int de_int)) (de_op op_pow opd_pow de_int de_int)) (de_op op_pow opd_pow de_int de_int))) da_nil)))) ds_nil)
    (ds_cons (mid := []) (ds_set 3 scN.nd de_int)
    (ds_cons (mid := []) (ds_for po rfl (di_rng1 T.b_range (da_cons de_int da_nil)) (dg_name 4 scN.nd) (ds_one (ds_set 3 scN.nd (de_op op_addG opd_add (de_op op_mulW opd_mul (de_var 3) de_int) (de_cal (ok__law_mixed T P w base) hr gd tk hB (dr_e (de_var 2) (dr_e (de_op op_addG opd_add (de_op op_addG opd_add (de_op op_mulW opd_mul de_int (de_var 1)) (de_op op_mulW opd_mul de_int (de_var 4))) (de_op op_mulW opd_mul (de_var 4) (de_var 4))) dr_nil)))))))
    (ds_one (ds_retO hfr (do_lst (da_cons (de_var 3) da_nil)))))))))

abbrev nm__law_order_of : List Str := ["_law_pile_here", "_law_many", "_law_order", "_law_k"]
theorem sc__law_order_of : FnScope nm__law_order_of ["_law_pile_here", "_law_many"] (defScope (top 50)) := ⟨rfl, rfl, rfl, by decide +kernel, rfl, by decide +kernel, by decide +kernel⟩
theorem ok__law_order_of {K : PySem.W.Frag} {mg : Str → Option Value} (T : Tx K mg) (P : Program) (w : World) (base : Heap) : Cal P w K mg base 2 "_law_order_of" [] [0] 2 m__law_order_of false := by
  obtain ⟨fd, F⟩ := T.d__law_order_of
  have scN := sc__law_order_of
  refine ⟨_, fd, ["_law_pile_here", "_law_many"], [], [], T.g__law_order_of, F.kp, fun_ok [0] false F sc__law_order_of rfl rfl fun cdv A outer s H E B hr gd tk po hB hfr => ?_, F.bindsN fun _ _ _ _ _ _ us hl => match us, hl with | [_, _], _ => rfl, .nil, fun _ _ => .nil⟩
  exact (ds_cons (mid := [0, 2]) (ds_out [2, 0] (ds_setO 2 scN.nd (do_lst da_nil)))
    (ds_cons (mid := [0]) (ds_out [0, 2] (ds_for po rfl (di_rng1 T.b_range (da_cons (de_var 1) da_nil)) (dg_name 3 scN.nd) (ds_one (ds_e (de_mt 2 PySem.F.slot_list_insert PySem.F.type_list_insert mt_insert mtd_ins (da_cons (de_cal (ok__law_take T P w base) hr gd tk hB (dr_io 0 (dr_e (de_op op_addG opd_add (de_var 3) de_int) dr_nil))) (da_cons (de_var 3) da_nil)))))))
    (ds_one (ds_ret hfr (de_var 2)))))

abbrev nm__law_at : List Str := ["_law_net_here", "_law_place_here", "_law_end"]
theorem sc__law_at : FnScope nm__law_at ["_law_net_here", "_law_place_here"] (defScope (top 57)) := ⟨rfl, rfl, rfl, by decide +kernel, rfl, by decide +kernel, by decide +kernel⟩
theorem ok__law_at {K : PySem.W.Frag} {mg : Str → Option Value} (T : Tx K mg) (P : Program) (w : World) (base : Heap) : Cal P w K mg base 2 "_law_at" [] [] 2 m__law_at true := by
  obtain ⟨fd, F⟩ := T.d__law_at
  have scN := sc__law_at
  refine ⟨_, fd, ["_law_net_here", "_law_place_here"], [], [], T.g__law_at, F.kp, fun_ok [] true F sc__law_at rfl rfl fun cdv A outer s H E B hr gd tk po hB hfr => ?_, F.bindsN fun _ _ _ _ _ _ us hl => match us, hl with | [_, _], _ => rfl, .nil, fun _ _ => .nil⟩
  exact (ds_one (ds_retO hfr (do_lc rfl scN.nd hB (di_list (de_cal (ok__law_ends T P w base) hr gd tk hB (dr_e (de_var 0) dr_nil))) (blkOk_by (own := [("_law_end", 2)]) (N := nm__law_at) (sc := defScope (top 57)) (by decide +kernel)) (fun _ _ _ _ _ B hW hB => (dg_name 2 scN.nd)) (fun _ _ _ _ _ B hW hB => (dts_one (dt_cmp (op_eqE hr.units) opd_eq (de_cal (ok__law_place T P w base) hr gd (takes_q hW) hB (dr_e (de_var 0) (dr_e (de_var 2) dr_nil))) (de_var 1)))) (fun _ _ _ _ _ B hW hB => (de_var 2)))))

abbrev nm__law_is_end : List Str := ["_law_net_here", "_law_thing"]
theorem sc__law_is_end : FnScope nm__law_is_end ["_law_net_here", "_law_thing"] (defScope (top 58)) := ⟨rfl, rfl, rfl, by decide +kernel, rfl, by decide +kernel, by decide +kernel⟩
theorem ok__law_is_end {K : PySem.W.Frag} {mg : Str → Option Value} (T : Tx K mg) (P : Program) (w : World) (base : Heap) : Cal P w K mg base 2 "_law_is_end" [] [] 2 m__law_is_end false := by
  obtain ⟨fd, F⟩ := T.d__law_is_end
  have scN := sc__law_is_end
  refine ⟨_, fd, ["_law_net_here", "_law_thing"], [], [], T.g__law_is_end, F.kp, fun_ok [] false F sc__law_is_end rfl rfl fun cdv A outer s H E B hr gd tk po hB hfr => ?_, F.bindsN fun _ _ _ _ _ _ us hl => match us, hl with | [_, _], _ => rfl, .nil, fun _ _ => .nil⟩
  exact (ds_cons (mid := []) (ds_if (dt_w (dw_or (dt_not (dt_e (de_isi "tuple" (de_var 1) T.b_isinstance T.b_tuple))) (dw_or (dt_cmp (op_neE hr.units) opd_ne (de_callB call_len fnd_len T.b_len (da_cons (de_var 1) da_nil)) de_int) (dw_or (dt_not (dt_e (de_cal (ok__law_whole T P w base) hr gd tk hB (dr_e (de_ix ix_seq opd_ix (de_var 1) de_int) dr_nil)))) (dw_or1 (dt_not (dt_e (de_cal (ok__law_whole T P w base) hr gd tk hB (dr_e (de_ix ix_seq opd_ix (de_var 1) de_int) dr_nil))))))))) (ds_one (ds_ret hfr de_bl)) ds_nil)
    (ds_one (ds_ret hfr (de_and (de_cmp op_ge opd_ge (de_ix ix_seq opd_ix (de_var 1) de_int) de_int) (de_and (de_cmp op_lt opd_lt (de_ix ix_seq opd_ix (de_var 1) de_int) (de_callB call_len fnd_len T.b_len (da_cons (de_ix ix_seq opd_ix (de_var 0) de_int) da_nil))) (de_one (de_cmp (op_inD (u65 hr)) opd_in (de_ix ix_seq opd_ix (de_var 1) de_int) (de_lst (da_cons de_int (da_cons de_int da_nil))))))))))

abbrev nm__law_turns : List Str := ["_law_going", "_law_back", "_law_found", "_law_k"]
theorem sc__law_turns : FnScope nm__law_turns ["_law_going", "_law_back"] (defScope (top 59)) := ⟨rfl, rfl, rfl, by decide +kernel, rfl, by decide +kernel, by decide +kernel⟩
theorem ok__law_turns {K : PySem.W.Frag} {mg : Str → Option Value} (T : Tx K mg) (P : Program) (w : World) (base : Heap) : Cal P w K mg base 2 "_law_turns" [] [] 2 m__law_turns false := by
  obtain ⟨fd, F⟩ := T.d__law_turns
  have scN := sc__law_turns
  refine ⟨_, fd, ["_law_going", "_law_back"], [], [], T.g__law_turns, F.kp, fun_ok [] false F sc__law_turns rfl rfl fun cdv A outer s H E B hr gd tk po hB hfr => ?_, F.bindsN fun _ _ _ _ _ _ us hl => match us, hl with | [_, _], _ => rfl, .nil, fun _ _ => .nil⟩
  exact (ds_cons (mid := [2]) (ds_setO 2 scN.nd (do_lst da_nil))
    (ds_cons (mid := [2]) (ds_for po rfl (di_rng2 T.b_range (da_cons de_int (da_cons (de_callB call_len fnd_len T.b_len (da_cons (de_var 0) da_nil)) da_nil))) (dg_name 3 scN.nd) (ds_one (ds_e (de_mt 2 PySem.F.slot_list_append PySem.F.type_list_append mt_append mtd_app (da_cons (de_tup (da_cons (de_cal (ok__law_far T P w base) hr gd tk hB (dr_e (de_ix ix_seq opd_ix (de_var 0) (de_op op_sub opd_sub (de_var 3) de_int)) dr_nil)) (da_cons (de_ix ix_seq opd_ix (de_var 0) (de_var 3)) da_nil))) da_nil)))))
    (ds_cons (mid := []) (ds_if (dt_e (de_var 1)) (ds_one (ds_out [2] (ds_e (de_mt 2 PySem.F.slot_list_append PySem.F.type_list_append mt_append mtd_app (da_cons (de_tup (da_cons (de_cal (ok__law_far T P w base) hr gd tk hB (dr_e (de_ix ix_seq opd_ix (de_var 0) (de_un un_neg und_fneg de_int)) dr_nil)) (da_cons (de_ix ix_seq opd_ix (de_var 0) de_int) da_nil))) da_nil))))) (dss_frz (pre' := []) ds_nil))
    (ds_one (ds_ret hfr (de_var 2))))))

abbrev nm__law_open : List Str := ["_law_net_here", "_law_turn"]
theorem sc__law_open : FnScope nm__law_open ["_law_net_here", "_law_turn"] (defScope (top 60)) := ⟨rfl, rfl, rfl, by decide +kernel, rfl, by decide +kernel, by decide +kernel⟩
theorem ok__law_open {K : PySem.W.Frag} {mg : Str → Option Value} (T : Tx K mg) (P : Program) (w : World) (base : Heap) : Cal P w K mg base 2 "_law_open" [] [] 2 m__law_open false := by
  obtain ⟨fd, F⟩ := T.d__law_open
  have scN := sc__law_open
  refine ⟨_, fd, ["_law_net_here", "_law_turn"], [], [], T.g__law_open, F.kp, fun_ok [] false F sc__law_open rfl rfl fun cdv A outer s H E B hr gd tk po hB hfr => ?_, F.bindsN fun _ _ _ _ _ _ us hl => match us, hl with | [_, _], _ => rfl, .nil, fun _ _ => .nil⟩
  exact (ds_one (ds_ret hfr (de_cmp (op_neE hr.units) opd_ne (de_cal (ok__law_kind T P w base) hr gd tk hB (dr_e (de_var 0) (dr_e (de_ix ix_seq opd_ix (de_var 1) de_int) dr_nil))) (de_cal (ok__law_kind T P w base) hr gd tk hB (dr_e (de_var 0) (dr_e (de_ix ix_seq opd_ix (de_var 1) de_int) dr_nil))))))

abbrev nm__law_least : List Str := ["_law_going", "_law_back", "_law_about", "_law_end", "_law_ways", "_law_k"]
theorem sc__law_least : FnScope nm__law_least ["_law_going", "_law_back"] (defScope (top 69)) := ⟨rfl, rfl, rfl, by decide +kernel, rfl, by decide +kernel, by decide +kernel⟩
theorem ok__law_least {K : PySem.W.Frag} {mg : Str → Option Value} (T : Tx K mg) (P : Program) (w : World) (base : Heap) : Cal P w K mg base 2 "_law_least" [] [] 2 m__law_least false := by
  obtain ⟨fd, F⟩ := T.d__law_least
  have scN := sc__law_least
  refine ⟨_, fd, ["_law_going", "_law_back"], [], [], T.g__law_least, F.kp, fun_ok [] false F sc__law_least rfl rfl fun cdv A outer s H E B hr gd tk po hB hfr => ?_, F.bindsN fun _ _ _ _ _ _ us hl => match us, hl with | [_, _], _ => rfl, .nil, fun _ _ => .nil⟩
  exact (ds_cons (mid := []) (ds_setLc rfl scN.nd hB (sw_true rfl rfl rfl (by decide +kernel)) (di_seq (de_revL (de_var 0))) (blkOk_by (own := [("_law_end", 3)]) (N := nm__law_least) (sc := defScope (top 69)) (by decide +kernel)) (fun _ _ _ _ _ B hW hB => (dg_name 3 scN.nd)) (fun _ _ _ _ _ B hW hB => dts_nil) (fun _ _ _ _ _ B hW hB => (de_cal (ok__law_far T P w base) hr gd (takes_q hW) hB (dr_e (de_var 3) dr_nil))))
    (ds_cons (mid := []) (ds_set 4 scN.nd (de_lst (da_cons (de_callT call_list_of fnd_list T.b_list (da_cons (de_var 0) da_nil)) (da_cons (de_var 2) da_nil))))
    (ds_cons (mid := []) (ds_if (dt_e (de_var 1)) (ds_one (ds_for po rfl (di_rng2 T.b_range (da_cons de_int (da_cons (de_callB call_len fnd_len T.b_len (da_cons (de_var 0) da_nil)) da_nil))) (dg_name 5 scN.nd) (ds_one (ds_set 4 scN.nd (de_op op_addG opd_add (de_var 4) (de_lst (da_cons (de_op op_addG opd_add (de_sl (de_var 0) (dp_some (de_var 5)) dp_none) (de_sl (de_var 0) dp_none (dp_some (de_var 5)))) (da_cons (de_op op_addG opd_add (de_sl (de_var 2) (dp_some (de_var 5)) dp_none) (de_sl (de_var 2) dp_none (dp_some (de_var 5)))) da_nil)))))))) ds_nil)
    (ds_one (ds_ret hfr (de_ix ix_seq opd_ix (de_cal (ok__law_ascending T P w base) hr gd tk hB (dr_e (de_var 4) dr_nil)) de_int))))))

abbrev nm__law_led : List Str := ["_law_table", "_law_end", "_law_joins", "_law_one", "_law_other", "_law_going"]
theorem sc__law_led : FnScope nm__law_led ["_law_table", "_law_end"] (defScope (top 70)) := ⟨rfl, rfl, rfl, by decide +kernel, rfl, by decide +kernel, by decide +kernel⟩
theorem ok__law_led {K : PySem.W.Frag} {mg : Str → Option Value} (T : Tx K mg) (P : Program) (w : World) (base : Heap) : Cal P w K mg base 2 "_law_led" [] [] 2 m__law_led false := by
  obtain ⟨fd, F⟩ := T.d__law_led
  have scN := sc__law_led
  refine ⟨_, fd, ["_law_table", "_law_end"], [], [], T.g__law_led, F.kp, fun_ok [] false F sc__law_led rfl rfl fun cdv A outer s H E B hr gd tk po hB hfr => ?_, F.bindsN fun _ _ _ _ _ _ us hl => match us, hl with | [_, _], _ => rfl, .nil, fun _ _ => .nil⟩
  exact (ds_cons (mid := [2]) (ds_setO 2 scN.nd do_dnewT)
    (ds_cons (mid := []) (ds_out [2] (ds_for po rfl (di_seq (de_var 0)) (dg_tup rfl (dgs_cons (dg_name 3 scN.nd) (dgs_cons (dg_name 4 scN.nd) dgs_nil))) (ds_cons (mid := [2]) (ds_dput 2 (u65 hr) (de_var 4) (de_var 3))
    (ds_one (ds_dput 2 (u65 hr) (de_var 3) (de_var 4))))))
    (ds_cons (mid := [5]) (ds_setO 5 scN.nd (do_lst (da_cons (de_var 1) da_nil)))
    (ds_cons (mid := []) (ds_out [5] (ds_while (fun _ => 1000) po (dt_w (dw_and (dt_dinF (u65 hr) (de_cal (ok__law_far T P w base) hr gd tk hB (dr_e (de_ixO 5 (de_un un_neg und_fneg de_int)) dr_nil)) (de_var 2)) (dw_and1 (dt_cmp (op_neE hr.units) opd_ne (de_dgetF (u65 hr) (de_var 2) (de_cal (ok__law_far T P w base) hr gd tk hB (dr_e (de_ixO 5 (de_un un_neg und_fneg de_int)) dr_nil))) (de_ixO 5 de_int))))) (ds_one (ds_e (de_mt 5 PySem.F.slot_list_append PySem.F.type_list_append mt_append mtd_app (da_cons (de_dgetF (u65 hr) (de_var 2) (de_cal (ok__law_far T P w base) hr gd tk hB (dr_e (de_ixO 5 (de_un un_neg und_fneg de_int)) dr_nil))) da_nil))))))
    (ds_one (ds_ret hfr (de_var 5)))))))

abbrev nm__law_error : List Str := ["_law_caught", "_law_flags_here", "_law_names"]
theorem sc__law_error : FnScope nm__law_error ["_law_caught"] (defScope (top 74)) := ⟨rfl, rfl, rfl, by decide +kernel, rfl, by decide +kernel, by decide +kernel⟩
theorem ok__law_error {K : PySem.W.Frag} {mg : Str → Option Value} (T : Tx K mg) (P : Program) (w : World) (base : Heap) : Cal P w K mg base 2 "_law_error" [] [] 1 m__law_error false := by
  obtain ⟨fd, F⟩ := T.d__law_error
  have scN := sc__law_error
  refine ⟨_, fd, ["_law_caught"], [], [], T.g__law_error, F.kp, fun_ok [] false F sc__law_error rfl rfl fun cdv A outer s H E B hr gd tk po hB hfr => ?_, F.bindsN fun _ _ _ _ _ _ us hl => match us, hl with | [_], _ => rfl, .nil, fun _ _ => .nil⟩
  exact (ds_cons (mid := []) (ds_if (dt_cmp op_isG opd_is (de_var 0) de_non) (ds_one (ds_ret hfr de_str)) ds_nil)
    (ds_cons (mid := []) (ds_set 1 scN.nd (de_cal (ok__law_flags T P w base) hr gd tk hB (dr_e (de_var 0) dr_nil)))
    (ds_cons (mid := []) (ds_if (dt_w (dw_or (dt_cmp (op_neE hr.units) opd_ne (de_ml PySem.F.slot_list_count PySem.F.type_list_count (mt_countD (u65 hr)) mld_cntD (de_var 1) (da_cons de_bl da_nil)) de_int) (dw_or (dt_not (dt_e (de_isX xsL T.xs T.g_TrailsError (de_var 0) T.b_isinstance (hx := (.head _))))) (dw_or1 (dt_not (dt_e (de_isV xsL T.xs T.b_ValueError (de_var 0) T.b_isinstance))))))) (ds_one (ds_ret hfr de_str)) ds_nil)
    (ds_cons (mid := []) (ds_set 2 scN.nd (de_lst (da_cons de_str (da_cons de_str (da_cons de_str (da_cons de_str (da_cons de_str (da_cons de_str (da_cons de_str (da_cons de_str (da_cons de_str (da_cons de_str (da_cons de_str (da_cons de_str da_nil))))))))))))))
    (ds_one (ds_ret hfr (de_ix ix_seq opd_ix (de_op op_addG opd_add (de_var 2) (de_lst (da_cons de_str (da_cons de_str da_nil)))) (de_ml PySem.F.slot_list_index PySem.F.type_list_index (mt_indexD (u65 hr)) mld_idxD (de_var 1) (da_cons de_bl da_nil)))))))))

abbrev nm__law_bent : List Str := ["_law_pile_here", "_law_text", "_law_words", "_law_signs", "_law_at_here", "_law_way", "_law_parts", "_law_spot"]
theorem sc__law_bent : FnScope nm__law_bent ["_law_pile_here", "_law_text"] (defScope (top 80)) := ⟨rfl, rfl, rfl, by decide +kernel, rfl, by decide +kernel, by decide +kernel⟩
theorem ok__law_bent {K : PySem.W.Frag} {mg : Str → Option Value} (T : Tx K mg) (P : Program) (w : World) (base : Heap) : Cal P w K mg base 2 "_law_bent" [] [0] 2 m__law_bent false := by
  obtain ⟨fd, F⟩ := T.d__law_bent
  have scN := sc__law_bent
  refine ⟨_, fd, ["_law_pile_here", "_law_text"], [], [], T.g__law_bent, F.kp, fun_ok [0] false F sc__law_bent rfl rfl fun cdv A outer s H E B hr gd tk po hB hfr => ?_, F.bindsN fun _ _ _ _ _ _ us hl => match us, hl with | [_, _], _ => rfl, .nil, fun _ _ => .nil⟩
  exact (ds_cons (mid := [0]) (ds_set 2 scN.nd (de_lst (da_cons de_str (da_cons de_str (da_cons de_str (da_cons de_str (da_cons de_str (da_cons de_str (da_cons de_str (da_cons de_str (da_cons de_str (da_cons de_str (da_cons de_str (da_cons de_str (da_cons de_str (da_cons de_str (da_cons de_str da_nil)))))))))))))))))
    (ds_cons (mid := [0]) (ds_set 3 scN.nd de_str)
    (ds_cons (mid := [0]) (ds_set 4 scN.nd (de_cal (ok__law_take T P w base) hr gd tk hB (dr_io 0 (dr_e (de_op op_addG opd_add (de_callB call_len fnd_len T.b_len (da_cons (de_var 1) da_nil)) de_int) dr_nil))))
    (ds_cons (mid := [0]) (ds_set 5 scN.nd (de_cal (ok__law_take T P w base) hr gd tk hB (dr_io 0 (dr_e de_int dr_nil))))
    (ds_cons (mid := [0]) (ds_if (dt_cmp (op_eqE hr.units) opd_eq (de_var 5) de_int) (ds_one (ds_ret hfr (de_op op_addG opd_add (de_op op_addG opd_add (de_sl (de_var 1) dp_none (dp_some (de_var 4))) (de_ix ix_seq opd_ix (de_var 3) (de_cal (ok__law_take T P w base) hr gd tk hB (dr_io 0 (dr_e (de_callB call_len fnd_len T.b_len (da_cons (de_var 3) da_nil)) dr_nil))))) (de_sl (de_var 1) (dp_some (de_var 4)) dp_none)))) ds_nil)
    (ds_cons (mid := [0]) (ds_if (dt_cmp (op_eqE hr.units) opd_eq (de_var 5) de_int) (ds_one (ds_ret hfr (de_op op_addG opd_add (de_sl (de_var 1) dp_none (dp_some (de_var 4))) (de_sl (de_var 1) (dp_some (de_op op_addG opd_add (de_var 4) de_int)) dp_none)))) ds_nil)
    (ds_cons (mid := [0]) (ds_if (dt_cmp (op_eqE hr.units) opd_eq (de_var 5) de_int) (ds_one (ds_ret hfr (de_op op_addG opd_add (de_op op_addG opd_add (de_sl (de_var 1) dp_none (dp_some (de_var 4))) (de_ix ix_seq opd_ix (de_var 3) (de_cal (ok__law_take T P w base) hr gd tk hB (dr_io 0 (dr_e (de_callB call_len fnd_len T.b_len (da_cons (de_var 3) da_nil)) dr_nil))))) (de_sl (de_var 1) (dp_some (de_op op_addG opd_add (de_var 4) de_int)) dp_none)))) ds_nil)
    (ds_cons (mid := [0, 6]) (ds_out [6, 0] (ds_setO 6 scN.nd (do_split (de_var 1) (de_ix ix_seq opd_ix (de_lst (da_cons de_str (da_cons de_str da_nil))) (de_op op_sub opd_sub (de_var 5) de_int)))))
    (ds_cons (mid := [0, 6]) (ds_set 7 scN.nd (de_cal (ok__law_take T P w base) hr gd tk hB (dr_io 0 (dr_e (de_lenO 6 T.b_len) dr_nil))))
    (ds_cons (mid := [0]) (ds_out [0, 6] (ds_sto 6 (de_ix ix_seq opd_ix (de_var 2) (de_cal (ok__law_take T P w base) hr gd tk hB (dr_io 0 (dr_e (de_callB call_len fnd_len T.b_len (da_cons (de_var 2) da_nil)) dr_nil)))) (de_var 7)))
    (ds_one (ds_ret hfr (de_tm1 PySem.F.slot_str_join PySem.F.type_str_join mt_join tmd_join (de_ix ix_seq opd_ix (de_lst (da_cons de_str (da_cons de_str da_nil))) (de_op op_sub opd_sub (de_var 5) de_int)) (de_var 6))))))))))))))

abbrev nm_is_point : List Str := ["thing", "many"]
theorem sc_is_point : FnScope nm_is_point ["thing", "many"] (defScope (top 21)) := ⟨rfl, rfl, rfl, by decide +kernel, rfl, by decide +kernel, by decide +kernel⟩
theorem ok_is_point {K : PySem.W.Frag} {mg : Str → Option Value} (T : Tx K mg) (P : Program) (w : World) (base : Heap) : Cal P w K mg base 3 "is_point" [] [] 2 m_is_point false := by
  obtain ⟨fd, F⟩ := T.d_is_point
  have scN := sc_is_point
  refine ⟨_, fd, ["thing", "many"], [], [], T.g_is_point, F.kp, fun_ok [] false F sc_is_point rfl rfl fun cdv A outer s H E B hr gd tk po hB hfr => ?_, F.bindsN fun _ _ _ _ _ _ us hl => match us, hl with | [_, _], _ => rfl, .nil, fun _ _ => .nil⟩
  exact (ds_one (ds_ret hfr (de_and (de_isi "tuple" (de_var 0) T.b_isinstance T.b_tuple) (de_and (de_cmp (op_eqE hr.units) opd_eq (de_callB call_len fnd_len T.b_len (da_cons (de_var 0) da_nil)) de_int) (de_and (de_cal (ok_is_below T P w base) hr gd tk hB (dr_e (de_ix ix_seq opd_ix (de_var 0) de_int) (dr_e (de_var 1) dr_nil))) (de_one (de_cal (ok_is_below T P w base) hr gd tk hB (dr_e (de_ix ix_seq opd_ix (de_var 0) de_int) (dr_e (de_gint T.c_MOST_KINDS) dr_nil)))))))))

abbrev nm_is_right_end : List Str := ["net", "thing"]
theorem sc_is_right_end : FnScope nm_is_right_end ["net", "thing"] (defScope (top 24)) := ⟨rfl, rfl, rfl, by decide +kernel, rfl, by decide +kernel, by decide +kernel⟩
theorem ok_is_right_end {K : PySem.W.Frag} {mg : Str → Option Value} (T : Tx K mg) (P : Program) (w : World) (base : Heap) : Cal P w K mg base 3 "is_right_end" [] [] 2 m_is_right_end false := by
  obtain ⟨fd, F⟩ := T.d_is_right_end
  have scN := sc_is_right_end
  refine ⟨_, fd, ["net", "thing"], [], [], T.g_is_right_end, F.kp, fun_ok [] false F sc_is_right_end rfl rfl fun cdv A outer s H E B hr gd tk po hB hfr => ?_, F.bindsN fun _ _ _ _ _ _ us hl => match us, hl with | [_, _], _ => rfl, .nil, fun _ _ => .nil⟩
  exact (ds_one (ds_ret hfr (de_and (de_isi "tuple" (de_var 1) T.b_isinstance T.b_tuple) (de_and (de_cmp (op_eqE hr.units) opd_eq (de_callB call_len fnd_len T.b_len (da_cons (de_var 1) da_nil)) de_int) (de_and (de_cal (ok_is_below T P w base) hr gd tk hB (dr_e (de_ix ix_seq opd_ix (de_var 1) de_int) (dr_e (de_callB call_len fnd_len T.b_len (da_cons (de_ix ix_seq opd_ix (de_var 0) de_int) da_nil)) dr_nil))) (de_one (de_cal (ok_is_below T P w base) hr gd tk hB (dr_e (de_ix ix_seq opd_ix (de_var 1) de_int) (dr_e de_int dr_nil)))))))))

abbrev nm_shut_in : List Str := ["net", "going", "back", "turn"]
theorem sc_shut_in : FnScope nm_shut_in ["net", "going", "back"] (defScope (top 33)) := ⟨rfl, rfl, rfl, by decide +kernel, rfl, by decide +kernel, by decide +kernel⟩
theorem ok_shut_in {K : PySem.W.Frag} {mg : Str → Option Value} (T : Tx K mg) (P : Program) (w : World) (base : Heap) : Cal P w K mg base 3 "shut_in" [] [] 3 m_shut_in false := by
  obtain ⟨fd, F⟩ := T.d_shut_in
  have scN := sc_shut_in
  refine ⟨_, fd, ["net", "going", "back"], [], [], T.g_shut_in, F.kp, fun_ok [] false F sc_shut_in rfl rfl fun cdv A outer s H E B hr gd tk po hB hfr => ?_, F.bindsN fun _ _ _ _ _ _ us hl => match us, hl with | [_, _, _], _ => rfl, .nil, fun _ _ => .nil⟩
  exact (ds_one (ds_ret hfr (de_lc rfl scN.nd hB (di_seq (de_cal (ok_turns_in T P w base) hr gd tk hB (dr_e (de_var 1) (dr_e (de_var 2) dr_nil)))) (blkOk_by (own := [("turn", 3)]) (N := nm_shut_in) (sc := defScope (top 33)) (by decide +kernel)) (fun _ _ _ _ _ B hW hB => (dg_name 3 scN.nd)) (fun _ _ _ _ _ B hW hB => (dts_one (dt_not (dt_e (de_cal (ok_is_open T P w base) hr gd (takes_q hW) hB (dr_e (de_var 0) (dr_e (de_var 3) dr_nil))))))) (fun _ _ _ _ _ B hW hB => (de_var 3)))))

abbrev nm__law_net : List Str := ["_law_pile_here", "_law_most", "_law_many", "_law_way", "_law_kinds", "_law_count", "_law_spots", "_law_j", "_law_last", "_law_first", "_law_roads_here", "_law_p", "_law_q", "_law_k"]
theorem sc__law_net : FnScope nm__law_net ["_law_pile_here", "_law_most"] (defScope (top 52)) := ⟨rfl, rfl, rfl, by decide +kernel, rfl, by decide +kernel, by decide +kernel⟩
theorem ok__law_net {K : PySem.W.Frag} {mg : Str → Option Value} (T : Tx K mg) (P : Program) (w : World) (base : Heap) : Cal P w K mg base 3 "_law_net" [] [0] 2 m__law_net false := by
  obtain ⟨fd, F⟩ := T.d__law_net
  have scN := sc__law_net
  refine ⟨_, fd, ["_law_pile_here", "_law_most"], [], [], T.g__law_net, F.kp, fun_ok [0] false F sc__law_net rfl rfl fun cdv A outer s H E B hr gd tk po hB hfr => ?_, F.bindsN fun _ _ _ _ _ _ us hl => match us, hl with | [_, _], _ => rfl, .nil, fun _ _ => .nil⟩
  exact (ds_cons (mid := [0]) (ds_set 2 scN.nd (de_ix ix_seq opd_ix (de_lst (da_cons de_int (da_cons de_int (da_cons de_int (da_cons de_int (da_cons de_int (da_cons de_int (da_cons de_int (da_cons de_int da_nil))))))))) (de_cal (ok__law_take T P w base) hr gd tk hB (dr_io 0 (dr_e de_int dr_nil)))))
    (ds_cons (mid := [0]) (ds_par 3 4 rfl scN.nd (de_cal (ok__law_take T P w base) hr gd tk hB (dr_io 0 (dr_e de_int dr_nil))) (de_ix ix_seq opd_ix (de_lst (da_cons de_int (da_cons de_int (da_cons de_int (da_cons de_int (da_cons de_int da_nil)))))) (de_cal (ok__law_take T P w base) hr gd tk hB (dr_io 0 (dr_e de_int dr_nil)))) (hp := (ps_par rfl scN.nd rfl rfl (by decide) rfl rfl (da_cons (de_cal (ok__law_take T P w base) hr gd tk hB (dr_io 0 (dr_e de_int dr_nil))) (da_cons (de_ix ix_seq opd_ix (de_lst (da_cons de_int (da_cons de_int (da_cons de_int (da_cons de_int (da_cons de_int da_nil)))))) (de_cal (ok__law_take T P w base) hr gd tk hB (dr_io 0 (dr_e de_int dr_nil)))) da_nil)) rfl)))
    (ds_cons (mid := [0]) (ds_set 5 scN.nd (de_cal (ok__law_take T P w base) hr gd tk hB (dr_io 0 (dr_e (de_op op_addG opd_add (de_var 1) de_int) dr_nil))))
    (ds_cons (mid := [0]) (ds_setLc rfl scN.nd hB (sw_true rfl rfl rfl (by decide +kernel)) (di_rng1 T.b_range (da_cons (de_op op_addG opd_add (de_var 5) de_int) da_nil)) (blkOk_by (own := [("_law_j", 7)]) (N := nm__law_net) (sc := defScope (top 52)) (by decide +kernel)) (fun _ _ _ _ _ B hW hB => (dg_name 7 scN.nd)) (fun _ _ _ _ _ B hW hB => dts_nil) (fun _ _ _ _ _ B hW hB => (de_cal (ok__law_take T P w base) hr gd (takes_q hW) hB (dr_io 0 (dr_e (de_var 2) dr_nil)))))
    (ds_cons (mid := [0]) (ds_set 8 scN.nd (de_cal (ok__law_take T P w base) hr gd tk hB (dr_io 0 (dr_e (de_var 4) dr_nil))))
    (ds_cons (mid := [0]) (ds_set 9 scN.nd (de_var 8))
    (ds_cons (mid := [0, 10]) (ds_out [10, 0] (ds_setO 10 scN.nd (do_lst da_nil)))
    (ds_cons (mid := [0]) (ds_out [0, 10] (ds_for po rfl (di_rng1 T.b_range (da_cons (de_var 5) da_nil)) (dg_name 7 scN.nd) (ds_cons (mid := [0, 10]) (ds_par 11 12 rfl scN.nd (de_ix ix_seq opd_ix (de_var 6) (de_var 7)) (de_ix ix_seq opd_ix (de_var 6) (de_op op_addG opd_add (de_var 7) de_int)) (hp := (ps_par rfl scN.nd rfl rfl (by decide) rfl rfl (da_cons (de_ix ix_seq opd_ix (de_var 6) (de_var 7)) (da_cons (de_ix ix_seq opd_ix (de_var 6) (de_op op_addG opd_add (de_var 7) de_int)) da_nil)) rfl)))
    (ds_cons (mid := [0, 10]) (ds_if (dt_cmp (op_eqE hr.units) opd_eq (de_var 3) de_int) (ds_one (ds_set 11 scN.nd (de_cal (ok__law_take T P w base) hr gd tk hB (dr_io 0 (dr_e (de_var 2) dr_nil))))) ds_nil)
    (ds_cons (mid := [0, 10]) (ds_if (dt_w (dw_and (dt_cmp op_gt opd_gt (de_var 3) de_int) (dw_and1 (dt_cmp (op_eqE hr.units) opd_eq (de_var 7) (de_op op_sub opd_sub (de_var 5) de_int))))) (ds_one (ds_set 12 scN.nd (de_ix ix_seq opd_ix (de_var 6) de_int))) ds_nil)
    (ds_cons (mid := [0, 10]) (ds_set 13 scN.nd (de_cal (ok__law_take T P w base) hr gd tk hB (dr_io 0 (dr_e (de_var 4) dr_nil))))
    (ds_cons (mid := [0, 10]) (ds_if (dt_cmp op_gt opd_gt (de_var 3) de_int) (ds_one (ds_set 13 scN.nd (de_op op_modN opd_mod (de_callT call_int1 fnd_int T.b_int (da_cons (de_op op_addG opd_add (de_op op_addG opd_add (de_var 8) de_int) (de_cal (ok__law_take T P w base) hr gd tk hB (dr_io 0 (dr_e (de_op op_sub opd_sub (de_var 4) de_int) dr_nil)))) da_nil)) (de_var 4)))) ds_nil)
    (ds_cons (mid := [0, 10]) (ds_if (dt_cmp (op_eqE hr.units) opd_eq (de_var 7) de_int) (ds_one (ds_set 9 scN.nd (de_var 13))) ds_nil)
    (ds_cons (mid := [0, 10]) (ds_set 8 scN.nd (de_cal (ok__law_take T P w base) hr gd tk hB (dr_io 0 (dr_e (de_var 4) dr_nil))))
    (ds_cons (mid := [0, 10]) (ds_if (dt_w (dw_and (dt_cmp op_gt opd_gt (de_var 3) de_int) (dw_and1 (dt_cmp (op_eqE hr.units) opd_eq (de_var 7) (de_op op_sub opd_sub (de_var 5) de_int))))) (ds_one (ds_set 8 scN.nd (de_op op_modN opd_mod (de_callT call_int1 fnd_int T.b_int (da_cons (de_op op_addG opd_add (de_op op_addG opd_add (de_var 9) de_int) (de_cal (ok__law_take T P w base) hr gd tk hB (dr_io 0 (dr_e (de_op op_sub opd_sub (de_var 4) de_int) dr_nil)))) da_nil)) (de_var 4)))) ds_nil)
    (ds_one (ds_e (de_mt 10 PySem.F.slot_list_append PySem.F.type_list_append mt_append mtd_app (da_cons (de_tup (da_cons (de_tup (da_cons (de_var 11) (da_cons (de_var 13) da_nil))) (da_cons (de_tup (da_cons (de_var 12) (da_cons (de_var 8) da_nil))) da_nil))) da_nil))))))))))))))
    (ds_one (ds_ret hfr (de_tup (da_cons (de_var 2) (da_cons (de_callT call_tuple_of fnd_tuple T.b_tuple (da_cons (de_lc rfl scN.nd hB (di_list (de_cal (ok__law_order_of T P w base) hr gd tk hB (dr_io 0 (dr_e (de_var 5) dr_nil)))) (blkOk_by (own := [("_law_j", 7)]) (N := nm__law_net) (sc := defScope (top 52)) (by decide +kernel)) (fun _ _ _ _ _ B hW hB => (dg_name 7 scN.nd)) (fun _ _ _ _ _ B hW hB => dts_nil) (fun _ _ _ _ _ B hW hB => (de_ix ix_seq opd_ix (de_var 10) (de_var 7)))) da_nil)) da_nil)))))))))))))

abbrev nm__law_is_turn : List Str := ["_law_net_here", "_law_thing"]
theorem sc__law_is_turn : FnScope nm__law_is_turn ["_law_net_here", "_law_thing"] (defScope (top 61)) := ⟨rfl, rfl, rfl, by decide +kernel, rfl, by decide +kernel, by decide +kernel⟩
theorem ok__law_is_turn {K : PySem.W.Frag} {mg : Str → Option Value} (T : Tx K mg) (P : Program) (w : World) (base : Heap) : Cal P w K mg base 3 "_law_is_turn" [] [] 2 m__law_is_turn false := by
  obtain ⟨fd, F⟩ := T.d__law_is_turn
  have scN := sc__law_is_turn
  refine ⟨_, fd, ["_law_net_here", "_law_thing"], [], [], T.g__law_is_turn, F.kp, fun_ok [] false F sc__law_is_turn rfl rfl fun cdv A outer s H E B hr gd tk po hB hfr => ?_, F.bindsN fun _ _ _ _ _ _ us hl => match us, hl with | [_, _], _ => rfl, .nil, fun _ _ => .nil⟩
  exact (ds_cons (mid := []) (ds_if (dt_w (dw_or (dt_not (dt_e (de_isi "tuple" (de_var 1) T.b_isinstance T.b_tuple))) (dw_or1 (dt_cmp (op_neE hr.units) opd_ne (de_callB call_len fnd_len T.b_len (da_cons (de_var 1) da_nil)) de_int)))) (ds_one (ds_ret hfr de_bl)) ds_nil)
    (ds_cons (mid := []) (ds_if (dt_w (dw_or (dt_not (dt_e (de_cal (ok__law_is_end T P w base) hr gd tk hB (dr_e (de_var 0) (dr_e (de_ix ix_seq opd_ix (de_var 1) de_int) dr_nil))))) (dw_or (dt_not (dt_e (de_cal (ok__law_is_end T P w base) hr gd tk hB (dr_e (de_var 0) (dr_e (de_ix ix_seq opd_ix (de_var 1) de_int) dr_nil))))) (dw_or1 (dt_cmp (op_eqE hr.units) opd_eq (de_ix ix_seq opd_ix (de_var 1) de_int) (de_ix ix_seq opd_ix (de_var 1) de_int)))))) (ds_one (ds_ret hfr de_bl)) ds_nil)
    (ds_one (ds_ret hfr (de_cmp (op_eqE hr.units) opd_eq (de_cal (ok__law_place T P w base) hr gd tk hB (dr_e (de_var 0) (dr_e (de_ix ix_seq opd_ix (de_var 1) de_int) dr_nil))) (de_cal (ok__law_place T P w base) hr gd tk hB (dr_e (de_var 0) (dr_e (de_ix ix_seq opd_ix (de_var 1) de_int) dr_nil))))))))

abbrev nm__law_shut : List Str := ["_law_net_here", "_law_going", "_law_back", "_law_turn"]
theorem sc__law_shut : FnScope nm__law_shut ["_law_net_here", "_law_going", "_law_back"] (defScope (top 63)) := ⟨rfl, rfl, rfl, by decide +kernel, rfl, by decide +kernel, by decide +kernel⟩
theorem ok__law_shut {K : PySem.W.Frag} {mg : Str → Option Value} (T : Tx K mg) (P : Program) (w : World) (base : Heap) : Cal P w K mg base 3 "_law_shut" [] [] 3 m__law_shut false := by
  obtain ⟨fd, F⟩ := T.d__law_shut
  have scN := sc__law_shut
  refine ⟨_, fd, ["_law_net_here", "_law_going", "_law_back"], [], [], T.g__law_shut, F.kp, fun_ok [] false F sc__law_shut rfl rfl fun cdv A outer s H E B hr gd tk po hB hfr => ?_, F.bindsN fun _ _ _ _ _ _ us hl => match us, hl with | [_, _, _], _ => rfl, .nil, fun _ _ => .nil⟩
  exact (ds_one (ds_ret hfr (de_lc rfl scN.nd hB (di_seq (de_cal (ok__law_turns T P w base) hr gd tk hB (dr_e (de_var 1) (dr_e (de_var 2) dr_nil)))) (blkOk_by (own := [("_law_turn", 3)]) (N := nm__law_shut) (sc := defScope (top 63)) (by decide +kernel)) (fun _ _ _ _ _ B hW hB => (dg_name 3 scN.nd)) (fun _ _ _ _ _ B hW hB => (dts_one (dt_not (dt_e (de_cal (ok__law_open T P w base) hr gd (takes_q hW) hB (dr_e (de_var 0) (dr_e (de_var 3) dr_nil))))))) (fun _ _ _ _ _ B hW hB => (de_var 3)))))

abbrev nm__law_plan : List Str := ["_law_net_here", "_law_table", "_law_ends_here", "_law_one", "_law_other", "_law_found", "_law_done", "_law_end", "_law_going", "_law_plan_here", "_law_back", "_law_item"]
theorem sc__law_plan : FnScope nm__law_plan ["_law_net_here", "_law_table"] (defScope (top 71)) := ⟨rfl, rfl, rfl, by decide +kernel, rfl, by decide +kernel, by decide +kernel⟩
theorem ok__law_plan {K : PySem.W.Frag} {mg : Str → Option Value} (T : Tx K mg) (P : Program) (w : World) (base : Heap) : Cal P w K mg base 3 "_law_plan" [] [] 2 m__law_plan false := by
  obtain ⟨fd, F⟩ := T.d__law_plan
  have scN := sc__law_plan
  refine ⟨_, fd, ["_law_net_here", "_law_table"], [], [], T.g__law_plan, F.kp, fun_ok [] false F sc__law_plan rfl rfl fun cdv A outer s H E B hr gd tk po hB hfr => ?_, F.bindsN fun _ _ _ _ _ _ us hl => match us, hl with | [_, _], _ => rfl, .nil, fun _ _ => .nil⟩
  exact (ds_cons (mid := []) (ds_set 2 scN.nd (de_lst da_nil))
    (ds_cons (mid := []) (ds_for po rfl (di_seq (de_var 1)) (dg_tup rfl (dgs_cons (dg_name 3 scN.nd) (dgs_cons (dg_name 4 scN.nd) dgs_nil))) (ds_one (ds_set 2 scN.nd (de_op op_addG opd_add (de_var 2) (de_lst (da_cons (de_var 3) (da_cons (de_var 4) da_nil)))))))
    (ds_cons (mid := [5]) (ds_setO 5 scN.nd (do_lst da_nil))
    (ds_cons (mid := [5]) (ds_set 6 scN.nd (de_lst da_nil))
    (ds_cons (mid := []) (ds_out [5] (ds_for po rfl (di_list (de_op op_addG opd_add (de_lc rfl scN.nd hB (di_list (de_cal (ok__law_ends T P w base) hr gd tk hB (dr_e (de_var 0) dr_nil))) (blkOk_by (own := [("_law_one", 3)]) (N := nm__law_plan) (sc := defScope (top 71)) (by decide +kernel)) (fun _ _ _ _ _ B hW hB => (dg_name 3 scN.nd)) (fun _ _ _ _ _ B hW hB => (dts_one (dt_cmp (op_notInD (u65 hr)) opd_nin (de_var 3) (de_var 2)))) (fun _ _ _ _ _ B hW hB => (de_var 3))) (de_cal (ok__law_ends T P w base) hr gd tk hB (dr_e (de_var 0) dr_nil)))) (dg_name 7 scN.nd) (ds_one (ds_if (dt_cmp (op_notInD (u65 hr)) opd_nin (de_ix ix_seq opd_ix (de_var 7) de_int) (de_var 6)) (ds_cons (mid := [5]) (ds_set 8 scN.nd (de_cal (ok__law_led T P w base) hr gd tk hB (dr_e (de_var 1) (dr_e (de_var 7) dr_nil))))
    (ds_cons (mid := [5]) (ds_set 6 scN.nd (de_op op_addG opd_add (de_var 6) (de_lc rfl scN.nd hB (di_seq (de_var 8)) (blkOk_by (own := [("_law_one", 3)]) (N := nm__law_plan) (sc := defScope (top 71)) (by decide +kernel)) (fun _ _ _ _ _ B hW hB => (dg_name 3 scN.nd)) (fun _ _ _ _ _ B hW hB => dts_nil) (fun _ _ _ _ _ B hW hB => (de_ix ix_seq opd_ix (de_var 3) de_int)))))
    (ds_one (ds_e (de_mt 5 PySem.F.slot_list_append PySem.F.type_list_append mt_append mtd_app (da_cons (de_tup (da_cons (de_cmp (op_inD (u65 hr)) opd_in (de_var 7) (de_var 2)) (da_cons (de_cal (ok__law_least T P w base) hr gd tk hB (dr_e (de_var 8) (dr_e (de_cmp (op_inD (u65 hr)) opd_in (de_var 7) (de_var 2)) dr_nil))) da_nil))) da_nil)))))) ds_nil))))
    (ds_cons (mid := [9]) (ds_setO 9 scN.nd (do_lst da_nil))
    (ds_cons (mid := []) (ds_out [9] (ds_for po rfl (di_seq (de_var 5)) (dg_tup rfl (dgs_cons (dg_name 10 scN.nd) (dgs_cons (dg_name 8 scN.nd) dgs_nil))) (ds_one (ds_e (de_mt 9 PySem.F.slot_list_insert PySem.F.type_list_insert mt_insert mtd_ins (da_cons (de_bor [] (de_callB call_len fnd_len T.b_len (da_cons (de_lc rfl scN.nd hB (di_seq (de_var 9)) (blkOk_by (own := [("_law_item", 11)]) (N := nm__law_plan) (sc := defScope (top 71)) (by decide +kernel)) (fun _ _ _ _ _ B hW hB => (dg_name 11 scN.nd)) (fun _ _ _ _ _ B hW hB => (dts_one (dt_cmp (op_ltD (u64 hr)) opd_ltD (de_ix ix_seq opd_ix (de_var 11) de_int) (de_var 8)))) (fun _ _ _ _ _ B hW hB => (de_var 11))) da_nil))) (da_cons (de_tup (da_cons (de_var 10) (da_cons (de_var 8) da_nil))) da_nil)))))))
    (ds_one (ds_ret hfr (de_var 9))))))))))

abbrev nm__law_drawn_table : List Str := ["_law_pile_here", "_law_net_here", "_law_loose", "_law_found", "_law_place_here", "_law_ends_here", "_law_k", "_law_one", "_law_fits", "_law_end"]
theorem sc__law_drawn_table : FnScope nm__law_drawn_table ["_law_pile_here", "_law_net_here", "_law_loose"] (defScope (top 72)) := ⟨rfl, rfl, rfl, by decide +kernel, rfl, by decide +kernel, by decide +kernel⟩
theorem ok__law_drawn_table {K : PySem.W.Frag} {mg : Str → Option Value} (T : Tx K mg) (P : Program) (w : World) (base : Heap) : Cal P w K mg base 3 "_law_drawn_table" [] [0] 3 m__law_drawn_table false := by
  obtain ⟨fd, F⟩ := T.d__law_drawn_table
  have scN := sc__law_drawn_table
  refine ⟨_, fd, ["_law_pile_here", "_law_net_here", "_law_loose"], [], [], T.g__law_drawn_table, F.kp, fun_ok [0] false F sc__law_drawn_table rfl rfl fun cdv A outer s H E B hr gd tk po hB hfr => ?_, F.bindsN fun _ _ _ _ _ _ us hl => match us, hl with | [_, _, _], _ => rfl, .nil, fun _ _ => .nil⟩
  exact (ds_cons (mid := [0, 3]) (ds_out [3, 0] (ds_setO 3 scN.nd (do_lst da_nil)))
    (ds_cons (mid := [0]) (ds_out [0, 3] (ds_for po rfl (di_rng1 T.b_range (da_cons (de_ix ix_seq opd_ix (de_var 1) de_int) da_nil)) (dg_name 4 scN.nd) (ds_cons (mid := [0, 3]) (ds_set 5 scN.nd (de_of_do (do_cal (ok__law_at T P w base) hr gd tk hB (dr_e (de_var 1) (dr_e (de_var 4) dr_nil)))))
    (ds_cons (mid := [0, 3, 5]) (ds_out [5, 0, 3] (ds_setO 5 scN.nd (do_lc rfl scN.nd hB (di_list (de_cal (ok__law_order_of T P w base) hr gd tk hB (dr_io 0 (dr_e (de_callB call_len fnd_len T.b_len (da_cons (de_var 5) da_nil)) dr_nil)))) (blkOk_by (own := [("_law_k", 6)]) (N := nm__law_drawn_table) (sc := defScope (top 72)) (by decide +kernel)) (fun _ _ _ _ _ B hW hB => (dg_name 6 scN.nd)) (fun _ _ _ _ _ B hW hB => dts_nil) (fun _ _ _ _ _ B hW hB => (de_ix ix_seq opd_ix (de_var 5) (de_var 6))))))
    (ds_one (ds_out [0, 3, 5] (ds_while (fun _ => 1000) po (dt_cmp op_gt opd_gt (de_lenO 5 T.b_len) de_int) (ds_cons (mid := [0, 3, 5]) (ds_set 7 scN.nd (de_mt0 5 PySem.F.slot_list_pop PySem.F.type_list_pop mt_pop mtd_pop))
    (ds_cons (mid := [0, 3, 5]) (ds_setLcB [0] rfl scN.nd hB (sw_true rfl rfl rfl (by decide +kernel)) (di_seq (de_var 5)) (blkOk_by (own := [("_law_end", 9)]) (N := nm__law_drawn_table) (sc := defScope (top 72)) (by decide +kernel)) (fun _ _ _ _ _ B hW hB => (dg_name 9 scN.nd)) (fun _ _ _ _ _ B hW hB => (dts_one (dt_cmp (op_neE hr.units) opd_ne (de_cal (ok__law_kind T P w base) hr gd (takes_q hW) hB (dr_e (de_var 1) (dr_e (de_var 9) dr_nil))) (de_cal (ok__law_kind T P w base) hr gd (takes_q hW) hB (dr_e (de_var 1) (dr_e (de_var 7) dr_nil)))))) (fun _ _ _ _ _ B hW hB => (de_var 9)))
    (ds_one (ds_if (dt_w (dw_and (dt_cmp (op_neE hr.units) opd_ne (de_var 8) (de_lst da_nil)) (dw_and1 (dt_cmp op_gt opd_gt (de_cal (ok__law_take T P w base) hr gd tk hB (dr_io 0 (dr_e (de_var 2) dr_nil))) de_int)))) (ds_cons (mid := [0, 3, 5]) (ds_e (de_mt 5 PySem.F.slot_list_remove PySem.F.type_list_remove (mt_removeD (u65 hr)) mtd_rem (da_cons (de_ix ix_seq opd_ix (de_var 8) de_int) da_nil)))
    (ds_one (ds_e (de_mt 3 PySem.F.slot_list_append PySem.F.type_list_append mt_append mtd_app (da_cons (de_cal (ok__law_sorted T P w base) hr gd tk hB (dr_e (de_tup (da_cons (de_var 7) (da_cons (de_ix ix_seq opd_ix (de_var 8) de_int) da_nil))) dr_nil)) da_nil))))) ds_nil)))))))))))
    (ds_one (ds_ret hfr (de_cal (ok__law_ascending T P w base) hr gd tk hB (dr_e (de_var 3) dr_nil))))))

abbrev nm_is_road : List Str := ["thing", "many"]
theorem sc_is_road : FnScope nm_is_road ["thing", "many"] (defScope (top 22)) := ⟨rfl, rfl, rfl, by decide +kernel, rfl, by decide +kernel, by decide +kernel⟩
theorem ok_is_road {K : PySem.W.Frag} {mg : Str → Option Value} (T : Tx K mg) (P : Program) (w : World) (base : Heap) : Cal P w K mg base 4 "is_road" [] [] 2 m_is_road false := by
  obtain ⟨fd, F⟩ := T.d_is_road
  have scN := sc_is_road
  refine ⟨_, fd, ["thing", "many"], [], [], T.g_is_road, F.kp, fun_ok [] false F sc_is_road rfl rfl fun cdv A outer s H E B hr gd tk po hB hfr => ?_, F.bindsN fun _ _ _ _ _ _ us hl => match us, hl with | [_, _], _ => rfl, .nil, fun _ _ => .nil⟩
  exact (ds_one (ds_ret hfr (de_and (de_isi "tuple" (de_var 0) T.b_isinstance T.b_tuple) (de_and (de_cmp (op_eqE hr.units) opd_eq (de_callB call_len fnd_len T.b_len (da_cons (de_var 0) da_nil)) de_int) (de_and (de_cal (ok_is_point T P w base) hr gd tk hB (dr_e (de_ix ix_seq opd_ix (de_var 0) de_int) (dr_e (de_var 1) dr_nil))) (de_one (de_cal (ok_is_point T P w base) hr gd tk hB (dr_e (de_ix ix_seq opd_ix (de_var 0) de_int) (dr_e (de_var 1) dr_nil)))))))))

abbrev nm_is_right_going : List Str := ["net", "thing", "back", "end", "one", "other"]
theorem sc_is_right_going : FnScope nm_is_right_going ["net", "thing", "back"] (defScope (top 30)) := ⟨rfl, rfl, rfl, by decide +kernel, rfl, by decide +kernel, by decide +kernel⟩
theorem ok_is_right_going {K : PySem.W.Frag} {mg : Str → Option Value} (T : Tx K mg) (P : Program) (w : World) (base : Heap) : Cal P w K mg base 4 "is_right_going" [] [] 3 m_is_right_going false := by
  obtain ⟨fd, F⟩ := T.d_is_right_going
  have scN := sc_is_right_going
  refine ⟨_, fd, ["net", "thing", "back"], [], [], T.g_is_right_going, F.kp, fun_ok [] false F sc_is_right_going rfl rfl fun cdv A outer s H E B hr gd tk po hB hfr => ?_, F.bindsN fun _ _ _ _ _ _ us hl => match us, hl with | [_, _, _], _ => rfl, .nil, fun _ _ => .nil⟩
  exact (ds_cons (mid := []) (ds_if (dt_w (dw_or (dt_not (dt_e (de_isi "list" (de_var 1) T.b_isinstance T.b_list))) (dw_or (dt_cmp (op_eqE hr.units) opd_eq (de_var 1) (de_lst da_nil)) (dw_or1 (dt_not (dt_e (de_callB (cr_all rfl) fnd_all T.b_all (da_cons (de_lc rfl scN.nd hB (di_seq (de_var 1)) (blkOk_by (own := [("end", 3)]) (N := nm_is_right_going) (sc := defScope (top 30)) (by decide +kernel)) (fun _ _ _ _ _ B hW hB => (dg_name 3 scN.nd)) (fun _ _ _ _ _ B hW hB => dts_nil) (fun _ _ _ _ _ B hW hB => (de_cal (ok_is_right_end T P w base) hr gd (takes_q hW) hB (dr_e (de_var 0) (dr_e (de_var 3) dr_nil))))) da_nil)))))))) (ds_one (ds_ret hfr de_bl)) ds_nil)
    (ds_cons (mid := []) (ds_for po rfl (di_seq (de_cal (ok_turns_in T P w base) hr gd tk hB (dr_e (de_var 1) (dr_e (de_var 2) dr_nil)))) (dg_tup rfl (dgs_cons (dg_name 4 scN.nd) (dgs_cons (dg_name 5 scN.nd) dgs_nil))) (ds_one (ds_if (dt_w (dw_or (dt_cmp (op_eqE hr.units) opd_eq (de_var 4) (de_var 5)) (dw_or1 (dt_cmp (op_neE hr.units) opd_ne (de_cal (ok_place_at T P w base) hr gd tk hB (dr_e (de_var 0) (dr_e (de_var 4) dr_nil))) (de_cal (ok_place_at T P w base) hr gd tk hB (dr_e (de_var 0) (dr_e (de_var 5) dr_nil))))))) (ds_one (ds_ret hfr de_bl)) ds_nil)))
    (ds_one (ds_ret hfr de_bl))))

abbrev nm__law_is_going : List Str := ["_law_net_here", "_law_thing", "_law_back", "_law_end", "_law_turn"]
theorem sc__law_is_going : FnScope nm__law_is_going ["_law_net_here", "_law_thing", "_law_back"] (defScope (top 62)) := ⟨rfl, rfl, rfl, by decide +kernel, rfl, by decide +kernel, by decide +kernel⟩
theorem ok__law_is_going {K : PySem.W.Frag} {mg : Str → Option Value} (T : Tx K mg) (P : Program) (w : World) (base : Heap) : Cal P w K mg base 4 "_law_is_going" [] [] 3 m__law_is_going false := by
  obtain ⟨fd, F⟩ := T.d__law_is_going
  have scN := sc__law_is_going
  refine ⟨_, fd, ["_law_net_here", "_law_thing", "_law_back"], [], [], T.g__law_is_going, F.kp, fun_ok [] false F sc__law_is_going rfl rfl fun cdv A outer s H E B hr gd tk po hB hfr => ?_, F.bindsN fun _ _ _ _ _ _ us hl => match us, hl with | [_, _, _], _ => rfl, .nil, fun _ _ => .nil⟩
  exact (ds_cons (mid := []) (ds_if (dt_w (dw_or (dt_not (dt_e (de_isi "list" (de_var 1) T.b_isinstance T.b_list))) (dw_or (dt_cmp (op_eqE hr.units) opd_eq (de_var 1) (de_lst da_nil)) (dw_or1 (dt_cmp (op_neE hr.units) opd_ne (de_lc rfl scN.nd hB (di_seq (de_var 1)) (blkOk_by (own := [("_law_end", 3)]) (N := nm__law_is_going) (sc := defScope (top 62)) (by decide +kernel)) (fun _ _ _ _ _ B hW hB => (dg_name 3 scN.nd)) (fun _ _ _ _ _ B hW hB => (dts_one (dt_not (dt_e (de_cal (ok__law_is_end T P w base) hr gd (takes_q hW) hB (dr_e (de_var 0) (dr_e (de_var 3) dr_nil))))))) (fun _ _ _ _ _ B hW hB => (de_var 3))) (de_lst da_nil)))))) (ds_one (ds_ret hfr de_bl)) ds_nil)
    (ds_one (ds_ret hfr (de_cmp (op_eqE hr.units) opd_eq (de_lc rfl scN.nd hB (di_seq (de_cal (ok__law_turns T P w base) hr gd tk hB (dr_e (de_var 1) (dr_e (de_var 2) dr_nil)))) (blkOk_by (own := [("_law_turn", 4)]) (N := nm__law_is_going) (sc := defScope (top 62)) (by decide +kernel)) (fun _ _ _ _ _ B hW hB => (dg_name 4 scN.nd)) (fun _ _ _ _ _ B hW hB => (dts_one (dt_not (dt_e (de_cal (ok__law_is_turn T P w base) hr gd (takes_q hW) hB (dr_e (de_var 0) (dr_e (de_var 4) dr_nil))))))) (fun _ _ _ _ _ B hW hB => (de_var 4))) (de_lst da_nil)))))

abbrev nm__law_even_net : List Str := ["_law_pile_here", "_law_most", "_law_net_here", "_law_way", "_law_many", "_law_found", "_law_p", "_law_k", "_law_q", "_law_m"]
theorem sc__law_even_net : FnScope nm__law_even_net ["_law_pile_here", "_law_most"] (defScope (top 75)) := ⟨rfl, rfl, rfl, by decide +kernel, rfl, by decide +kernel, by decide +kernel⟩
theorem ok__law_even_net {K : PySem.W.Frag} {mg : Str → Option Value} (T : Tx K mg) (P : Program) (w : World) (base : Heap) : Cal P w K mg base 4 "_law_even_net" [] [0] 2 m__law_even_net false := by
  obtain ⟨fd, F⟩ := T.d__law_even_net
  have scN := sc__law_even_net
  refine ⟨_, fd, ["_law_pile_here", "_law_most"], [], [], T.g__law_even_net, F.kp, fun_ok [0] false F sc__law_even_net rfl rfl fun cdv A outer s H E B hr gd tk po hB hfr => ?_, F.bindsN fun _ _ _ _ _ _ us hl => match us, hl with | [_, _], _ => rfl, .nil, fun _ _ => .nil⟩
  exact (ds_cons (mid := [0]) (ds_set 2 scN.nd (de_cal (ok__law_net T P w base) hr gd tk hB (dr_io 0 (dr_e (de_var 1) dr_nil))))
    (ds_cons (mid := [0]) (ds_set 3 scN.nd (de_cal (ok__law_take T P w base) hr gd tk hB (dr_io 0 (dr_e de_int dr_nil))))
    (ds_cons (mid := [0]) (ds_if (dt_w (dw_or (dt_cmp (op_eqE hr.units) opd_eq (de_var 3) de_int) (dw_or1 (dt_cmp op_lt opd_lt (de_callB call_len fnd_len T.b_len (da_cons (de_ix ix_seq opd_ix (de_var 2) de_int) da_nil)) de_int)))) (ds_one (ds_ret hfr (de_var 2))) ds_nil)
    (ds_cons (mid := [0]) (ds_set 4 scN.nd (de_ix ix_seq opd_ix (de_lst (da_cons de_int (da_cons de_int (da_cons de_int da_nil)))) (de_cal (ok__law_take T P w base) hr gd tk hB (dr_io 0 (dr_e de_int dr_nil)))))
    (ds_cons (mid := [0, 5]) (ds_out [5, 0] (ds_setO 5 scN.nd (do_lst da_nil)))
    (ds_cons (mid := [0]) (ds_out [0, 5] (ds_for po rfl (di_tup (de_ix ix_seq opd_ix (de_var 2) de_int)) (dg_tup rfl (dgs_cons (dg_tup rfl (dgs_cons (dg_name 6 scN.nd) (dgs_cons (dg_name 7 scN.nd) dgs_nil))) (dgs_cons (dg_tup rfl (dgs_cons (dg_name 8 scN.nd) (dgs_cons (dg_name 9 scN.nd) dgs_nil))) dgs_nil))) (ds_one (ds_if (dt_cmp (op_eqE hr.units) opd_eq (de_var 4) de_int) (ds_one (ds_e (de_mt 5 PySem.F.slot_list_append PySem.F.type_list_append mt_append mtd_app (da_cons (de_tup (da_cons (de_tup (da_cons (de_op op_sub opd_sub de_int (de_var 6)) (da_cons (de_var 7) da_nil))) (da_cons (de_tup (da_cons (de_op op_sub opd_sub de_int (de_var 8)) (da_cons (de_var 9) da_nil))) da_nil))) da_nil)))) (ds_one (ds_e (de_mt 5 PySem.F.slot_list_append PySem.F.type_list_append mt_append mtd_app (da_cons (de_tup (da_cons (de_tup (da_cons (de_op op_modN opd_mod (de_callT call_int1 fnd_int T.b_int (da_cons (de_var 6) da_nil)) (de_var 4)) (da_cons (de_var 7) da_nil))) (da_cons (de_tup (da_cons (de_op op_modN opd_mod (de_callT call_int1 fnd_int T.b_int (da_cons (de_var 8) da_nil)) (de_var 4)) (da_cons (de_var 9) da_nil))) da_nil))) da_nil))))))))
    (ds_one (ds_ret hfr (de_tup (da_cons (de_var 4) (da_cons (de_callT call_tuple_of fnd_tuple T.b_tuple (da_cons (de_var 5) da_nil)) da_nil)))))))))))

abbrev nm_is_right_net : List Str := ["thing", "road"]
theorem sc_is_right_net : FnScope nm_is_right_net ["thing"] (defScope (top 23)) := ⟨rfl, rfl, rfl, by decide +kernel, rfl, by decide +kernel, by decide +kernel⟩
theorem ok_is_right_net {K : PySem.W.Frag} {mg : Str → Option Value} (T : Tx K mg) (P : Program) (w : World) (base : Heap) : Cal P w K mg base 5 "is_right_net" [] [] 1 m_is_right_net false := by
  obtain ⟨fd, F⟩ := T.d_is_right_net
  have scN := sc_is_right_net
  refine ⟨_, fd, ["thing"], [], [], T.g_is_right_net, F.kp, fun_ok [] false F sc_is_right_net rfl rfl fun cdv A outer s H E B hr gd tk po hB hfr => ?_, F.bindsN fun _ _ _ _ _ _ us hl => match us, hl with | [_], _ => rfl, .nil, fun _ _ => .nil⟩
  exact (ds_cons (mid := []) (ds_if (dt_w (dw_or (dt_not (dt_e (de_isi "tuple" (de_var 0) T.b_isinstance T.b_tuple))) (dw_or (dt_cmp (op_neE hr.units) opd_ne (de_callB call_len fnd_len T.b_len (da_cons (de_var 0) da_nil)) de_int) (dw_or1 (dt_not (dt_e (de_isi "tuple" (de_ix ix_seq opd_ix (de_var 0) de_int) T.b_isinstance T.b_tuple))))))) (ds_one (ds_ret hfr de_bl)) ds_nil)
    (ds_cons (mid := []) (ds_if (dt_w (dw_or (dt_not (dt_e (de_cal (ok_is_whole T P w base) hr gd tk hB (dr_e (de_ix ix_seq opd_ix (de_var 0) de_int) dr_nil)))) (dw_or (dt_cmp op_lt opd_lt (de_ix ix_seq opd_ix (de_var 0) de_int) de_int) (dw_or1 (dt_cmp op_gt opd_gt (de_ix ix_seq opd_ix (de_var 0) de_int) (de_gint T.c_MOST_PLACES)))))) (ds_one (ds_ret hfr de_bl)) ds_nil)
    (ds_one (ds_ret hfr (de_callB (cr_all rfl) fnd_all T.b_all (da_cons (de_lc rfl scN.nd hB (di_tup (de_ix ix_seq opd_ix (de_var 0) de_int)) (blkOk_by (own := [("road", 1)]) (N := nm_is_right_net) (sc := defScope (top 23)) (by decide +kernel)) (fun _ _ _ _ _ B hW hB => (dg_name 1 scN.nd)) (fun _ _ _ _ _ B hW hB => dts_nil) (fun _ _ _ _ _ B hW hB => (de_cal (ok_is_road T P w base) hr gd (takes_q hW) hB (dr_e (de_var 1) (dr_e (de_ix ix_seq opd_ix (de_var 0) de_int) dr_nil))))) da_nil))))))

abbrev nm_is_item : List Str := ["net", "thing"]
theorem sc_is_item : FnScope nm_is_item ["net", "thing"] (defScope (top 34)) := ⟨rfl, rfl, rfl, by decide +kernel, rfl, by decide +kernel, by decide +kernel⟩
theorem ok_is_item {K : PySem.W.Frag} {mg : Str → Option Value} (T : Tx K mg) (P : Program) (w : World) (base : Heap) : Cal P w K mg base 5 "is_item" [] [] 2 m_is_item false := by
  obtain ⟨fd, F⟩ := T.d_is_item
  have scN := sc_is_item
  refine ⟨_, fd, ["net", "thing"], [], [], T.g_is_item, F.kp, fun_ok [] false F sc_is_item rfl rfl fun cdv A outer s H E B hr gd tk po hB hfr => ?_, F.bindsN fun _ _ _ _ _ _ us hl => match us, hl with | [_, _], _ => rfl, .nil, fun _ _ => .nil⟩
  exact (ds_cons (mid := []) (ds_if (dt_w (dw_or (dt_not (dt_e (de_isi "tuple" (de_var 1) T.b_isinstance T.b_tuple))) (dw_or (dt_cmp (op_neE hr.units) opd_ne (de_callB call_len fnd_len T.b_len (da_cons (de_var 1) da_nil)) de_int) (dw_or1 (dt_not (dt_e (de_isi "bool" (de_ix ix_seq opd_ix (de_var 1) de_int) T.b_isinstance T.b_bool))))))) (ds_one (ds_ret hfr de_bl)) ds_nil)
    (ds_one (ds_ret hfr (de_and (de_cal (ok_is_right_going T P w base) hr gd tk hB (dr_e (de_var 0) (dr_e (de_ix ix_seq opd_ix (de_var 1) de_int) (dr_e (de_ix ix_seq opd_ix (de_var 1) de_int) dr_nil)))) (de_one (de_cmp (op_eqE hr.units) opd_eq (de_cal (ok_shut_in T P w base) hr gd tk hB (dr_e (de_var 0) (dr_e (de_ix ix_seq opd_ix (de_var 1) de_int) (dr_e (de_ix ix_seq opd_ix (de_var 1) de_int) dr_nil)))) (de_lst da_nil)))))))

abbrev nm_going_read : List Str := ["net", "text", "back", "ends", "word"]
theorem sc_going_read : FnScope nm_going_read ["net", "text", "back"] (defScope (top 42)) := ⟨rfl, rfl, rfl, by decide +kernel, rfl, by decide +kernel, by decide +kernel⟩
theorem ok_going_read {K : PySem.W.Frag} {mg : Str → Option Value} (T : Tx K mg) (P : Program) (w : World) (base : Heap) : Cal P w K mg base 5 "going_read" [] [] 3 m_going_read false := by
  obtain ⟨fd, F⟩ := T.d_going_read
  have scN := sc_going_read
  refine ⟨_, fd, ["net", "text", "back"], [], [], T.g_going_read, F.kp, fun_ok [] false F sc_going_read rfl rfl fun cdv A outer s H E B hr gd tk po hB hfr => ?_, F.bindsN fun _ _ _ _ _ _ us hl => match us, hl with | [_, _, _], _ => rfl, .nil, fun _ _ => .nil⟩
  exact (ds_cons (mid := []) (ds_setLc rfl scN.nd hB (sw_true rfl rfl rfl (by decide +kernel)) (di_list (de_of_do (do_split (de_var 1) de_str))) (blkOk_by (own := [("word", 4)]) (N := nm_going_read) (sc := defScope (top 42)) (by decide +kernel)) (fun _ _ _ _ _ B hW hB => (dg_name 4 scN.nd)) (fun _ _ _ _ _ B hW hB => dts_nil) (fun _ _ _ _ _ B hW hB => (de_if (dt_cmp (op_neE hr.units) opd_ne (de_var 4) de_str) (de_cal (ok_end_read T P w base) hr gd (takes_q hW) hB (dr_e (de_var 4) dr_nil)) de_non)))
    (ds_one (ds_ret hfr (de_if (dt_e (de_cal (ok_is_right_going T P w base) hr gd tk hB (dr_e (de_var 0) (dr_e (de_var 3) (dr_e (de_var 2) dr_nil))))) (de_var 3) de_non))))

abbrev nm__law_is_plan : List Str := ["_law_net_here", "_law_thing", "_law_item"]
theorem sc__law_is_plan : FnScope nm__law_is_plan ["_law_net_here", "_law_thing"] (defScope (top 66)) := ⟨rfl, rfl, rfl, by decide +kernel, rfl, by decide +kernel, by decide +kernel⟩
theorem ok__law_is_plan {K : PySem.W.Frag} {mg : Str → Option Value} (T : Tx K mg) (P : Program) (w : World) (base : Heap) : Cal P w K mg base 5 "_law_is_plan" [] [] 2 m__law_is_plan false := by
  obtain ⟨fd, F⟩ := T.d__law_is_plan
  have scN := sc__law_is_plan
  refine ⟨_, fd, ["_law_net_here", "_law_thing"], [], [], T.g__law_is_plan, F.kp, fun_ok [] false F sc__law_is_plan rfl rfl fun cdv A outer s H E B hr gd tk po hB hfr => ?_, F.bindsN fun _ _ _ _ _ _ us hl => match us, hl with | [_, _], _ => rfl, .nil, fun _ _ => .nil⟩
  exact (ds_cons (mid := []) (ds_if (dt_not (dt_e (de_isi "list" (de_var 1) T.b_isinstance T.b_list))) (ds_one (ds_ret hfr de_bl)) ds_nil)
    (ds_cons (mid := []) (ds_for po rfl (di_seq (de_var 1)) (dg_name 2 scN.nd) (ds_cons (mid := []) (ds_if (dt_w (dw_or (dt_not (dt_e (de_isi "tuple" (de_var 2) T.b_isinstance T.b_tuple))) (dw_or (dt_cmp (op_neE hr.units) opd_ne (de_callB call_len fnd_len T.b_len (da_cons (de_var 2) da_nil)) de_int) (dw_or1 (dt_not (dt_e (de_isi "bool" (de_ix ix_seq opd_ix (de_var 2) de_int) T.b_isinstance T.b_bool))))))) (ds_one (ds_ret hfr de_bl)) ds_nil)
    (ds_one (ds_if (dt_w (dw_or (dt_not (dt_e (de_cal (ok__law_is_going T P w base) hr gd tk hB (dr_e (de_var 0) (dr_e (de_ix ix_seq opd_ix (de_var 2) de_int) (dr_e (de_ix ix_seq opd_ix (de_var 2) de_int) dr_nil)))))) (dw_or1 (dt_cmp (op_neE hr.units) opd_ne (de_cal (ok__law_shut T P w base) hr gd tk hB (dr_e (de_var 0) (dr_e (de_ix ix_seq opd_ix (de_var 2) de_int) (dr_e (de_ix ix_seq opd_ix (de_var 2) de_int) dr_nil)))) (de_lst da_nil))))) (ds_one (ds_ret hfr de_bl)) ds_nil))))
    (ds_one (ds_ret hfr (de_cal (ok__law_all_once T P w base) hr gd tk hB (dr_e (de_var 0) (dr_e (de_cal (ok__law_roads T P w base) hr gd tk hB (dr_e (de_var 1) dr_nil)) dr_nil)))))))

abbrev nm__law_going_of : List Str := ["_law_net_here", "_law_text", "_law_back", "_law_going", "_law_word", "_law_sign"]
theorem sc__law_going_of : FnScope nm__law_going_of ["_law_net_here", "_law_text", "_law_back"] (defScope (top 77)) := ⟨rfl, rfl, rfl, by decide +kernel, rfl, by decide +kernel, by decide +kernel⟩
theorem ok__law_going_of {K : PySem.W.Frag} {mg : Str → Option Value} (T : Tx K mg) (P : Program) (w : World) (base : Heap) : Cal P w K mg base 5 "_law_going_of" [] [] 3 m__law_going_of false := by
  obtain ⟨fd, F⟩ := T.d__law_going_of
  have scN := sc__law_going_of
  refine ⟨_, fd, ["_law_net_here", "_law_text", "_law_back"], [], [], T.g__law_going_of, F.kp, fun_ok [] false F sc__law_going_of rfl rfl fun cdv A outer s H E B hr gd tk po hB hfr => ?_, F.bindsN fun _ _ _ _ _ _ us hl => match us, hl with | [_, _, _], _ => rfl, .nil, fun _ _ => .nil⟩
  exact (ds_cons (mid := [3]) (ds_setO 3 scN.nd (do_lst da_nil))
    (ds_cons (mid := []) (ds_out [3] (ds_for po rfl (di_list (de_of_do (do_split (de_var 1) de_str))) (dg_name 4 scN.nd) (ds_cons (mid := [3]) (ds_if (dt_w (dw_or (dt_cmp op_lt opd_lt (de_callB call_len fnd_len T.b_len (da_cons (de_var 4) da_nil)) de_int) (dw_or (dt_cmp op_notIn_sign opd_ninS (de_ix ix_seq opd_ix (de_var 4) (de_un un_neg und_fneg de_int)) de_str) (dw_or1 (dt_cmp (op_neE hr.units) opd_ne (de_lc rfl scN.nd hB (di_seq (de_sl (de_var 4) dp_none (dp_some (de_un un_neg und_fneg de_int)))) (blkOk_by (own := [("_law_sign", 5)]) (N := nm__law_going_of) (sc := defScope (top 77)) (by decide +kernel)) (fun _ _ _ _ _ B hW hB => (dg_name 5 scN.nd)) (fun _ _ _ _ _ B hW hB => (dts_one (dt_cmp op_notIn_sign opd_ninS (de_var 5) de_str))) (fun _ _ _ _ _ B hW hB => (de_var 5))) (de_lst da_nil)))))) (dss_frz (pre' := []) (ds_one (ds_ret hfr de_non))) ds_nil)
    (ds_cons (mid := [3]) (ds_if (dt_w (dw_or (dt_w (dw_and (dt_cmp (op_eqE hr.units) opd_eq (de_ix ix_seq opd_ix (de_var 4) de_int) de_str) (dw_and1 (dt_cmp op_gt opd_gt (de_callB call_len fnd_len T.b_len (da_cons (de_var 4) da_nil)) de_int)))) (dw_or (dt_cmp op_gt opd_gt (de_callB call_len fnd_len T.b_len (da_cons (de_var 4) da_nil)) de_int) (dw_or1 (dt_cmp op_ge opd_ge (de_callT call_int_str fnd_intS T.b_int (da_cons (de_sl (de_var 4) dp_none (dp_some (de_un un_neg und_fneg de_int))) da_nil)) (de_callB call_len fnd_len T.b_len (da_cons (de_ix ix_seq opd_ix (de_var 0) de_int) da_nil))))))) (dss_frz (pre' := []) (ds_one (ds_ret hfr de_non))) ds_nil)
    (ds_one (ds_e (de_mt 3 PySem.F.slot_list_append PySem.F.type_list_append mt_append mtd_app (da_cons (de_tup (da_cons (de_callT call_int_str fnd_intS T.b_int (da_cons (de_sl (de_var 4) dp_none (dp_some (de_un un_neg und_fneg de_int))) da_nil)) (da_cons (de_tm1 PySem.F.slot_str_index PySem.F.type_str_index mt_tidx tmd_tidx de_str (de_ix ix_seq opd_ix (de_var 4) (de_un un_neg und_fneg de_int))) da_nil))) da_nil))))))))
    (ds_one (ds_ret hfr (de_ix ix_seq opd_ix (de_lst (da_cons de_non (da_cons (de_var 3) da_nil))) (de_callT call_int1 fnd_int T.b_int (da_cons (de_cal (ok__law_is_going T P w base) hr gd tk hB (dr_e (de_var 0) (dr_e (de_var 3) (dr_e (de_var 2) dr_nil)))) da_nil)))))))

abbrev nm_look_at_net : List Str := ["net"]
theorem sc_look_at_net : FnScope nm_look_at_net ["net"] (defScope (top 25)) := ⟨rfl, rfl, rfl, by decide +kernel, rfl, by decide +kernel, by decide +kernel⟩
theorem ok_look_at_net {K : PySem.W.Frag} {mg : Str → Option Value} (T : Tx K mg) (P : Program) (w : World) (base : Heap) : Cal P w K mg base 6 "look_at_net" [] [] 1 m_look_at_net false := by
  obtain ⟨fd, F⟩ := T.d_look_at_net
  have scN := sc_look_at_net
  refine ⟨_, fd, ["net"], [], [], T.g_look_at_net, F.kp, fun_ok [] false F sc_look_at_net rfl rfl fun cdv A outer s H E B hr gd tk po hB hfr => ?_, F.bindsN fun _ _ _ _ _ _ us hl => match us, hl with | [_], _ => rfl, .nil, fun _ _ => .nil⟩
  exact (ds_one (ds_if (dt_not (dt_e (de_cal (ok_is_right_net T P w base) hr gd tk hB (dr_e (de_var 0) dr_nil)))) (ds_one (ds_raise T.x_NoNet T.g_NoNet tk)) ds_nil))

abbrev nm_is_right_plan : List Str := ["net", "thing", "item", "back", "going", "end"]
theorem sc_is_right_plan : FnScope nm_is_right_plan ["net", "thing"] (defScope (top 35)) := ⟨rfl, rfl, rfl, by decide +kernel, rfl, by decide +kernel, by decide +kernel⟩
theorem ok_is_right_plan {K : PySem.W.Frag} {mg : Str → Option Value} (T : Tx K mg) (P : Program) (w : World) (base : Heap) : Cal P w K mg base 6 "is_right_plan" [] [] 2 m_is_right_plan false := by
  obtain ⟨fd, F⟩ := T.d_is_right_plan
  have scN := sc_is_right_plan
  refine ⟨_, fd, ["net", "thing"], [], [], T.g_is_right_plan, F.kp, fun_ok [] false F sc_is_right_plan rfl rfl fun cdv A outer s H E B hr gd tk po hB hfr => ?_, F.bindsN fun _ _ _ _ _ _ us hl => match us, hl with | [_, _], _ => rfl, .nil, fun _ _ => .nil⟩
  exact (ds_cons (mid := []) (ds_if (dt_w (dw_or (dt_not (dt_e (de_isi "list" (de_var 1) T.b_isinstance T.b_list))) (dw_or1 (dt_not (dt_e (de_callB (cr_all rfl) fnd_all T.b_all (da_cons (de_lc rfl scN.nd hB (di_seq (de_var 1)) (blkOk_by (own := [("item", 2)]) (N := nm_is_right_plan) (sc := defScope (top 35)) (by decide +kernel)) (fun _ _ _ _ _ B hW hB => (dg_name 2 scN.nd)) (fun _ _ _ _ _ B hW hB => dts_nil) (fun _ _ _ _ _ B hW hB => (de_cal (ok_is_item T P w base) hr gd (takes_q hW) hB (dr_e (de_var 0) (dr_e (de_var 2) dr_nil))))) da_nil))))))) (ds_one (ds_ret hfr de_bl)) ds_nil)
    (ds_one (ds_ret hfr (de_cmp (op_eqE hr.units) opd_eq (de_of_do (do_srtI T.b_sorted (de_lc2 (vs1 := [5]) rfl scN.nd hB (di_seq (de_var 1)) (blkOk_by (own := [("back", 3), ("going", 4), ("end", 5)]) (N := nm_is_right_plan) (sc := defScope (top 35)) (by decide +kernel)) (fun _ _ _ _ _ B hW hB => (dg_tup rfl (dgs_cons (dg_name 3 scN.nd) (dgs_cons (dg_name 4 scN.nd) dgs_nil)))) (fun _ _ _ _ _ B hW hB => dts_nil) (fun _ _ _ _ _ B hW hB => (di_seq (de_var 4))) (fun _ _ _ _ _ B hW hB => (dg_name 5 scN.nd)) (fun _ _ _ _ _ B hW hB => dts_nil) (fun _ _ _ _ _ B hW hB => (de_ix ix_seq opd_ix (de_var 5) de_int))))) (de_of_do (do_lrng T.b_list T.b_range (de_callB call_len fnd_len T.b_len (da_cons (de_ix ix_seq opd_ix (de_var 0) de_int) da_nil))))))))

abbrev nm_item_read : List Str := ["net", "line", "word", "space", "text", "going"]
theorem sc_item_read : FnScope nm_item_read ["net", "line"] (defScope (top 43)) := ⟨rfl, rfl, rfl, by decide +kernel, rfl, by decide +kernel, by decide +kernel⟩
theorem ok_item_read {K : PySem.W.Frag} {mg : Str → Option Value} (T : Tx K mg) (P : Program) (w : World) (base : Heap) : Cal P w K mg base 6 "item_read" [] [] 2 m_item_read false := by
  obtain ⟨fd, F⟩ := T.d_item_read
  have scN := sc_item_read
  refine ⟨_, fd, ["net", "line"], [], [], T.g_item_read, F.kp, fun_ok [] false F sc_item_read rfl rfl fun cdv A outer s H E B hr gd tk po hB hfr => ?_, F.bindsN fun _ _ _ _ _ _ us hl => match us, hl with | [_, _], _ => rfl, .nil, fun _ _ => .nil⟩
  exact (ds_cons (mid := []) (ds_as (de_tm1 PySem.F.slot_str_partition PySem.F.type_str_partition mt_partition tmd_part (de_var 1) de_str) (dg_tup rfl (dgs_cons (dg_name 2 scN.nd) (dgs_cons (dg_name 3 scN.nd) (dgs_cons (dg_name 4 scN.nd) dgs_nil)))))
    (ds_cons (mid := []) (ds_if (dt_w (dw_or (dt_cmp (op_eqE hr.units) opd_eq (de_var 3) de_str) (dw_or1 (dt_cmp (op_notInT (u65 hr)) opd_ninT (de_var 2) (de_tup (da_cons de_str (da_cons de_str da_nil))))))) (ds_one (ds_ret hfr de_non)) ds_nil)
    (ds_cons (mid := []) (ds_set 5 scN.nd (de_cal (ok_going_read T P w base) hr gd tk hB (dr_e (de_var 0) (dr_e (de_var 4) (dr_e (de_cmp (op_eqE hr.units) opd_eq (de_var 2) de_str) dr_nil)))))
    (ds_one (ds_ret hfr (de_if (dt_cmp op_isG opd_is (de_var 5) de_non) de_non (de_tup (da_cons (de_cmp (op_eqE hr.units) opd_eq (de_var 2) de_str) (da_cons (de_var 5) da_nil)))))))))

abbrev nm__law_due : List Str := ["_law_net_here", "_law_text", "_law_lines", "_law_plan_here", "_law_k", "_law_words", "_law_going"]
theorem sc__law_due : FnScope nm__law_due ["_law_net_here", "_law_text"] (defScope (top 78)) := ⟨rfl, rfl, rfl, by decide +kernel, rfl, by decide +kernel, by decide +kernel⟩
theorem ok__law_due {K : PySem.W.Frag} {mg : Str → Option Value} (T : Tx K mg) (P : Program) (w : World) (base : Heap) : Cal P w K mg base 6 "_law_due" [] [] 2 m__law_due false := by
  obtain ⟨fd, F⟩ := T.d__law_due
  have scN := sc__law_due
  refine ⟨_, fd, ["_law_net_here", "_law_text"], [], [], T.g__law_due, F.kp, fun_ok [] false F sc__law_due rfl rfl fun cdv A outer s H E B hr gd tk po hB hfr => ?_, F.bindsN fun _ _ _ _ _ _ us hl => match us, hl with | [_, _], _ => rfl, .nil, fun _ _ => .nil⟩
  exact (ds_cons (mid := []) (ds_set 2 scN.nd (de_of_do (do_split (de_var 1) de_str)))
    (ds_cons (mid := []) (ds_if (dt_cmp (op_eqE hr.units) opd_eq (de_var 1) de_str) (ds_one (ds_set 2 scN.nd (de_lst da_nil))) ds_nil)
    (ds_cons (mid := [3]) (ds_setO 3 scN.nd (do_lst da_nil))
    (ds_cons (mid := []) (ds_out [3] (ds_for po rfl (di_rng1 T.b_range (da_cons (de_callB call_len fnd_len T.b_len (da_cons (de_var 2) da_nil)) da_nil)) (dg_name 4 scN.nd) (ds_cons (mid := [3]) (ds_set 5 scN.nd (de_of_do (do_split (de_ix ix_seq opd_ix (de_var 2) (de_var 4)) de_str)))
    (ds_cons (mid := [3]) (ds_set 6 scN.nd de_non)
    (ds_cons (mid := [3]) (ds_if (dt_w (dw_and (dt_cmp (op_inD (u65 hr)) opd_in (de_ix ix_seq opd_ix (de_var 5) de_int) (de_lst (da_cons de_str (da_cons de_str da_nil)))) (dw_and1 (dt_cmp op_gt opd_gt (de_callB call_len fnd_len T.b_len (da_cons (de_var 5) da_nil)) de_int)))) (ds_one (ds_set 6 scN.nd (de_cal (ok__law_going_of T P w base) hr gd tk hB (dr_e (de_var 0) (dr_e (de_tm1 PySem.F.slot_str_join PySem.F.type_str_join mt_join tmd_join de_str (de_sl (de_var 5) (dp_some de_int) dp_none)) (dr_e (de_cmp (op_eqE hr.units) opd_eq (de_ix ix_seq opd_ix (de_var 5) de_int) de_str) dr_nil)))))) ds_nil)
    (ds_cons (mid := [3]) (ds_if (dt_cmp op_isG opd_is (de_var 6) de_non) (dss_frz (pre' := []) (ds_one (ds_ret hfr (de_op op_addG opd_add (de_var 4) de_int)))) ds_nil)
    (ds_one (ds_e (de_mt 3 PySem.F.slot_list_append PySem.F.type_list_append mt_append mtd_app (da_cons (de_tup (da_cons (de_cmp (op_eqE hr.units) opd_eq (de_ix ix_seq opd_ix (de_var 5) de_int) de_str) (da_cons (de_var 6) da_nil))) da_nil))))))))))
    (ds_one (ds_ret hfr (de_ix ix_seq opd_ix (de_lst (da_cons (de_op op_addG opd_add (de_callB call_len fnd_len T.b_len (da_cons (de_var 2) da_nil)) de_int) (da_cons (de_var 3) da_nil))) (de_callT call_int1 fnd_int T.b_int (da_cons (de_cal (ok__law_is_plan T P w base) hr gd tk hB (dr_e (de_var 0) (dr_e (de_var 3) dr_nil))) da_nil)))))))))

abbrev nm_plan_text : List Str := ["net", "plan", "back", "going"]
theorem sc_plan_text : FnScope nm_plan_text ["net", "plan"] (defScope (top 39)) := ⟨rfl, rfl, rfl, by decide +kernel, rfl, by decide +kernel, by decide +kernel⟩
theorem ok_plan_text {K : PySem.W.Frag} {mg : Str → Option Value} (T : Tx K mg) (P : Program) (w : World) (base : Heap) : Cal P w K mg base 7 "plan_text" [] [] 2 m_plan_text false := by
  obtain ⟨fd, F⟩ := T.d_plan_text
  have scN := sc_plan_text
  refine ⟨_, fd, ["net", "plan"], [], [], T.g_plan_text, F.kp, fun_ok [] false F sc_plan_text rfl rfl fun cdv A outer s H E B hr gd tk po hB hfr => ?_, F.bindsN fun _ _ _ _ _ _ us hl => match us, hl with | [_, _], _ => rfl, .nil, fun _ _ => .nil⟩
  exact (ds_cons (mid := []) (ds_e (de_cal (ok_look_at_net T P w base) hr gd tk hB (dr_e (de_var 0) dr_nil)))
    (ds_cons (mid := []) (ds_if (dt_not (dt_e (de_cal (ok_is_right_plan T P w base) hr gd tk hB (dr_e (de_var 0) (dr_e (de_var 1) dr_nil))))) (ds_one (ds_raise T.x_NoPlan T.g_NoPlan tk)) ds_nil)
    (ds_one (ds_ret hfr (de_tm1 PySem.F.slot_str_join PySem.F.type_str_join mt_join tmd_join de_str (de_lc rfl scN.nd hB (di_seq (de_var 1)) (blkOk_by (own := [("back", 2), ("going", 3)]) (N := nm_plan_text) (sc := defScope (top 39)) (by decide +kernel)) (fun _ _ _ _ _ B hW hB => (dg_tup rfl (dgs_cons (dg_name 2 scN.nd) (dgs_cons (dg_name 3 scN.nd) dgs_nil)))) (fun _ _ _ _ _ B hW hB => dts_nil) (fun _ _ _ _ _ B hW hB => (de_op op_addG opd_add (de_if (dt_e (de_var 2)) de_str de_str) (de_cal (ok_going_written T P w base) hr gd (takes_q hW) hB (dr_e (de_var 3) dr_nil))))))))))

abbrev nm_read_plan : List Str := ["net", "text", "lines", "plan", "number", "line", "item"]
theorem sc_read_plan : FnScope nm_read_plan ["net", "text"] (defScope (top 44)) := ⟨rfl, rfl, rfl, by decide +kernel, rfl, by decide +kernel, by decide +kernel⟩
theorem ok_read_plan {K : PySem.W.Frag} {mg : Str → Option Value} (T : Tx K mg) (P : Program) (w : World) (base : Heap) : Cal P w K mg base 7 "read_plan" [] [] 2 m_read_plan true := by
  obtain ⟨fd, F⟩ := T.d_read_plan
  have scN := sc_read_plan
  refine ⟨_, fd, ["net", "text"], [], [], T.g_read_plan, F.kp, fun_ok [] true F sc_read_plan rfl rfl fun cdv A outer s H E B hr gd tk po hB hfr => ?_, F.bindsN fun _ _ _ _ _ _ us hl => match us, hl with | [_, _], _ => rfl, .nil, fun _ _ => .nil⟩
  exact (ds_cons (mid := []) (ds_e (de_cal (ok_look_at_net T P w base) hr gd tk hB (dr_e (de_var 0) dr_nil)))
    (ds_cons (mid := []) (ds_set 2 scN.nd (de_if (dt_cmp (op_eqE hr.units) opd_eq (de_var 1) de_str) (de_lst da_nil) (de_of_do (do_split (de_var 1) de_str))))
    (ds_cons (mid := [3]) (ds_setO 3 scN.nd (do_lst da_nil))
    (ds_cons (mid := [3]) (ds_for po rfl (di_enumC T.b_enumerate (da_cons (de_var 2) (da_cons de_int da_nil))) (dg_tup rfl (dgs_cons (dg_name 4 scN.nd) (dgs_cons (dg_name 5 scN.nd) dgs_nil))) (ds_cons (mid := [3]) (ds_set 6 scN.nd (de_cal (ok_item_read T P w base) hr gd tk hB (dr_e (de_var 0) (dr_e (de_var 5) dr_nil))))
    (ds_cons (mid := [3]) (ds_if (dt_cmp op_isG opd_is (de_var 6) de_non) (dss_frz (pre' := []) (ds_one (ds_raiseF (excsF_f T.xf (x := "NoText") (by decide)) (fx_NoText T P w base) T.g_NoText tk hr (de_var 4)))) ds_nil)
    (ds_one (ds_e (de_mt 3 PySem.F.slot_list_append PySem.F.type_list_append mt_append mtd_app (da_cons (de_var 6) da_nil)))))))
    (ds_cons (mid := [3]) (ds_if (dt_not (dt_bor [] (dt_e (de_cal (ok_is_right_plan T P w base) hr gd tk hB (dr_e (de_var 0) (dr_e (de_var 3) dr_nil)))))) (dss_frz (pre' := []) (ds_one (ds_raiseF (excsF_f T.xf (x := "NoText") (by decide)) (fx_NoText T P w base) T.g_NoText tk hr (de_op op_addG opd_add (de_callB call_len fnd_len T.b_len (da_cons (de_var 2) da_nil)) de_int)))) ds_nil)
    (ds_one (ds_retV 3 hfr)))))))

abbrev nm__law_both : List Str := ["_law_net_here", "_law_text", "_law_due_here", "_law_turn", "_law_caught", "_law_found", "e"]
theorem sc__law_both : FnScope nm__law_both ["_law_net_here", "_law_text"] (defScope (top 79)) := ⟨rfl, rfl, rfl, by decide +kernel, rfl, by decide +kernel, by decide +kernel⟩
theorem ok__law_both {K : PySem.W.Frag} {mg : Str → Option Value} (T : Tx K mg) (P : Program) (w : World) (base : Heap) : Cal P w K mg base 8 "_law_both" [] [] 2 m__law_both false := by
  obtain ⟨fd, F⟩ := T.d__law_both
  have scN := sc__law_both
  refine ⟨_, fd, ["_law_net_here", "_law_text"], [], [], T.g__law_both, F.kp, fun_ok [] false F sc__law_both rfl rfl fun cdv A outer s H E B hr gd tk po hB hfr => ?_, F.bindsN fun _ _ _ _ _ _ us hl => match us, hl with | [_, _], _ => rfl, .nil, fun _ _ => .nil⟩
  exact (ds_cons (mid := []) (ds_set 2 scN.nd (de_cal (ok__law_due T P w base) hr gd tk hB (dr_e (de_var 0) (dr_e (de_var 1) dr_nil))))
    (ds_cons (mid := []) (ds_for po rfl (di_rng1 T.b_range (da_cons de_int da_nil)) (dg_name 3 scN.nd) (ds_cons (mid := []) (ds_set 4 scN.nd de_non)
    (ds_cons (mid := []) (ds_set 5 scN.nd de_non)
    (dss_td xsL 6 4 5 scN.nd (fun _ hc => excs_m T.xs hc) ⟨by rfl, by decide, .inl T.g_TrailsError⟩ (fun W pn xe tkW poW => (pss_one (dx_setD 5 (ok_read_plan T P w base) hr gd tkW hB scN.nd (dr_e (de_var 0) (dr_e (de_var 1) dr_nil)))))
    (ds_if (dt_cmp op_notG opd_isnot (de_var 4) de_non) (ds_one (ds_if (dt_w (dw_or (dt_cmp op_notG opd_isnot (de_var 5) de_non) (dw_or (dt_cmp (op_neE hr.units) opd_ne (de_cal (ok__law_error T P w base) hr gd tk hB (dr_e (de_var 4) dr_nil)) de_str) (dw_or (dt_cmp (op_neE hr.units) opd_ne (de_fldX (Lf := ["NoText"]) (excsF_sub T.xf (by decide)) (de_var 4)) (de_var 2)) (dw_or1 (dt_e (de_isi "list" (de_var 2) T.b_isinstance T.b_list))))))) (ds_one (ds_ret hfr de_bl)) ds_nil)) (ds_one ds_never))
    (dsd_if (fun B hW hB => (dt_cmp op_notG opd_isnot (de_var 4) de_non)) (fun B hW hB => (dt_w (dw_or (dt_not (dt_e (de_isi "list" (de_var 5) T.b_isinstance T.b_list))) (dw_or (dt_cmp (op_neE hr.units) opd_ne (de_var 5) (de_var 2)) (dw_or1 (dt_cmp (op_neE hr.units) opd_ne (de_callB (call_reprG hr gd) fnd_repr T.b_repr (da_cons (de_var 5) da_nil)) (de_callB (call_reprG hr gd) fnd_repr T.b_repr (da_cons (de_var 2) da_nil)))))))) hB hfr ⟨fun _ _ _ _ _ _ q => q.elim⟩)))))
    (ds_one (ds_ret hfr de_bl))))

abbrev nm__law_plan_good : List Str := ["_law_pile_here", "_law_net_here", "_law_plan_here", "_law_kept", "_law_text", "_law_back", "_law_going", "_law_turn"]
theorem sc__law_plan_good : FnScope nm__law_plan_good ["_law_pile_here", "_law_net_here", "_law_plan_here"] (defScope (top 81)) := ⟨rfl, rfl, rfl, by decide +kernel, rfl, by decide +kernel, by decide +kernel⟩
theorem ok__law_plan_good {K : PySem.W.Frag} {mg : Str → Option Value} (T : Tx K mg) (P : Program) (w : World) (base : Heap) : Cal P w K mg base 9 "_law_plan_good" [] [0] 3 m__law_plan_good false := by
  obtain ⟨fd, F⟩ := T.d__law_plan_good
  have scN := sc__law_plan_good
  refine ⟨_, fd, ["_law_pile_here", "_law_net_here", "_law_plan_here"], [], [], T.g__law_plan_good, F.kp, fun_ok [0] false F sc__law_plan_good rfl rfl fun cdv A outer s H E B hr gd tk po hB hfr => ?_, F.bindsN fun _ _ _ _ _ _ us hl => match us, hl with | [_, _, _], _ => rfl, .nil, fun _ _ => .nil⟩
  exact (ds_cons (mid := [0]) (ds_set 3 scN.nd (de_callB (call_reprG hr gd) fnd_repr T.b_repr (da_cons (de_var 2) da_nil)))
    (ds_cons (mid := [0]) (ds_set 4 scN.nd (de_tm1 PySem.F.slot_str_join PySem.F.type_str_join mt_join tmd_join de_str (de_lc rfl scN.nd hB (di_seq (de_var 2)) (blkOk_by (own := [("_law_back", 5), ("_law_going", 6)]) (N := nm__law_plan_good) (sc := defScope (top 81)) (by decide +kernel)) (fun _ _ _ _ _ B hW hB => (dg_tup rfl (dgs_cons (dg_name 5 scN.nd) (dgs_cons (dg_name 6 scN.nd) dgs_nil)))) (fun _ _ _ _ _ B hW hB => dts_nil) (fun _ _ _ _ _ B hW hB => (de_op op_addG opd_add (de_ix ix_seq opd_ix (de_lst (da_cons de_str (da_cons de_str da_nil))) (de_callT call_int1 fnd_int T.b_int (da_cons (de_var 5) da_nil))) (de_cal (ok__law_going_text T P w base) hr gd (takes_q hW) hB (dr_e (de_var 6) dr_nil)))))))
    (ds_cons (mid := [0]) (ds_if (dt_w (dw_or (dt_cmp (op_neE hr.units) opd_ne (de_cal (ok_plan_text T P w base) hr gd tk hB (dr_e (de_var 1) (dr_e (de_var 2) dr_nil))) (de_var 4)) (dw_or (dt_cmp (op_neE hr.units) opd_ne (de_callB (call_reprG hr gd) fnd_repr T.b_repr (da_cons (de_var 2) da_nil)) (de_var 3)) (dw_or1 (dt_not (dt_e (de_cal (ok__law_both T P w base) hr gd tk hB (dr_e (de_var 1) (dr_e (de_var 4) dr_nil))))))))) (ds_one (ds_ret hfr de_bl)) ds_nil)
    (ds_cons (mid := [0]) (ds_for po rfl (di_rng1 T.b_range (da_cons de_int da_nil)) (dg_name 7 scN.nd) (ds_one (ds_if (dt_not (dt_e (de_cal (ok__law_both T P w base) hr gd tk hB (dr_e (de_var 1) (dr_e (de_cal (ok__law_bent T P w base) hr gd tk hB (dr_io 0 (dr_e (de_var 4) dr_nil))) dr_nil))))) (ds_one (ds_ret hfr de_bl)) ds_nil)))
    (ds_one (ds_ret hfr (de_cmp (op_eqE hr.units) opd_eq (de_callB (call_reprG hr gd) fnd_repr T.b_repr (da_cons (de_var 2) da_nil)) (de_var 3))))))))

abbrev nm_law : List Str := ["_law_script", "_law_k", "_law_pile_here", "_law_net_here", "_law_plan_here", "_law_j", "_law_odd", "_law_text"]
theorem sc_law : FnScope nm_law ["_law_script"] (defScope (top 82)) := ⟨rfl, rfl, rfl, by decide +kernel, rfl, by decide +kernel, by decide +kernel⟩
theorem fn_law {K : PySem.W.Frag} {mg : Str → Option Value} (T : Tx K mg) {fd : FuncData} (F : FunD K "law" "law" (defArgs (top 82)) (defBody (top 82)) (defScope (top 82)) [] [] (He.ga K "law") fd) (P : Program) (w : World) (base : Heap) :
    FnG P w K mg base 10 (He.ga K "law") fd ["_law_script"] (spD K mg [] 1 false m_law) := by
  have scN := sc_law
  refine fun_ok [] false F sc_law rfl rfl fun cdv A outer s H E B hr gd tk po hB hfr => ?_
  exact (ds_cons (mid := []) (ds_for po rfl (di_rng1 T.b_range (da_cons (de_callB (call_max2 rfl) fnd_max2 T.b_max (da_cons de_int (da_cons (de_callB (call_min2 rfl) fnd_min2 T.b_min (da_cons (de_callB call_len fnd_len T.b_len (da_cons (de_var 0) da_nil)) (da_cons de_int da_nil))) da_nil))) da_nil)) (dg_name 1 scN.nd) (ds_cons (mid := [2]) (ds_setO 2 scN.nd (do_cal (ok__law_pile T P w base) hr gd tk hB (dr_e (de_var 0) (dr_e (de_var 1) dr_nil))))
    (ds_cons (mid := [2]) (ds_set 3 scN.nd (de_cal (ok__law_even_net T P w base) hr gd tk hB (dr_io 2 (dr_e (de_ix ix_seq opd_ix (de_lst (da_cons de_int (da_cons de_int da_nil))) (de_op op_modN opd_mod (de_var 1) de_int)) dr_nil))))
    (ds_cons (mid := [2]) (ds_set 4 scN.nd (de_cal (ok__law_plan T P w base) hr gd tk hB (dr_e (de_var 3) (dr_e (de_cal (ok__law_drawn_table T P w base) hr gd tk hB (dr_io 2 (dr_e (de_var 3) (dr_e de_int dr_nil)))) dr_nil))))
    (ds_cons (mid := [2]) (ds_set 4 scN.nd (de_lc rfl scN.nd hB (di_list (de_cal (ok__law_order_of T P w base) hr gd tk hB (dr_io 2 (dr_e (de_callB call_len fnd_len T.b_len (da_cons (de_var 4) da_nil)) dr_nil)))) (blkOk_by (own := [("_law_j", 5)]) (N := nm_law) (sc := defScope (top 82)) (by decide +kernel)) (fun _ _ _ _ _ B hW hB => (dg_name 5 scN.nd)) (fun _ _ _ _ _ B hW hB => dts_nil) (fun _ _ _ _ _ B hW hB => (de_cal (ok__law_written T P w base) hr gd (takes_q hW) hB (dr_io 2 (dr_e (de_ix ix_seq opd_ix (de_var 4) (de_var 5)) dr_nil))))))
    (ds_cons (mid := []) (ds_if (dt_not (dt_e (de_cal (ok__law_plan_good T P w base) hr gd tk hB (dr_io 2 (dr_e (de_var 3) (dr_e (de_var 4) dr_nil)))))) (dss_frz (pre' := []) (ds_one (ds_ret hfr de_bl))) (dss_frz (pre' := []) ds_nil))
    (ds_cons (mid := []) (ds_set 6 scN.nd (de_lst (da_cons de_str (da_cons de_str (da_cons de_str (da_cons de_str (da_cons de_str (da_cons de_str (da_cons de_str (da_cons de_str (da_cons de_str (da_cons de_str (da_cons de_str da_nil)))))))))))))
    (ds_cons (mid := []) (ds_set 6 scN.nd (de_op op_addG opd_add (de_var 6) (de_lst (da_cons de_str (da_cons de_str (da_cons de_str (da_cons de_str (da_cons de_str (da_cons de_str (da_cons de_str da_nil))))))))))
    (ds_one (ds_for po rfl (di_seq (de_op op_addG opd_add (de_var 6) (de_lst (da_cons de_str (da_cons de_str da_nil))))) (dg_name 7 scN.nd) (ds_one (ds_if (dt_not (dt_e (de_cal (ok__law_both T P w base) hr gd tk hB (dr_e (de_var 3) (dr_e (de_var 7) dr_nil))))) (ds_one (ds_ret hfr de_bl)) ds_nil))))))))))))
    (ds_one (ds_ret hfr (de_and (de_cal (ok__law_both T P w base) hr gd tk hB (dr_e (de_tup (da_cons de_int (da_cons (de_tup da_nil) da_nil))) (dr_e de_str dr_nil))) (de_one (de_cal (ok__law_both T P w base) hr gd tk hB (dr_e (de_tup (da_cons de_int (da_cons (de_tup (da_cons (de_tup (da_cons (de_tup (da_cons de_int (da_cons de_int da_nil))) (da_cons (de_tup (da_cons de_int (da_cons de_int da_nil))) da_nil))) da_nil)) da_nil))) (dr_e de_str dr_nil))))))))

end KHead

end T_Wlk_k61
section T_Ia_k61
set_option maxRecDepth 100000
namespace KHead
open PySem PySem.Spec PyProof.Rows L2 Kd
/-! ### what is drawn -/
def nI (n : Nat) : PyData := .int (n : Int)
theorem take_eq (p n : Int) (h0 : 0 < n) (h1 : n < 1073741824) : m__law_take [.list [.int p], .int n] = .ok ([.list [.int (p.fdiv n)]], .int (p.fmod n)) := by
  have q1 : ¬ n = 0 := by omega
  have q2 : n.natAbs < 1073741824 := by omega
  simp [m__law_take, q1, q2, ixN]
theorem w_take (p : Int) (n : Nat) (h0 : 0 < n) (h1 : n < 1073741824) : ∃ (q : Int) (k : Nat), m__law_take [.list [.int p], .int (n : Int)] = .ok ([.list [.int q]], .int (k : Int)) ∧ k < n := by
  have h2 := Int.fmod_nonneg_of_pos p (b := (n : Int)) (by omega)
  have h3 := Int.fmod_lt_of_pos p (b := (n : Int)) (by omega)
  obtain ⟨k, hk⟩ := Int.eq_ofNat_of_zero_le h2
  exact ⟨_, k, by rw [take_eq p n (by omega) (by omega), hk], by rw [hk] at h3; omega⟩
theorem w_mixed (a b : Int) (hb : b.natAbs < 2 ^ 64) : W (m__law_mixed [.int a, .int b]) fun y => ∃ q : Int, y = ([], .int q) ∧ 0 ≤ q ∧ q < 2147483579 := by
  have hm : ∀ x m : Int, 0 < m → 0 ≤ x.fmod m ∧ x.fmod m < m := fun x m h => ⟨Int.fmod_nonneg_of_pos x h, Int.fmod_lt_of_pos x h⟩
  have c1 : mulOk (a.fmod 2147483647) 48271 = true := mulOk_of (a := 32) (b := 32) (by have := hm a 2147483647 (by decide); omega) (by decide) (by decide)
  have c2 : mulOk b 69621 = true := mulOk_of (a := 64) (b := 32) hb (by decide) (by decide)
  refine W_fn (W_seq ?_)
  simp [c1, c2, -sSeq_]
  have g1 := hm (a.fmod 2147483647 * 48271 + b * 69621 + 1048583) 2147483629 (by decide)
  generalize (a.fmod 2147483647 * 48271 + b * 69621 + 1048583).fmod 2147483629 = u at *
  have c3 : mulOk u u = true := mulOk_of (a := 32) (b := 32) (by omega) (by omega) (by decide)
  refine W_seq ?_
  simp [c3]
  have g2 := hm (u * u) 2147483587 (by decide)
  generalize (u * u).fmod 2147483587 = v at *
  have c4 : mulOk v (v + 2) = true := mulOk_of (a := 32) (b := 33) (by omega) (by omega) (by decide)
  simp [c4]
  exact hm _ 2147483579 (by decide)
theorem w_pile (ns : List Int) (k : Nat) (hk : k < 1000) : ∃ p : Int, m__law_pile [.list (ns.map .int), .int (k : Int)] = .ok ([], .list [.int p]) := by
  suffices h : W (m__law_pile [.list (ns.map .int), .int (k : Int)]) fun y => ∃ p : Int, y = ([], .list [.int p]) by
    obtain ⟨y, h1, p, h2⟩ := h
    exact ⟨p, by rw [h1, h2]⟩
  refine W_fn (W_seq ?_)
  simp [-sSeq_]
  refine W_seq ?_
  have h1 : ∃ c : Int, sIf (Kd.tB (m2 fLt (mV 1) (mN fLen [(mV 0)]))) (sSet 2 (m2 fIx (mV 0) (mV 1))) sNx [some (PyData.list (ns.map .int)), some (.int (k : Int)), some (.int 0), none, none] = .ok (.nx [some (PyData.list (ns.map .int)), some (.int (k : Int)), some (.int c), none, none]) := by
    by_cases hl : k < ns.length
    · refine ⟨ns[k], ?_⟩
      simp [hl]
    · refine ⟨0, ?_⟩
      simp [hl]
  obtain ⟨c, h1⟩ := h1
  rw [h1]
  simp [-sSeq_]
  refine W_seq ?_
  by_cases hc : (10 : Int) ^ 18 ≤ c
  · have c1 : mulOk ((10 : Int) ^ 60) ((10 : Int) ^ 60) = true := mulOk_of (a := 200) (b := 200) (by decide) (by decide) (by decide)
    have c2 : mulOk ((10 : Int) ^ 60 * (10 : Int) ^ 60) ((10 : Int) ^ 60) = true := mulOk_of (a := 400) (b := 200) (by decide) (by decide) (by decide)
    have c3 : mulOk ((10 : Int) ^ 60 * (10 : Int) ^ 60 * (10 : Int) ^ 60) ((10 : Int) ^ 60) = true := mulOk_of (a := 600) (b := 200) (by decide) (by decide) (by decide)
    simp [-Int.reducePow, -Int.reduceMul, hc, c1, c2, c3, sl]
    rw [show (!decide ((10 : Int) ^ 60 * 10 ^ 60 * 10 ^ 60 * 10 ^ 60 = 0)) = true by decide +kernel]
    simp [-Int.reducePow, -Int.reduceMul]
  · simp [-Int.reducePow, hc, -sSeq_]
    refine W_seq ?_
    simp [-sSeq_]
    refine W_seq ?_
    refine W_rng 24 (fun j ρ => ∃ x f, ρ = [some (PyData.list (ns.map .int)), some (.int (k : Int)), some (.int c), some (.int f), x] ∧ 0 ≤ f ∧ f < ((2147483579 ^ j : Nat) : Int)) rfl ⟨_, 0, rfl, by decide, by decide⟩ ?_ ?_
    · rintro j ρ hj ⟨x, f, rfl, f1, f2⟩
      refine ⟨_, rfl, ?_⟩
      have c1 : mulOk 7 (k : Int) = true := mulOk_of (a := 10) (b := 10) (by decide) (by omega) (by decide)
      have c2 : mulOk 100 (j : Int) = true := mulOk_of (a := 10) (b := 10) (by decide) (by omega) (by decide)
      have c3 : mulOk (j : Int) (j : Int) = true := mulOk_of (a := 10) (b := 10) (by omega) (by omega) (by decide)
      have c4 : mulOk f 2147483579 = true := by
        refine mulOk_of (a := 1000) (b := 32) ?_ (by decide) (by decide)
        have e : 2147483579 ^ j ≤ 2147483579 ^ 24 := Nat.pow_le_pow_right (by decide) (by omega)
        have e2 : 2147483579 ^ 24 < 2 ^ 1000 := by decide +kernel
        generalize 2147483579 ^ j = g at *
        generalize 2147483579 ^ 24 = g2 at *
        generalize 2 ^ 1000 = g3 at *
        omega
      have hjj : (j : Int) * j < 1000 := by
        have : (j : Int) * j ≤ 24 * 24 := Int.mul_le_mul (by omega) (by omega) (by omega) (by omega)
        omega
      have hj0 : 0 ≤ (j : Int) * j := Int.mul_nonneg (by omega) (by omega)
      obtain ⟨y, e, q, rfl, q1, q2⟩ := w_mixed c (7 * (k : Int) + 100 * (j : Int) + (j : Int) * j) (by omega)
      simp [c1, c2, c3, c4, e]
      refine ⟨_, _, ⟨rfl, rfl⟩, ?_, ?_⟩
      · have : 0 ≤ f * 2147483579 := Int.mul_nonneg f1 (by decide)
        omega
      · have e3 : ((2147483579 : Int)) ^ (j + 1) = 2147483579 ^ j * 2147483579 := Int.pow_succ _ _
        rw [e3]
        have f3 : f < (2147483579 : Int) ^ j := by simpa using f2
        generalize (2147483579 : Int) ^ j = g at *
        omega
    · rintro ρ ⟨x, f, rfl, f1, f2⟩
      simp [sl]
theorem w_takeI (p n : Int) (h0 : 0 < n) (h1 : n < 1073741824) : ∃ (q : Int) (k : Nat), m__law_take [.list [.int p], .int n] = .ok ([.list [.int q]], .int (k : Int)) ∧ (k : Int) < n := by
  obtain ⟨q, k, e, h⟩ := w_take p n.toNat (by omega) (by omega)
  rw [Int.toNat_of_nonneg (by omega)] at e
  exact ⟨q, k, e, by omega⟩
abbrev Pt := Nat × Nat
abbrev Rd := Pt × Pt
def ptD (p : Pt) : PyData := .tuple [.int (p.1 : Int), .int (p.2 : Int)]
def rdD (r : Rd) : PyData := .tuple [ptD r.1, ptD r.2]
def netD (c : Nat) (rs : List Rd) : PyData := .tuple [.int (c : Int), .tuple (rs.map rdD)]
def rdOk (c : Nat) (r : Rd) : Prop := r.1.1 < c ∧ r.1.2 < 10 ∧ r.2.1 < c ∧ r.2.2 < 10
theorem w_order (p : Int) (m : Nat) (hm : m < 1000) : ∃ (q : Int) (ns : List Nat), m__law_order_of [.list [.int p], .int (m : Int)] = .ok ([.list [.int q]], .list (ns.map nI)) ∧ ns.Perm (List.range m) := by
  suffices h : W (m__law_order_of [.list [.int p], .int (m : Int)]) fun y => ∃ (q : Int) (ns : List Nat), y = ([.list [.int q]], .list (ns.map nI)) ∧ ns.Perm (List.range m) by
    obtain ⟨y, h1, q, ns, h2, h3⟩ := h
    exact ⟨q, ns, by rw [h1, h2], h3⟩
  refine W_fn (W_seq ?_)
  simp [-sSeq_]
  refine W_seq ?_
  refine W_rng m (fun j ρ => ∃ q ns x, ρ = [some (.list [.int q]), some (.int (m : Int)), some (.list (ns.map nI)), x] ∧ ns.Perm (List.range j)) (ρ1 := [some (.list [.int p]), some (.int (m : Int)), some (.list []), none]) ?_ ⟨p, [], none, rfl, List.Perm.refl _⟩ ?_ ?_
  · exact it_rng (by simp) (by rw [sl]; omega)
  · rintro j ρ hj ⟨q, ns, x, rfl, hp⟩
    refine ⟨_, rfl, ?_⟩
    obtain ⟨q2, i, e, hi⟩ := w_take q (j + 1) (by omega) (by omega)
    have e' : m__law_take [.list [.int q], .int ((j : Int) + 1)] = .ok ([.list [.int q2]], .int (i : Int)) := by simpa using e
    have hlen : ns.length = j := by simpa using hp.length_eq
    have c1 : 0 ≤ (i : Int) ∧ (i : Int) < 2 ^ 63 := by omega
    have c2 : ns.length < 16777216 := by omega
    have c2 : (ns.map nI).length < sizeLine := by rw [List.length_map, sl]; omega
    simp only [sE_, mMt_, gt_succ, gt_zero, List.set_cons_succ, List.set_cons_zero, opt_some, Option.bind_some, asL_l, mArgs_cons, mArgs_nil, mCall_, evA_io, evA_e, m2_, mV_, mC_, fAdd_i, bind_ok', evA_nil, res_inr, res_inl, res_nil, Option.map_some, List.append_nil, js_io, js_e, js_nil, List.isEmpty, e', Bool.false_eq_true, if_false, quiet_ok', setL_cons, setL_nil, fIns_, decide_eq_true c2, Bool.true_and, decide_eq_true c1, Kd.iff_true, W_ok]
    refine ⟨q2, ns.take i ++ j :: ns.drop i, some (.int j), by simp [nI], ?_⟩
    refine List.perm_middle.trans ?_
    rw [List.take_append_drop, List.range_succ]
    refine (hp.cons j).trans ?_
    exact (List.perm_append_singleton j (List.range j)).symm
  · rintro ρ ⟨q, ns, x, rfl, hp⟩
    simp
    exact ⟨q, ns, ⟨rfl, rfl⟩, hp⟩
theorem pick8 (k : Nat) (h : k < 8) : ∃ c : Nat, ([.int 1, .int 2, .int 2, .int 3, .int 3, .int 4, .int 5, .int 6] : List PyData)[k]? = some (.int (c : Int)) ∧ 1 ≤ c ∧ c ≤ 6 := by
  match k, h with
  | 0, _ => exact ⟨1, rfl, by decide, by decide⟩
  | 1, _ => exact ⟨2, rfl, by decide, by decide⟩
  | 2, _ => exact ⟨2, rfl, by decide, by decide⟩
  | 3, _ => exact ⟨3, rfl, by decide, by decide⟩
  | 4, _ => exact ⟨3, rfl, by decide, by decide⟩
  | 5, _ => exact ⟨4, rfl, by decide, by decide⟩
  | 6, _ => exact ⟨5, rfl, by decide, by decide⟩
  | 7, _ => exact ⟨6, rfl, by decide, by decide⟩
theorem pick5 (k : Nat) (h : k < 5) : ∃ c : Nat, ([.int 2, .int 3, .int 3, .int 4, .int 10] : List PyData)[k]? = some (.int (c : Int)) ∧ 2 ≤ c ∧ c ≤ 10 := by
  match k, h with
  | 0, _ => exact ⟨2, rfl, by decide, by decide⟩
  | 1, _ => exact ⟨3, rfl, by decide, by decide⟩
  | 2, _ => exact ⟨3, rfl, by decide, by decide⟩
  | 3, _ => exact ⟨4, rfl, by decide, by decide⟩
  | 4, _ => exact ⟨10, rfl, by decide, by decide⟩
def stN (n c k2 m t : Nat) (ss : List Nat) (q : Int) (j : Option PyData) (last first : Nat) (rs : List Rd) (x y z : Option PyData) : Ev := [some (.list [.int q]), some (.int (n : Int)), some (.int (c : Int)), some (.int (k2 : Int)), some (.int (m : Int)), some (.int (t : Int)), some (.list (ss.map nI)), j, some (.int (last : Int)), some (.int (first : Int)), some (.list (rs.map rdD)), x, y, z]
theorem w_net (p : Int) (n : Nat) (hn : n ≤ 20) : ∃ (q : Int) (c : Nat) (rs : List Rd), m__law_net [.list [.int p], .int (n : Int)] = .ok ([.list [.int q]], netD c rs) ∧ 1 ≤ c ∧ c ≤ 6 ∧ rs.length ≤ n ∧ ∀ r ∈ rs, rdOk c r := by
  suffices h : W (m__law_net [.list [.int p], .int (n : Int)]) fun y => ∃ (q : Int) (c : Nat) (rs : List Rd), y = ([.list [.int q]], netD c rs) ∧ 1 ≤ c ∧ c ≤ 6 ∧ rs.length ≤ n ∧ ∀ r ∈ rs, rdOk c r by
    obtain ⟨y, h1, q, c, rs, h2, h3⟩ := h
    exact ⟨q, c, rs, by rw [h1, h2], h3⟩
  refine W_fn (W_seq ?_)
  obtain ⟨q1, k1, e1, h1⟩ := w_takeI p 8 (by decide) (by decide)
  obtain ⟨c, hc, hc1, hc2⟩ := pick8 k1 (by omega)
  simp [-sSeq_, e1, hc, sl]
  refine W_seq ?_
  obtain ⟨q2, k2, e2, h2⟩ := w_takeI q1 5 (by decide) (by decide)
  obtain ⟨q3, k3, e3, h3⟩ := w_takeI q2 5 (by decide) (by decide)
  obtain ⟨m, hm, hm1, hm2⟩ := pick5 k3 (by omega)
  simp [-sSeq_, e2, e3, hm, sl]
  refine W_seq ?_
  obtain ⟨q4, t, e4, ht⟩ := w_takeI q3 (n + 1) (by omega) (by omega)
  simp [-sSeq_, e4]
  refine W_seq (W_bind ?_)
  refine W_mLc (fun acc r ρ => ∃ q ss x, ρ = [some (.list [.int q]), some (.int (n : Int)), some (.int (c : Int)), some (.int (k2 : Int)), some (.int (m : Int)), some (.int (t : Int)), none, x, none, none, none, none, none, none] ∧ acc = ss.map nI ∧ acc.length + r.length = t + 1 ∧ ∀ s ∈ ss, s < c)
    (it_rng (n := t + 1) (by simp) (by rw [sl]; omega)) (by simp) (by rw [numL_len', sl]; omega) ⟨q4, [], none, rfl, rfl, by rw [numL_len']; simp, by simp⟩ ?_ ?_ ?_
  · rintro acc d r ρ ⟨q, ss, x, rfl, rfl, hl, hs⟩
    obtain ⟨q5, s, e5, h5⟩ := w_takeI q c (by omega) (by omega)
    refine ⟨_, rfl, ?_⟩
    simp [e5]
    refine ⟨ss ++ [s], by simp [nI], by simp at hl ⊢; omega, ?_⟩
    intro s' h'
    rcases List.mem_append.mp h' with h' | h'
    · exact hs s' h'
    · simp at h'; omega
  · rintro acc ρ ⟨q, ss, x, rfl, rfl, hl, hs⟩
    simp at hl ⊢
    rw [sl]; omega
  rintro acc ρ ⟨q5, ss, x, rfl, rfl, hl, hs⟩
  have hss : ss.length = t + 1 := by simpa using hl
  simp [-sSeq_]
  refine W_seq ?_
  obtain ⟨q6, l6, e6, h6⟩ := w_takeI q5 m (by omega) (by omega)
  simp [-sSeq_, e6]
  refine W_seq ?_
  simp [-sSeq_]
  refine W_seq ?_
  simp [-sSeq_, sl]
  refine W_seq ?_
  obtain ⟨P, hP⟩ : ∃ P : Nat → Ev → Prop, ∀ j ρ, P j ρ ↔ ∃ q last first rs v x y z, ρ = stN n c k2 m t ss q v last first rs x y z ∧ last < m ∧ first < m ∧ rs.length = j ∧ ∀ r ∈ rs, rdOk c r := ⟨_, fun _ _ => Iff.rfl⟩
  refine W_rng' t P (it_rng (by simp) (by rw [sl]; omega)) ((hP _ _).mpr ⟨q6, l6, l6, [], none, none, none, none, rfl, by omega, by omega, rfl, by simp⟩) ?_ ?_
  · intro j ρ hj hρ
    obtain ⟨q, last, first, rs, v, x, y, z, rfl, g1, g2, g3, g4⟩ := (hP _ _).mp hρ
    refine ⟨stN n c k2 m t ss q (some (.int (j : Int))) last first rs x y z, rfl, ?_⟩
    have i1 : j < ss.length := by omega
    have i2 : j + 1 < ss.length := by omega
    have i0 : 0 < ss.length := by omega
    have hb : ∀ i (h : i < ss.length), ss[i] < c := fun i h => hs _ (List.getElem_mem h)
    refine W_seq (W.mono (P := fun fl => ∃ a b, a < c ∧ b < c ∧ fl = .nx (stN n c k2 m t ss q (some (.int (j : Int))) last first rs (some (.int (a : Nat))) (some (.int (b : Nat))) z)) ?_ ?_)
    · simp [stN, nI, i1, i2]
      exact ⟨_, hb j i1, _, hb (j + 1) i2, rfl, rfl⟩
    rintro _ ⟨a, b, ha, hb', rfl⟩
    rw [KS_nx]
    refine W_seq (W.mono (P := fun fl => ∃ q a, a < c ∧ fl = .nx (stN n c k2 m t ss q (some (.int (j : Int))) last first rs (some (.int (a : Nat))) (some (.int (b : Nat))) z)) ?_ ?_)
    · obtain ⟨q7, s, e7, h7⟩ := w_takeI q c (by omega) (by omega)
      by_cases h : (k2 : Int) = 0
      · simp [stN, h, e7]
        exact ⟨_, s, by omega, rfl, rfl⟩
      · have h0 : ¬ k2 = 0 := by omega
        simp [stN, h0]
        exact ⟨_, a, ha, rfl, rfl⟩
    clear ha a q hρ
    rintro _ ⟨q, a, ha, rfl⟩
    rw [KS_nx]
    refine W_seq (W.mono (P := fun fl => ∃ b, b < c ∧ fl = .nx (stN n c k2 m t ss q (some (.int (j : Int))) last first rs (some (.int (a : Nat))) (some (.int (b : Nat))) z)) ?_ ?_)
    · by_cases h : (1 : Int) < k2
      · by_cases h' : (j : Int) = t - 1
        · simp [stN, h, h', i0, nI]
          exact ⟨_, hb 0 i0, rfl⟩
        · simp [stN, h, h']
          exact ⟨_, hb', rfl⟩
      · simp [stN, h]
        exact ⟨_, hb', rfl⟩
    clear hb' b
    rintro _ ⟨b, hb', rfl⟩
    rw [KS_nx]
    obtain ⟨q8, k8, e8, h8⟩ := w_takeI q m (by omega) (by omega)
    refine W_seq (W.mono (P := fun fl => ∃ q k, k < m ∧ fl = .nx (stN n c k2 m t ss q (some (.int (j : Int))) last first rs (some (.int (a : Nat))) (some (.int (b : Nat))) (some (.int (k : Nat))))) ?_ ?_)
    · simp [stN, e8]
      exact ⟨_, k8, by omega, rfl, rfl⟩
    clear e8 q8 h8 k8 q
    rintro _ ⟨q, k, hk, rfl⟩
    rw [KS_nx]
    have mid : ∀ last k : Nat, ∃ l, l < m ∧ ((last : Int) + 1 + k).fmod m = (l : Nat) := fun last k => by
      have h2 := Int.fmod_nonneg_of_pos ((last : Int) + 1 + k) (b := (m : Int)) (by omega)
      have h3 := Int.fmod_lt_of_pos ((last : Int) + 1 + k) (b := (m : Int)) (by omega)
      exact ⟨(((last : Int) + 1 + k).fmod m).toNat, by omega, by omega⟩
    have hm0 : ¬ m = 0 := by omega
    refine W_seq (W.mono (P := fun fl => ∃ q k, k < m ∧ fl = .nx (stN n c k2 m t ss q (some (.int (j : Int))) last first rs (some (.int (a : Nat))) (some (.int (b : Nat))) (some (.int (k : Nat))))) ?_ ?_)
    · by_cases h : (2 : Int) < k2
      · obtain ⟨q7, s, e7, h7⟩ := w_takeI q ((m : Int) - 1) (by omega) (by omega)
        obtain ⟨l, hl1, hl2⟩ := mid last s
        simp [stN, h, e7, hm0, hl2]
        exact ⟨_, l, hl1, rfl, rfl⟩
      · simp [stN, h]
        exact ⟨_, k, hk, rfl, rfl⟩
    clear hk k q
    rintro _ ⟨q, k, hk, rfl⟩
    rw [KS_nx]
    refine W_seq (W.mono (P := fun fl => ∃ first, first < m ∧ fl = .nx (stN n c k2 m t ss q (some (.int (j : Int))) last first rs (some (.int (a : Nat))) (some (.int (b : Nat))) (some (.int (k : Nat))))) ?_ ?_)
    · by_cases h : (j : Int) = 0
      · simp [stN, h]
        exact ⟨k, hk, rfl⟩
      · have h0 : ¬ j = 0 := by omega
        simp [stN, h0]
        exact ⟨first, g2, rfl⟩
    clear g2 first
    rintro _ ⟨first, g2, rfl⟩
    rw [KS_nx]
    obtain ⟨q8, k8, e8, h8⟩ := w_takeI q m (by omega) (by omega)
    refine W_seq (W.mono (P := fun fl => ∃ q last, last < m ∧ fl = .nx (stN n c k2 m t ss q (some (.int (j : Int))) last first rs (some (.int (a : Nat))) (some (.int (b : Nat))) (some (.int (k : Nat))))) ?_ ?_)
    · simp [stN, e8]
      exact ⟨_, k8, by omega, rfl, rfl⟩
    clear e8 q8 h8 k8 q g1 last
    rintro _ ⟨q, last, g1, rfl⟩
    rw [KS_nx]
    refine W_seq (W.mono (P := fun fl => ∃ q last, last < m ∧ fl = .nx (stN n c k2 m t ss q (some (.int (j : Int))) last first rs (some (.int (a : Nat))) (some (.int (b : Nat))) (some (.int (k : Nat))))) ?_ ?_)
    · by_cases h : (2 : Int) < k2
      · by_cases h' : (j : Int) = t - 1
        · obtain ⟨q7, s, e7, h7⟩ := w_takeI q ((m : Int) - 1) (by omega) (by omega)
          obtain ⟨l, hl1, hl2⟩ := mid first s
          simp [stN, h, h', e7, hm0, hl2]
          exact ⟨_, l, hl1, rfl, rfl⟩
        · simp [stN, h, h']
          exact ⟨_, last, g1, rfl, rfl⟩
      · simp [stN, h]
        exact ⟨_, last, g1, rfl, rfl⟩
    clear g1 last q
    rintro _ ⟨q, last, g1, rfl⟩
    rw [KS_nx]
    have c1 : (rs.map rdD).length < sizeLine := by rw [List.length_map, sl]; omega
    simp [stN, sl] at c1 ⊢
    simp [c1]
    refine (hP _ _).mpr ⟨q, last, first, rs ++ [((a, k), (b, last))], _, _, _, _, by simp [stN, rdD, ptD]; exact ⟨rfl, rfl, rfl, rfl⟩, g1, g2, by simp [g3], ?_⟩
    intro r hr
    rcases List.mem_append.mp hr with hr | hr
    · exact g4 r hr
    · simp at hr
      subst hr
      exact ⟨ha, by show k < 10; omega, hb', by show last < 10; omega⟩
  · intro ρ hρ
    obtain ⟨q, last, first, rs, v, x, y, z, rfl, g1, g2, g3, g4⟩ := (hP _ _).mp hρ
    obtain ⟨q7, os, e7, h7⟩ := w_order q t (by omega)
    have hl : os.length = t := by simpa using h7.length_eq
    have hL : mLc [0] (iOf asL (mCall m__law_order_of [.io 0, .e (mV 5)] [])) (gN 7) tTrue (m2 fIx (mV 10) (mV 7)) [7] (stN n c k2 m t ss q v last first rs x y z) = .ok (stN n c k2 m t ss q7 v last first rs x y z, .list ((os.map nI).map fun d => match d with | .int i => ((rs.map rdD)[i.toNat]?).getD .none | _ => .none)) := by
      refine mLc_map1 _ (by simp [stN]) ?_ (by simp [stN]) (by rw [List.length_map, hl, sl]; omega) ?_
      · simp [stN, e7]
      · intro d hd
        obtain ⟨o, ho, rfl⟩ := List.mem_map.mp hd
        have ho' : o < rs.length := by
          have := h7.mem_iff.mp ho
          rw [g3]; simpa using this
        simp [stN, nI, ho']
    rw [KS_nx]
    obtain ⟨w, hw⟩ : ∃ w : PyData → PyData, w = fun d => match d with | .int i => ((rs.map rdD)[i.toNat]?).getD .none | _ => .none := ⟨_, rfl⟩
    rw [← hw] at hL
    have hrs : ∃ rs' : List Rd, (os.map nI).map w = rs'.map rdD ∧ rs'.length = t ∧ ∀ r ∈ rs', r ∈ rs := by
      refine ⟨os.map fun o => rs[o]?.getD default, ?_, by simp [hl], ?_⟩
      · rw [List.map_map, List.map_map]
        refine List.map_congr_left fun o ho => ?_
        have ho' : o < rs.length := by
          have := h7.mem_iff.mp ho
          rw [g3]; simpa using this
        simp [hw, nI, ho']
      · intro r hr
        obtain ⟨o, ho, rfl⟩ := List.mem_map.mp hr
        have ho' : o < rs.length := by
          have := h7.mem_iff.mp ho
          rw [g3]; simpa using this
        simp [ho']
    obtain ⟨rs', k1, k2', k3'⟩ := hrs
    have hg : gt (stN n c k2 m t ss q v last first rs x y z) 2 = some (.int (c : Int)) := rfl
    simp [hL, -mLc_, hg, k1]
    rw [sl]
    simp [stN]
    exact ⟨q7, c, rs', ⟨rfl, rfl⟩, hc1, hc2, by omega, fun a b a' b' h => g4 _ (k3' _ h)⟩
def whole : PyData → Bool
  | .int _ => true
  | _ => false
def below (d : PyData) (n : Int) : Bool := match d with
  | .int i => decide (0 ≤ i) && decide (i < n)
  | _ => false
def point (d : PyData) (n : Int) : Bool := match d with
  | .tuple [a, b] => below a n && below b 10
  | _ => false
def road (d : PyData) (n : Int) : Bool := match d with
  | .tuple [a, b] => point a n && point b n
  | _ => false
theorem e_whole (d : PyData) (h : d.canLay0 = true) : m_is_whole [d] = .ok ([], .bool (whole d)) := by
  cases d <;> first | (simp [PyData.canLay0] at h; done) | simp [m_is_whole, isB, whole]
theorem e_below (d : PyData) (n : Int) (h : d.canLay0 = true) : m_is_below [d, .int n] = .ok ([], .bool (below d n)) := by
  cases d with
  | int i =>
    simp [m_is_below, e_whole (.int i) rfl, whole, below]
    by_cases h : 0 ≤ i <;> simp [h]
  | dict _ => simp [PyData.canLay0] at h
  | _ => simp [m_is_below, e_whole _ h, whole, below]
theorem lay_t {a : PyData} {xs : List PyData} (h : (PyData.tuple (a :: xs)).canLay0 = true) : a.canLay0 = true ∧ (PyData.tuple xs).canLay0 = true := by
  simpa [PyData.canLay0, PyData.canLayAll0] using h
theorem e_point (d : PyData) (n : Int) (h : d.canLay0 = true) : m_is_point [d, .int n] = .ok ([], .bool (point d n)) := by
  cases d with
  | tuple xs =>
    match xs, h with
    | [], h => simp [m_is_point, isB, point]
    | [a], h => simp [m_is_point, isB, point]
    | [a, b], h =>
      obtain ⟨h1, h2⟩ := lay_t h
      obtain ⟨h2, _⟩ := lay_t h2
      simp [m_is_point, isB, point, e_below a n h1, e_below b 10 h2]
      cases below a n <;> simp
    | a :: b :: c :: r, h =>
      have q : ¬ ((r.length : Int) + 1 + 1 + 1 = 2) := by omega
      simp [m_is_point, isB, point, q]
  | dict _ => simp [PyData.canLay0] at h
  | _ => simp [m_is_point, isB, point]
theorem e_road (d : PyData) (n : Int) (h : d.canLay0 = true) : m_is_road [d, .int n] = .ok ([], .bool (road d n)) := by
  cases d with
  | tuple xs =>
    match xs, h with
    | [], h => simp [m_is_road, isB, road]
    | [a], h => simp [m_is_road, isB, road]
    | [a, b], h =>
      obtain ⟨h1, h2⟩ := lay_t h
      obtain ⟨h2, _⟩ := lay_t h2
      simp [m_is_road, isB, road, e_point a n h1, e_point b n h2]
      cases point a n <;> simp
    | a :: b :: c :: r, h =>
      have q : ¬ ((r.length : Int) + 1 + 1 + 1 = 2) := by omega
      simp [m_is_road, isB, road, q]
  | dict _ => simp [PyData.canLay0] at h
  | _ => simp [m_is_road, isB, road]
def net (d : PyData) : Bool := match d with
  | .tuple [.int n, .tuple rs] => decide (1 ≤ n) && decide (n ≤ 12) && rs.all fun r => road r n
  | _ => false
theorem e_net (d : PyData) (h : d.canLay0 = true) (hl : ∀ a rs, d = .tuple [a, .tuple rs] → rs.length ≤ sizeLine) : m_is_right_net [d] = .ok ([], .bool (net d)) := by
  cases d with
  | tuple xs =>
    match xs, h, hl with
    | [], h, hl => simp [m_is_right_net, isB, net]
    | [a], h, hl => simp [m_is_right_net, isB, net]
    | a :: b :: c :: r, h, hl =>
      have q : ¬ ((r.length : Int) + 1 + 1 + 1 = 2) := by omega
      simp [m_is_right_net, isB, net, q]
    | [a, b], h, hl =>
      obtain ⟨h1, h2⟩ := lay_t h
      obtain ⟨h2, _⟩ := lay_t h2
      cases b with
      | tuple rs =>
        have hrs := hl a rs rfl
        cases a with
        | int n =>
          have hc : mLc [] (iOf asT (m2 fIx (mV 0) (mC (.int 1)))) (gN 1) tTrue (mCall m_is_road [.e (mV 1), .e (m2 fIx (mV 0) (mC (.int 0)))] []) [1] [some (.tuple [.int n, .tuple rs]), none] = .ok ([some (.tuple [.int n, .tuple rs]), none], .list (rs.map fun r => .bool (road r n))) :=
            mLc_map _ (by simp) (by simp) hrs fun d hd => by simp [e_road d n (lay_tup h2 d hd)]
          simp only [m_is_right_net]
          simp [isB, net, e_whole (.int n) rfl, whole, hc, -mLc_]
          by_cases c1 : n < 1
          · simp [c1, show ¬ (1 ≤ n) by omega]
          · by_cases c2 : 12 < n
            · simp [c1, c2, show ¬ (n ≤ 12) by omega]
            · simp [c1, c2, show 1 ≤ n by omega, show n ≤ 12 by omega]
        | dict _ => simp [PyData.canLay0] at h1
        | _ => simp [m_is_right_net, isB, net, e_whole _ h1, whole]
      | dict _ => simp [PyData.canLay0] at h2
      | _ => simp [m_is_right_net, isB, net]
  | dict _ => simp [PyData.canLay0] at h
  | _ => simp [m_is_right_net, isB, net]
def endB (n : Nat) (d : PyData) : Bool := match d with
  | .tuple [a, b] => below a (n : Int) && below b 2
  | _ => false
theorem bulkAll_len : ∀ xs : List PyData, xs.length ≤ PyData.bulkAll xs
  | [] => Nat.zero_le _
  | x :: xs => by
    have := bulkAll_len xs
    simp only [PyData.bulkAll, List.length_cons]
    omega
theorem sm_len {k n : Nat} {a : PyData} {rs : List PyData} (h : Sm k n (.tuple [a, .tuple rs])) : rs.length ≤ n := by
  have h1 := h.2.2
  have h2 := bulkAll_len rs
  simp only [PyData.bulk, PyData.bulkAll] at h1
  omega
theorem e_rend (a : PyData) (rs : List PyData) (d : PyData) (h : d.canLay0 = true) : m_is_right_end [.tuple [a, .tuple rs], d] = .ok ([], .bool (endB rs.length d)) := by
  cases d with
  | tuple xs =>
    match xs, h with
    | [], h => simp [m_is_right_end, isB, endB]
    | [x], h => simp [m_is_right_end, isB, endB]
    | [x, y], h =>
      obtain ⟨h1, h2⟩ := lay_t h
      obtain ⟨h2, _⟩ := lay_t h2
      simp [m_is_right_end, isB, endB, e_below x _ h1, e_below y 2 h2]
      cases below x rs.length <;> simp
    | x :: y :: z :: r, h =>
      have q : ¬ ((r.length : Int) + 1 + 1 + 1 = 2) := by omega
      simp [m_is_right_end, isB, endB, q]
  | dict _ => simp [PyData.canLay0] at h
  | _ => simp [m_is_right_end, isB, endB]
theorem e_look {k n : Nat} (d : PyData) (h : Sm k n d) (hn : n ≤ 600000) (hd : net d = true) : m_look_at_net [d] = .ok ([], .none) := by
  have e := e_net d h.lay fun a rs hd => by
    subst hd
    have := sm_len h
    rw [sl]; omega
  simp [m_look_at_net, e, hd]
theorem below_i (i n : Int) : below (.int i) n = (decide (0 ≤ i) && decide (i < n)) := rfl
theorem net_D {c : Nat} {rs : List Rd} (h1 : 1 ≤ c) (h2 : c ≤ 12) (h : ∀ r ∈ rs, rdOk c r) : net (netD c rs) = true := by
  simp only [netD, net, List.all_map, Bool.and_eq_true, decide_eq_true_eq, List.all_eq_true]
  refine ⟨⟨by omega, by omega⟩, fun r hr => ?_⟩
  obtain ⟨q1, q2, q3, q4⟩ := h r hr
  simp only [Function.comp, rdD, road, ptD, point, below_i, Bool.and_eq_true, decide_eq_true_eq]
  omega
theorem sm_pt {c : Nat} {p : Pt} (h1 : p.1 < c) (h2 : p.2 < 10) (hc : c ≤ 12) : Sm 1 2 (ptD p) := by
  refine ((sm_tup (k := 0) (n := 0) (l := 2) ?_ (by simp)).mono (by omega) (by omega) : Sm 1 2 (.tuple [.int (p.1 : Int), .int (p.2 : Int)]))
  intro x hx
  simp at hx
  rcases hx with rfl | rfl <;> exact sm_int (by omega)
theorem sm_rd {c : Nat} {r : Rd} (h : rdOk c r) (hc : c ≤ 12) : Sm 2 6 (rdD r) := by
  obtain ⟨q1, q2, q3, q4⟩ := h
  refine (sm_tup (k := 1) (n := 2) (l := 2) ?_ (by simp) : Sm 2 6 (.tuple [ptD r.1, ptD r.2]))
  intro x hx
  simp at hx
  rcases hx with rfl | rfl
  · exact sm_pt q1 q2 hc
  · exact sm_pt q3 q4 hc
theorem sm_rds {c : Nat} {rs : List Rd} (h : ∀ r ∈ rs, rdOk c r) (hc : c ≤ 12) (hl : rs.length ≤ 20) : Sm 3 140 (.tuple (rs.map rdD)) := by
  refine sm_tup (k := 2) (n := 6) (l := 20) ?_ (by simpa using hl)
  intro x hx
  obtain ⟨r, hr, rfl⟩ := List.mem_map.mp hx
  exact sm_rd (h r hr) hc
theorem sm_net {c : Nat} {rs : List Rd} (h : ∀ r ∈ rs, rdOk c r) (hc : c ≤ 12) (hl : rs.length ≤ 20) : Sm 4 282 (netD c rs) := by
  refine (sm_tup (k := 3) (n := 140) (l := 2) ?_ (by simp) : Sm 4 282 (.tuple [.int (c : Int), .tuple (rs.map rdD)]))
  intro x hx
  simp at hx
  rcases hx with rfl | rfl
  · exact (sm_int (by omega)).mono (by omega) (by omega)
  · exact sm_rds h hc hl
theorem sm_llen {k n : Nat} {xs : List PyData} (h : Sm k n (.list xs)) : xs.length ≤ n := by
  have h1 := h.2.2
  have h2 := bulkAll_len xs
  simp only [bul_l] at h1
  omega
theorem e_lwhole (d : PyData) (h : d.canLay0 = true) : m__law_whole [d] = .ok ([], .bool (whole d)) := by
  cases d <;> first | (simp [PyData.canLay0] at h; done) | simp [m__law_whole, isB, whole]
theorem whole_i {d : PyData} (h : whole d = true) : ∃ i, d = .int i := by
  cases d <;> first | (cases h; done) | exact ⟨_, rfl⟩
theorem below_w {d : PyData} {n : Int} (h : whole d = false) : below d n = false := by
  cases d <;> first | (cases h; done) | rfl
theorem e_lend (a : PyData) (rs : List PyData) (d : PyData) (h : d.canLay0 = true) : m__law_is_end [.tuple [a, .tuple rs], d] = .ok ([], .bool (endB rs.length d)) := by
  cases d with
  | tuple xs =>
    match xs, h with
    | [], h => simp [m__law_is_end, isB, endB]
    | [x], h => simp [m__law_is_end, isB, endB]
    | [x, y], h =>
      obtain ⟨h1, h2⟩ := lay_t h
      obtain ⟨h2, _⟩ := lay_t h2
      cases wa : whole x with
      | false => simp [m__law_is_end, isB, endB, e_lwhole x h1, wa, below_w wa]
      | true =>
        cases wb : whole y with
        | false => simp [m__law_is_end, isB, endB, e_lwhole x h1, e_lwhole y h2, wa, wb, below_w wb]
        | true =>
          obtain ⟨i, rfl⟩ := whole_i wa
          obtain ⟨j, rfl⟩ := whole_i wb
          have hm : ∀ j : Int, memD (.int j) [.int 0, .int 1] = (decide (0 ≤ j) && decide (j < 2)) := fun j => by
            simp only [memD, List.any, PyData.eqv]
            by_cases q1 : j = 0
            · subst q1; rfl
            · by_cases q2 : j = 1
              · subst q2; rfl
              · have e1 : ((0 : Int) == j) = false := by simp; omega
                have e2 : ((1 : Int) == j) = false := by simp; omega
                rw [e1, e2]
                by_cases q3 : 0 ≤ j
                · simp [q3]; omega
                · simp [q3]
          have hs : (SeqAt.shaped (.int j) && SeqAt.shaped (.list [.int 0, .int 1])) = true := by
            rw [sh_i]; rfl
          have hf : fIn (.int j) (.list [.int 0, .int 1]) = some (.bool (decide (0 ≤ j) && decide (j < 2))) := by
            rw [← hm j]
            show iff' _ _ = _
            rw [hs]; rfl
          simp [m__law_is_end, isB, endB, e_lwhole _ h1, e_lwhole _ h2, whole, below, sl, hf]
          by_cases q1 : 0 ≤ i <;> by_cases q2 : i < rs.length <;> simp [q1, q2]
    | x :: y :: z :: r, h =>
      have q : ¬ ((r.length : Int) + 1 + 1 + 1 = 2) := by omega
      simp [m__law_is_end, isB, endB, q]
  | dict _ => simp [PyData.canLay0] at h
  | _ => simp [m__law_is_end, isB, endB]
def endsL (n : Nat) : List PyData := (List.range n).flatMap fun r => [.tuple [nI r, .int 0], .tuple [nI r, .int 1]]
theorem endsL_succ (n : Nat) : endsL (n + 1) = endsL n ++ [.tuple [nI n, .int 0], .tuple [nI n, .int 1]] := by
  unfold endsL
  rw [List.range_succ, List.flatMap_append]
  rfl
theorem endsL_len : ∀ n : Nat, (endsL n).length = 2 * n
  | 0 => rfl
  | n + 1 => by rw [endsL_succ, List.length_append, endsL_len n]; simp; omega
theorem endsL_ok (n : Nat) : ∀ d ∈ endsL n, d.canLay0 = true ∧ endB n d = true := by
  intro d hd
  obtain ⟨r, hr, hd⟩ := List.mem_flatMap.mp hd
  have hr := List.mem_range.mp hr
  simp at hd
  rcases hd with rfl | rfl <;> simp [nI, PyData.canLay0, PyData.canLayAll0, endB, below, hr]
theorem e_ends (a : PyData) (rs : List PyData) (h : rs.length ≤ 1000) : m__law_ends [.tuple [a, .tuple rs]] = .ok ([], .list (endsL rs.length)) := by
  suffices hW : W (m__law_ends [.tuple [a, .tuple rs]]) fun y => y = ([], .list (endsL rs.length)) by
    obtain ⟨y, e, rfl⟩ := hW
    exact e
  refine W_fn (W_seq ?_)
  simp [sl, -sSeq_]
  refine W_seq ?_
  refine W_rng' rs.length (fun j ρ => ∃ x, ρ = [some (.tuple [a, .tuple rs]), some (.list (endsL j)), x]) (ρ1 := [some (.tuple [a, .tuple rs]), some (.list []), none]) (it_rng (by simp) (by rw [sl]; omega)) ⟨none, rfl⟩ ?_ ?_
  · rintro j ρ hj ⟨x, rfl⟩
    refine ⟨_, rfl, ?_⟩
    have hl := endsL_len j
    have c1 : (endsL j).length + 2 ≤ 16777216 := by omega
    simp [sl, c1, endsL_succ, nI]
  · rintro ρ ⟨x, rfl⟩
    simp
end KHead

end T_Ia_k61
section T_Ib_k61
set_option maxRecDepth 100000
namespace KHead
open PySem PySem.Spec PyProof.Rows L2 Kd
/-! ### ends -/
abbrev En := Nat × Nat
def enOk (rs : List Rd) (e : En) : Prop := e.1 < rs.length ∧ e.2 < 2
def plc (rs : List Rd) (e : En) : Nat := match rs[e.1]? with
  | some r => if e.2 = 0 then r.1.1 else r.2.1
  | none => 0
def farE (e : En) : En := (e.1, 1 - e.2)
theorem farE_ok {rs : List Rd} {e : En} (h : enOk rs e) : enOk rs (farE e) := ⟨h.1, by show 1 - e.2 < 2; omega⟩
theorem sh_pt (a : Pt) : SeqAt.shaped (ptD a) = true := shaped_of rfl (by simp [ptD])
theorem fEq_pt (a b : Pt) : fEq (ptD a) (ptD b) = some (.bool (decide (a = b))) := by
  show iff' (sh2 _ _) _ = _
  rw [sh2, sh_pt, sh_pt]
  simp only [Bool.and_self, Kd.iff_true, ptD, PyData.eqv, PyData.eqvAll]
  congr 2
  obtain ⟨a1, a2⟩ := a
  obtain ⟨b1, b2⟩ := b
  by_cases h1 : a1 = b1
  · by_cases h2 : a2 = b2
    · simp [h1, h2]
    · simp [h1, h2]
      omega
  · simp [h1]
    omega
theorem fNe_pt (a b : Pt) : fNe (ptD a) (ptD b) = some (.bool (!decide (a = b))) := by
  have h := fEq_pt a b
  show iff' (sh2 _ _) _ = _
  have h : iff' (sh2 (ptD a) (ptD b)) (PyData.bool (PyData.eqv (ptD a) (ptD b))) = some (.bool (decide (a = b))) := h
  rw [sh2, sh_pt, sh_pt] at h ⊢
  simp only [Bool.and_self, Kd.iff_true, Option.some.injEq, PyData.bool.injEq] at h ⊢
  rw [h]
theorem endB_pt {n : Nat} {e : En} : endB n (ptD e) = (decide (e.1 < n) && decide (e.2 < 2)) := by
  simp [endB, ptD, below]
  congr 1
  exact decide_eq_decide.mpr (by omega)
theorem endB_en {n : Nat} {d : PyData} (h : endB n d = true) : ∃ e : En, d = ptD e ∧ e.1 < n ∧ e.2 < 2 := by
  unfold endB at h
  split at h
  · rename_i a b
    obtain ⟨h1, h2⟩ := Bool.and_eq_true_iff.mp h
    cases a <;> first | (cases h1; done) | skip
    cases b <;> first | (cases h2; done) | skip
    rename_i i j
    simp [below] at h1 h2
    refine ⟨(i.toNat, j.toNat), ?_, by simp; omega, by simp; omega⟩
    simp [ptD]
    omega
  · cases h
theorem e_place {c : Nat} {rs : List Rd} {e : En} (h : enOk rs e) : m_place_at [netD c rs, ptD e] = .ok ([], .int (plc rs e : Nat)) := by
  obtain ⟨i, j⟩ := e
  obtain ⟨h1, h2⟩ := h
  simp at h1 h2
  match j, h2 with
  | 0, _ => simp [m_place_at, netD, ptD, h1, rdD, plc]
  | 1, _ => simp [m_place_at, netD, ptD, h1, rdD, plc]
theorem e_far {e : En} (h : e.2 < 2) : m_other_end [ptD e] = .ok ([], ptD (farE e)) := by
  obtain ⟨i, j⟩ := e
  simp at h
  match j, h with
  | 0, _ => simp [m_other_end, ptD, sl, farE]
  | 1, _ => simp [m_other_end, ptD, sl, farE]
theorem e_lplace {c : Nat} {rs : List Rd} {e : En} (h : enOk rs e) : m__law_place [netD c rs, ptD e] = .ok ([], .int (plc rs e : Nat)) := by
  obtain ⟨i, j⟩ := e
  obtain ⟨h1, h2⟩ := h
  simp at h1 h2
  match j, h2 with
  | 0, _ => simp [m__law_place, netD, ptD, h1, rdD, plc]
  | 1, _ => simp [m__law_place, netD, ptD, h1, rdD, plc]
theorem e_lfar {e : En} (h : e.2 < 2) : m__law_far [ptD e] = .ok ([], ptD (farE e)) := by
  obtain ⟨i, j⟩ := e
  simp at h
  match j, h with
  | 0, _ => simp [m__law_far, ptD, sl, farE]
  | 1, _ => simp [m__law_far, ptD, sl, farE]
/-- the turns of a going -/
def tsD (es : List En) (back : Bool) : List (En × En) := (es.zip es.tail).map (fun p => (farE p.1, p.2)) ++ (if back then [(farE (es.getLastD (0, 0)), es.headD (0, 0))] else [])
def tnD (t : En × En) : PyData := .tuple [ptD t.1, ptD t.2]
end KHead

end T_Ib_k61
section T_Ic_k61
set_option maxRecDepth 100000
namespace KHead
open PySem PySem.Spec PyProof.Rows L2 Kd
/-! ### joins, ways along them -/
structure Jn (J : En → Option En) : Prop where
  sym : ∀ a b, J a = some b → J b = some a
  irr : ∀ a, J a ≠ some a
  val : ∀ a b, J a = some b → a.2 < 2
theorem Jn.val2 {J : En → Option En} (h : Jn J) {a b : En} (e : J a = some b) : b.2 < 2 := h.val _ _ (h.sym _ _ e)
theorem far_far {e : En} (h : e.2 < 2) : farE (farE e) = e := by
  obtain ⟨r, s⟩ := e
  simp only [farE] at h ⊢
  congr 1
  omega
theorem far_lt (e : En) : (farE e).2 < 2 := by simp only [farE]; omega
theorem far_ne {e : En} (h : e.2 < 2) : farE e ≠ e := by
  obtain ⟨r, s⟩ := e
  simp only [farE, Prod.mk.injEq, true_and, ne_eq] at h ⊢
  omega
theorem far_inj {a b : En} (ha : a.2 < 2) (hb : b.2 < 2) (h : farE a = farE b) : a = b := by rw [← far_far ha, ← far_far hb, h]
theorem same_road {a b : En} (ha : a.2 < 2) (hb : b.2 < 2) (h : a.1 = b.1) : a = b ∨ b = farE a := by
  obtain ⟨r, s⟩ := a
  obtain ⟨r', s'⟩ := b
  simp only at ha hb h
  subst h
  by_cases e : s = s'
  · exact .inl (by rw [e])
  · refine .inr ?_
    simp only [farE, Prod.mk.injEq, true_and]
    omega
/-- a way from e along J -/
structure Pth (J : En → Option En) (e : En) (g : List En) : Prop where
  hd : g[0]? = some e
  ch : ∀ i a b, g[i]? = some a → g[i + 1]? = some b → J (farE a) = some b
  nr : ∀ i, g[i + 1]? ≠ some e
  vl : ∀ x ∈ g, x.2 < 2
theorem Pth.one (J : En → Option En) {e : En} (h : e.2 < 2) : Pth J e [e] := ⟨rfl, fun i a b _ h => by simp at h, fun i h => by simp at h, fun x hx => by simp at hx; subst hx; exact h⟩
theorem Pth.snoc {J : En → Option En} {e l x : En} {g : List En} (p : Pth J e g) (hl : g.getLast? = some l) (hJ : J (farE l) = some x) (hx : x ≠ e) (hv : x.2 < 2) : Pth J e (g ++ [x]) := by
  have h0 : 0 < g.length := by
    cases g with
    | nil => cases hl
    | cons _ _ => simp
  have hl' : g[g.length - 1]? = some l := by rw [← List.getLast?_eq_getElem?]; exact hl
  refine ⟨by rw [List.getElem?_append_left h0]; exact p.hd, fun i a b h1 h2 => ?_, fun i h => ?_, fun y hy => ?_⟩
  · by_cases hi : i + 1 < g.length
    · rw [List.getElem?_append_left (by omega)] at h1
      rw [List.getElem?_append_left hi] at h2
      exact p.ch i a b h1 h2
    · have hlt : i + 1 < (g ++ [x]).length := (List.getElem?_eq_some_iff.mp h2).1
      simp at hlt
      have e : i = g.length - 1 := by omega
      subst e
      rw [List.getElem?_append_left (by omega), hl'] at h1
      rw [List.getElem?_append_right (by omega)] at h2
      have : g.length - 1 + 1 - g.length = 0 := by omega
      rw [this] at h2
      simp at h2
      cases h1
      subst h2
      exact hJ
  · by_cases hi : i + 1 < g.length
    · rw [List.getElem?_append_left hi] at h
      exact p.nr i h
    · rw [List.getElem?_append_right (by omega)] at h
      have hlt := (List.getElem?_eq_some_iff.mp h).1
      simp at hlt
      have : i + 1 - g.length = 0 := by omega
      rw [this] at h
      simp at h
      exact hx h
  · rcases List.mem_append.mp hy with hy | hy
    · exact p.vl y hy
    · simp at hy; subst hy; exact hv
section
variable {J : En → Option En} {e : En} {g : List En}
theorem Pth.inj (hJ : Jn J) (p : Pth J e g) : ∀ (i j : Nat) (x : En), i < j → g[i]? = some x → g[j]? = some x → False
  | 0, j, x, h, h1, h2 => by
    rw [p.hd] at h1
    cases h1
    obtain ⟨k, rfl⟩ : ∃ k, j = k + 1 := ⟨j - 1, by omega⟩
    exact p.nr k h2
  | i + 1, j, x, h, h1, h2 => by
    obtain ⟨k, rfl⟩ : ∃ k, j = k + 1 := ⟨j - 1, by omega⟩
    have l1 : i + 1 < g.length := (List.getElem?_eq_some_iff.mp h1).1
    have l2 : k + 1 < g.length := (List.getElem?_eq_some_iff.mp h2).1
    have a1 : g[i]? = some g[i] := List.getElem?_eq_getElem (by omega)
    have a2 : g[k]? = some g[k] := List.getElem?_eq_getElem (by omega)
    have q1 := hJ.sym _ _ (p.ch i _ _ a1 h1)
    have q2 := hJ.sym _ _ (p.ch k _ _ a2 h2)
    rw [q1] at q2
    have q3 := far_inj (p.vl _ (List.getElem_mem _)) (p.vl _ (List.getElem_mem _)) (Option.some.inj q2)
    refine p.inj hJ i k g[i] (by omega) a1 ?_
    rw [q3]
    exact a2
theorem Pth.nofar (hJ : Jn J) (p : Pth J e g) : ∀ (n i : Nat) (x : En), g[i]? = some x → g[i + n]? = some (farE x) → False
  | 0, i, x, h1, h2 => by
    rw [Nat.add_zero, h1] at h2
    exact far_ne (p.vl x (List.mem_of_getElem? h1)) (Option.some.inj h2).symm
  | 1, i, x, h1, h2 => hJ.irr _ (p.ch i _ _ h1 h2)
  | n + 2, i, x, h1, h2 => by
    have l2 : i + (n + 2) < g.length := (List.getElem?_eq_some_iff.mp h2).1
    have a1 : g[i + 1]? = some g[i + 1] := List.getElem?_eq_getElem (by omega)
    have a2 : g[i + 1 + n]? = some g[i + 1 + n] := List.getElem?_eq_getElem (by omega)
    have q1 := p.ch i _ _ h1 a1
    have q2 := hJ.sym _ _ (p.ch (i + 1 + n) _ (farE x) a2 (by rw [← h2]; congr 1; omega))
    rw [q1] at q2
    have v1 := p.vl _ (List.getElem_mem (h := (by omega : i + 1 + n < g.length)))
    refine p.nofar hJ n (i + 1) g[i + 1] a1 ?_
    rw [a2, Option.some.inj q2, far_far v1]
theorem Pth.nodup (hJ : Jn J) (p : Pth J e g) : (g.map Prod.fst).Nodup := by
  refine List.pairwise_map.mpr (List.pairwise_iff_getElem.mpr fun i j hi hj hij z => ?_)
  have a1 : g[i]? = some g[i] := List.getElem?_eq_getElem hi
  have a2 : g[j]? = some g[j] := List.getElem?_eq_getElem hj
  rcases same_road (p.vl _ (List.getElem_mem hi)) (p.vl _ (List.getElem_mem hj)) z with h | h
  · exact p.inj hJ i j g[i] hij a1 (by rw [a2, h])
  · refine p.nofar hJ (j - i) i g[i] a1 ?_
    rw [show i + (j - i) = j by omega, a2, h]
/-- closed along J -/
def Clo (J : En → Option En) (D : List Nat) : Prop := ∀ x y, x.1 ∈ D → J x = some y → y.1 ∈ D
theorem Pth.disj (hJ : Jn J) (p : Pth J e g) {D : List Nat} (c : Clo J D) (h : e.1 ∉ D) : ∀ (i : Nat) (x : En), g[i]? = some x → x.1 ∉ D
  | 0, x, h1 => by
    rw [p.hd] at h1
    cases h1
    exact h
  | i + 1, x, h1 => fun z => by
    have l1 : i + 1 < g.length := (List.getElem?_eq_some_iff.mp h1).1
    have a1 : g[i]? = some g[i] := List.getElem?_eq_getElem (by omega)
    exact p.disj hJ c h i g[i] a1 (c x (farE g[i]) z (hJ.sym _ _ (p.ch i _ _ a1 h1)))
theorem Pth.clo (hJ : Jn J) (p : Pth J e g) {D : List Nat} (c : Clo J D) {l : En} (hl : g.getLast? = some l) (hx : J (farE l) = none ∨ J (farE l) = some e) (h0 : J e = none ∨ J (farE l) = some e) : Clo J (D ++ g.map Prod.fst) := by
  intro x y hx1 hJx
  rcases List.mem_append.mp hx1 with h | h
  · exact List.mem_append_left _ (c x y h hJx)
  · refine List.mem_append_right _ ?_
    obtain ⟨z, hz, e1⟩ := List.mem_map.mp h
    obtain ⟨i, hi, rfl⟩ := List.getElem_of_mem hz
    have a1 : g[i]? = some g[i] := List.getElem?_eq_getElem hi
    have hl' : g[g.length - 1]? = some l := by rw [← List.getLast?_eq_getElem?]; exact hl
    rcases same_road (p.vl _ hz) (hJ.val _ _ hJx) e1 with h | h
    · subst h
      cases i with
      | zero =>
        rw [p.hd] at a1
        have a1 := Option.some.inj a1
        rw [← a1] at hJx
        rcases h0 with h0 | h0
        · rw [h0] at hJx; cases hJx
        · rw [hJ.sym _ _ h0] at hJx
          cases hJx
          exact List.mem_map.mpr ⟨l, List.mem_of_getElem? hl', rfl⟩
      | succ k =>
        have a0 : g[k]? = some g[k] := List.getElem?_eq_getElem (by omega)
        rw [hJ.sym _ _ (p.ch k _ _ a0 a1)] at hJx
        cases hJx
        exact List.mem_map.mpr ⟨g[k], List.getElem_mem _, rfl⟩
    · subst h
      by_cases hk : i + 1 < g.length
      · have a2 : g[i + 1]? = some g[i + 1] := List.getElem?_eq_getElem hk
        rw [p.ch i _ _ a1 a2] at hJx
        cases hJx
        exact List.mem_map.mpr ⟨_, List.getElem_mem _, rfl⟩
      · have e2 : i = g.length - 1 := by omega
        have e3 : g[i] = l := by
          have h9 : g[i]? = some l := by rw [e2]; exact hl'
          rw [h9] at a1
          exact (Option.some.inj a1).symm
        rw [e3] at hJx
        rcases hx with hx | hx
        · rw [hx] at hJx; cases hJx
        · rw [hx] at hJx
          cases hJx
          exact List.mem_map.mpr ⟨e, List.mem_of_getElem? p.hd, rfl⟩
end

/-! ### items of a plan -/
/-- a going of joined ends; back: as a round -/
structure VG (J : En → Option En) (back : Bool) (g : List En) : Prop where
  ne : g ≠ []
  vl : ∀ x ∈ g, x.2 < 2
  ch : ∀ i a b, g[i]? = some a → g[i + 1]? = some b → J (farE a) = some b
  rd : back = true → ∀ a l, g[0]? = some a → g.getLast? = some l → J (farE l) = some a
theorem zip_idx {g : List En} {t : En × En} (h : t ∈ g.zip g.tail) : ∃ i : Nat, g[i]? = some t.1 ∧ g[i + 1]? = some t.2 := by
  obtain ⟨i, hi, e⟩ := List.getElem_of_mem h
  have e' : (g.zip g.tail)[i]? = some t := by rw [List.getElem?_eq_getElem hi, e]
  rw [List.getElem?_zip_eq_some] at e'
  refine ⟨i, e'.1, ?_⟩
  have := e'.2
  rwa [List.getElem?_tail] at this
theorem VG.jn {J : En → Option En} {back : Bool} {g : List En} (v : VG J back g) : ∀ t ∈ tsD g back, J t.1 = some t.2 := by
  intro t ht
  rcases List.mem_append.mp ht with ht | ht
  · obtain ⟨q, hq, rfl⟩ := List.mem_map.mp ht
    obtain ⟨i, h1, h2⟩ := zip_idx hq
    exact v.ch i _ _ h1 h2
  · cases back with
    | false => simp at ht
    | true =>
      simp only [if_true, List.mem_singleton] at ht
      subst ht
      cases g with
      | nil => exact absurd rfl v.ne
      | cons a r =>
        refine v.rd rfl _ _ rfl ?_
        rw [List.getLastD_eq_getLast?, List.getLast?_cons]
        rfl
theorem Pth.vg {J : En → Option En} {e : En} {g : List En} (p : Pth J e g) {l : En} (hl : g.getLast? = some l) (back : Bool) (hb : back = true → J (farE l) = some e) : VG J back g :=
  ⟨fun z => (by rw [z] at hl; cases hl), p.vl, p.ch, fun h a l2 h1 h2 => by
    rw [p.hd] at h1
    cases h1
    rw [hl] at h2
    cases h2
    exact hb h⟩
theorem VG.rev {J : En → Option En} (hJ : Jn J) {back : Bool} {g : List En} (v : VG J back g) : VG J back (g.reverse.map farE) := by
  have atR : ∀ {i : Nat} {a : En}, (g.reverse.map farE)[i]? = some a → i < g.length ∧ ∃ x, g[g.length - 1 - i]? = some x ∧ a = farE x := fun {i a} h => by
    rw [List.getElem?_map] at h
    obtain ⟨x, h1, rfl⟩ := Option.map_eq_some_iff.mp h
    have hi := (List.getElem?_eq_some_iff.mp h1).1
    rw [List.length_reverse] at hi
    rw [List.getElem?_reverse hi] at h1
    exact ⟨hi, x, h1, rfl⟩
  refine ⟨by simpa using v.ne, fun x hx => ?_, fun i a b h1 h2 => ?_, fun h a l h1 h2 => ?_⟩
  · obtain ⟨y, _, rfl⟩ := List.mem_map.mp hx
    exact far_lt y
  · obtain ⟨i1, x, q1, rfl⟩ := atR h1
    obtain ⟨i2, y, q2, rfl⟩ := atR h2
    have := v.ch (g.length - 1 - (i + 1)) y x q2 (by rw [← q1]; congr 1; omega)
    rw [far_far (v.vl x (List.mem_of_getElem? q1))]
    exact hJ.sym _ _ this
  · obtain ⟨i1, x, q1, rfl⟩ := atR h1
    rw [List.getLast?_eq_getElem?] at h2
    obtain ⟨i2, y, q2, rfl⟩ := atR h2
    have e1 : g[0]? = some y := by
      rw [← q2]; congr 1
      simp only [List.length_map, List.length_reverse]; omega
    have e2 : g.getLast? = some x := by rw [List.getLast?_eq_getElem?, ← q1]; rfl
    rw [far_far (v.vl y (List.mem_of_getElem? q2))]
    exact hJ.sym _ _ (v.rd h _ _ e1 e2)
theorem VG.rot1 {J : En → Option En} {a : En} {r : List En} (v : VG J true (a :: r)) : VG J true (r ++ [a]) := by
  refine ⟨by simp, fun x hx => v.vl x ?_, fun i x y h1 h2 => ?_, fun _ x l h1 h2 => ?_⟩
  · rcases List.mem_append.mp hx with h | h
    · exact List.mem_cons_of_mem _ h
    · simp at h; subst h; exact List.mem_cons_self
  · by_cases hi : i + 1 < r.length
    · rw [List.getElem?_append_left (by omega)] at h1
      rw [List.getElem?_append_left hi] at h2
      exact v.ch (i + 1) x y (by simpa using h1) (by simpa using h2)
    · have hlt := (List.getElem?_eq_some_iff.mp h2).1
      simp at hlt
      have e : i + 1 = r.length := by omega
      rw [List.getElem?_append_left (by omega)] at h1
      rw [e, List.getElem?_append_right (Nat.le_refl _)] at h2
      simp at h2
      subst h2
      refine v.rd rfl _ x rfl ?_
      rw [List.getLast?_eq_getElem?, List.length_cons, Nat.add_sub_cancel, ← e, List.getElem?_cons_succ]
      exact h1
  · simp at h2
    subst h2
    cases r with
    | nil =>
      simp at h1
      subst h1
      exact v.rd rfl _ _ rfl rfl
    | cons b r' =>
      simp at h1
      subst h1
      exact v.ch 0 _ _ rfl rfl
theorem VG.rot {J : En → Option En} {g : List En} (v : VG J true g) : ∀ k : Nat, k ≤ g.length → VG J true (g.drop k ++ g.take k)
  | 0, _ => by simpa using v
  | k + 1, h => by
    have ih := v.rot k (by omega)
    have e1 : g.drop k = g[k] :: g.drop (k + 1) := List.drop_eq_getElem_cons (by omega)
    rw [e1, List.cons_append] at ih
    have := ih.rot1
    have e2 : g.take (k + 1) = g.take k ++ [g[k]] := by
      rw [List.take_add_one, List.getElem?_eq_getElem (by omega)]; rfl
    rw [e2, ← List.append_assoc]
    exact this
theorem rev_roads (g : List En) : ((g.reverse.map farE).map Prod.fst).Perm (g.map Prod.fst) := by
  have : (g.reverse.map farE).map Prod.fst = (g.map Prod.fst).reverse := by
    rw [List.map_map, List.map_reverse]
    rfl
  rw [this]
  exact List.reverse_perm _
theorem rot_roads (g : List En) (k : Nat) : ((g.drop k ++ g.take k).map Prod.fst).Perm (g.map Prod.fst) := by
  refine List.Perm.map _ ?_
  refine List.perm_append_comm.trans ?_
  rw [List.take_append_drop]

/-! ### plans -/
structure Pln (J : En → Option En) (L : Nat) (D : List Nat) (its : List (Bool × List En)) : Prop where
  nd : D.Nodup
  lt : ∀ r ∈ D, r < L
  clo : Clo J D
  vg : ∀ it ∈ its, VG J it.1 it.2
  vl : ∀ it ∈ its, ∀ x ∈ it.2, x.1 < L
  pm : (its.flatMap fun it => it.2.map Prod.fst).Perm D
theorem Pln.nil (J : En → Option En) (L : Nat) : Pln J L [] [] := ⟨List.nodup_nil, by simp, fun x y h => (by cases h), by simp, by simp, by simp⟩
/-- is it joined -/
def jnd (J : En → Option En) (e : En) : Bool := (J e).isSome
/-- how a way ends -/
theorem Pln.ends {J : En → Option En} (hJ : Jn J) {L : Nat} {D : List Nat} {its : List (Bool × List En)} (P : Pln J L D its) {e l : En} {g : List En} (p : Pth J e g) (hl : g.getLast? = some l) (hx : J (farE l) = none ∨ J (farE l) = some e) (he : e.1 ∉ D)
    (hv : ∀ x ∈ g, x.1 < L) (h0 : J e = none ∨ ∀ x : En, x.1 < L → x.2 < 2 → J x = none → x.1 ∈ D) : (J e = none ∨ J (farE l) = some e) ∧ VG J (jnd J e) g := by
  have hlm : l ∈ g := List.mem_of_getLast? hl
  rcases h0 with h0 | h0
  · refine ⟨.inl h0, p.vg hl _ fun h => ?_⟩
    unfold jnd at h
    rw [h0] at h; cases h
  · have hr : J e = none ∨ J (farE l) = some e := by
      rcases hx with hx | hx
      · exfalso
        have h1 := h0 (farE l) (hv l hlm) (far_lt l) hx
        obtain ⟨i, hi, e1⟩ := List.getElem_of_mem hlm
        have a1 : g[i]? = some l := by rw [List.getElem?_eq_getElem hi, e1]
        exact p.disj hJ P.clo he i l a1 h1
      · exact .inr hx
    refine ⟨hr, p.vg hl _ fun h => ?_⟩
    rcases hr with hr | hr
    · unfold jnd at h
      rw [hr] at h; cases h
    · exact hr
theorem Pln.step {J : En → Option En} (hJ : Jn J) {L : Nat} {D : List Nat} {its : List (Bool × List En)} (P : Pln J L D its) {e l : En} {g : List En} (p : Pth J e g) (hl : g.getLast? = some l) (hx : J (farE l) = none ∨ J (farE l) = some e) (he : e.1 ∉ D)
    (hv : ∀ x ∈ g, x.1 < L) (h0 : J e = none ∨ J (farE l) = some e) {g' : List En} (vg : VG J (jnd J e) g') (hp : (g'.map Prod.fst).Perm (g.map Prod.fst)) : Pln J L (D ++ g.map Prod.fst) (its ++ [(jnd J e, g')]) := by
  refine ⟨?_, fun r hr => ?_, p.clo hJ P.clo hl hx h0, fun it hit => ?_, fun it hit x hx => ?_, ?_⟩
  · refine List.nodup_append.mpr ⟨P.nd, p.nodup hJ, fun a ha b hb z => ?_⟩
    subst z
    obtain ⟨x, hx, rfl⟩ := List.mem_map.mp hb
    obtain ⟨i, hi, e1⟩ := List.getElem_of_mem hx
    exact p.disj hJ P.clo he i x (by rw [List.getElem?_eq_getElem hi, e1]) ha
  · rcases List.mem_append.mp hr with h | h
    · exact P.lt r h
    · obtain ⟨x, hx, rfl⟩ := List.mem_map.mp h
      exact hv x hx
  · rcases List.mem_append.mp hit with h | h
    · exact P.vg it h
    · simp at h; subst h; exact vg
  · rcases List.mem_append.mp hit with h | h
    · exact P.vl it h x hx
    · simp at h; subst h
      have : x.1 ∈ g.map Prod.fst := hp.mem_iff.mp (List.mem_map.mpr ⟨x, hx, rfl⟩)
      obtain ⟨y, hy, e1⟩ := List.mem_map.mp this
      rw [← e1]
      exact hv y hy
  · rw [List.flatMap_append]
    refine P.pm.append ?_
    simpa using hp
/-- a list of L distinct numbers below L has them all -/
theorem full_perm {D : List Nat} {L : Nat} (nd : D.Nodup) (lt : ∀ r ∈ D, r < L) (all : ∀ r, r < L → r ∈ D) : D.Perm (List.range L) := by
  refine (List.perm_ext_iff_of_nodup nd List.nodup_range).mpr fun r => ?_
  rw [List.mem_range]
  exact ⟨lt r, all r⟩
end KHead

end T_Ic_k61
section T_Id_k61
set_option maxRecDepth 100000
namespace KHead
open PySem PySem.Spec PyProof.Rows L2 Kd
theorem tsD_len {es : List En} {back : Bool} (h0 : es ≠ []) : (tsD es back).length ≤ es.length := by
  cases es with
  | nil => exact absurd rfl h0
  | cons e r => cases back <;> simp [tsD] <;> omega
theorem zip_pt (es : List En) : (es.map ptD).zip (es.map ptD).tail = (es.zip es.tail).map (fun p => (ptD p.1, ptD p.2)) := by
  rw [← List.map_tail, List.zip_map]
  rfl
theorem zip_mem {es : List En} {p : En × En} (h : p ∈ es.zip es.tail) : p.1 ∈ es ∧ p.2 ∈ es := by
  obtain ⟨a, b⟩ := p
  have := List.of_mem_zip h
  exact ⟨this.1, List.mem_of_mem_tail this.2⟩
theorem last_at (es : List En) (h : es ≠ []) : atI (es.map ptD) (-1) = some (ptD (es.getLastD (0, 0))) := by
  obtain ⟨r, a, rfl⟩ : ∃ r a, es = r ++ [a] := ⟨es.dropLast, es.getLast h, (List.dropLast_concat_getLast h).symm⟩
  rw [List.map_append]
  show atI (r.map ptD ++ [ptD a]) (-1) = _
  rw [atI_m1]
  simp
theorem last_mem (es : List En) (h : es ≠ []) : es.getLastD (0, 0) ∈ es := by
  obtain ⟨r, a, rfl⟩ : ∃ r a, es = r ++ [a] := ⟨es.dropLast, es.getLast h, (List.dropLast_concat_getLast h).symm⟩
  simp
theorem e_turns_in {es : List En} {back : Bool} (h0 : es ≠ []) (h : ∀ e ∈ es, e.2 < 2) (hl : es.length ≤ 10000) : m_turns_in [.list (es.map ptD), .bool back] = .ok ([], .list ((tsD es back).map tnD)) := by
  have hz : ((es.map ptD).zip (es.map ptD).tail).map (fun p => PyData.tuple [p.1, p.2]) = (es.zip es.tail).map fun p => PyData.tuple [ptD p.1, ptD p.2] := by
    rw [zip_pt, List.map_map]; rfl
  have hc : mLc [] (iNg zipD [(mV 0), (mSl (mV 0) (some (mC (.int 1))) none)]) (gT [(gN 3), (gN 4)]) tTrue (mN fTup [(mCall m_other_end [.e (mV 3)] []), (mV 4)]) [3, 4] [some (.list (es.map ptD)), some (.bool back), none, none, none]
      = .ok ([some (.list (es.map ptD)), some (.bool back), none, none, none], .list (((es.zip es.tail).map fun p => PyData.tuple [ptD p.1, ptD p.2]).map fun d => match d with | .tuple [.tuple [x, .int y], b] => .tuple [.tuple [x, .int (1 - y)], b] | _ => .none)) := by
    refine mLc_mapV (fun d => match d with | .tuple [a, b] => [some (.list (es.map ptD)), some (.bool back), none, some a, some b] | _ => []) _ ?_ rfl ?_ ?_
    · simp [cut_1, hz]
    · simp
      rw [sl]; omega
    · intro d hd
      obtain ⟨p, hp, rfl⟩ := List.mem_map.mp hd
      obtain ⟨q1, q2⟩ := zip_mem hp
      have e1 := e_far (h _ q1)
      have e2 : m_other_end [ptD p.1] = .ok ([], .tuple [.int (p.1.1 : Int), .int (1 - (p.1.2 : Int))]) := by
        rw [e1]
        have := h _ q1
        simp [ptD, farE]
        omega
      refine ⟨by simp, ?_, by simp⟩
      simp [e2, sl]
      simp [ptD]
  have hmap : (((es.zip es.tail).map fun p => PyData.tuple [ptD p.1, ptD p.2]).map fun d => match d with | .tuple [.tuple [x, .int y], b] => .tuple [.tuple [x, .int (1 - y)], b] | _ => .none) = ((es.zip es.tail).map fun p => (farE p.1, p.2)).map tnD := by
    rw [List.map_map, List.map_map]
    refine List.map_congr_left fun p hp => ?_
    have := h _ (zip_mem hp).1
    simp [ptD, tnD, farE]
    omega
  rw [hmap] at hc
  have e1 := e_far (h _ (last_mem es h0))
  have hh : atI (es.map ptD) 0 = some (ptD (es.headD (0, 0))) := by
    cases es with
    | nil => exact absurd rfl h0
    | cons a r => simp
  have hlen : (es.zip es.tail).length ≤ 10000 := by simp; omega
  have c1 : (es.zip es.tail).length + 1 ≤ 16777216 := by omega
  cases back with
  | false => simp [m_turns_in, hc, tsD, -mLc_]
  | true =>
    have hla := last_at es h0
    rw [show tsD es true = (es.zip es.tail).map (fun p => (farE p.1, p.2)) ++ [(farE (es.getLastD (0, 0)), es.headD (0, 0))] from rfl]
    generalize es.getLastD (0, 0) = la at *
    generalize es.headD (0, 0) = hd at *
    have c2 : es.length ≤ 16777216 := by omega
    simp [m_turns_in, hc, -mLc_, hla, e1, hh, sl, -atI_z, c2]
    simp [tnD]
theorem e_lturns {es : List En} {back : Bool} (h0 : es ≠ []) (h : ∀ e ∈ es, e.2 < 2) (hl : es.length ≤ 10000) : m__law_turns [.list (es.map ptD), .bool back] = .ok ([], .list ((tsD es back).map tnD)) := by
  suffices hW : W (m__law_turns [.list (es.map ptD), .bool back]) fun y => y = ([], .list ((tsD es back).map tnD)) by
    obtain ⟨y, e, rfl⟩ := hW
    exact e
  have hpos : 0 < es.length := List.length_pos_iff.mpr h0
  refine W_fn (W_seq ?_)
  simp [sl, -sSeq_]
  refine W_seq ?_
  obtain ⟨zs, hzs⟩ : ∃ zs, zs = (es.zip es.tail).map (fun p => (farE p.1, p.2)) := ⟨_, rfl⟩
  have hzl : zs.length = es.length - 1 := by rw [hzs]; simp
  refine W_rngA 1 (es.length - 1) (fun j ρ => ∃ x, ρ = [some (.list (es.map ptD)), some (.bool back), some (.list ((zs.take j).map tnD)), x]) (ρ1 := [some (.list (es.map ptD)), some (.bool back), some (.list []), none]) (it_rng2 (a := 1) (by simp) (by simp) (by rw [sl]; omega) (by rw [sl]; omega)) ⟨none, by simp⟩ ?_ ?_
  · rintro j ρ hj ⟨x, rfl⟩
    refine ⟨_, rfl, ?_⟩
    have j1 : j < es.length := by omega
    have j2 : j + 1 < es.length := by omega
    have e1 := e_lfar (h _ (List.getElem_mem j1))
    have hz : zs[j]? = some (farE es[j], es[j + 1]) := by
      have hz0 : (es.zip es.tail)[j]? = some (es[j], es[j + 1]) := by
        rw [List.getElem?_eq_getElem (by simp; omega)]
        simp
      rw [hzs, List.getElem?_map, hz0]
      rfl
    have ht : zs.take (j + 1) = zs.take j ++ [(farE es[j], es[j + 1])] := by
      rw [List.take_add_one, hz]; rfl
    have i1 : (1 : Int) + (j : Int) - 1 = (j : Int) := by omega
    have i2 : (1 : Int) + (j : Int) = ((j + 1 : Nat) : Int) := by omega
    have c1 : min j zs.length < 16777216 := by omega
    have a1 : atI (es.map ptD) ((1 : Int) + (j : Int)) = some (ptD es[j + 1]) := by
      rw [i2, atI_n]; simp [j2]
    rw [ht]
    simp [i1, j1, a1, e1, sl, c1, tnD]
  · rintro ρ ⟨x, rfl⟩
    rw [List.take_of_length_le (by omega)]
    have hla := last_at es h0
    have hd : atI (es.map ptD) 0 = some (ptD (es.headD (0, 0))) := by
      cases es with
      | nil => exact absurd rfl h0
      | cons a r => simp
    have e1 := e_lfar (h _ (last_mem es h0))
    have ht : tsD es back = zs ++ (if back then [(farE (es.getLastD (0, 0)), es.headD (0, 0))] else []) := by rw [hzs]; rfl
    rw [ht]
    generalize es.getLastD (0, 0) = la at *
    generalize es.headD (0, 0) = hd' at *
    have c1 : zs.length < 16777216 := by omega
    rw [KS_nx]
    refine W_seq ?_
    cases back with
    | false => simp
    | true => simp [hla, e1, hd, sl, c1, tnD, -atI_z]
end KHead

end T_Id_k61
section T_Ie_k61
set_option maxRecDepth 100000
namespace KHead
open PySem PySem.Spec PyProof.Rows L2 Kd
/-! ### goings -/
def toEn (d : PyData) : En := match d with
  | .tuple [.int a, .int b] => (a.toNat, b.toNat)
  | _ => (0, 0)
theorem toEn_pt (e : En) : toEn (ptD e) = e := by simp [toEn, ptD]
def turnB (rs : List Rd) (t : En × En) : Bool := !decide (t.1 = t.2) && decide (plc rs t.1 = plc rs t.2)
def goB (rs : List Rd) (d : PyData) (back : Bool) : Bool := match d with
  | .list xs => !xs.isEmpty && xs.all (endB rs.length) && (tsD (xs.map toEn) back).all (turnB rs)
  | _ => false
theorem ends_of {n : Nat} {xs : List PyData} (h : xs.all (endB n) = true) : xs = (xs.map toEn).map ptD ∧ ∀ e ∈ xs.map toEn, e.1 < n ∧ e.2 < 2 := by
  induction xs with
  | nil => exact ⟨rfl, by simp⟩
  | cons x r ih =>
    simp only [List.all_cons, Bool.and_eq_true] at h
    obtain ⟨e, rfl, h1, h2⟩ := endB_en h.1
    obtain ⟨i1, i2⟩ := ih h.2
    refine ⟨by simp only [List.map_cons, toEn_pt]; rw [← i1], ?_⟩
    intro e' he
    simp only [List.map_cons, toEn_pt, List.mem_cons] at he
    rcases he with rfl | he
    · exact ⟨h1, h2⟩
    · exact i2 e' he
theorem tsD_ok {es : List En} {back : Bool} {P : En → Prop} (h0 : es ≠ []) (h : ∀ e ∈ es, P e) (hf : ∀ e, P e → P (farE e)) : ∀ t ∈ tsD es back, P t.1 ∧ P t.2 := by
  intro t ht
  rcases List.mem_append.mp ht with ht | ht
  · obtain ⟨p, hp, rfl⟩ := List.mem_map.mp ht
    exact ⟨hf _ (h _ (zip_mem hp).1), h _ (zip_mem hp).2⟩
  · cases back with
    | false => simp at ht
    | true =>
      have hh : es.headD (0, 0) ∈ es := by
        cases es with
        | nil => exact absurd rfl h0
        | cons a r => simp
      simp only [if_true, List.mem_singleton] at ht
      subst ht
      exact ⟨hf _ (h _ (last_mem es h0)), h _ hh⟩
theorem fEq_nil {xs : List PyData} (h : SeqAt.shaped (.list xs) = true) : fEq (.list xs) (.list []) = some (.bool xs.isEmpty) := by
  show iff' (sh2 _ _) _ = _
  rw [sh2, h]
  show iff' true _ = _
  cases xs <;> rfl
theorem fNe_nil {xs : List PyData} (h : SeqAt.shaped (.list xs) = true) : fNe (.list xs) (.list []) = some (.bool (!xs.isEmpty)) := by
  show iff' (sh2 _ _) _ = _
  rw [sh2, h]
  show iff' true _ = _
  cases xs <;> rfl
theorem e_rgoing {c : Nat} {rs : List Rd} (d : PyData) (back : Bool) (hs : SeqAt.shaped d = true) (hl : ∀ xs, d = .list xs → xs.length ≤ 10000) : m_is_right_going [netD c rs, d, .bool back] = .ok ([], .bool (goB rs d back)) := by
  have hlay := SeqAt.canLay_of_shaped hs
  cases d with
  | list xs =>
    have hx := hl xs rfl
    have e1 := fEq_nil hs
    have hN : netD c rs = .tuple [.int (c : Int), .tuple (rs.map rdD)] := rfl
    have hc : mLc [] (iOf asQ (mV 1)) (gN 3) tTrue (mCall m_is_right_end [.e (mV 0), .e (mV 3)] []) [3] [some (netD c rs), some (.list xs), some (.bool back), none, none, none] = .ok ([some (netD c rs), some (.list xs), some (.bool back), none, none, none], .list (xs.map fun d => .bool (endB rs.length d))) :=
      mLc_map _ (by simp) (by simp) (by rw [sl]; omega) fun d hd => by
        have := e_rend (.int (c : Int)) (rs.map rdD) d (lay_lst hlay d hd)
        rw [List.length_map] at this
        simp [hN, this]
    suffices hW : W (m_is_right_going [netD c rs, .list xs, .bool back]) fun y => y = ([], .bool (goB rs (.list xs) back)) by
      obtain ⟨y, e, rfl⟩ := hW
      exact e
    refine W_fn (W_seq ?_)
    cases hE : xs.isEmpty with
    | true => simp [isB, e1, hE, sl, goB]
    | false =>
      cases hA : xs.all (endB rs.length) with
      | false => simp [isB, e1, hE, sl, goB, hc, -mLc_, hA]
      | true =>
        obtain ⟨q1, q2⟩ := ends_of hA
        have hg : goB rs (.list xs) back = (tsD (xs.map toEn) back).all (turnB rs) := by simp [goB, hE, hA]
        simp [isB, e1, hE, sl, hc, -mLc_, hA, -sSeq_]
        rw [hg]
        have hne : xs.map toEn ≠ [] := by
          intro z
          have : xs = [] := by simpa using z
          rw [this] at hE; cases hE
        have hlen : (xs.map toEn).length ≤ 10000 := by simpa using hx
        generalize xs.map toEn = es at *
        subst q1
        have e2 := e_turns_in (back := back) hne (fun e he => (q2 e he).2) hlen
        have hok := tsD_ok (back := back) (P := enOk rs) hne (fun e he => q2 e he) fun e he => farE_ok he
        refine W_seq ?_
        refine W_for (fun r ρ => ∃ (x y z : Option PyData) (ts : List (En × En)), ρ = [some (netD c rs), some (.list (es.map ptD)), some (.bool back), x, y, z] ∧ r = ts.map tnD ∧ (∀ t ∈ ts, enOk rs t.1 ∧ enOk rs t.2) ∧ (tsD es back).all (turnB rs) = ts.all (turnB rs)) (ρ1 := [some (netD c rs), some (.list (es.map ptD)), some (.bool back), none, none, none]) (ds := (tsD es back).map tnD) (by simp [e2]) ⟨_, _, _, _, rfl, rfl, hok, rfl⟩ ?_ ?_
        · rintro d r ρ ⟨x, y, z, ts, rfl, hr, ho, ha⟩
          cases ts with
          | nil => cases hr
          | cons t ts =>
            simp only [List.map_cons, List.cons.injEq] at hr
            obtain ⟨rfl, rfl⟩ := hr
            obtain ⟨⟨o1, o2⟩, ho⟩ := List.forall_mem_cons.mp ho
            have e3 := e_place (c := c) o1
            have e4 := e_place (c := c) o2
            refine ⟨[some (netD c rs), some (.list (es.map ptD)), some (.bool back), x, some (ptD t.1), some (ptD t.2)], by simp [tnD], ?_⟩
            rw [List.all_cons] at ha
            by_cases h1 : t.1 = t.2
            · have : turnB rs t = false := by simp [turnB, h1]
              rw [this, Bool.false_and] at ha
              simp [fEq_pt, h1, ha]
            · by_cases h2 : plc rs t.1 = plc rs t.2
              · have : turnB rs t = true := by simp [turnB, h1, h2]
                rw [this, Bool.true_and] at ha
                simp [fEq_pt, h1, e3, e4, h2]
                exact ⟨ts, rfl, fun a b a1 b1 ht => ho ((a, b), (a1, b1)) ht, ha⟩
              · have : turnB rs t = false := by simp [turnB, h1, h2]
                rw [this, Bool.false_and] at ha
                have h2' : ¬ ((plc rs t.1 : Int) = (plc rs t.2 : Int)) := by omega
                simp [fEq_pt, h1, e3, e4, h2', h2, ha]
        · rintro ρ ⟨x, y, z, ts, rfl, hr, ho, ha⟩
          have : ts = [] := by simpa using hr.symm
          subst this
          rw [ha]
          simp
  | dict _ => simp [PyData.canLay0] at hlay
  | _ => simp [m_is_right_going, isB, goB]
end KHead

end T_Ie_k61
section T_If_k61
set_option maxRecDepth 100000
namespace KHead
open PySem PySem.Spec PyProof.Rows L2 Kd
theorem e_listurn {c : Nat} {rs : List Rd} {t : En × En} (h1 : enOk rs t.1) (h2 : enOk rs t.2) : m__law_is_turn [netD c rs, tnD t] = .ok ([], .bool (turnB rs t)) := by
  have q : ∀ e : En, enOk rs e → m__law_is_end [netD c rs, ptD e] = .ok ([], .bool true) := fun e he => by
    have := e_lend (.int (c : Int)) (rs.map rdD) (ptD e) (sh_pt e |> SeqAt.canLay_of_shaped)
    rw [List.length_map, endB_pt, decide_eq_true he.1, decide_eq_true he.2] at this
    exact this
  have q1 := q _ h1
  have q2 := q _ h2
  have e3 := e_lplace (c := c) h1
  have e4 := e_lplace (c := c) h2
  by_cases e : t.1 = t.2
  · have : turnB rs t = false := by simp [turnB, e]
    rw [this]
    simp [m__law_is_turn, tnD, isB, q1, q2, fEq_pt, e]
  · by_cases e' : plc rs t.1 = plc rs t.2
    · simp [m__law_is_turn, tnD, isB, q1, q2, fEq_pt, e, e3, e4, turnB, e']
    · have e'' : ¬ ((plc rs t.1 : Int) = (plc rs t.2 : Int)) := by omega
      simp [m__law_is_turn, tnD, isB, q1, q2, fEq_pt, e, e3, e4, turnB, e', e'']
theorem filt_nil {α : Type} (p : α → Bool) : ∀ xs : List α, (xs.filter fun x => !p x).isEmpty = xs.all p
  | [] => rfl
  | x :: r => by
    rw [List.filter_cons, List.all_cons]
    cases h : p x
    · simp
    · simpa using filt_nil p r
theorem shaped_all {xs : List PyData} (h : ∀ x ∈ xs, x.canLay0 = true ∧ x.depth ≤ 60) : SeqAt.shaped (.list xs) = true := by
  refine shaped_of ?_ ?_
  · induction xs with
    | nil => rfl
    | cons x r ih =>
      have := ih fun y hy => h y (List.mem_cons_of_mem _ hy)
      simp [PyData.canLay0, PyData.canLayAll0] at this ⊢
      exact ⟨(h x List.mem_cons_self).1, this⟩
  · have : PyData.depthAll xs ≤ 60 := by
      induction xs with
      | nil => simp
      | cons x r ih =>
        have := ih fun y hy => h y (List.mem_cons_of_mem _ hy)
        have := (h x List.mem_cons_self).2
        simp only [depAll_c]; omega
    simp; omega
theorem dep_mem {k : Nat} : ∀ {xs : List PyData}, PyData.depthAll xs ≤ k → ∀ x ∈ xs, x.depth ≤ k
  | y :: r, h, x, hx => by
    simp only [depAll_c] at h
    rcases List.mem_cons.mp hx with rfl | hx
    · omega
    · exact dep_mem (by omega) x hx
theorem e_lgoing {c : Nat} {rs : List Rd} (d : PyData) (back : Bool) (hs : d.canLay0 = true) (hd : d.depth ≤ 60) (hl : ∀ xs, d = .list xs → xs.length ≤ 10000) : m__law_is_going [netD c rs, d, .bool back] = .ok ([], .bool (goB rs d back)) := by
  have hlay := hs
  have hsh : SeqAt.shaped d = true := shaped_of hs (by omega)
  cases d with
  | list xs =>
    have hx := hl xs rfl
    have e1 := fEq_nil hsh
    have hN : netD c rs = .tuple [.int (c : Int), .tuple (rs.map rdD)] := rfl
    have hc : mLc [] (iOf asQ (mV 1)) (gN 3) (tNot (tE (mCall m__law_is_end [.e (mV 0), .e (mV 3)] []))) (mV 3) [3] [some (netD c rs), some (.list xs), some (.bool back), none, none] = .ok ([some (netD c rs), some (.list xs), some (.bool back), none, none], .list ((xs.filter fun d => !endB rs.length d).map fun d => d)) :=
      mLc_filter _ _ (by simp) (by simp) (by rw [sl]; omega) (fun d hd => by
        have := e_lend (.int (c : Int)) (rs.map rdD) d (lay_lst hlay d hd)
        rw [List.length_map] at this
        simp [hN, this]) fun d hd _ => by simp
    rw [List.map_id'] at hc
    have e2 : fNe (.list (xs.filter fun d => !endB rs.length d)) (.list []) = some (.bool (!xs.all (endB rs.length))) := by
      rw [fNe_nil, filt_nil]
      refine shaped_all fun x hx => ?_
      have hx := (List.mem_filter.mp hx).1
      refine ⟨lay_lst hlay x hx, ?_⟩
      exact dep_mem (k := 60) (by simp at hd; omega) x hx
    cases hE : xs.isEmpty with
    | true => simp [m__law_is_going, isB, e1, hE, sl, goB]
    | false =>
      cases hA : xs.all (endB rs.length) with
      | false => simp [m__law_is_going, isB, e1, hE, sl, goB, hc, -mLc_, hA, e2]
      | true =>
        obtain ⟨q1, q2⟩ := ends_of hA
        have hg : goB rs (.list xs) back = (tsD (xs.map toEn) back).all (turnB rs) := by simp [goB, hE, hA]
        rw [hg]
        rw [hA] at e2
        have hne : xs.map toEn ≠ [] := by
          intro z
          have : xs = [] := by simpa using z
          rw [this] at hE; cases hE
        have hlen : (xs.map toEn).length ≤ 10000 := by simpa using hx
        generalize xs.map toEn = es at *
        subst q1
        have e3 := e_lturns (back := back) hne (fun e he => (q2 e he).2) hlen
        have hok := tsD_ok (back := back) (P := enOk rs) hne (fun e he => q2 e he) fun e he => farE_ok he
        have htl := tsD_len (back := back) hne
        have hc2 : mLc [] (iOf asQ (mCall m__law_turns [.e (mV 1), .e (mV 2)] [])) (gN 4) (tNot (tE (mCall m__law_is_turn [.e (mV 0), .e (mV 4)] []))) (mV 4) [4] [some (netD c rs), some (.list (es.map ptD)), some (.bool back), none, none] = .ok ([some (netD c rs), some (.list (es.map ptD)), some (.bool back), none, none], .list (((tsD es back).filter fun t => !turnB rs t).map tnD)) := by
          have hm := mLc_filter (it := iOf asQ (mCall m__law_turns [.e (mV 1), .e (mV 2)] [])) (t := tNot (tE (mCall m__law_is_turn [.e (mV 0), .e (mV 4)] []))) (m := mV 4) (i := 4) (ρ := [some (netD c rs), some (.list (es.map ptD)), some (.bool back), none, none]) (ds := (tsD es back).map tnD)
            (fun d => match d with | .tuple [x, y] => !turnB rs (toEn x, toEn y) | _ => false) (fun d => d) (by simp) (by simp [e3]) (by rw [List.length_map, sl]; omega) (fun d hd => by
              obtain ⟨t, ht, rfl⟩ := List.mem_map.mp hd
              obtain ⟨o1, o2⟩ := hok t ht
              have e5 := e_listurn (c := c) o1 o2
              simp [e5]
              simp [tnD, toEn_pt]) fun d hd _ => by simp
          rw [hm, List.map_id', List.filter_map]
          have hf : (tsD es back).filter ((fun d => match d with | .tuple [x, y] => !turnB rs (toEn x, toEn y) | _ => false) ∘ tnD) = (tsD es back).filter fun t => !turnB rs t := List.filter_congr fun t ht => by simp [tnD, toEn_pt]
          rw [hf]
        have e4 : fEq (.list (((tsD es back).filter fun t => !turnB rs t).map tnD)) (.list []) = some (.bool ((tsD es back).all (turnB rs))) := by
          rw [fEq_nil]
          · rw [← filt_nil]
            simp
          · refine shaped_all fun x hx => ?_
            obtain ⟨t, ht, rfl⟩ := List.mem_map.mp hx
            exact ⟨rfl, by simp [tnD, ptD]⟩
        simp [m__law_is_going, isB, e1, hE, sl, hc, -mLc_, e2, hc2, e4]
  | dict _ => simp [PyData.canLay0] at hlay
  | _ => simp [m__law_is_going, isB, goB]
end KHead

end T_If_k61
section T_Ig_k61
set_option maxRecDepth 100000
namespace KHead
open PySem PySem.Spec PyProof.Rows L2 Kd
def toTn (d : PyData) : En × En := match d with
  | .tuple [a, b] => (toEn a, toEn b)
  | _ => ((0, 0), (0, 0))
theorem toTn_tn (t : En × En) : toTn (tnD t) = t := by simp [toTn, tnD, toEn_pt]
theorem goB_list {rs : List Rd} {d : PyData} {back : Bool} (h : goB rs d back = true) : ∃ es : List En, d = .list (es.map ptD) ∧ es ≠ [] ∧ (∀ e ∈ es, enOk rs e) ∧ (tsD es back).all (turnB rs) = true := by
  cases d <;> first | (simp [goB] at h; done) | skip
  rename_i xs
  simp only [goB, Bool.and_eq_true] at h
  obtain ⟨⟨h1, h2⟩, h3⟩ := h
  obtain ⟨q1, q2⟩ := ends_of h2
  refine ⟨xs.map toEn, by rw [← q1], ?_, fun e he => q2 e he, h3⟩
  intro z
  have : xs = [] := by simpa using z
  subst this
  simp at h1
def knd (rs : List Rd) (e : En) : Nat := if e.2 = 0 then ((rs[e.1]?).getD ((0, 0), (0, 0))).1.2 else ((rs[e.1]?).getD ((0, 0), (0, 0))).2.2
theorem e_kind {c : Nat} {rs : List Rd} {e : En} (h : enOk rs e) : m_kind_at [netD c rs, ptD e] = .ok ([], .int (knd rs e : Int)) := by
  obtain ⟨h1, h2⟩ := h
  obtain ⟨r, s⟩ := e
  have h1 : r < rs.length := h1
  have h2 : s < 2 := h2
  have e1 : rs[r]? = some rs[r] := List.getElem?_eq_getElem h1
  rcases (by omega : s = 0 ∨ s = 1) with rfl | rfl
  · simp [m_kind_at, netD, ptD, e1, rdD, knd]
  · simp [m_kind_at, netD, ptD, e1, rdD, knd]
def opn (rs : List Rd) (t : En × En) : Bool := !decide (knd rs t.1 = knd rs t.2)
theorem e_open {c : Nat} {rs : List Rd} {t : En × En} (h1 : enOk rs t.1) (h2 : enOk rs t.2) : m_is_open [netD c rs, tnD t] = .ok ([], .bool (opn rs t)) := by
  have e1 := e_kind (c := c) h1
  have e2 := e_kind (c := c) h2
  by_cases h : knd rs t.1 = knd rs t.2
  · simp [m_is_open, tnD, e1, e2, opn, h]
  · have h' : ¬ ((knd rs t.1 : Int) = (knd rs t.2 : Int)) := by omega
    simp [m_is_open, tnD, e1, e2, opn, h, h']
theorem e_shut_in {c : Nat} {rs : List Rd} {es : List En} {back : Bool} (h0 : es ≠ []) (h : ∀ e ∈ es, enOk rs e) (hl : es.length ≤ 10000) : m_shut_in [netD c rs, .list (es.map ptD), .bool back] = .ok ([], .list (((tsD es back).filter fun t => !opn rs t).map tnD)) := by
  have e2 := e_turns_in (back := back) h0 (fun e he => (h e he).2) hl
  have hok := tsD_ok (back := back) (P := enOk rs) h0 h fun e he => farE_ok he
  have hlen : ((tsD es back).map tnD).length ≤ sizeLine := by
    have := tsD_len (back := back) h0
    rw [sl, List.length_map]; omega
  have hm := mLc_filter (it := iOf asQ (mCall m_turns_in [.e (mV 1), .e (mV 2)] [])) (t := tNot (tE (mCall m_is_open [.e (mV 0), .e (mV 3)] []))) (m := mV 3) (i := 3) (ρ := [some (netD c rs), some (.list (es.map ptD)), some (.bool back), none]) (ds := (tsD es back).map tnD)
    (fun d => !opn rs (toTn d)) (fun d => d) (by simp) (by simp [e2]) hlen (fun d hd => by
      obtain ⟨t, ht, rfl⟩ := List.mem_map.mp hd
      obtain ⟨o1, o2⟩ := hok t ht
      have e3 := e_open (c := c) o1 o2
      simp [e3, toTn_tn]) fun d hd _ => by simp
  rw [List.map_id', List.filter_map] at hm
  have hf : (fun d => !opn rs (toTn d)) ∘ tnD = fun t => !opn rs t := by funext t; simp [toTn_tn]
  rw [hf] at hm
  simp [m_shut_in, hm, -mLc_]
end KHead

end T_Ig_k61
section T_Ih_k61
set_option maxRecDepth 100000
namespace KHead
open PySem PySem.Spec PyProof.Rows L2 Kd
/-! ### tables as dicts -/
theorem le_of_nodup : ∀ (L : Nat) (D : List Nat), D.Nodup → (∀ r ∈ D, r < L) → D.length ≤ L
  | 0, D, _, h => by
    cases D with
    | nil => simp
    | cons a r => exact absurd (h a List.mem_cons_self) (Nat.not_lt_zero _)
  | L + 1, D, nd, h => by
    have ih := le_of_nodup L (D.erase L) (nd.erase L) fun r hr => by
      have h1 := h r (List.mem_of_mem_erase hr)
      have h2 : r ≠ L := fun z => by
        subst z
        exact (List.Nodup.not_mem_erase nd) hr
      omega
    have := List.length_erase_le (a := L) (l := D)
    by_cases hm : L ∈ D
    · rw [List.length_erase_of_mem hm] at ih
      omega
    · rw [List.erase_of_not_mem hm] at ih
      omega
def pairsT (T : List (En × En)) : List (En × En) := T.flatMap fun t => [(t.1, t.2), (t.2, t.1)]
def endsT (T : List (En × En)) : List En := T.flatMap fun t => [t.1, t.2]
def jnT (T : List (En × En)) (e : En) : Option En := ((pairsT T).find? fun p => decide (p.1 = e)).map (·.2)
theorem pairs_keys (T : List (En × En)) : (pairsT T).map (·.1) = endsT T := by
  induction T with
  | nil => rfl
  | cons t r ih => simp [pairsT, endsT] at ih ⊢; exact ih
theorem find_key {kv : List (En × En)} (nd : (kv.map (·.1)).Nodup) {a b : En} : (kv.find? fun p => decide (p.1 = a)).map (·.2) = some b ↔ (a, b) ∈ kv := by
  induction kv with
  | nil => simp
  | cons p r ih =>
    obtain ⟨k, v⟩ := p
    simp only [List.map_cons, List.nodup_cons] at nd
    rw [List.find?_cons]
    by_cases h : k = a
    · subst h
      simp
      constructor
      · intro z; exact .inl z.symm
      · rintro (z | z)
        · exact z.symm
        · exact absurd (List.mem_map.mpr ⟨_, z, rfl⟩) nd.1
    · simp [h]
      rw [← ih nd.2]
      constructor
      · intro z; exact .inr (by simpa using z)
      · rintro (z | z)
        · exact absurd z.1.symm h
        · simpa using z
/-- a table's turns -/
structure Tab (rs : List Rd) (T : List (En × En)) : Prop where
  ok : ∀ t ∈ T, enOk rs t.1 ∧ enOk rs t.2
  nd : (endsT T).Nodup
  tn : ∀ t ∈ T, turnB rs t = true ∧ opn rs t = true
theorem jnT_iff {rs : List Rd} {T : List (En × En)} (h : Tab rs T) {a b : En} : jnT T a = some b ↔ (a, b) ∈ T ∨ (b, a) ∈ T := by
  unfold jnT
  rw [find_key (by rw [pairs_keys]; exact h.nd)]
  unfold pairsT
  rw [List.mem_flatMap]
  constructor
  · rintro ⟨t, ht, h1⟩
    simp at h1
    rcases h1 with ⟨rfl, rfl⟩ | ⟨rfl, rfl⟩
    · exact .inl ht
    · exact .inr ht
  · rintro (h1 | h1)
    · exact ⟨_, h1, by simp⟩
    · exact ⟨_, h1, by simp⟩
theorem Tab.jn {rs : List Rd} {T : List (En × En)} (h : Tab rs T) : Jn (jnT T) := by
  refine ⟨fun a b e => ?_, fun a e => ?_, fun a b e => ?_⟩
  · rw [jnT_iff h] at e ⊢
    exact e.symm
  · rw [jnT_iff h] at e
    have := (h.tn (a, a) (by rcases e with e | e <;> exact e)).1
    simp [turnB] at this
  · rw [jnT_iff h] at e
    rcases e with e | e
    · exact (h.ok _ e).1.2
    · exact (h.ok _ e).2.2
theorem Tab.lt {rs : List Rd} {T : List (En × En)} (h : Tab rs T) {a b : En} (e : jnT T a = some b) : enOk rs a ∧ enOk rs b := by
  rw [jnT_iff h] at e
  rcases e with e | e
  · exact h.ok _ e
  · exact ⟨(h.ok _ e).2, (h.ok _ e).1⟩
theorem Tab.turn {rs : List Rd} {T : List (En × En)} (h : Tab rs T) {a b : En} (e : jnT T a = some b) : turnB rs (a, b) = true ∧ opn rs (a, b) = true := by
  rw [jnT_iff h] at e
  rcases e with e | e
  · exact h.tn _ e
  · obtain ⟨h1, h2⟩ := h.tn _ e
    simp only [turnB, opn, Bool.and_eq_true, Bool.not_eq_true', decide_eq_false_iff_not, decide_eq_true_eq] at h1 h2 ⊢
    exact ⟨⟨fun z => h1.1 z.symm, h1.2.symm⟩, fun z => h2 z.symm⟩
def keyE (e : En) : List Key := [.inl (e.1 : Int), .inl (e.2 : Int)]
theorem kOf_pt (e : En) : kOf (ptD e) = some (keyE e) := rfl
theorem keyE_inj {a b : En} (h : keyE a = keyE b) : a = b := by
  obtain ⟨a1, a2⟩ := a
  obtain ⟨b1, b2⟩ := b
  simp [keyE] at h
  simp
  omega
def dctE (kv : List (En × En)) : List (PyData × PyData) := kv.map fun p => (ptD p.1, ptD p.2)
theorem valD_E (kv : List (En × En)) (e : En) : valD (dctE kv) (keyE e) = ((kv.find? fun p => decide (p.1 = e)).map (·.2)).map ptD := by
  unfold valD dctE
  induction kv with
  | nil => rfl
  | cons p r ih =>
    rw [List.map_cons, List.find?_cons, List.find?_cons]
    by_cases h : p.1 = e
    · simp [kOf_pt, h]
    · have h' : ¬ keyE p.1 = keyE e := fun z => h (keyE_inj z)
      simp [kOf_pt, h, h']
      simpa using ih
theorem putD_E (kv : List (En × En)) (e x : En) (h : e ∉ kv.map (·.1)) : putD (dctE kv) (keyE e) (ptD x) = dctE (kv ++ [(e, x)]) := by
  have ha : ((dctE kv).any fun p => decide (kOf p.1 = some (keyE e))) = false := by
    rw [List.any_eq_false]
    intro p hp
    obtain ⟨q, hq, rfl⟩ := List.mem_map.mp hp
    simp only [kOf_pt, Option.some.injEq, decide_eq_true_eq]
    exact fun z => h (List.mem_map.mpr ⟨q, hq, keyE_inj z⟩)
  unfold putD
  rw [ha]
  simp [dctE]
  rfl
end KHead

end T_Ih_k61
section T_Ii_k61
set_option maxRecDepth 100000
namespace KHead
open PySem PySem.Spec PyProof.Rows L2 Kd
theorem pairs_len (T : List (En × En)) : (pairsT T).length = 2 * T.length := by
  induction T with
  | nil => rfl
  | cons a r ih => simp [pairsT] at ih ⊢; omega
theorem Pth.len {J : En → Option En} (hJ : Jn J) {e : En} {g : List En} (p : Pth J e g) {L : Nat} (hv : ∀ x ∈ g, x.1 < L) : g.length ≤ L := by
  have := le_of_nodup L (g.map Prod.fst) (p.nodup hJ) fun r hr => by
    obtain ⟨x, hx, rfl⟩ := List.mem_map.mp hr
    exact hv x hx
  simpa using this
theorem w_led {rs : List Rd} {T : List (En × En)} (h : Tab rs T) (hT : T.length ≤ 1000) (hl : rs.length ≤ 20) {e : En} (he : enOk rs e) :
    ∃ (g : List En) (l : En), m__law_led [.list (T.map tnD), ptD e] = .ok ([], .list (g.map ptD)) ∧ Pth (jnT T) e g ∧ g.getLast? = some l ∧ (jnT T (farE l) = none ∨ jnT T (farE l) = some e) ∧ (∀ x ∈ g, enOk rs x) ∧ g.length ≤ rs.length := by
  suffices hW : W (m__law_led [.list (T.map tnD), ptD e]) fun y => ∃ (g : List En) (l : En), y = ([], .list (g.map ptD)) ∧ Pth (jnT T) e g ∧ g.getLast? = some l ∧ (jnT T (farE l) = none ∨ jnT T (farE l) = some e) ∧ (∀ x ∈ g, enOk rs x) ∧ g.length ≤ rs.length by
    obtain ⟨y, e1, g, l, rfl, h1⟩ := hW
    exact ⟨g, l, e1, h1⟩
  have hJ := h.jn
  refine W_fn (W_seq ?_)
  simp [-sSeq_]
  refine W_seq ?_
  generalize hTd : PyData.list (T.map tnD) = Td
  refine W_for' (fun r ρ => ∃ (dn rest : List (En × En)) (a3 a4 : Option PyData), T = dn ++ rest ∧ r = rest.map tnD ∧ ρ = [some Td, some (ptD e), some (dctT (dctE (pairsT dn))), a3, a4, none]) (ρ1 := [some Td, some (ptD e), some (dctT []), none, none, none]) (ds := T.map tnD) (by simp [← hTd]) ⟨[], T, none, none, rfl, rfl, rfl⟩ ?_ ?_
  · rintro d r ρ ⟨dn, rest, a3, a4, hT2, hr, rfl⟩
    cases rest with
    | nil => cases hr
    | cons t rest =>
      simp only [List.map_cons, List.cons.injEq] at hr
      obtain ⟨rfl, rfl⟩ := hr
      refine ⟨[some Td, some (ptD e), some (dctT (dctE (pairsT dn))), some (ptD t.1), some (ptD t.2), none], by simp [tnD], ?_⟩
      have nd := h.nd
      rw [hT2] at nd
      have e1 : endsT (dn ++ t :: rest) = endsT dn ++ (t.1 :: t.2 :: endsT rest) := by simp [endsT]
      rw [e1] at nd
      obtain ⟨n1, n2, n3⟩ := List.nodup_append.mp nd
      have m1 : t.1 ∉ (pairsT dn).map (·.1) := by
        rw [pairs_keys]
        exact fun z => n3 t.1 z t.1 List.mem_cons_self rfl
      have m2 : t.2 ∉ (pairsT dn ++ [(t.1, t.2)]).map (·.1) := by
        rw [List.map_append, pairs_keys]
        intro z
        rcases List.mem_append.mp z with z | z
        · exact n3 t.2 z t.2 (List.mem_cons_of_mem _ List.mem_cons_self) rfl
        · simp at z
          exact (List.nodup_cons.mp n2).1 (z ▸ List.mem_cons_self)
      have p1 := putD_E (pairsT dn) t.1 t.2 m1
      have p2 := putD_E (pairsT dn ++ [(t.1, t.2)]) t.2 t.1 m2
      have pl := pairs_len dn
      have dl : dn.length ≤ 1000 := by rw [hT2] at hT; simp at hT; omega
      have c1 : (dctE (pairsT dn)).length < 16777216 := by simp [dctE]; omega
      have c2 : (dctE (pairsT dn ++ [(t.1, t.2)])).length < 16777216 := by simp [dctE]; omega
      refine W_seq ?_
      simp [-sSeq_, kOf_pt, sl, c1, p1, dctT]
      simp [kOf_pt, sl, c2, p2, dctT]
      refine ⟨dn ++ [t], rest, by rw [hT2]; simp, rfl, ?_⟩
      simp [pairsT]
  · rintro ρ ⟨dn, rest, a3, a4, hT2, hr, rfl⟩
    have hr : rest = [] := by simpa using hr.symm
    subst hr
    rw [List.append_nil] at hT2
    subst hT2
    rw [KS_nx]
    refine W_seq ?_
    simp [-sSeq_, sl]
    refine W_seq ?_
    have hv : ∀ f : En, valD (dctE (pairsT T)) (keyE f) = (jnT T f).map ptD := fun f => valD_E (pairsT T) f
    generalize dctE (pairsT T) = kvs at hv
    refine W_wh (fun n ρ => ∃ g : List En, ρ = [some Td, some (ptD e), some (dctT kvs), a3, a4, some (.list (g.map ptD))] ∧ Pth (jnT T) e g ∧ (∀ x ∈ g, enOk rs x) ∧ n + g.length = rs.length) (rs.length - 1) ⟨[e], rfl, Pth.one _ he.2, by simpa using he, by have := he.1; simp; omega⟩ (by omega) ?_
    rintro n ρ ⟨g, rfl, p, hg, hn⟩
    have hne : g ≠ [] := fun z => by
      have := p.hd
      rw [z] at this; cases this
    have hla := last_at g hne
    have hlm := last_mem g hne
    have hll : g.getLast? = some (g.getLastD (0, 0)) := by
      rw [List.getLastD_eq_getLast?]
      cases hq : g.getLast? with
      | none => exact absurd (List.getLast?_eq_none_iff.mp hq) hne
      | some l => rfl
    generalize g.getLastD (0, 0) = l at hla hlm hll
    have e4 := e_lfar (hg l hlm).2
    have h00 : (g.map ptD)[0]? = some (ptD e) := by rw [List.getElem?_map, p.hd]; rfl
    have hv2 := hv (farE l)
    cases hq : jnT T (farE l) with
    | none =>
      rw [hq] at hv2
      simp [hla, e4, kOf_pt, hv2, dctT]
      exact ⟨g, rfl, p, l.1, l.2, hll, .inl hq, fun a b hx => hg (a, b) hx, by omega⟩
    | some x =>
      rw [hq] at hv2
      have hx := h.lt hq
      by_cases hxe : x = e
      · subst hxe
        simp [hla, e4, kOf_pt, hv2, dctT, h00, fNe_pt]
        exact ⟨g, rfl, p, l.1, l.2, hll, .inr hq, fun a b hx => hg (a, b) hx, by omega⟩
      · have p2 := p.snoc hll hq hxe hx.2.2
        have hg2 : ∀ y ∈ g ++ [x], enOk rs y := fun y hy => by
          rcases List.mem_append.mp hy with hy | hy
          · exact hg y hy
          · simp at hy; subst hy; exact hx.2
        have hlen := p2.len hJ fun y hy => (hg2 y hy).1
        simp at hlen
        have c1 : g.length < 16777216 := by omega
        simp [hla, e4, kOf_pt, hv2, dctT, h00, fNe_pt, hxe, sl, c1]
        refine ⟨by omega, g ++ [x], by simp, p2, fun a b hy => hg2 (a, b) (by simpa using hy), by simp; omega⟩
end KHead

end T_Ii_k61
section T_Ij_k61
set_option maxRecDepth 100000
namespace KHead
open PySem PySem.Spec PyProof.Rows L2 Kd
theorem ins_perm {α : Type} (ys : List α) (k : Nat) (d : α) (r : List α) : (ys.take k ++ d :: (ys.drop k ++ r)).Perm (ys ++ d :: r) := by
  refine List.perm_middle.trans ?_
  rw [← List.append_assoc, List.take_append_drop]
  exact List.perm_middle.symm
/-! ### put in order -/
theorem w_asc (xs : List PyData) (ho : ∀ a ∈ xs, ∀ b ∈ xs, ordB a b = true) (hl : xs.length ≤ 1000) : ∃ ys, m__law_ascending [.list xs] = .ok ([], .list ys) ∧ ys.Perm xs := by
  suffices hW : W (m__law_ascending [.list xs]) fun y => ∃ ys, y = ([], .list ys) ∧ ys.Perm xs by
    obtain ⟨y, e, ys, rfl, h⟩ := hW
    exact ⟨ys, e, h⟩
  refine W_fn (W_seq ?_)
  simp [-sSeq_, sl]
  refine W_seq ?_
  refine W_for' (fun r ρ => ∃ (ys : List PyData) (a2 : Option PyData), ρ = [some (.list xs), some (.list ys), a2, none] ∧ (ys ++ r).Perm xs) (ρ1 := [some (.list xs), some (.list []), none, none]) (ds := xs) (by simp) ⟨[], none, rfl, by simp⟩ ?_ ?_
  · rintro d r ρ ⟨ys, a2, rfl, hp⟩
    refine ⟨_, rfl, ?_⟩
    have hlen : ys.length + (r.length + 1) = xs.length := by have := hp.length_eq; simpa using this
    have hd : d ∈ xs := hp.mem_iff.mp (by simp)
    have hy : ∀ y ∈ ys, y ∈ xs := fun y h => hp.mem_iff.mp (List.mem_append_left _ h)
    have hm := mLc_filter (it := iOf asQ (mV 1)) (t := tB (m2 fLtD (mV 3) (mV 2))) (m := mV 3) (i := 3) (ρ := [some (.list xs), some (.list ys), some d, none]) (ds := ys) (fun y => PySem.W.dataLt y d) (fun y => y) (by simp) (by simp) (by rw [sl]; omega) (fun y h => by
      have := ho y (hy y h) d hd
      simp [fLtD, fOrd, this]) fun y h _ => by simp
    rw [List.map_id'] at hm
    have hk := List.length_filter_le (fun y => PySem.W.dataLt y d) ys
    generalize (ys.filter fun y => PySem.W.dataLt y d) = zs at hm hk
    have c1 : ys.length < 16777216 := by omega
    have c2 : (zs.length : Int) < 9223372036854775808 := by omega
    simp [-mLc_, hm, sl, c1, c2]
    exact (ins_perm ys zs.length d r).trans hp
  · rintro ρ ⟨ys, a2, rfl, hp⟩
    simp
    simpa using hp
end KHead

end T_Ij_k61
section T_Ik_k61
set_option maxRecDepth 100000
namespace KHead
open PySem PySem.Spec PyProof.Rows L2 Kd
/-! ### the least writing -/
/-- a writing of the going g -/
def Way (rs : List Rd) (J : En → Option En) (back : Bool) (g : List En) (d : PyData) : Prop := ∃ g' : List En, d = .list (g'.map ptD) ∧ VG J back g' ∧ (g'.map Prod.fst).Perm (g.map Prod.fst)
theorem alike_pts : ∀ xs ys : List En, PySem.W.alikeAll (xs.map ptD) (ys.map ptD) = true
  | [], ys => by cases ys <;> simp [PySem.W.alikeAll]
  | x :: xs, [] => by simp [PySem.W.alikeAll]
  | x :: xs, y :: ys => by simp [PySem.W.alikeAll, PySem.W.alike, ptD, alike_pts xs ys]
theorem lay_pts (es : List En) : (PyData.list (es.map ptD)).canLay0 = true := by
  have : PyData.canLayAll0 (es.map ptD) = true := by
    induction es with
    | nil => rfl
    | cons a r ih => simp [PyData.canLayAll0, ih, ptD, PyData.canLay0]
  simpa only [PyData.canLay0] using this
theorem dep_pts (es : List En) : (PyData.list (es.map ptD)).depth ≤ 2 := by
  have : PyData.depthAll (es.map ptD) ≤ 1 := by
    induction es with
    | nil => simp
    | cons a r ih => simp [ptD] at ih ⊢; omega
  rw [dep_l]; omega
theorem ord_pts (xs ys : List En) : ordB (.list (xs.map ptD)) (.list (ys.map ptD)) = true := by
  have h1 := dep_pts xs
  have h2 : PySem.W.alike (.list (xs.map ptD)) (.list (ys.map ptD)) = true := by simpa only [PySem.W.alike] using alike_pts xs ys
  simp only [ordB, lay_pts, h2, Bool.true_and, Bool.and_eq_true, decide_eq_true_eq]
  exact ⟨rfl, by omega⟩
theorem cut_fromN (es : List En) (k : Nat) : cutD (es.map ptD) (some (k : Int)) none = (es.drop k).map ptD := by rw [cut_from, List.map_drop]
theorem cut_toN (es : List En) (k : Nat) : cutD (es.map ptD) none (some (k : Int)) = (es.take k).map ptD := by rw [cut_to, List.map_take]
theorem e_about {es : List En} (h : ∀ e ∈ es, e.2 < 2) : (es.map ptD).reverse = (es.reverse).map ptD := by rw [List.map_reverse]
theorem w_least {rs : List Rd} {J : En → Option En} (hJ : Jn J) {back : Bool} {g : List En} (v : VG J back g) (hl : g.length ≤ 20) : ∃ g' : List En, m__law_least [.list (g.map ptD), .bool back] = .ok ([], .list (g'.map ptD)) ∧ VG J back g' ∧ (g'.map Prod.fst).Perm (g.map Prod.fst) := by
  suffices hW : W (m__law_least [.list (g.map ptD), .bool back]) fun y => y.1 = [] ∧ Way rs J back g y.2 by
    obtain ⟨⟨os, y⟩, e, rfl, g', rfl, h1, h2⟩ := hW
    exact ⟨g', e, h1, h2⟩
  obtain ⟨b, hb⟩ : ∃ b, b = g.reverse.map farE := ⟨_, rfl⟩
  have vb : VG J back b := by rw [hb]; exact v.rev hJ
  have pb : (b.map Prod.fst).Perm (g.map Prod.fst) := by rw [hb]; exact rev_roads g
  have bl : b.length = g.length := by rw [hb]; simp
  refine W_fn (W_seq ?_)
  have hm := mLc_map (it := iOf asQ (m1 fRevL (mV 0))) (m := mCall m__law_far [.e (mV 3)] []) (i := 3) (ρ := [some (.list (g.map ptD)), some (.bool back), none, none, none, none]) (ds := (g.map ptD).reverse) (fun d => ptD (farE (toEn d))) (by simp) (by simp) (by rw [List.length_reverse, List.length_map, sl]; omega) fun d hd => by
    obtain ⟨e, he, rfl⟩ := List.mem_map.mp (List.mem_reverse.mp hd)
    simp [e_lfar (v.vl e he), toEn_pt]
  have e1 : ((g.map ptD).reverse).map (fun d => ptD (farE (toEn d))) = b.map ptD := by
    rw [hb, ← List.map_reverse, List.map_map, List.map_map]
    refine List.map_congr_left fun e _ => ?_
    simp [toEn_pt]
  rw [e1] at hm
  simp [-sSeq_, -mLc_, hm]
  refine W_seq ?_
  simp [-sSeq_, sl]
  refine W_seq ?_
  have hfin : ∀ (a3 a5 : Option PyData) (ws : List PyData), ws ≠ [] → ws.length ≤ 100 → (∀ w ∈ ws, Way rs J back g w) → W (sRt (m2 fIx (mCall m__law_ascending [.e (mV 4)] []) (mC (.int 0))) [some (.list (g.map ptD)), some (.bool back), some (.list (b.map ptD)), a3, some (.list ws), a5]) (KE [] false fun y => y.1 = [] ∧ Way rs J back g y.2) := by
    intro a3 a5 ws h1 h2 h3
    obtain ⟨ys, q1, q2⟩ := w_asc ws (fun a ha c hc => by
      obtain ⟨ga, rfl, _⟩ := h3 a ha
      obtain ⟨gc, rfl, _⟩ := h3 c hc
      exact ord_pts ga gc) (by omega)
    have hy : ys ≠ [] := fun z => by
      have := q2.length_eq
      rw [z] at this
      exact h1 (List.eq_nil_of_length_eq_zero this.symm)
    cases ys with
    | nil => exact absurd rfl hy
    | cons y r =>
      have := h3 y (q2.mem_iff.mp List.mem_cons_self)
      simp [q1]
      exact this
  have w1 : Way rs J back g (.list (g.map ptD)) := ⟨g, rfl, v, List.Perm.refl _⟩
  have w2 : Way rs J back g (.list (b.map ptD)) := ⟨b, rfl, vb, pb⟩
  cases back with
  | false =>
    simp [-sRt_]
    exact hfin _ _ _ (by simp) (by simp) (by simpa using ⟨w1, w2⟩)
  | true =>
    simp [-sRt_, -sFor_]
    refine W_rngA 1 (g.length - 1) (fun j ρ => ∃ (ws : List PyData) (a5 : Option PyData), ρ = [some (.list (g.map ptD)), some (.bool true), some (.list (b.map ptD)), none, some (.list ws), a5] ∧ ws ≠ [] ∧ ws.length = 2 + 2 * j ∧ ∀ w ∈ ws, Way rs J true g w) (ρ1 := [some (.list (g.map ptD)), some (.bool true), some (.list (b.map ptD)), none, some (.list [.list (g.map ptD), .list (b.map ptD)]), none]) ?_ ⟨_, _, rfl, by simp, by simp, by simpa using ⟨w1, w2⟩⟩ ?_ ?_
    · have := it_rng2 (m := mC (.int 1)) (m' := mN fLen [(mV 0)]) (ρ := [some (.list (g.map ptD)), some (.bool true), some (.list (b.map ptD)), none, some (.list [.list (g.map ptD), .list (b.map ptD)]), none]) (a := 1) (b := g.length) (by simp) (by simp) (by rw [sl]; omega) (by rw [sl]; omega)
      exact this
    · rintro j ρ hj ⟨ws, a5, rfl, h1, h2, h3⟩
      refine ⟨_, rfl, ?_⟩
      obtain ⟨m, hm⟩ : ∃ m, m = j + 1 := ⟨_, rfl⟩
      have i2 : (1 : Int) + (j : Int) = (m : Int) := by omega
      have g1 := cut_fromN g m
      have g2 := cut_toN g m
      have b1 := cut_fromN b m
      have b2 := cut_toN b m
      have c1 : ws.length + 2 ≤ 16777216 := by omega
      have c2 : (g.drop m).length + (g.take m).length ≤ 16777216 := by simp; omega
      have c3 : (b.drop m).length + (b.take m).length ≤ 16777216 := by simp; omega
      rw [i2]
      simp [-List.map_take, -List.map_drop, -List.length_take, -List.length_drop, g1, g2, b1, b2, sl, c1, c2, c3]
      refine ⟨by omega, fun w hw => ?_⟩
      rcases hw with hw | rfl | rfl
      · exact h3 w hw
      · exact ⟨g.drop m ++ g.take m, by simp, v.rot m (by omega), rot_roads g m⟩
      · exact ⟨b.drop m ++ b.take m, by simp, vb.rot m (by omega), (rot_roads b m).trans pb⟩
    · rintro ρ ⟨ws, a5, rfl, h1, h2, h3⟩
      rw [KS_nx]
      exact hfin _ _ ws h1 (by omega) h3
end KHead

end T_Ik_k61
section T_Il_k61
set_option maxRecDepth 100000
namespace KHead
open PySem PySem.Spec PyProof.Rows L2 Kd
/-! ### the plan of a table -/
def itD (it : Bool × List En) : PyData := .tuple [.bool it.1, .list (it.2.map ptD)]
theorem eqv_pt (a b : En) : PyData.eqv (ptD a) (ptD b) = decide (a = b) := by
  have h := fEq_pt a b
  have h : iff' (sh2 (ptD a) (ptD b)) (PyData.bool (PyData.eqv (ptD a) (ptD b))) = some (.bool (decide (a = b))) := h
  rw [sh2, sh_pt, sh_pt] at h
  simpa using h
theorem mem_pt (e : En) (es : List En) : memD (ptD e) (es.map ptD) = decide (e ∈ es) := by
  unfold memD
  rw [List.any_map]
  induction es with
  | nil => simp
  | cons a r ih =>
    rw [List.any_cons, ih]
    simp only [Function.comp, eqv_pt, List.mem_cons]
    by_cases h : a = e
    · simp [h]
    · have h' : ¬ e = a := fun z => h z.symm
      simp [h, h']
theorem sh_pts (es : List En) : SeqAt.shaped (.list (es.map ptD)) = true := shaped_of (lay_pts es) (by have := dep_pts es; omega)
theorem fIn_pt (e : En) (es : List En) : fIn (ptD e) (.list (es.map ptD)) = some (.bool (decide (e ∈ es))) := by
  show iff' (SeqAt.shaped _ && SeqAt.shaped _) _ = _
  rw [sh_pt, sh_pts, mem_pt]; rfl
theorem fNin_pt (e : En) (es : List En) : fNin (ptD e) (.list (es.map ptD)) = some (.bool (!decide (e ∈ es))) := by
  show iff' (SeqAt.shaped _ && SeqAt.shaped _) _ = _
  rw [sh_pt, sh_pts, mem_pt]; rfl
theorem mem_nI (k : Nat) (D : List Nat) : memD (.int (k : Int)) (D.map nI) = decide (k ∈ D) := by
  unfold memD
  rw [List.any_map]
  induction D with
  | nil => simp
  | cons a r ih =>
    rw [List.any_cons, ih]
    simp only [Function.comp, nI, PyData.eqv, List.mem_cons]
    by_cases h : a = k
    · simp [h]
    · have h' : ¬ k = a := fun z => h z.symm
      have h2 : ((a : Int) == (k : Int)) = false := by simp; omega
      simp [h', h2]
theorem sh_nIs (D : List Nat) : SeqAt.shaped (.list (D.map nI)) = true := by
  have h1 : PyData.canLayAll0 (D.map nI) = true := by
    induction D with
    | nil => rfl
    | cons a r ih => simp [PyData.canLayAll0, ih, nI, PyData.canLay0]
  have h2 : PyData.depthAll (D.map nI) = 0 := by
    induction D with
    | nil => rfl
    | cons a r ih => simp [nI] at ih ⊢; exact ih (by simp [PyData.canLayAll0, nI, PyData.canLay0] at h1 ⊢; exact h1)
  exact shaped_of (by simpa only [PyData.canLay0] using h1) (by rw [dep_l]; omega)
theorem fNin_nI (k : Nat) (D : List Nat) : fNin (.int (k : Int)) (.list (D.map nI)) = some (.bool (!decide (k ∈ D))) := by
  show iff' (SeqAt.shaped _ && SeqAt.shaped _) _ = _
  rw [sh_i, sh_nIs, mem_nI]; rfl
theorem jnd_iff {rs : List Rd} {T : List (En × En)} (h : Tab rs T) (e : En) : jnd (jnT T) e = decide (e ∈ endsT T) := by
  unfold jnd
  by_cases hm : e ∈ endsT T
  · obtain ⟨t, ht, h1⟩ := List.mem_flatMap.mp hm
    simp at h1
    rcases h1 with rfl | rfl
    · rw [(jnT_iff h).mpr (.inl ht)]; simp [hm]
    · rw [(jnT_iff h).mpr (.inr ht)]; simp [hm]
  · cases hq : jnT T e with
    | none => simp [hm]
    | some b =>
      exfalso
      rcases (jnT_iff h).mp hq with q | q
      · exact hm (List.mem_flatMap.mpr ⟨_, q, by simp⟩)
      · exact hm (List.mem_flatMap.mpr ⟨_, q, by simp⟩)
def endsE (n : Nat) : List En := (List.range n).flatMap fun r => [(r, 0), (r, 1)]
theorem endsL_E (n : Nat) : endsL n = (endsE n).map ptD := by
  unfold endsL endsE
  rw [List.map_flatMap]
  rfl
theorem endsE_iff {n : Nat} {e : En} : e ∈ endsE n ↔ e.1 < n ∧ e.2 < 2 := by
  unfold endsE
  rw [List.mem_flatMap]
  constructor
  · rintro ⟨r, hr, he⟩
    have hr := List.mem_range.mp hr
    simp at he
    rcases he with rfl | rfl
    · exact ⟨hr, Nat.zero_lt_two⟩
    · exact ⟨hr, Nat.one_lt_two⟩
  · rintro ⟨h1, h2⟩
    refine ⟨e.1, List.mem_range.mpr h1, ?_⟩
    obtain ⟨r, s⟩ := e
    simp only at h1 h2
    rcases (by omega : s = 0 ∨ s = 1) with rfl | rfl <;> simp
theorem endsE_len (n : Nat) : (endsE n).length = 2 * n := by
  have := endsL_len n
  rw [endsL_E, List.length_map] at this
  exact this
theorem w_plan {c : Nat} {rs : List Rd} {T : List (En × En)} (h : Tab rs T) (hT : T.length ≤ 1000) (hl : rs.length ≤ 20) : ∃ its : List (Bool × List En), m__law_plan [netD c rs, .list (T.map tnD)] = .ok ([], .list (its.map itD)) ∧ (∀ it ∈ its, VG (jnT T) it.1 it.2 ∧ ∀ x ∈ it.2, enOk rs x) ∧
    (its.flatMap fun it => it.2.map Prod.fst).Perm (List.range rs.length) ∧ its.length ≤ 100 := by
  suffices hW : W (m__law_plan [netD c rs, .list (T.map tnD)]) fun y => ∃ its : List (Bool × List En), y = ([], .list (its.map itD)) ∧ (∀ it ∈ its, VG (jnT T) it.1 it.2 ∧ ∀ x ∈ it.2, enOk rs x) ∧ (its.flatMap fun it => it.2.map Prod.fst).Perm (List.range rs.length) ∧ its.length ≤ 100 by
    obtain ⟨y, e1, its, rfl, h1⟩ := hW
    exact ⟨its, e1, h1⟩
  have hJ := h.jn
  have eE : m__law_ends [netD c rs] = .ok ([], .list ((endsE rs.length).map ptD)) := by
    have := e_ends (.int (c : Int)) (rs.map rdD) (by simpa using Nat.le_trans hl (by decide))
    rw [List.length_map, endsL_E] at this
    exact this
  generalize netD c rs = N at *
  have hled := fun e (he : enOk rs e) => w_led h hT hl he
  refine W_fn (W_seq ?_)
  simp [-sSeq_, sl]
  refine W_seq ?_
  generalize hTd : PyData.list (T.map tnD) = Td at *
  refine W_for' (fun r ρ => ∃ (dn rest : List (En × En)) (a3 a4 : Option PyData), T = dn ++ rest ∧ r = rest.map tnD ∧ ρ = [some N, some Td, some (.list ((endsT dn).map ptD)), a3, a4, none, none, none, none, none, none, none]) (ρ1 := [some N, some Td, some (.list []), none, none, none, none, none, none, none, none, none]) (ds := T.map tnD) (by simp [← hTd]) ⟨[], T, none, none, rfl, rfl, rfl⟩ ?_ ?_
  · rintro d r ρ ⟨dn, rest, a3, a4, hT2, hr, rfl⟩
    cases rest with
    | nil => cases hr
    | cons t rest =>
      simp only [List.map_cons, List.cons.injEq] at hr
      obtain ⟨rfl, rfl⟩ := hr
      refine ⟨[some N, some Td, some (.list ((endsT dn).map ptD)), some (ptD t.1), some (ptD t.2), none, none, none, none, none, none, none], by simp [tnD], ?_⟩
      have el : (endsT dn).length = 2 * dn.length := by rw [← pairs_keys, List.length_map, pairs_len]
      have dl : dn.length ≤ 1000 := by rw [hT2] at hT; simp at hT; omega
      have c1 : (endsT dn).length + 2 ≤ 16777216 := by omega
      simp [sl, c1]
      refine ⟨dn ++ [t], rest, by rw [hT2]; simp, rfl, by simp [endsT]⟩
  rintro ρ ⟨dn, rest, a3, a4, hT2, hr, rfl⟩
  have hr : rest = [] := by simpa using hr.symm
  subst hr
  rw [List.append_nil] at hT2
  subst hT2
  rw [KS_nx]
  refine W_seq ?_
  simp [-sSeq_, sl]
  refine W_seq ?_
  simp [-sSeq_, sl]
  refine W_seq ?_
  obtain ⟨Es, hEs⟩ : ∃ Es, Es = endsE rs.length := ⟨_, rfl⟩
  rw [← hEs] at eE
  obtain ⟨lo, hlo⟩ : ∃ lo, lo = Es.filter fun e => !decide (e ∈ endsT T) := ⟨_, rfl⟩
  have hEl : Es.length ≤ 40 := by rw [hEs, endsE_len]; omega
  have hll : lo.length ≤ 40 := by rw [hlo]; exact Nat.le_trans (List.length_filter_le _ _) hEl
  have l1 := mLc_filterV (own := [5]) (it := iOf asL (mCall m__law_ends [.e (mV 0)] [])) (g := gN 3) (t := tB (m2 fNin (mV 3) (mV 2))) (m := mV 3) (vs := [3]) (ρ := [some N, some Td, some (.list ((endsT T).map ptD)), a3, a4, some (.list []), some (.list []), none, none, none, none, none]) (ds := Es.map ptD)
    (fun d => [some N, some Td, some (.list ((endsT T).map ptD)), some d, a4, some (.list []), some (.list []), none, none, none, none, none]) (fun d => !decide (toEn d ∈ endsT T)) (fun d => d) (by simp [eE]; rfl) (by simp [allSet]) (by rw [List.length_map, sl]; omega) (fun d hd => by
      obtain ⟨e, he, rfl⟩ := List.mem_map.mp hd
      simp [fNin_pt, toEn_pt])
  rw [List.map_id', List.filter_map] at l1
  have hf : (fun d => !decide (toEn d ∈ endsT T)) ∘ ptD = fun e => !decide (e ∈ endsT T) := by funext e; simp [toEn_pt]
  rw [hf, ← hlo] at l1
  have hok : ∀ e ∈ lo ++ Es, enOk rs e := fun e he => by
    have : e ∈ Es := by
      rcases List.mem_append.mp he with he | he
      · rw [hlo] at he; exact (List.mem_filter.mp he).1
      · exact he
    rw [hEs] at this
    exact endsE_iff.mp this
  refine W_for' (fun r ρ => ∃ (pre rest : List En) (D : List Nat) (its : List (Bool × List En)) (a3 a7 a8 : Option PyData), lo ++ Es = pre ++ rest ∧ r = rest.map ptD ∧ ρ = [some N, some Td, some (.list ((endsT T).map ptD)), a3, a4, some (.list (its.map itD)), some (.list (D.map nI)), a7, a8, none, none, none] ∧
    Pln (jnT T) rs.length D its ∧ (∀ e ∈ pre, e.1 ∈ D) ∧ its.length ≤ pre.length ∧ D.length ≤ 100) (ρ1 := [some N, some Td, some (.list ((endsT T).map ptD)), a3, a4, some (.list []), some (.list []), none, none, none, none, none]) (ds := (lo ++ Es).map ptD) ?_ ⟨[], lo ++ Es, [], [], a3, none, none, rfl, rfl, rfl, Pln.nil _ _, by simp, by simp, by simp⟩ ?_ ?_
  · have c1 : lo.length + Es.length ≤ 16777216 := by omega
    simp [-mLc_, l1, eE, sl, c1]
  · rintro d r ρ ⟨pre, rest, D, its, a3, a7, a8, hpr, hr, rfl, P, hpd, hil, hDl⟩
    cases rest with
    | nil => cases hr
    | cons e rest =>
      simp only [List.map_cons, List.cons.injEq] at hr
      obtain ⟨rfl, rfl⟩ := hr
      have heo : enOk rs e := hok e (by rw [hpr]; simp)
      have hpl : pre.length ≤ 80 := by
        have := congrArg List.length hpr
        simp at this; omega
      have e0 : fIx (ptD e) (.int 0) = some (.int (e.1 : Int)) := by simp [ptD]
      refine ⟨_, rfl, ?_⟩
      by_cases hm : e.1 ∈ D
      · simp [e0, fNin_nI, hm]
        refine ⟨pre ++ [e], rest, by rw [hpr]; simp, rfl, D, its, ⟨rfl, rfl⟩, P, fun a b hx => ?_, by simp; omega, hDl⟩
        rcases List.mem_append.mp hx with hx | hx
        · exact hpd (a, b) hx
        · simp at hx; rw [← hx] at hm; exact hm
      · obtain ⟨g, l, q1, q2, q3, q4, q5, q6⟩ := hled e heo
        have h0 : jnT T e = none ∨ ∀ x : En, x.1 < rs.length → x.2 < 2 → jnT T x = none → x.1 ∈ D := by
          cases hq : jnT T e with
          | none => exact .inl rfl
          | some b =>
            right
            intro x x1 x2 hx
            have hxl : x ∈ lo := by
              rw [hlo]
              refine List.mem_filter.mpr ⟨by rw [hEs]; exact endsE_iff.mpr ⟨x1, x2⟩, ?_⟩
              have := jnd_iff h x
              unfold jnd at this
              rw [hx] at this
              simpa using this
            have hel : e ∉ lo := fun z => by
              rw [hlo] at z
              have z2 := (List.mem_filter.mp z).2
              have := jnd_iff h e
              unfold jnd at this
              rw [hq] at this
              simp at this z2
              exact z2 this
            rcases List.append_eq_append_iff.mp hpr with ⟨a, ha, _⟩ | ⟨a, ha, hb⟩
            · exact hpd x (by rw [ha]; exact List.mem_append_left _ hxl)
            · cases a with
              | nil =>
                rw [List.append_nil] at ha
                exact hpd x (by rw [← ha]; exact hxl)
              | cons y a' =>
                exfalso
                simp only [List.cons_append, List.cons.injEq] at hb
                exact hel (by rw [ha, hb.1]; simp)
        obtain ⟨r1, r2⟩ := P.ends hJ q2 q3 q4 hm (fun x hx => (q5 x hx).1) h0
        obtain ⟨g', w1, w2, w3⟩ := w_least (rs := rs) hJ r2 (by omega)
        have P2 := P.step hJ q2 q3 q4 hm (fun x hx => (q5 x hx).1) r1 w2 w3
        have hbk : PyData.bool (jnd (jnT T) e) = .bool (decide (e ∈ endsT T)) := by rw [jnd_iff h]
        rw [hbk] at w1
        have l2 := mLc_mapV (own := [5]) (it := iOf asQ (mV 8)) (g := gN 3) (m := m2 fIx (mV 3) (mC (.int 0))) (vs := [3]) (ρ := [some N, some Td, some (.list ((endsT T).map ptD)), a3, a4, some (.list (its.map itD)), some (.list (D.map nI)), some (ptD e), some (.list (g.map ptD)), none, none, none]) (ds := g.map ptD)
          (fun d => [some N, some Td, some (.list ((endsT T).map ptD)), some d, a4, some (.list (its.map itD)), some (.list (D.map nI)), some (ptD e), some (.list (g.map ptD)), none, none, none]) (fun d => nI (toEn d).1) (by simp; rfl) (by simp [allSet]) (by rw [List.length_map, sl]; omega) (fun d hd => by
            obtain ⟨x, hx, rfl⟩ := List.mem_map.mp hd
            refine ⟨rfl, ?_, by simp⟩
            simp [ptD, toEn, nI])
        have e9 : (g.map ptD).map (fun d => nI (toEn d).1) = (g.map Prod.fst).map nI := by
          rw [List.map_map, List.map_map]
          exact List.map_congr_left fun x _ => by simp [toEn_pt]
        rw [e9] at l2
        have D2 := le_of_nodup rs.length (D ++ g.map Prod.fst) P2.nd P2.lt
        have c1 : D.length + g.length ≤ 16777216 := by simp at D2; omega
        have c2 : its.length < 16777216 := by omega
        simp [-mLc_, e0, fNin_nI, hm, q1, l2, sl, c1, fIn_pt, w1, c2]
        refine ⟨pre ++ [e], rest, by rw [hpr]; simp, rfl, D ++ g.map Prod.fst, its ++ [(decide (e ∈ endsT T), g')], ⟨by simp [itD], by simp⟩, ?_, fun a b hx => ?_, by simp; omega, by omega⟩
        · rw [← jnd_iff h]; exact P2
        · rcases List.mem_append.mp hx with hx | hx
          · exact List.mem_append_left _ (hpd (a, b) hx)
          · simp at hx
            refine List.mem_append_right _ (List.mem_map.mpr ⟨e, List.mem_of_getElem? q2.hd, by rw [← hx]⟩)
  · rintro ρ ⟨pre, rest, D, its, a3, a7, a8, hpr, hr, rfl, P, hpd, hil, hDl⟩
    have hr : rest = [] := by simpa using hr.symm
    subst hr
    rw [List.append_nil] at hpr
    have hD : D.Perm (List.range rs.length) := full_perm P.nd P.lt fun r hr => hpd (r, 0) (by
      rw [← hpr]
      refine List.mem_append_right _ ?_
      rw [hEs]
      exact endsE_iff.mpr ⟨hr, Nat.zero_lt_two⟩)
    have hitl : its.length ≤ 100 := by
      have := congrArg List.length hpr
      simp at this; omega
    have hgood : ∀ it ∈ its, VG (jnT T) it.1 it.2 ∧ ∀ x ∈ it.2, enOk rs x := fun it hit => ⟨P.vg it hit, fun x hx => ⟨P.vl it hit x hx, (P.vg it hit).vl x hx⟩⟩
    rw [KS_nx]
    refine W_seq ?_
    simp [-sSeq_, sl]
    refine W_seq ?_
    generalize PyData.list (D.map nI) = Dd
    generalize PyData.list ((endsT T).map ptD) = Ed
    refine W_for' (fun r ρ => ∃ (js rest : List (Bool × List En)) (a8 a10 : Option PyData), (js ++ rest).Perm its ∧ r = rest.map itD ∧ ρ = [some N, some Td, some Ed, a3, a4, some (.list (its.map itD)), some Dd, a7, a8, some (.list (js.map itD)), a10, none]) (ρ1 := [some N, some Td, some Ed, a3, a4, some (.list (its.map itD)), some Dd, a7, a8, some (.list []), none, none]) (ds := its.map itD) (by simp) ⟨[], its, a8, none, by simp, rfl, rfl⟩ ?_ ?_
    · rintro d r ρ ⟨js, rest, a8, a10, hp, hr, rfl⟩
      cases rest with
      | nil => cases hr
      | cons it rest =>
        simp only [List.map_cons, List.cons.injEq] at hr
        obtain ⟨rfl, rfl⟩ := hr
        refine ⟨[some N, some Td, some Ed, a3, a4, some (.list (its.map itD)), some Dd, a7, some (.list (it.2.map ptD)), some (.list (js.map itD)), some (.bool it.1), none], by simp [itD], ?_⟩
        have hjl : js.length ≤ 100 := by
          have := hp.length_eq
          simp at this; omega
        have hm := mLc_filter (it := iOf asQ (mV 9)) (t := tB (m2 fLtD (m2 fIx (mV 11) (mC (.int 1))) (mV 8))) (m := mV 11) (i := 11) (ρ := [some N, some Td, some Ed, a3, a4, some (.list (its.map itD)), some Dd, a7, some (.list (it.2.map ptD)), some (.list (js.map itD)), some (.bool it.1), none]) (ds := js.map itD)
          (fun y => match y with | .tuple [_, x] => PySem.W.dataLt x (.list (it.2.map ptD)) | _ => false) (fun y => y) (by simp) (by simp) (by rw [List.length_map, sl]; omega) (fun y hy => by
            obtain ⟨jt, hj, rfl⟩ := List.mem_map.mp hy
            have := ord_pts jt.2 it.2
            simp [itD, fLtD, fOrd, this]) fun y hy _ => by simp
        rw [List.map_id'] at hm
        have hk := List.length_filter_le (fun y => match y with | .tuple [_, x] => PySem.W.dataLt x (.list (it.2.map ptD)) | _ => false) (js.map itD)
        generalize ((js.map itD).filter fun y => match y with | .tuple [_, x] => PySem.W.dataLt x (.list (it.2.map ptD)) | _ => false) = zs at hm hk
        rw [List.length_map] at hk
        have c1 : js.length < 16777216 := by omega
        have c2 : (zs.length : Int) < 9223372036854775808 := by omega
        simp [-mLc_, hm, sl, c1, c2]
        refine ⟨js.take zs.length ++ it :: js.drop zs.length, rest, ?_, rfl, by simp [itD]⟩
        rw [List.append_assoc, List.cons_append]
        exact (ins_perm js zs.length it rest).trans hp
    · rintro ρ ⟨js, rest, a8, a10, hp, hr, rfl⟩
      have hr : rest = [] := by simpa using hr.symm
      subst hr
      rw [List.append_nil] at hp
      simp
      have hg2 : ∀ b g, (b, g) ∈ js → VG (jnT T) b g ∧ ∀ (x y : Nat), (x, y) ∈ g → enOk rs (x, y) := fun b g hm => ⟨(hgood (b, g) (hp.mem_iff.mp hm)).1, fun x y hxy => (hgood (b, g) (hp.mem_iff.mp hm)).2 (x, y) hxy⟩
      exact ⟨js, rfl, ⟨fun g hm => hg2 false g hm, fun g hm => hg2 true g hm⟩, ((List.Perm.flatMap_right _ hp).trans P.pm).trans hD, by rw [hp.length_eq]; exact hitl⟩
end KHead

end T_Il_k61
section T_Im_k61
set_option maxRecDepth 100000
namespace KHead
open PySem PySem.Spec PyProof.Rows L2 Kd
theorem endsL_en (n : Nat) : endsL n = ((List.range n).flatMap fun r => [(r, 0), (r, 1)]).map ptD := by
  unfold endsL
  rw [List.map_flatMap]
  rfl
def atE (rs : List Rd) (p : Nat) : List En := ((List.range rs.length).flatMap fun r => [(r, 0), (r, 1)]).filter fun e => decide (plc rs e = p)
theorem e_at {c : Nat} {rs : List Rd} (hl : rs.length ≤ 20) (p : Nat) : m__law_at [netD c rs, .int (p : Int)] = .ok ([], .list ((atE rs p).map ptD)) := by
  have e1 : m__law_ends [netD c rs] = .ok ([], .list (endsL rs.length)) := by
    have := e_ends (.int (c : Int)) (rs.map rdD) (by simpa using Nat.le_trans hl (by decide))
    simpa [netD] using this
  have hm := mLc_filter (it := iOf asL (mCall m__law_ends [.e (mV 0)] [])) (t := tB (m2 fEq (mCall m__law_place [.e (mV 0), .e (mV 2)] []) (mV 1))) (m := mV 2) (i := 2) (ρ := [some (netD c rs), some (.int (p : Int)), none]) (ds := endsL rs.length)
    (fun d => decide (plc rs (toEn d) = p)) (fun d => d) (by simp) (by simp [e1]) (by rw [endsL_len, sl]; omega) (fun d hd => by
      rw [endsL_en] at hd
      obtain ⟨e, he, rfl⟩ := List.mem_map.mp hd
      have ho : enOk rs e := by
        obtain ⟨r, hr, he⟩ := List.mem_flatMap.mp he
        have hr := List.mem_range.mp hr
        simp at he
        rcases he with rfl | rfl
        · exact ⟨hr, Nat.zero_lt_two⟩
        · exact ⟨hr, Nat.one_lt_two⟩
      have e2 := e_lplace (c := c) ho
      by_cases hq : plc rs e = p
      · simp [e2, toEn_pt, hq]
      · have hq' : ¬ ((plc rs e : Int) = (p : Int)) := by omega
        simp [e2, toEn_pt, hq, hq']) fun d hd _ => by simp
  rw [List.map_id', endsL_en, List.filter_map] at hm
  have hf : (fun d => decide (plc rs (toEn d) = p)) ∘ ptD = fun e => decide (plc rs e = p) := by funext e; simp [toEn_pt]
  rw [hf] at hm
  simp [m__law_at, hm, -mLc_, atE]
theorem e_lkind {c : Nat} {rs : List Rd} {e : En} (h : enOk rs e) : m__law_kind [netD c rs, ptD e] = .ok ([], .int (knd rs e : Int)) := by
  obtain ⟨h1, h2⟩ := h
  obtain ⟨r, s⟩ := e
  have h1 : r < rs.length := h1
  have h2 : s < 2 := h2
  have e1 : rs[r]? = some rs[r] := List.getElem?_eq_getElem h1
  rcases (by omega : s = 0 ∨ s = 1) with rfl | rfl
  · simp [m__law_kind, netD, ptD, e1, rdD, knd]
  · simp [m__law_kind, netD, ptD, e1, rdD, knd]
/-! ### a drawn table -/
theorem Tab.nil (rs : List Rd) : Tab rs [] := ⟨by simp, by simp [endsT], by simp⟩
theorem Tab.snoc {rs : List Rd} {T : List (En × En)} (h : Tab rs T) {t : En × En} (h1 : enOk rs t.1) (h2 : enOk rs t.2) (n1 : t.1 ∉ endsT T) (n2 : t.2 ∉ endsT T) (ne : t.1 ≠ t.2) (hp : plc rs t.1 = plc rs t.2) (hk : knd rs t.1 ≠ knd rs t.2) : Tab rs (T ++ [t]) := by
  refine ⟨fun u hu => ?_, ?_, fun u hu => ?_⟩
  · rcases List.mem_append.mp hu with hu | hu
    · exact h.ok u hu
    · simp at hu; subst hu; exact ⟨h1, h2⟩
  · have e1 : endsT (T ++ [t]) = endsT T ++ [t.1, t.2] := by simp [endsT]
    rw [e1]
    refine List.nodup_append.mpr ⟨h.nd, by simpa using ne, fun a ha b hb z => ?_⟩
    subst z
    simp at hb
    rcases hb with rfl | rfl
    · exact n1 ha
    · exact n2 ha
  · rcases List.mem_append.mp hu with hu | hu
    · exact h.tn u hu
    · simp at hu; subst hu
      simp [turnB, opn, ne, hp, hk]
theorem Tab.perm {rs : List Rd} {T T' : List (En × En)} (h : Tab rs T) (p : T'.Perm T) : Tab rs T' :=
  ⟨fun t ht => h.ok t (p.mem_iff.mp ht), (List.Perm.flatMap_right _ p).nodup_iff.mpr h.nd, fun t ht => h.tn t (p.mem_iff.mp ht)⟩
theorem ends_snoc (T : List (En × En)) (t : En × En) : endsT (T ++ [t]) = endsT T ++ [t.1, t.2] := by simp [endsT]
theorem ord_pt (a b : En) : ordB (ptD a) (ptD b) = true := by
  simp [ordB, ptD, PyData.canLay0, PyData.canLayAll0, PySem.W.alike, PySem.W.alikeAll]
  rfl
theorem ord_tn (a b : En × En) : ordB (tnD a) (tnD b) = true := by
  simp [ordB, tnD, ptD, PyData.canLay0, PyData.canLayAll0, PySem.W.alike, PySem.W.alikeAll]
  rfl
theorem w_sorted (a b : En) : ∃ t : En × En, m__law_sorted [.tuple [ptD a, ptD b]] = .ok ([], tnD t) ∧ (t = (a, b) ∨ t = (b, a)) := by
  have ho := ord_pt b a
  cases hq : PySem.W.dataLt (ptD b) (ptD a) with
  | true => exact ⟨(b, a), by simp [m__law_sorted, sl, fLtD, fOrd, ho, hq, tnD], .inr rfl⟩
  | false => exact ⟨(a, b), by simp [m__law_sorted, sl, fLtD, fOrd, ho, hq, tnD], .inl rfl⟩
theorem place_pt : ∀ (es : List En) (e : En), e ∈ es → ∃ j, SeqAt.dataPlace (es.map ptD) (ptD e) = some j ∧ es.eraseIdx j = es.erase e
  | a :: r, e, h => by
    unfold SeqAt.dataPlace
    rw [List.map_cons, List.findIdx?_cons]
    by_cases hae : a = e
    · subst hae
      refine ⟨0, by simp [eqv_pt], by simp⟩
    · have h' : e ∈ r := by
        rcases List.mem_cons.mp h with z | z
        · exact absurd z.symm hae
        · exact z
      obtain ⟨j, h1, h2⟩ := place_pt r e h'
      unfold SeqAt.dataPlace at h1
      refine ⟨j + 1, by simp [eqv_pt, hae, h1], ?_⟩
      rw [List.eraseIdx_cons_succ, h2, List.erase_cons_tail]
      simpa using hae
theorem map_eraseI {α β : Type} (f : α → β) : ∀ (l : List α) (j : Nat), (l.map f).eraseIdx j = (l.eraseIdx j).map f
  | [], j => by simp
  | a :: r, 0 => by simp
  | a :: r, j + 1 => by simp [map_eraseI f r j]
theorem fRem_pt (es : List En) (e : En) (h : e ∈ es) : fRemD (es.map ptD) [ptD e] = some ((es.erase e).map ptD, .none) := by
  obtain ⟨j, h1, h2⟩ := place_pt es e h
  have hl : PyData.canLayAll0 (es.map ptD) = true := by have := lay_pts es; simpa only [PyData.canLay0] using this
  have hl2 : (ptD e).canLay0 = true := rfl
  have hd : (ptD e).depth ≤ 60 := by simp [ptD]
  simp only [fRemD, hl, hl2, hd, decide_true, Bool.and_self, if_true, h1, Option.map_some]
  rw [← h2]
  congr 2
  rw [map_eraseI]
theorem endsE_nodup : ∀ n : Nat, (endsE n).Nodup
  | 0 => by simp [endsE]
  | n + 1 => by
    have e : endsE (n + 1) = endsE n ++ [(n, 0), (n, 1)] := by
      unfold endsE
      rw [List.range_succ, List.flatMap_append]
      rfl
    rw [e]
    refine List.nodup_append.mpr ⟨endsE_nodup n, by simp, fun a ha b hb z => ?_⟩
    subst z
    have := (endsE_iff.mp ha).1
    simp at hb
    rcases hb with rfl | rfl <;> simp at this
theorem range_pick {α : Type} (d : α) (L : List α) : (List.range L.length).map (fun o => L[o]?.getD d) = L := by
  refine List.ext_getElem? fun i => ?_
  rw [List.getElem?_map]
  by_cases h : i < L.length
  · rw [List.getElem?_range h]
    simp [h]
  · rw [List.getElem?_eq_none (by simp; omega), List.getElem?_eq_none (by omega)]
    rfl
theorem atE_E (rs : List Rd) (p : Nat) : atE rs p = (endsE rs.length).filter fun e => decide (plc rs e = p) := rfl
theorem w_table {c : Nat} {rs : List Rd} (p : Int) (n : Nat) (hn0 : 0 < n) (hn : n ≤ 1000) (hc : c ≤ 12) (hl : rs.length ≤ 20) : ∃ (q : Int) (T : List (En × En)), m__law_drawn_table [.list [.int p], netD c rs, .int (n : Int)] = .ok ([.list [.int q]], .list (T.map tnD)) ∧ Tab rs T ∧ T.length ≤ 1000 := by
  suffices hW : W (m__law_drawn_table [.list [.int p], netD c rs, .int (n : Int)]) fun y => ∃ (q : Int) (T : List (En × En)), y = ([.list [.int q]], .list (T.map tnD)) ∧ Tab rs T ∧ T.length ≤ 1000 by
    obtain ⟨y, e1, q, T, rfl, h1⟩ := hW
    exact ⟨q, T, e1, h1⟩
  have hat := fun j => e_at (c := c) hl j
  have hk := fun e (he : enOk rs e) => e_lkind (c := c) he
  have h0 : fIx (netD c rs) (.int 0) = some (.int (c : Int)) := by simp [netD]
  generalize netD c rs = N at *
  refine W_fn (W_seq ?_)
  simp [-sSeq_, sl]
  refine W_seq ?_
  obtain ⟨P, hP⟩ : ∃ P : Nat → Ev → Prop, ∀ j ρ, P j ρ ↔ ∃ (q : Int) (T : List (En × En)) (a4 a5 a7 a8 : Option PyData), ρ = [some (.list [.int q]), some N, some (.int (n : Int)), some (.list (T.map tnD)), a4, a5, none, a7, a8, none] ∧ Tab rs T ∧ (∀ e ∈ endsT T, plc rs e < j) ∧ T.length ≤ 40 * j := ⟨_, fun _ _ => Iff.rfl⟩
  refine W_rng' c P (it_rng (by simp [h0]) (by rw [sl]; omega)) ((hP _ _).mpr ⟨p, [], none, none, none, none, rfl, Tab.nil rs, by simp [endsT], by simp⟩) ?_ ?_
  · intro j ρ hj hρ
    obtain ⟨q, T, a4, a5, a7, a8, rfl, hT, hpl, hTl⟩ := (hP _ _).mp hρ
    refine ⟨_, rfl, ?_⟩
    refine W_seq ?_
    simp [-sSeq_, hat]
    refine W_seq ?_
    obtain ⟨A, hA⟩ : ∃ A, A = atE rs j := ⟨_, rfl⟩
    have hAl : A.length ≤ 40 := by
      rw [hA, atE_E]
      have := List.length_filter_le (fun e => decide (plc rs e = j)) (endsE rs.length)
      rw [endsE_len] at this
      omega
    have hAn : A.Nodup := by rw [hA, atE_E]; exact (endsE_nodup _).filter _
    have hAo : ∀ e ∈ A, enOk rs e ∧ plc rs e = j := fun e he => by
      rw [hA, atE_E] at he
      obtain ⟨h1, h2⟩ := List.mem_filter.mp he
      exact ⟨endsE_iff.mp h1, of_decide_eq_true h2⟩
    rw [← hA]
    obtain ⟨q2, os, e7, h7⟩ := w_order q A.length (by omega)
    obtain ⟨R, hR⟩ : ∃ R, R = os.map fun o => A[o]?.getD (0, 0) := ⟨_, rfl⟩
    have hRA : R.Perm A := by
      rw [hR]
      have := h7.map fun o => A[o]?.getD (0, 0)
      rw [range_pick] at this
      exact this
    have hL : mLc [0, 3] (iOf asL (mCall m__law_order_of [.io 0, .e (mN fLen [(mV 5)])] [])) (gN 6) tTrue (m2 fIx (mV 5) (mV 6)) [6] [some (.list [.int q]), some N, some (.int (n : Int)), some (.list (T.map tnD)), some (.int (j : Int)), some (.list (A.map ptD)), none, a7, a8, none] = .ok ([some (.list [.int q2]), some N, some (.int (n : Int)), some (.list (T.map tnD)), some (.int (j : Int)), some (.list (A.map ptD)), none, a7, a8, none], .list ((os.map nI).map fun d => match d with | .int i => ((A.map ptD)[i.toNat]?).getD .none | _ => .none)) := by
      refine mLc_map1 _ (by simp) ?_ (by simp [allSet]) (by rw [List.length_map, h7.length_eq, List.length_range, sl]; omega) ?_
      · simp [e7]
      · intro d hd
        obtain ⟨o, ho, rfl⟩ := List.mem_map.mp hd
        have ho' : o < A.length := by have := h7.mem_iff.mp ho; simpa using this
        simp [nI, ho']
    have e8 : (os.map nI).map (fun d => match d with | .int i => ((A.map ptD)[i.toNat]?).getD .none | _ => .none) = R.map ptD := by
      rw [hR, List.map_map, List.map_map]
      refine List.map_congr_left fun o ho => ?_
      have ho' : o < A.length := by have := h7.mem_iff.mp ho; simpa using this
      simp [nI, ho']
    rw [e8] at hL
    simp [-sSeq_, -mLc_, hL]
    have hRn : R.Nodup := hRA.nodup_iff.mpr hAn
    have hRo : ∀ e ∈ R, enOk rs e ∧ plc rs e = j ∧ e ∉ endsT T := fun e he => by
      obtain ⟨h1, h2⟩ := hAo e (hRA.mem_iff.mp he)
      refine ⟨h1, h2, fun z => ?_⟩
      have := hpl e z
      omega
    have hRl : R.length ≤ 40 := by rw [hRA.length_eq]; exact hAl
    have hpl' : ∀ e ∈ endsT T, plc rs e ≤ j := fun e he => Nat.le_of_lt (hpl e he)
    obtain ⟨I, hI⟩ : ∃ I : Nat → Ev → Prop, ∀ k ρ, I k ρ ↔ ∃ (q : Int) (T : List (En × En)) (R : List En) (a7 a8 : Option PyData), ρ = [some (.list [.int q]), some N, some (.int (n : Int)), some (.list (T.map tnD)), some (.int (j : Int)), some (.list (R.map ptD)), none, a7, a8, none] ∧ Tab rs T ∧ R.Nodup ∧ (∀ e ∈ R, enOk rs e ∧ plc rs e = j ∧ e ∉ endsT T) ∧ (∀ e ∈ endsT T, plc rs e ≤ j) ∧ T.length + R.length ≤ 40 * (j + 1) ∧ R.length ≤ k := ⟨_, fun _ _ => Iff.rfl⟩
    refine W_wh I 40 ((hI _ _).mpr ⟨q2, T, R, a7, a8, rfl, hT, hRn, hRo, hpl', by omega, hRl⟩) (by omega) ?_
    clear hT hpl hTl hRA hL e8 hRn hRo hRl hpl' hAl hAn hAo e7 h7 hR hA
    intro k ρ hρ
    obtain ⟨q, T, R, a7, a8, rfl, hT, hRn, hRo, hpl, hTl, hRk⟩ := (hI _ _).mp hρ
    by_cases h1 : 1 < R.length
    · have hne : R ≠ [] := fun z => by rw [z] at h1; simp at h1
      obtain ⟨R0, one, rfl⟩ : ∃ R0 one, R = R0 ++ [one] := ⟨R.dropLast, R.getLast hne, (List.dropLast_concat_getLast hne).symm⟩
      have h1' : (1 : Int) < ((R0.length : Int) + 1) := by simp at h1; omega
      obtain ⟨n1, -, n3⟩ := List.nodup_append.mp hRn
      have ho := hRo one (by simp)
      have hR0 : ∀ e ∈ R0, enOk rs e ∧ plc rs e = j ∧ e ∉ endsT T := fun e he => hRo e (by simp [he])
      have hne1 : ∀ e ∈ R0, one ≠ e := fun e he z => n3 e he one (by simp) z.symm
      simp at hTl hRk
      have hp : fPop ((R0.map ptD) ++ [ptD one]) [] = some (R0.map ptD, ptD one) := by simp [fPop]
      simp [h1', -sSeq_]
      refine ⟨by omega, ?_⟩
      refine W_seq ?_
      simp [-sSeq_, hp]
      refine W_seq ?_
      have l1 := fun a8 : Option PyData => mLc_filterV (own := [0]) (it := iOf asQ (mV 5)) (g := gN 9) (t := tB (m2 fNe (mCall m__law_kind [.e (mV 1), .e (mV 9)] []) (mCall m__law_kind [.e (mV 1), .e (mV 7)] []))) (m := mV 9) (vs := [9]) (ρ := [some (.list [.int q]), some N, some (.int (n : Int)), some (.list (T.map tnD)), some (.int (j : Int)), some (.list (R0.map ptD)), none, some (ptD one), a8, none]) (ds := R0.map ptD)
        (fun d => [some (.list [.int q]), some N, some (.int (n : Int)), some (.list (T.map tnD)), some (.int (j : Int)), some (.list (R0.map ptD)), none, some (ptD one), a8, some d]) (fun d => !decide (knd rs (toEn d) = knd rs one)) (fun d => d) (by simp; rfl) (by simp [allSet]) (by rw [List.length_map, sl]; omega) (fun d hd => by
          obtain ⟨e, he, rfl⟩ := List.mem_map.mp hd
          have k1 := hk e (hR0 e he).1
          have k2 := hk one ho.1
          refine ⟨rfl, ?_, fun _ => by simp, by simp⟩
          by_cases hq : knd rs e = knd rs one
          · simp [k1, k2, toEn_pt, hq]
          · have hq' : ¬ ((knd rs e : Int) = (knd rs one : Int)) := by omega
            simp [k1, k2, toEn_pt, hq, hq'])
      simp only [List.map_id', List.filter_map] at l1
      have hf : (fun d => !decide (knd rs (toEn d) = knd rs one)) ∘ ptD = fun e => !decide (knd rs e = knd rs one) := by funext e; simp [toEn_pt]
      rw [hf] at l1
      obtain ⟨F, hF⟩ : ∃ F, F = R0.filter fun e => !decide (knd rs e = knd rs one) := ⟨_, rfl⟩
      rw [← hF] at l1
      have hFl : flatAll (F.map ptD) = true := flatAll_iff.mpr fun x hx => by
        obtain ⟨e, -, rfl⟩ := List.mem_map.mp hx
        simp [ptD]
      simp [-sSeq_, -mLc_, l1, hFl]
      have keep : ∀ (T' : List (En × En)) (R' : List En) (q' : Int) (a7 a8 : Option PyData), Tab rs T' → R'.Nodup → (∀ e ∈ R', enOk rs e ∧ plc rs e = j ∧ e ∉ endsT T') → (∀ e ∈ endsT T', plc rs e ≤ j) → T'.length + R'.length ≤ 40 * (j + 1) → R'.length ≤ k - 1 →
          I (k - 1) [some (.list [.int q']), some N, some (.int (n : Int)), some (.list (T'.map tnD)), some (.int (j : Int)), some (.list (R'.map ptD)), none, a7, a8, none] :=
        fun T' R' q' a7 a8 h1 h2 h3 h4 h5 h6 => (hI _ _).mpr ⟨q', T', R', a7, a8, rfl, h1, h2, h3, h4, h5, h6⟩
      have eN : fNe (.list (F.map ptD)) (.list []) = some (.bool (!F.isEmpty)) := by rw [fNe_nil (sh_pts F)]; simp
      cases hE : F with
      | nil =>
        have eN0 : fNe (.list []) (.list []) = some (.bool false) := rfl
        simp [eN0, sl]
        exact keep T R0 q _ _ hT n1 hR0 hpl (by omega) (by omega)
      | cons f F' =>
        rw [hE] at eN
        simp only [List.map_cons, List.isEmpty_cons] at eN
        have hfm : f ∈ F := by rw [hE]; exact List.mem_cons_self
        obtain ⟨hf1, hf2⟩ : f ∈ R0 ∧ knd rs f ≠ knd rs one := by
          rw [hF] at hfm
          have := List.mem_filter.mp hfm
          exact ⟨this.1, by simpa using this.2⟩
        obtain ⟨q', kk, e3, h3⟩ := w_takeI q (n : Int) (by omega) (by omega)
        by_cases hkk : 0 < kk
        · have hrem := fRem_pt R0 f hf1
          obtain ⟨t, s1, s2⟩ := w_sorted one f
          have hkk' : (0 : Int) < (kk : Int) := by omega
          have c1 : T.length < 16777216 := by omega
          simp [eN, sl, e3, hkk, hrem, s1, c1]
          have hff := hR0 f hf1
          have hT' : Tab rs (T ++ [t]) := by
            rcases s2 with rfl | rfl
            · exact hT.snoc ho.1 hff.1 ho.2.2 hff.2.2 (hne1 f hf1) (by show plc rs one = plc rs f; rw [ho.2.1, hff.2.1]) (fun z => hf2 z.symm)
            · exact hT.snoc hff.1 ho.1 hff.2.2 ho.2.2 (fun z => hne1 f hf1 z.symm) (by show plc rs f = plc rs one; rw [ho.2.1, hff.2.1]) hf2
          have hel : (R0.erase f).length + 1 = R0.length := by rw [List.length_erase_of_mem hf1]; have := List.length_pos_of_mem hf1; omega
          have hte : ∀ e, e ∈ endsT (T ++ [t]) ↔ e ∈ endsT T ∨ e = one ∨ e = f := fun e => by
            rw [ends_snoc]
            rcases s2 with rfl | rfl
            · simp
            · simp; constructor
              · rintro (z | z | z)
                · exact .inl z
                · exact .inr (.inr z)
                · exact .inr (.inl z)
              · rintro (z | z | z)
                · exact .inl z
                · exact .inr (.inr z)
                · exact .inr (.inl z)
          have := keep (T ++ [t]) (R0.erase f) q' (some (ptD one)) (some (.list ((f :: F').map ptD))) hT' (n1.erase f) (fun e he => ?_) (fun e he => ?_) (by simp; omega) (by omega)
          · simpa using this
          · have hm := List.mem_of_mem_erase he
            obtain ⟨g1, g2, g3⟩ := hR0 e hm
            refine ⟨g1, g2, fun z => ?_⟩
            rcases (hte e).mp z with z | rfl | rfl
            · exact g3 z
            · exact hne1 e hm rfl
            · exact (List.Nodup.not_mem_erase n1) he
          · rcases (hte e).mp he with z | rfl | rfl
            · exact hpl e z
            · exact Nat.le_of_eq ho.2.1
            · exact Nat.le_of_eq hff.2.1
        · have hkk' : ¬ (0 : Int) < (kk : Int) := by omega
          simp [eN, sl, e3, hkk]
          exact keep T R0 q' _ _ hT n1 hR0 hpl (by omega) (by omega)
    · have h1' : ¬ (1 : Int) < (R.length : Int) := by omega
      simp [h1, h1']
      refine (hP _ _).mpr ⟨q, T, _, _, _, _, rfl, hT, fun e he => ?_, by omega⟩
      have := hpl e he
      omega
  · intro ρ hρ
    obtain ⟨q, T, a4, a5, a7, a8, rfl, hT, hpl, hTl⟩ := (hP _ _).mp hρ
    obtain ⟨ys, q1, q2⟩ := w_asc (T.map tnD) (fun a ha b hb => by
      obtain ⟨t, _, rfl⟩ := List.mem_map.mp ha
      obtain ⟨u, _, rfl⟩ := List.mem_map.mp hb
      exact ord_tn t u) (by rw [List.length_map]; omega)
    have hc1 : 40 * c ≤ 1000 := by omega
    have hys : ∃ T' : List (En × En), ys = T'.map tnD ∧ T'.Perm T := by
      refine ⟨ys.map toTn, ?_, ?_⟩
      · rw [List.map_map]
        refine (List.map_id ys).symm.trans (List.map_congr_left fun y hy => ?_)
        obtain ⟨t, _, rfl⟩ := List.mem_map.mp (q2.mem_iff.mp hy)
        simp [toTn_tn]
      · have := q2.map toTn
        rw [List.map_map] at this
        have e : toTn ∘ tnD = id := by funext t; simp [toTn_tn]
        rw [e, List.map_id] at this
        exact this
    obtain ⟨T', rfl, hp⟩ := hys
    simp [q1]
    exact ⟨q, T', ⟨rfl, rfl⟩, hT.perm hp, by rw [hp.length_eq]; omega⟩
end KHead

end T_Im_k61
section T_In_k61
set_option maxRecDepth 100000
namespace KHead
open PySem PySem.Spec PyProof.Rows L2 Kd
/-! ### items and plans, judged -/
theorem sm_in_t {k n : Nat} {xs : List PyData} {x : PyData} (h : Sm k n (.tuple xs)) (hx : x ∈ xs) : Sm k n x := by
  obtain ⟨h1, h2, h3⟩ := h
  exact sm_mem (by simpa using h1) (by simp at h2; omega) (by simpa using h3) x hx
theorem sm_in_l {k n : Nat} {xs : List PyData} {x : PyData} (h : Sm k n (.list xs)) (hx : x ∈ xs) : Sm k n x := by
  obtain ⟨h1, h2, h3⟩ := h
  exact sm_mem (by simpa using h1) (by simp at h2; omega) (by simpa using h3) x hx
def itB (rs : List Rd) (d : PyData) : Bool := match d with
  | .tuple [.bool b, .list xs] => goB rs (.list xs) b && (tsD (xs.map toEn) b).all (opn rs)
  | _ => false
theorem shut_nil (rs : List Rd) (ts : List (En × En)) : fEq (.list ((ts.filter fun t => !opn rs t).map tnD)) (.list []) = some (.bool (ts.all (opn rs))) := by
  rw [fEq_nil]
  · rw [← filt_nil]
    simp
  · refine shaped_all fun x hx => ?_
    obtain ⟨t, _, rfl⟩ := List.mem_map.mp hx
    exact ⟨rfl, by simp [tnD, ptD]⟩
theorem shut_nil' (rs : List Rd) (ts : List (En × En)) : fNe (.list ((ts.filter fun t => !opn rs t).map tnD)) (.list []) = some (.bool (!ts.all (opn rs))) := by
  rw [fNe_nil]
  · rw [← filt_nil]
    simp
  · refine shaped_all fun x hx => ?_
    obtain ⟨t, _, rfl⟩ := List.mem_map.mp hx
    exact ⟨rfl, by simp [tnD, ptD]⟩
theorem goB_nl {rs : List Rd} {d : PyData} {b : Bool} (h : ∀ xs, d ≠ .list xs) : goB rs d b = false := by
  cases d <;> first | rfl | exact absurd rfl (h _)
theorem itB_b (rs : List Rd) (b : Bool) (x : PyData) : itB rs (.tuple [.bool b, x]) = (goB rs x b && match x with | .list xs => (tsD (xs.map toEn) b).all (opn rs) | _ => true) := by
  cases x <;> simp [itB, goB]
theorem e_item {c : Nat} {rs : List Rd} {k n : Nat} (d : PyData) (h : Sm k n d) (hk : k ≤ 50) (hn : n ≤ 10000) : m_is_item [netD c rs, d] = .ok ([], .bool (itB rs d)) := by
  cases d with
  | tuple xs =>
    match xs, h with
    | [], h => simp [m_is_item, isB, itB]
    | [a], h => simp [m_is_item, isB, itB]
    | a :: b :: e :: r, h =>
      have q : ¬ ((r.length : Int) + 1 + 1 + 1 = 2) := by omega
      simp [m_is_item, isB, itB, q]
    | [a, x], h =>
      have hx := sm_in_t h (x := x) (by simp)
      cases a with
      | bool b =>
        have e1 := e_rgoing (c := c) (rs := rs) x b (hx.shaped (by omega)) fun xs hx' => by subst hx'; exact Nat.le_trans (sm_llen hx) hn
        rw [itB_b]
        cases hg : goB rs x b with
        | false =>
          rw [hg] at e1
          simp [m_is_item, isB, e1]
        | true =>
          rw [hg] at e1
          obtain ⟨es, rfl, q1, q2, q3⟩ := goB_list hg
          have ql : es.length ≤ 10000 := by have := sm_llen hx; simp at this; omega
          have e2 := e_shut_in (c := c) (back := b) q1 q2 ql
          have e3 := shut_nil rs (tsD es b)
          have hid : (es.map ptD).map toEn = es := by
            rw [List.map_map]
            have : (toEn ∘ ptD) = id := by funext e; simp [toEn_pt]
            rw [this, List.map_id]
          show m_is_item [netD c rs, .tuple [.bool b, .list (es.map ptD)]] = .ok ([], .bool (true && (tsD ((es.map ptD).map toEn) b).all (opn rs)))
          rw [hid]
          simp [m_is_item, isB, e1, e2, e3, sl]
      | dict kvs => exact absurd (sm_in_t h (x := .dict kvs) (by simp)).1 (by simp [tame])
      | _ => simp [m_is_item, isB, itB]
  | dict _ => exact absurd h.1 (by simp [tame])
  | _ => simp [m_is_item, isB, itB]
def rdI (d : PyData) : List Nat := match d with
  | .tuple [_, .list xs] => xs.map fun e => (toEn e).1
  | _ => []
def rdsD (is : List PyData) : List Nat := is.flatMap rdI
def onceB (L : Nat) (D : List Nat) : Bool := decide (D.length = L) && (List.range L).all fun k => decide (k ∈ D)
def planB (rs : List Rd) (d : PyData) : Bool := match d with
  | .list is => is.all (itB rs) && onceB rs.length (rdsD is)
  | _ => false
/-- an item that is one -/
theorem itB_it {rs : List Rd} {d : PyData} (h : itB rs d = true) : ∃ it : Bool × List En, d = itD it ∧ it.2 ≠ [] ∧ (∀ e ∈ it.2, enOk rs e) := by
  unfold itB at h
  split at h
  · rename_i b xs
    obtain ⟨h1, h2⟩ := Bool.and_eq_true_iff.mp h
    obtain ⟨es, q0, q1, q2, q3⟩ := goB_list h1
    cases q0
    exact ⟨(b, es), rfl, q1, q2⟩
  · cases h
theorem rdsD_it (its : List (Bool × List En)) : rdsD (its.map itD) = its.flatMap fun it => it.2.map Prod.fst := by
  unfold rdsD
  rw [List.flatMap_map]
  congr 1
  funext it
  simp [rdI, itD, toEn_pt]
theorem its_of {rs : List Rd} : ∀ {is : List PyData}, is.all (itB rs) = true → ∃ its : List (Bool × List En), is = its.map itD ∧ ∀ it ∈ its, it.2 ≠ [] ∧ (∀ e ∈ it.2, enOk rs e)
  | [], _ => ⟨[], rfl, by simp⟩
  | d :: r, h => by
    simp only [List.all_cons, Bool.and_eq_true] at h
    obtain ⟨it, rfl, h1, h2⟩ := itB_it h.1
    obtain ⟨its, rfl, h3⟩ := its_of h.2
    exact ⟨it :: its, rfl, fun u hu => by
      rcases List.mem_cons.mp hu with rfl | hu
      · exact ⟨h1, h2⟩
      · exact h3 u hu⟩
end KHead

end T_In_k61
section T_Io_k61
set_option maxRecDepth 100000
namespace KHead
open PySem PySem.Spec PyProof.Rows L2 Kd
/-! ### comprehensions of two fors -/
theorem lc2_map {g : GM} {it1 : IM} {g1 : GM} {m : EM} {vs vs1 : List Nat} {ρw : Ev} (G : PyData → Ev) (F : PyData → List PyData) (G1 : PyData → PyData → Ev) (f : PyData → PyData → PyData) :
    ∀ (ds : List PyData) (ρ : Ev), wipeE ρ vs = ρw → (∀ d ∈ ds, g d ρw = some (G d) ∧ it1 (G d) = .ok (G d, F d) ∧ (∀ ρ', wipeE ρ' vs1 = wipeE (G d) vs1 → wipeE ρ' vs = ρw) ∧ ∀ e ∈ F d, g1 e (wipeE (G d) vs1) = some (G1 d e) ∧ m (G1 d e) = .ok (G1 d e, f d e) ∧ wipeE (G1 d e) vs1 = wipeE (G d) vs1) →
      ∃ ρ', lcL2 g tTrue it1 g1 tTrue m vs vs1 ds ρ = .ok (ρ', ds.flatMap fun d => (F d).map (f d)) ∧ wipeE ρ' vs = ρw
  | [], ρ, hw, _ => ⟨ρ, rfl, hw⟩
  | d :: ds, ρ, hw, h => by
    obtain ⟨h1, h2, h3, h4⟩ := h d List.mem_cons_self
    obtain ⟨ρ1, q1, q2⟩ := lc_map (ρw := wipeE (G d) vs1) (G1 d) (f d) (F d) (G d) rfl h4
    obtain ⟨ρ2, q3, q4⟩ := lc2_map G F G1 f ds ρ1 (h3 ρ1 q2) fun d' hd => h d' (List.mem_cons_of_mem _ hd)
    refine ⟨ρ2, ?_, q4⟩
    rw [lc2_cons, hw, h1]
    simp only [opt_some, tTrue_, bind_ok', if_true, h2, q1, q3, List.flatMap_cons]
theorem mLc2_map {it it1 : IM} {m : EM} {i j : Nat} {ρ : Ev} {ds : List PyData} (F : PyData → List PyData) (f : PyData → PyData → PyData) (hij : i ≠ j) (hit : it ρ = .ok (ρ, ds)) (hl : (ds.flatMap fun d => (F d).map (f d)).length ≤ sizeLine)
    (hm : ∀ d ∈ ds, it1 ((ρ.set j none).set i (some d)) = .ok ((ρ.set j none).set i (some d), F d) ∧ ∀ e ∈ F d, m (((ρ.set j none).set i (some d)).set j (some e)) = .ok (((ρ.set j none).set i (some d)).set j (some e), f d e)) :
    mLc2 [] it (gN i) tTrue it1 (gN j) tTrue m [i, j] [j] ρ = .ok (ρ, .list (ds.flatMap fun d => (F d).map (f d))) := by
  obtain ⟨ρ', q1, q2⟩ := lc2_map (g := gN i) (it1 := it1) (g1 := gN j) (m := m) (vs := [i, j]) (vs1 := [j]) (ρw := wipeE ρ [i, j]) (fun d => (ρ.set j none).set i (some d)) F (fun d e => ((ρ.set j none).set i (some d)).set j (some e)) f ds ρ rfl fun d hd => by
    obtain ⟨h1, h2⟩ := hm d hd
    refine ⟨by simp, h1, ?_, fun e he => ⟨by simp, h2 e he, by simp⟩⟩
    intro ρ' h
    simp only [wipe_cons, wipe_nil] at h ⊢
    rw [h, List.set_comm _ _ (Ne.symm hij)]
    simp
    rw [List.set_comm _ _ hij]
    simp
  show (it ρ).bind _ = _
  rw [hit]
  simp only [bind_ok', allSet_nil, opt_some, q1, quiet_ok', fLst_, decide_eq_true hl, Kd.iff_true]
  rw [keepV q2]
/-! ### plans judged -/
theorem once_perm : ∀ (L : Nat) (D : List Nat), D.length = L → (∀ k, k < L → k ∈ D) → D.Perm (List.range L)
  | 0, D, h, _ => by
    have : D = [] := List.eq_nil_of_length_eq_zero h
    subst this
    exact List.Perm.refl _
  | L + 1, D, h, hm => by
    have hL := hm L (Nat.lt_succ_self L)
    have ih := once_perm L (D.erase L) (by rw [List.length_erase_of_mem hL, h]; rfl) fun k hk => (List.mem_erase_of_ne (by omega)).mpr (hm k (by omega))
    rw [List.range_succ]
    exact (List.perm_cons_erase hL).trans ((ih.cons L).trans (List.perm_append_singleton L (List.range L)).symm)
theorem once_iff (L : Nat) (D : List Nat) : onceB L D = true ↔ D.Perm (List.range L) := by
  unfold onceB
  simp only [Bool.and_eq_true, decide_eq_true_eq, List.all_eq_true, List.mem_range]
  constructor
  · rintro ⟨h1, h2⟩
    exact once_perm L D h1 h2
  · intro h
    exact ⟨by rw [h.length_eq]; simp, fun k hk => h.mem_iff.mpr (List.mem_range.mpr hk)⟩
theorem eqvAll_ints : ∀ a b : List Int, PyData.eqvAll (a.map .int) (b.map .int) = decide (a = b)
  | [], [] => by simp [PyData.eqvAll]
  | [], _ :: _ => by simp [PyData.eqvAll]
  | _ :: _, [] => by simp [PyData.eqvAll]
  | x :: a, y :: b => by
    simp only [List.map_cons, PyData.eqvAll, PyData.eqv, eqvAll_ints a b, List.cons.injEq, Bool.decide_and]
    congr 1
theorem sh_ints (a : List Int) : SeqAt.shaped (.list (a.map .int)) = true := by
  have h1 : PyData.canLayAll0 (a.map .int) = true := by
    induction a with
    | nil => rfl
    | cons x r ih => simp [PyData.canLayAll0, ih, PyData.canLay0]
  have h2 : PyData.depthAll (a.map .int) = 0 := by
    clear h1
    induction a with
    | nil => rfl
    | cons x r ih => simp [ih]
  exact shaped_of (by simpa only [PyData.canLay0] using h1) (by rw [dep_l]; omega)
theorem fEq_ints (a b : List Int) : fEq (.list (a.map .int)) (.list (b.map .int)) = some (.bool (decide (a = b))) := by
  show iff' (sh2 _ _) _ = _
  rw [sh2, sh_ints, sh_ints]
  simp only [Bool.and_self, Kd.iff_true, PyData.eqv, eqvAll_ints]
theorem srt_once (L : Nat) (D : List Nat) : decide (srtI (D.map fun r : Nat => (r : Int)) = (List.range L).map fun r : Nat => (r : Int)) = onceB L D := by
  have inj : ∀ {a b : List Nat}, (a.map fun r : Nat => (r : Int)).Perm (b.map fun r : Nat => (r : Int)) → a.Perm b := fun {a b} h => by
    have := h.map Int.toNat
    simpa [List.map_map, Function.comp_def] using this
  have srt : ((List.range L).map fun r : Nat => (r : Int)).Pairwise (· ≤ ·) := by
    refine List.pairwise_map.mpr ?_
    exact (List.pairwise_lt_range).imp fun h => by omega
  cases h : onceB L D with
  | true =>
    have hp := (once_iff L D).mp h
    refine decide_eq_true ?_
    refine List.Perm.eq_of_pairwise (le := (· ≤ ·)) (fun a b _ _ h1 h2 => Int.le_antisymm h1 h2) (srtI_srt _) srt ?_
    exact (srtI_perm _).trans (hp.map _)
  | false =>
    refine decide_eq_false fun e => ?_
    have : onceB L D = true := (once_iff L D).mpr (inj ((srtI_perm _).symm.trans (by rw [e])))
    rw [h] at this; cases this
theorem mLc2_mapV {own : List Nat} {it it1 : IM} {g g1 : GM} {m : EM} {vs vs1 : List Nat} {ρ ρ1 : Ev} {ds : List PyData} (G : PyData → Ev) (F : PyData → List PyData) (G1 : PyData → PyData → Ev) (f : PyData → PyData → PyData) (hit : it ρ = .ok (ρ1, ds)) (ho : allSet own ρ1 = some ()) (hl : (ds.flatMap fun d => (F d).map (f d)).length ≤ sizeLine)
    (hm : ∀ d ∈ ds, g d (wipeE ρ1 vs) = some (G d) ∧ it1 (G d) = .ok (G d, F d) ∧ (∀ ρ', wipeE ρ' vs1 = wipeE (G d) vs1 → wipeE ρ' vs = wipeE ρ1 vs) ∧ ∀ e ∈ F d, g1 e (wipeE (G d) vs1) = some (G1 d e) ∧ m (G1 d e) = .ok (G1 d e, f d e) ∧ wipeE (G1 d e) vs1 = wipeE (G d) vs1) :
    mLc2 own it g tTrue it1 g1 tTrue m vs vs1 ρ = .ok (ρ1, .list (ds.flatMap fun d => (F d).map (f d))) := by
  obtain ⟨ρ', q1, q2⟩ := lc2_map (g := g) (it1 := it1) (g1 := g1) (m := m) (vs := vs) (vs1 := vs1) (ρw := wipeE ρ1 vs) G F G1 f ds ρ1 rfl hm
  show (it ρ).bind _ = _
  rw [hit]
  simp only [bind_ok', ho, opt_some, q1, quiet_ok', fLst_, decide_eq_true hl, Kd.iff_true]
  rw [keepV q2]
theorem rdI_len (d : PyData) : (rdI d).length ≤ d.bulk + 1 := by
  unfold rdI
  split
  · rename_i a xs
    have := bulkAll_len xs
    simp
    omega
  · simp
theorem rdsD_len : ∀ is : List PyData, (rdsD is).length ≤ PyData.bulkAll is
  | [] => Nat.le_refl _
  | d :: r => by
    have ih := rdsD_len r
    have h1 := rdI_len d
    have e : rdsD (d :: r) = rdI d ++ rdsD r := by simp [rdsD]
    rw [e, List.length_append, bulAll_c]
    omega
theorem e_rplan {c : Nat} {rs : List Rd} {k n : Nat} (d : PyData) (h : Sm k n d) (hk : k ≤ 50) (hn : n ≤ 10000) (hl : rs.length ≤ 20) : m_is_right_plan [netD c rs, d] = .ok ([], .bool (planB rs d)) := by
  have hI := fun x (hx : Sm k n x) => e_item (c := c) (rs := rs) x hx hk hn
  have h1 : fIx (netD c rs) (.int 1) = some (.tuple (rs.map rdD)) := by simp [netD]
  generalize netD c rs = N at *
  cases d with
  | list is =>
    have hil := Nat.le_trans (sm_llen h) hn
    have l1 := mLc_map (it := iOf asQ (mV 1)) (m := mCall m_is_item [.e (mV 0), .e (mV 2)] []) (i := 2) (ρ := [some N, some (.list is), none, none, none, none]) (ds := is) (fun d => .bool (itB rs d)) (by simp) (by simp) (by rw [sl]; omega) fun d hd => by
      simp [hI d (sm_in_l h hd)]
    cases hA : is.all (itB rs) with
    | false => simp [m_is_right_plan, isB, l1, -mLc_, hA, planB]
    | true =>
      obtain ⟨its, rfl, hits⟩ := its_of hA
      obtain ⟨D, hD⟩ : ∃ D, D = rdsD (its.map itD) := ⟨_, rfl⟩
      have hpl : planB rs (.list (its.map itD)) = onceB rs.length D := by
        show ((its.map itD).all (itB rs) && onceB rs.length (rdsD (its.map itD))) = _
        rw [hA, ← hD]; rfl
      rw [hpl]
      have e2 : (its.map itD).flatMap (fun d => (match d with | .tuple [_, .list xs] => xs | _ => [] : List PyData).map fun e => PyData.int ((toEn e).1 : Int)) = (D.map fun r : Nat => (r : Int)).map PyData.int := by
        rw [hD, rdsD_it, List.flatMap_map]
        simp [List.map_flatMap, itD]
        congr 1
      have hDl : D.length ≤ 10000 := by
        rw [hD]
        exact Nat.le_trans (rdsD_len _) (Nat.le_trans h.2.2 hn)
      have l2 := mLc2_mapV (own := []) (it := iOf asQ (mV 1)) (g := gT [(gN 3), (gN 4)]) (it1 := iOf asQ (mV 4)) (g1 := gN 5) (m := m2 fIx (mV 5) (mC (.int 0))) (vs := [3, 4, 5]) (vs1 := [5]) (ρ := [some N, some (.list (its.map itD)), none, none, none, none]) (ρ1 := [some N, some (.list (its.map itD)), none, none, none, none]) (ds := its.map itD)
        (fun d => match d with | .tuple [a, b] => [some N, some (.list (its.map itD)), none, some a, some b, none] | _ => []) (fun d => match d with | .tuple [_, .list xs] => xs | _ => []) (fun d e => match d with | .tuple [a, b] => [some N, some (.list (its.map itD)), none, some a, some b, some e] | _ => []) (fun _ e => .int ((toEn e).1 : Int)) (by simp) (by simp) (by rw [e2, List.length_map, List.length_map, sl]; omega) (fun d hd => by
          obtain ⟨it, hit, rfl⟩ := List.mem_map.mp hd
          refine ⟨by simp [itD], by simp [itD], fun ρ' hw => ?_, fun e he => ?_⟩
          · simp only [wipe_cons, wipe_nil] at hw ⊢
            rw [hw]
            simp [itD]
          · simp [itD] at he
            obtain ⟨a, b, _, rfl⟩ := he
            refine ⟨by simp [itD], by simp [itD, ptD, toEn], by simp [itD]⟩)
      rw [e2] at l2
      have e3 : numL 0 rs.length = ((List.range rs.length).map fun r : Nat => (r : Int)).map .int := by rw [numL_eq, List.map_map]; rfl
      have e4 := fEq_ints (srtI (D.map fun r : Nat => (r : Int))) ((List.range rs.length).map fun r : Nat => (r : Int))
      rw [srt_once, ← e3] at e4
      have c1 : 0 ≤ (rs.length : Int) ∧ (rs.length : Int) ≤ 16777216 := by omega
      have l3 : fLrg (.int (rs.length : Int)) = some (.list (numL 0 rs.length)) := by simp [c1]
      have l4 : fSrtI [.list ((D.map fun r : Nat => (r : Int)).map .int)] = some (.list ((srtI (D.map fun r : Nat => (r : Int))).map .int)) := by rw [fSrtI_l, intsD_map]; rfl
      simp [m_is_right_plan, isB, l1, -mLc_, hA, l2, h1, -fLrg_i, l3, -fSrtI_l, l4, e4, -List.map_map]
  | dict _ => exact absurd h.1 (by simp [tame])
  | _ => simp [m_is_right_plan, isB, planB]
end KHead

end T_Io_k61
section T_Ip_k61
set_option maxRecDepth 100000
namespace KHead
open PySem PySem.Spec PyProof.Rows L2 Kd
theorem e_lopen {c : Nat} {rs : List Rd} {t : En × En} (h1 : enOk rs t.1) (h2 : enOk rs t.2) : m__law_open [netD c rs, tnD t] = .ok ([], .bool (opn rs t)) := by
  have e1 := e_lkind (c := c) h1
  have e2 := e_lkind (c := c) h2
  by_cases h : knd rs t.1 = knd rs t.2
  · simp [m__law_open, tnD, e1, e2, opn, h]
  · have h' : ¬ ((knd rs t.1 : Int) = (knd rs t.2 : Int)) := by omega
    simp [m__law_open, tnD, e1, e2, opn, h, h']
theorem e_lshut {c : Nat} {rs : List Rd} {es : List En} {back : Bool} (h0 : es ≠ []) (h : ∀ e ∈ es, enOk rs e) (hl : es.length ≤ 10000) : m__law_shut [netD c rs, .list (es.map ptD), .bool back] = .ok ([], .list (((tsD es back).filter fun t => !opn rs t).map tnD)) := by
  have e2 := e_lturns (back := back) h0 (fun e he => (h e he).2) hl
  have hok := tsD_ok (back := back) (P := enOk rs) h0 h fun e he => farE_ok he
  have hlen : ((tsD es back).map tnD).length ≤ sizeLine := by
    have := tsD_len (back := back) h0
    rw [sl, List.length_map]; omega
  have hm := mLc_filter (it := iOf asQ (mCall m__law_turns [.e (mV 1), .e (mV 2)] [])) (t := tNot (tE (mCall m__law_open [.e (mV 0), .e (mV 3)] []))) (m := mV 3) (i := 3) (ρ := [some (netD c rs), some (.list (es.map ptD)), some (.bool back), none]) (ds := (tsD es back).map tnD)
    (fun d => !opn rs (toTn d)) (fun d => d) (by simp) (by simp [e2]) hlen (fun d hd => by
      obtain ⟨t, ht, rfl⟩ := List.mem_map.mp hd
      obtain ⟨o1, o2⟩ := hok t ht
      have e3 := e_lopen (c := c) o1 o2
      simp [e3, toTn_tn]) fun d hd _ => by simp
  rw [List.map_id', List.filter_map] at hm
  have hf : (fun d => !opn rs (toTn d)) ∘ tnD = fun t => !opn rs t := by funext t; simp [toTn_tn]
  rw [hf] at hm
  simp [m__law_shut, hm, -mLc_]
/-! ### plans judged by the law -/
def lbody : SM := (sSeq (sIf (tOr (tNot (tE (m1 (fIsi "tuple") (mV 2)))) (tOr (tB (m2 fNe (mN fLen [(mV 2)]) (mC (.int 2)))) (tNot (tE (m1 (fIsi "bool") (m2 fIx (mV 2) (mC (.int 0)))))))) (sRt (mC (.bool false))) sNx)
    (sIf (tOr (tNot (tE (mCall m__law_is_going [.e (mV 0), .e (m2 fIx (mV 2) (mC (.int 1))), .e (m2 fIx (mV 2) (mC (.int 0)))] []))) (tB (m2 fNe (mCall m__law_shut [.e (mV 0), .e (m2 fIx (mV 2) (mC (.int 1))), .e (m2 fIx (mV 2) (mC (.int 0)))] []) (mN fLst [])))) (sRt (mC (.bool false))) sNx))
theorem lplan_eq : m__law_is_plan = fnM 3 [] false (sSeq (sIf (tNot (tE (m1 (fIsi "list") (mV 1)))) (sRt (mC (.bool false))) sNx) (sSeq (sFor (iOf asQ (mV 1)) (gN 2) lbody) (sRt (mCall m__law_all_once [.e (mV 0), .e (mCall m__law_roads [.e (mV 1)] [])] [])))) := rfl
theorem e_lbody {c : Nat} {rs : List Rd} {k n : Nat} (d L : PyData) (h : Sm k n d) (hk : k ≤ 50) (hn : n ≤ 10000) : lbody [some (netD c rs), some L, some d] = .ok (if itB rs d then .nx [some (netD c rs), some L, some d] else .rt [some (netD c rs), some L, some d] (.bool false)) := by
  cases d with
  | tuple xs =>
    match xs, h with
    | [], h => simp [lbody, isB, itB]
    | [a], h => simp [lbody, isB, itB]
    | a :: b :: e :: r, h =>
      have q : ¬ ((r.length : Int) + 1 + 1 + 1 = 2) := by omega
      simp [lbody, isB, itB, q]
    | [a, x], h =>
      have hx := sm_in_t h (x := x) (by simp)
      cases a with
      | bool b =>
        have e1 := e_lgoing (c := c) (rs := rs) x b hx.lay (Nat.le_trans hx.2.1 (by omega)) fun xs hx' => by subst hx'; exact Nat.le_trans (sm_llen hx) hn
        rw [itB_b]
        cases hg : goB rs x b with
        | false =>
          rw [hg] at e1
          simp [lbody, isB, e1]
        | true =>
          rw [hg] at e1
          obtain ⟨es, rfl, q1, q2, q3⟩ := goB_list hg
          have ql : es.length ≤ 10000 := by have := sm_llen hx; simp at this; omega
          have e2 := e_lshut (c := c) (back := b) q1 q2 ql
          have e3 := shut_nil' rs (tsD es b)
          have hid : (es.map ptD).map toEn = es := by
            rw [List.map_map]
            have : (toEn ∘ ptD) = id := by funext e; simp [toEn_pt]
            rw [this, List.map_id]
          show lbody [some (netD c rs), some L, some (.tuple [.bool b, .list (es.map ptD)])] = .ok (if (true && (tsD ((es.map ptD).map toEn) b).all (opn rs)) = true then _ else _)
          rw [hid]
          cases hq : (tsD es b).all (opn rs) with
          | true =>
            rw [hq] at e3
            simp [lbody, isB, e1, e2, e3, sl]
          | false =>
            rw [hq] at e3
            simp [lbody, isB, e1, e2, e3, sl]
      | dict kvs => exact absurd (sm_in_t h (x := .dict kvs) (by simp)).1 (by simp [tame])
      | _ => simp [lbody, isB, itB]
  | dict _ => exact absurd h.1 (by simp [tame])
  | _ => simp [lbody, isB, itB]
theorem e_lroads (its : List (Bool × List En)) (hl : (rdsD (its.map itD)).length ≤ 10000) : m__law_roads [.list (its.map itD)] = .ok ([], .list ((rdsD (its.map itD)).map nI)) := by
  suffices hW : W (m__law_roads [.list (its.map itD)]) fun y => y = ([], .list ((rdsD (its.map itD)).map nI)) by
    obtain ⟨y, e, rfl⟩ := hW
    exact e
  refine W_fn (W_seq ?_)
  simp [-sSeq_, sl]
  refine W_seq ?_
  refine W_for' (fun r ρ => ∃ (dn rest : List (Bool × List En)) (a2 a3 : Option PyData), its = dn ++ rest ∧ r = rest.map itD ∧ ρ = [some (.list (its.map itD)), some (.list ((rdsD (dn.map itD)).map nI)), a2, a3, none]) (ρ1 := [some (.list (its.map itD)), some (.list []), none, none, none]) (ds := its.map itD) (by simp) ⟨[], its, none, none, rfl, rfl, rfl⟩ ?_ ?_
  · rintro d r ρ ⟨dn, rest, a2, a3, hd, hr, rfl⟩
    cases rest with
    | nil => cases hr
    | cons it rest =>
      simp only [List.map_cons, List.cons.injEq] at hr
      obtain ⟨rfl, rfl⟩ := hr
      refine ⟨[some (.list (its.map itD)), some (.list ((rdsD (dn.map itD)).map nI)), some (.bool it.1), some (.list (it.2.map ptD)), none], by simp [itD], ?_⟩
      have e1 : rdsD ((dn ++ it :: rest).map itD) = rdsD (dn.map itD) ++ (it.2.map Prod.fst ++ rdsD (rest.map itD)) := by simp [rdsD, rdI, itD, toEn_pt]
      have hlen : (rdsD (dn.map itD)).length + it.2.length ≤ 10000 := by
        rw [hd, e1] at hl
        simp at hl
        omega
      have l1 := mLc_map (it := iOf asQ (mV 3)) (m := m2 fIx (mV 4) (mC (.int 0))) (i := 4) (ρ := [some (.list (its.map itD)), some (.list ((rdsD (dn.map itD)).map nI)), some (.bool it.1), some (.list (it.2.map ptD)), none]) (ds := it.2.map ptD) (fun d => nI (toEn d).1) (by simp) (by simp) (by rw [List.length_map, sl]; omega) fun d hd => by
        obtain ⟨e, he, rfl⟩ := List.mem_map.mp hd
        simp [ptD, toEn, nI]
      have e2 : (it.2.map ptD).map (fun d => nI (toEn d).1) = (it.2.map Prod.fst).map nI := by
        rw [List.map_map, List.map_map]
        exact List.map_congr_left fun e _ => by simp [toEn_pt]
      rw [e2] at l1
      have c1 : (rdsD (dn.map itD)).length + it.2.length ≤ 16777216 := by omega
      simp [-mLc_, l1, sl, c1]
      refine ⟨dn ++ [it], rest, by rw [hd]; simp, rfl, ?_⟩
      simp [rdsD, rdI, itD, toEn_pt]
  · rintro ρ ⟨dn, rest, a2, a3, hd, hr, rfl⟩
    have hr : rest = [] := by simpa using hr.symm
    subst hr
    rw [List.append_nil] at hd
    subst hd
    simp
theorem e_once {c : Nat} {rs : List Rd} (D : List Nat) (hl : rs.length ≤ 20) : m__law_all_once [netD c rs, .list (D.map nI)] = .ok ([], .bool (onceB rs.length D)) := by
  have h1 : fIx (netD c rs) (.int 1) = some (.tuple (rs.map rdD)) := by simp [netD]
  generalize netD c rs = N at *
  have l1 := mLc_filter (it := iNg rng1 [(mN fLen [(m2 fIx (mV 0) (mC (.int 1)))])]) (t := tB (m2 fNin (mV 2) (mV 1))) (m := mV 2) (i := 2) (ρ := [some N, some (.list (D.map nI)), none]) (ds := numL 0 rs.length) (fun d => match d with | .int k => !decide (k.toNat ∈ D) | _ => false) (fun d => d) (by simp) (it_rng (by simp [h1]) (by rw [sl]; omega)) (by rw [numL_len', sl]; omega) (fun d hd => by
    rw [numL_eq] at hd
    obtain ⟨r, hr, rfl⟩ := List.mem_map.mp hd
    simp [fNin_nI]) fun d hd _ => by simp
  rw [List.map_id'] at l1
  have e2 : fEq (.list ((numL 0 rs.length).filter fun d => match d with | .int k => !decide (k.toNat ∈ D) | _ => false)) (.list []) = some (.bool ((List.range rs.length).all fun k => decide (k ∈ D))) := by
    rw [fEq_nil]
    · rw [numL_eq, List.filter_map, List.isEmpty_map]
      have : ((fun d => match d with | .int k => !decide (k.toNat ∈ D) | _ => false) ∘ fun i : Nat => PyData.int i) = fun k : Nat => !decide (k ∈ D) := by funext k; simp
      rw [this, filt_nil (fun k : Nat => decide (k ∈ D))]
    · refine shaped_all fun x hx => ?_
      obtain ⟨hx, _⟩ := List.mem_filter.mp hx
      rw [numL_eq] at hx
      obtain ⟨k, _, rfl⟩ := List.mem_map.mp hx
      exact ⟨rfl, by simp⟩
  generalize ((numL 0 rs.length).filter fun d => match d with | .int k => !decide (k.toNat ∈ D) | _ => false) = zs at l1 e2
  unfold onceB
  by_cases hq : D.length = rs.length
  · simp [m__law_all_once, h1, hq, l1, -mLc_, e2, sl]
  · have hq' : ¬ ((D.length : Int) = (rs.length : Int)) := by omega
    simp [m__law_all_once, h1, hq, hq']
theorem e_lplan {c : Nat} {rs : List Rd} {k n : Nat} (d : PyData) (h : Sm k n d) (hk : k ≤ 50) (hn : n ≤ 10000) (hl : rs.length ≤ 20) : m__law_is_plan [netD c rs, d] = .ok ([], .bool (planB rs d)) := by
  suffices hW : W (m__law_is_plan [netD c rs, d]) fun y => y = ([], .bool (planB rs d)) by
    obtain ⟨y, e, rfl⟩ := hW
    exact e
  cases d with
  | list is =>
    rw [lplan_eq]
    refine W_fn (W_seq ?_)
    simp [-sSeq_, isB]
    refine W_seq ?_
    refine W_for (fun r ρ => ∃ (pre : List PyData) (a2 : Option PyData), is = pre ++ r ∧ pre.all (itB rs) = true ∧ ρ = [some (netD c rs), some (.list is), a2]) (ρ1 := [some (netD c rs), some (.list is), none]) (ds := is) (by simp) ⟨[], none, rfl, rfl, rfl⟩ ?_ ?_
    · rintro d r ρ ⟨pre, a2, hp, ha, rfl⟩
      refine ⟨_, rfl, ?_⟩
      have hd : Sm k n d := sm_in_l h (by rw [hp]; simp)
      have e1 := e_lbody (c := c) (rs := rs) d (.list is) hd hk hn
      show W (lbody [some (netD c rs), some (.list is), some d]) _
      rw [e1]
      cases hi : itB rs d with
      | true =>
        simp
        refine ⟨pre ++ [d], by rw [hp]; simp, ?_⟩
        intro x hx
        rcases List.mem_append.mp hx with hx | hx
        · exact List.all_eq_true.mp ha x hx
        · simp at hx; subst hx; exact hi
      | false =>
        simp
        show (is.all (itB rs) && onceB rs.length (rdsD is)) = false
        have : is.all (itB rs) = false := by rw [hp, List.all_append, List.all_cons, hi]; simp
        rw [this]; rfl
    · rintro ρ ⟨pre, a2, hp, ha, rfl⟩
      rw [List.append_nil] at hp
      subst hp
      obtain ⟨its, rfl, hits⟩ := its_of ha
      have e2 := e_lroads its (Nat.le_trans (rdsD_len _) (Nat.le_trans h.2.2 hn))
      have e3 := e_once (c := c) (rs := rs) (rdsD (its.map itD)) hl
      simp [e2, e3]
      show onceB _ _ = ((its.map itD).all (itB rs) && onceB rs.length (rdsD (its.map itD)))
      rw [ha]; rfl
  | dict _ => exact absurd h.1 (by simp [tame])
  | _ => simp [lplan_eq, isB, planB]
end KHead

end T_Ip_k61
section T_Iq_k61
set_option maxRecDepth 100000
namespace KHead
open PySem PySem.Spec PyProof.Rows L2 Kd
/-! ### a plan's items, in other writings -/
theorem vg_item {rs : List Rd} {T : List (En × En)} (h : Tab rs T) {b : Bool} {g : List En} (v : VG (jnT T) b g) (he : ∀ x ∈ g, enOk rs x) : itB rs (itD (b, g)) = true := by
  have hid : (g.map ptD).map toEn = g := by
    rw [List.map_map]
    have : (toEn ∘ ptD) = id := by funext e; simp [toEn_pt]
    rw [this, List.map_id]
  have ht : ∀ t ∈ tsD g b, turnB rs t = true ∧ opn rs t = true := fun t ht => h.turn (v.jn t ht)
  show (goB rs (.list (g.map ptD)) b && (tsD ((g.map ptD).map toEn) b).all (opn rs)) = true
  rw [hid]
  simp only [goB, Bool.and_eq_true, hid]
  refine ⟨⟨⟨by simpa using v.ne, List.all_eq_true.mpr fun x hx => ?_⟩, List.all_eq_true.mpr fun t hm => (ht t hm).1⟩, List.all_eq_true.mpr fun t hm => (ht t hm).2⟩
  obtain ⟨e, hm, rfl⟩ := List.mem_map.mp hx
  rw [endB_pt]
  have := he e hm
  simp [this.1, this.2]
theorem plan_ok {rs : List Rd} {T : List (En × En)} (h : Tab rs T) {its : List (Bool × List En)} (hv : ∀ it ∈ its, VG (jnT T) it.1 it.2 ∧ ∀ x ∈ it.2, enOk rs x) (hp : (its.flatMap fun it => it.2.map Prod.fst).Perm (List.range rs.length)) : planB rs (.list (its.map itD)) = true := by
  show ((its.map itD).all (itB rs) && onceB rs.length (rdsD (its.map itD))) = true
  rw [rdsD_it, (once_iff _ _).mpr hp, Bool.and_true, List.all_eq_true]
  intro d hd
  obtain ⟨it, hi, rfl⟩ := List.mem_map.mp hd
  exact vg_item h (hv it hi).1 (hv it hi).2
theorem w_written {rs : List Rd} {J : En → Option En} (hJ : Jn J) (p : Int) {b : Bool} {g : List En} (v : VG J b g) (hl : g.length ≤ 20) : ∃ (q : Int) (g' : List En), m__law_written [.list [.int p], itD (b, g)] = .ok ([.list [.int q]], itD (b, g')) ∧ VG J b g' ∧ (g'.map Prod.fst).Perm (g.map Prod.fst) := by
  suffices hW : W (m__law_written [.list [.int p], itD (b, g)]) fun y => ∃ (q : Int) (g' : List En), y = ([.list [.int q]], itD (b, g')) ∧ VG J b g' ∧ (g'.map Prod.fst).Perm (g.map Prod.fst) by
    obtain ⟨y, e, q, g', rfl, h⟩ := hW
    exact ⟨q, g', e, h⟩
  have hg0 := List.length_pos_iff.mpr v.ne
  refine W_fn (W_seq ?_)
  simp [-sSeq_, itD]
  refine W_seq ?_
  obtain ⟨q1, k1, e1, h1⟩ := w_takeI p 2 (by decide) (by decide)
  refine W.mono (P := fun fl => ∃ (g1 : List En), VG J b g1 ∧ (g1.map Prod.fst).Perm (g.map Prod.fst) ∧ g1.length = g.length ∧ fl = .nx [some (.list [.int q1]), some (.tuple [.bool b, .list (g.map ptD)]), some (.bool b), some (.list (g1.map ptD)), none, none]) ?_ ?_
  · by_cases hk : k1 = 0
    · have hm := mLc_mapV (own := [0]) (it := iOf asQ (m1 fRevL (mV 3))) (g := gN 4) (m := mCall m__law_far [.e (mV 4)] []) (vs := [4]) (ρ := [some (.list [.int q1]), some (.tuple [.bool b, .list (g.map ptD)]), some (.bool b), some (.list (g.map ptD)), none, none]) (ds := (g.map ptD).reverse) (fun d => [some (.list [.int q1]), some (.tuple [.bool b, .list (g.map ptD)]), some (.bool b), some (.list (g.map ptD)), some d, none]) (fun d => ptD (farE (toEn d))) (by simp; rfl) (by simp [allSet]) (by rw [List.length_reverse, List.length_map, sl]; omega) fun d hd => by
        obtain ⟨e, he, rfl⟩ := List.mem_map.mp (List.mem_reverse.mp hd)
        exact ⟨rfl, by simp [e_lfar (v.vl e he), toEn_pt], by simp⟩
      have e2 : ((g.map ptD).reverse).map (fun d => ptD (farE (toEn d))) = (g.reverse.map farE).map ptD := by
        rw [← List.map_reverse, List.map_map, List.map_map]
        exact List.map_congr_left fun e _ => by simp [toEn_pt]
      rw [e2] at hm
      subst hk
      simp [e1, hm, -mLc_, -List.map_map, -List.map_reverse]
      exact ⟨g.reverse.map farE, v.rev hJ, rev_roads g, by simp, rfl⟩
    · have hk' : ¬ ((k1 : Int) = 0) := by omega
      simp [e1, hk]
      exact ⟨g, v, List.Perm.refl _, rfl, rfl⟩
  rintro _ ⟨g1, v1, p1, l1, rfl⟩
  rw [KS_nx]
  refine W_seq ?_
  obtain ⟨q2, k2, e2, h2⟩ := w_takeI q1 (g1.length : Int) (by omega) (by omega)
  cases b with
  | false =>
    have c1 : mulOk (k2 : Int) 0 = true := mulOk_of (a := 20) (b := 1) (by omega) (by decide) (by decide)
    have g2 := cut_fromN g1 0
    have g3 := cut_toN g1 0
    simp at g2 g3
    have c2 : g1.length ≤ 16777216 := by omega
    simp [-sSeq_, e2, c1]
    simp [g2, g3, sl, c2]
    exact ⟨q2, g1, ⟨rfl, rfl⟩, v1, p1⟩
  | true =>
    have c1 : mulOk (k2 : Int) 1 = true := mulOk_of (a := 20) (b := 1) (by omega) (by decide) (by decide)
    have g2 := cut_fromN g1 k2
    have g3 := cut_toN g1 k2
    have c2 : (g1.drop k2).length + (g1.take k2).length ≤ 16777216 := by simp; omega
    simp [-sSeq_, e2, c1]
    simp [-List.map_take, -List.map_drop, -List.length_take, -List.length_drop, g2, g3, sl, c2]
    exact ⟨q2, g1.drop k2 ++ g1.take k2, ⟨rfl, by simp⟩, v1.rot k2 (by omega), (rot_roads g1 k2).trans p1⟩
end KHead

end T_Iq_k61
section T_Ir_k61
set_option maxRecDepth 100000
namespace KHead
open PySem PySem.Spec PyProof.Rows L2 Kd
/-! ### texts: numbers, points, roads read, by lists of code points -/
open PySem.NumText (AllDigits digitsVal)
open TL (tl spl par pre)
def dgs (w : List Nat) : Bool := w.all (fun c => decide (48 ≤ c) && decide (c ≤ 57))
theorem dgs_iff {w : List Nat} : dgs w = true ↔ AllDigits w := by
  unfold dgs AllDigits
  simp
def numR (w : List Nat) : Option Nat := if w = [] ∨ 30 < w.length ∨ dgs w = false then none else if w.head? = some 48 ∧ w ≠ [48] then none else some (digitsVal w)
def numO (w : List Nat) (b : Nat) : Option Nat := if w = [] ∨ dgs w = false ∨ 2 < w.length then none else if (w.head? = some 48 ∧ w ≠ [48]) ∨ b ≤ digitsVal w then none else some (digitsVal w)
theorem fold_ge : ∀ (r : List Nat) (a : Nat), a * 10 ^ r.length ≤ r.foldl (fun acc c => acc * 10 + (c - 48)) a
  | [], a => by simp
  | c :: r, a => by
    have h := fold_ge r (a * 10 + (c - 48))
    refine Nat.le_trans ?_ h
    rw [List.length_cons, Nat.pow_succ, Nat.mul_comm (10 ^ r.length), ← Nat.mul_assoc]
    exact Nat.mul_le_mul_right _ (by omega)
theorem val_cons (c : Nat) (r : List Nat) : digitsVal (c :: r) = r.foldl (fun acc c => acc * 10 + (c - 48)) (c - 48) := by
  unfold digitsVal
  simp
theorem val_big {w : List Nat} (hd : dgs w = true) (h2 : 2 < w.length) (h0 : ¬ (w.head? = some 48 ∧ w ≠ [48])) : 100 ≤ digitsVal w := by
  cases w with
  | nil => simp at h2
  | cons c r =>
    have h1 := (dgs_iff.mp hd) c (by simp)
    have hr : 2 ≤ r.length := by simp at h2; omega
    have hc : c ≠ 48 := fun z => h0 ⟨by simp [z], by
      cases r with
      | nil => simp at hr
      | cons _ _ => simp⟩
    rw [val_cons]
    refine Nat.le_trans ?_ (fold_ge r (c - 48))
    have : 10 ^ 2 ≤ 10 ^ r.length := Nat.pow_le_pow_right (by omega) hr
    calc 100 = 1 * 10 ^ 2 := by omega
      _ ≤ (c - 48) * 10 ^ r.length := Nat.mul_le_mul (by omega) this
theorem numO_eq {w : List Nat} {b : Nat} (hb : b ≤ 100) : numO w b = (numR w).filter (fun n => decide (n < b)) := by
  unfold numO numR
  by_cases hw : w = []
  · simp [hw]
  by_cases hd : dgs w = false
  · simp [hd]
  have hd' : dgs w = true := by simpa using hd
  by_cases h0 : w.head? = some 48 ∧ w ≠ [48]
  · by_cases h2 : 2 < w.length <;> simp [hw, hd', h0, h2]
  · by_cases h2 : 2 < w.length
    · have := val_big hd' h2 h0
      by_cases h3 : 30 < w.length
      · simp [h2, h3]
      · have hn : ¬ digitsVal w < b := by omega
        simp [hw, hd', h0, h2, h3, hn, Option.filter]
    · have h3 : ¬ 30 < w.length := by omega
      by_cases hn : digitsVal w < b
      · have hn' : ¬ b ≤ digitsVal w := by omega
        simp [hw, hd', h0, h2, h3, hn, hn', Option.filter]
      · have hn' : b ≤ digitsVal w := by omega
        simp [hw, hd', h0, h2, h3, hn, hn', Option.filter]
theorem numR_dgs {w : List Nat} {n : Nat} (h : numR w = some n) : dgs w = true := by
  unfold numR at h
  split at h
  · cases h
  · rename_i h1
    cases e : dgs w with
    | true => rfl
    | false => exact absurd (.inr (.inr e)) h1
/-! ### split and partition -/
theorem par_split {S : List Nat} (hS : S ≠ []) : ∀ (t acc a b : List Nat), par S acc t = some (a, b) → spl S 0 acc t = a :: spl S 0 [] b ∧ acc ++ t = a ++ S ++ b
  | [], acc, a, b, h => by cases h
  | c :: r, acc, a, b, h => by
    cases hp : pre S (c :: r) with
    | true =>
      rw [TL.par_hit hp] at h
      cases h
      have e : (c :: r).drop S.length = r.drop (S.length - 1) := by
        cases S with
        | nil => exact absurd rfl hS
        | cons s S => simp
      refine ⟨by rw [TL.spl_hit hp, TL.spl_pass, e], ?_⟩
      have q : (c :: r).take S.length = S := by simpa [pre] using hp
      conv => lhs; rw [← List.take_append_drop S.length (c :: r), q]
      rw [List.append_assoc]
    | false =>
      rw [TL.par_miss hp] at h
      obtain ⟨h1, h2⟩ := par_split hS r (acc ++ [c]) a b h
      refine ⟨by rw [TL.spl_miss hp]; exact h1, ?_⟩
      rw [← h2]; simp
theorem par_nosplit {S : List Nat} : ∀ (t acc : List Nat), par S acc t = none → spl S 0 acc t = [acc ++ t]
  | [], acc, h => by rw [TL.spl_nil]; simp
  | c :: r, acc, h => by
    cases hp : pre S (c :: r) with
    | true => rw [TL.par_hit hp] at h; cases h
    | false =>
      rw [TL.par_miss hp] at h
      rw [TL.spl_miss hp, par_nosplit r (acc ++ [c]) h]
      simp
theorem spl_ne (S : List Nat) : ∀ (t acc : List Nat) (k : Nat), spl S k acc t ≠ []
  | [], acc, k => by rw [TL.spl_nil]; simp
  | c :: r, acc, 0 => by
    cases hp : pre S (c :: r) with
    | true => rw [TL.spl_hit hp]; simp
    | false => rw [TL.spl_miss hp]; exact spl_ne S r _ 0
  | c :: r, acc, k + 1 => spl_ne S r acc k
/-- the text of a part of two, else none -/
def two (S t : List Nat) : Option (List Nat × List Nat) := match par S [] t with
  | some (a, b) => if par S [] b = none then some (a, b) else none
  | none => none
theorem spl_two {S : List Nat} (hS : S ≠ []) (t : List Nat) : (two S t = none → (spl S 0 [] t).length ≠ 2) ∧ ∀ a b, two S t = some (a, b) → spl S 0 [] t = [a, b] := by
  unfold two
  cases h : par S [] t with
  | none =>
    refine ⟨fun _ => by rw [par_nosplit t [] h]; simp, fun a b z => (nomatch z)⟩
  | some p =>
    obtain ⟨a, b⟩ := p
    have h1 := (par_split hS t [] a b h).1
    cases h2 : par S [] b with
    | none =>
      simp only [h2, if_true]
      refine ⟨fun z => (nomatch z), fun a' b' z => ?_⟩
      cases z
      rw [h1, par_nosplit b [] h2]
      rfl
    | some q =>
      obtain ⟨c, d⟩ := q
      have h3 := (par_split hS b [] c d h2).1
      refine ⟨fun _ => ?_, fun a' b' z => by simp [h2] at z⟩
      rw [h1, h3]
      have := spl_ne S d [] 0
      cases e : spl S 0 [] d with
      | nil => exact absurd e this
      | cons _ _ => simp
theorem par_free {s : Nat} {S p acc : List Nat} (h : s ∉ p) : par (s :: S) acc p = none := TL.par_none1 h
theorem dgs_free {w : List Nat} {s : Nat} (h : dgs w = true) (hs : s < 48 ∨ 57 < s) : s ∉ w := fun z => by
  have := (dgs_iff.mp h) s z
  omega
theorem par_mem {S : List Nat} (hS : S ≠ []) {t a b : List Nat} (h : par S [] t = some (a, b)) : t = a ++ S ++ b := by
  have := (par_split hS t [] a b h).2
  simpa using this
/-! ### points, roads -/
def ptR (t : List Nat) : Option (Nat × Nat) := match par [46] [] t with
  | some (a, b) => (match numR a, numR b with
    | some p, some k => some (p, k)
    | _, _ => none)
  | none => none
def ptO (t : List Nat) (m : Nat) : Option (Nat × Nat) := match two [46] t with
  | some (a, b) => (match numO a m, numO b 10 with
    | some p, some k => some (p, k)
    | _, _ => none)
  | none => none
theorem ptO_eq {t : List Nat} {m : Nat} (hm : m ≤ 100) : ptO t m = (ptR t).filter (fun q => decide (q.1 < m ∧ q.2 < 10)) := by
  unfold ptO ptR two
  cases h : par [46] [] t with
  | none => rfl
  | some q =>
    obtain ⟨a, b⟩ := q
    cases h2 : par [46] [] b with
    | some z =>
      have hb : numR b = none := by
        cases e : numR b with
        | none => rfl
        | some n =>
          have := par_free (s := 46) (S := []) (acc := []) (dgs_free (numR_dgs e) (.inl (by omega)))
          rw [h2] at this; cases this
      simp only [h2, hb]
      cases numR a <;> simp
    | none =>
      simp only [h2, if_true]
      rw [numO_eq hm, numO_eq (by omega)]
      cases numR a with
      | none => simp
      | some p =>
        cases numR b with
        | none => simp
        | some k =>
          by_cases h1 : p < m <;> by_cases h2 : k < 10 <;> simp [Option.filter, h1, h2]
def rdR (t : List Nat) : Option ((Nat × Nat) × (Nat × Nat)) := match par [32, 45, 32] [] t with
  | some (a, b) => (match ptR a, ptR b with
    | some p, some k => some (p, k)
    | _, _ => none)
  | none => none
def rdO (t : List Nat) (m : Nat) : Option ((Nat × Nat) × (Nat × Nat)) := match two [32, 45, 32] t with
  | some (a, b) => (match ptO a m, ptO b m with
    | some p, some k => some (p, k)
    | _, _ => none)
  | none => none
theorem ptR_free {t : List Nat} {q : Nat × Nat} (h : ptR t = some q) : 32 ∉ t := by
  unfold ptR at h
  cases e : par [46] [] t with
  | none => rw [e] at h; cases h
  | some z =>
    obtain ⟨a, b⟩ := z
    rw [e] at h
    dsimp only at h
    cases ea : numR a with
    | none => rw [ea] at h; simp at h
    | some p =>
      cases eb : numR b with
      | none => rw [ea, eb] at h; simp at h
      | some k =>
        have h1 := dgs_free (s := 32) (numR_dgs ea) (.inl (by omega))
        have h2 := dgs_free (s := 32) (numR_dgs eb) (.inl (by omega))
        rw [par_mem (by simp) e]
        simp [h1, h2]
theorem rdO_eq {t : List Nat} {m : Nat} (hm : m ≤ 100) : rdO t m = (rdR t).filter (fun q => decide ((q.1.1 < m ∧ q.1.2 < 10) ∧ (q.2.1 < m ∧ q.2.2 < 10))) := by
  unfold rdO rdR two
  cases h : par [32, 45, 32] [] t with
  | none => rfl
  | some q =>
    obtain ⟨a, b⟩ := q
    cases h2 : par [32, 45, 32] [] b with
    | some z =>
      have hb : ptR b = none := by
        cases e : ptR b with
        | none => rfl
        | some n =>
          have := par_free (s := 32) (S := [45, 32]) (acc := []) (ptR_free e)
          rw [h2] at this; cases this
      simp only [h2, hb]
      cases ptR a <;> simp
    | none =>
      simp only [h2, if_true]
      rw [ptO_eq hm, ptO_eq hm]
      cases ptR a with
      | none => simp
      | some p =>
        cases ptR b with
        | none => simp
        | some k =>
          by_cases h1 : p.1 < m ∧ p.2 < 10 <;> by_cases h2 : k.1 < m ∧ k.2 < 10 <;> simp [Option.filter, h1, h2]
/-! ### numbers in texts: the program's reading, the law's -/
open PySem.NumText (AllDigits digitsVal)
open TL (tl spl par pre)
def figL : List Nat := [48, 49, 50, 51, 52, 53, 54, 55, 56, 57]
theorem strC (s : String) (l : List Nat) (h : s.toList.map Char.toNat = l) : PyData.str (PySem.Str.ofString s) = sD l := by
  congr 1
  exact TL.ext_tl (by rw [TL.tl_ofString, h]; rfl)
theorem c_e : PyData.str (PySem.Str.ofString "") = sD [] := strC _ _ rfl
theorem c_fig : PyData.str (PySem.Str.ofString "0123456789") = sD figL := strC _ _ (by decide +kernel)
theorem c_0 : PyData.str (PySem.Str.ofString "0") = sD [48] := strC _ _ (by decide +kernel)
theorem c_dot : PyData.str (PySem.Str.ofString ".") = sD [46] := strC _ _ (by decide +kernel)
theorem c_dash : PyData.str (PySem.Str.ofString " - ") = sD [32, 45, 32] := strC _ _ (by decide +kernel)
theorem c_pls : PyData.str (PySem.Str.ofString "places ") = sD [112, 108, 97, 99, 101, 115, 32] := strC _ _ (by decide +kernel)
theorem c_pl : PyData.str (PySem.Str.ofString "places") = sD [112, 108, 97, 99, 101, 115] := strC _ _ (by decide +kernel)
theorem c_nl : PyData.str (PySem.Str.ofString "\n") = sD [10] := strC _ _ (by decide +kernel)
theorem c_sp : PyData.str (PySem.Str.ofString " ") = sD [32] := strC _ _ (by decide +kernel)
theorem mem_fig (c : Nat) : decide (c ∈ figL) = (decide (48 ≤ c) && decide (c ≤ 57)) := by
  rw [Bool.eq_iff_iff]
  simp [figL]
  omega
/-- a number or None -/
def optI : Option Nat → PyData
  | none => .none
  | some n => .int (n : Int)
def dgD : PyData → Bool
  | .str x => (match tl x with
    | [c] => decide (48 ≤ c) && decide (c ≤ 57)
    | _ => false)
  | _ => false
@[simp] theorem dgD_s (c : Nat) : dgD (sD [c]) = (decide (48 ≤ c) && decide (c ≤ 57)) := by simp [dgD]
theorem len_ok {l : List Nat} (h : l.length ≤ 1000000) : l.length ≤ sizeLine := by rw [sl]; omega
theorem e_numread (l : List Nat) (hl : l.length ≤ 1000000) : m_number_read [sD l] = .ok ([], optI (numR l)) := by
  have hs := len_ok hl
  have hm := mLc_map (it := iOf asQ (mV 0)) (m := m2 fInS (mV 1) (mC (.str (PySem.Str.ofString "0123456789")))) (i := 1) (ρ := [some (sD l), none]) (ds := l.map fun c => sD [c]) (fun d => .bool (dgD d)) (by simp) (by simp) (by rw [List.length_map]; exact hs) fun d hd => by
    obtain ⟨c, hc, rfl⟩ := List.mem_map.mp hd
    simp [c_fig, mem_fig]
  rw [List.map_map] at hm
  have ha : fAll [.list (l.map ((fun d => PyData.bool (dgD d)) ∘ fun c => sD [c]))] = some (.bool (dgs l)) := by
    have := fAll_mapA (fun c => decide (48 ≤ c) && decide (c ≤ 57)) l
    rw [show ((fun d => PyData.bool (dgD d)) ∘ fun c => sD [c]) = fun c => PyData.bool (decide (48 ≤ c) && decide (c ≤ 57)) from by funext c; simp]
    exact this
  generalize l.map ((fun d => PyData.bool (dgD d)) ∘ fun c => sD [c]) = L at hm ha
  unfold numR
  by_cases h0 : l = []
  · subst h0
    simp [m_number_read, c_e, optI]
  by_cases h1 : 30 < l.length
  · have : ¬ ((l.length : Int) ≤ 30) := by omega
    simp [m_number_read, c_e, h0, hs, h1, this, optI]
  have h1' : (l.length : Int) ≤ 30 := by omega
  cases hd : dgs l with
  | false =>
    simp [m_number_read, c_e, h0, hs, h1, h1', hm, ha, hd, optI, -mLc_]
  | true =>
    obtain ⟨c, r, rfl⟩ : ∃ c r, l = c :: r := by
      cases l with
      | nil => exact absurd rfl h0
      | cons c r => exact ⟨c, r, rfl⟩
    have ei := fIntS_d (c :: r) (dgs_iff.mp hd) (by simp) (by omega)
    have ex := fIx_s (c :: r) 0 hs
    simp at ex
    have hs' : r.length + 1 ≤ sizeLine := by simpa using hs
    have hx : ¬ 30 < r.length + 1 := by simpa using h1
    have h1'' : ¬ (30 : Int) < (r.length : Int) + 1 := by simpa using h1'
    simp only [m_number_read]
    by_cases h2 : c = 48
    · subst h2
      by_cases h3 : r = []
      · subst h3
        have hz : 1 ≤ sizeLine := by rw [sl]; omega
        simp [c_e, c_0, hz, hm, ha, hd, optI, ex, ei, -mLc_]
      · simp [c_e, c_0, hs', h1'', hm, ha, hd, optI, ex, h3, hx, -mLc_]
    · simp [c_e, c_0, hs', h1'', hm, ha, hd, optI, ex, h2, ei, hx, -mLc_]
open PySem.NumText (AllDigits digitsVal)
open TL (tl spl par pre)
/-- plain signs alone -/
def okL (l : List Nat) : Prop := ∀ c ∈ l, c < 256
theorem strOk_s {l : List Nat} (h : okL l) : PyData.strOk (sS l) = true := by
  show (sS l).cps.all _ = true
  rw [← Array.all_toList, List.all_eq_true]
  intro c hc
  have := h c (by simpa using hc)
  exact decide_eq_true (by omega)
theorem sm_s {l : List Nat} {n : Nat} (h : okL l) (hn : l.length ≤ n) : Sm 0 n (sD l) := ⟨strOk_s h, Nat.le_refl _, by
  show (sS l).cps.size ≤ n
  simpa [sS] using hn⟩
theorem okL_sub {l a : List Nat} (h : okL l) (hs : ∀ c ∈ a, c ∈ l) : okL a := fun c hc => h c (hs c hc)
theorem okL_app {a b : List Nat} (ha : okL a) (hb : okL b) : okL (a ++ b) := fun c hc => by
  rcases List.mem_append.mp hc with h | h
  · exact ha c h
  · exact hb c h
theorem okL_take {l : List Nat} (h : okL l) (n : Nat) : okL (l.take n) := okL_sub h fun _ hc => List.mem_of_mem_take hc
theorem okL_drop {l : List Nat} (h : okL l) (n : Nat) : okL (l.drop n) := okL_sub h fun _ hc => List.mem_of_mem_drop hc
theorem par_len {S : List Nat} (hS : S ≠ []) {t a b : List Nat} (h : par S [] t = some (a, b)) : a.length + S.length + b.length = t.length := by
  have := congrArg List.length (par_mem hS h)
  simp at this
  omega
theorem okL_par {S : List Nat} (hS : S ≠ []) {t a b : List Nat} (ho : okL t) (h : par S [] t = some (a, b)) : okL a ∧ okL b := by
  have := par_mem hS h
  exact ⟨okL_sub ho fun c hc => by rw [this]; simp [hc], okL_sub ho fun c hc => by rw [this]; simp [hc]⟩
theorem two_par {S t a b : List Nat} (h : two S t = some (a, b)) : par S [] t = some (a, b) := by
  unfold two at h
  cases e : par S [] t with
  | none => rw [e] at h; cases h
  | some q =>
    obtain ⟨x, y⟩ := q
    rw [e] at h
    simp only at h
    split at h
    · cases h; rfl
    · cases h
open PySem.NumText (AllDigits digitsVal)
open TL (tl spl par pre)
theorem spl_len {S : List Nat} : ∀ (t acc : List Nat) (k : Nat), (spl S k acc t).length ≤ t.length + 1
  | [], acc, k => by rw [TL.spl_nil]; simp
  | c :: r, acc, 0 => by
    cases hp : pre S (c :: r) with
    | true => rw [TL.spl_hit hp]; have := spl_len (S := S) r [] (S.length - 1); simp; omega
    | false => rw [TL.spl_miss hp]; have := spl_len (S := S) r (acc ++ [c]) 0; simp; omega
  | c :: r, acc, k + 1 => by
    have := spl_len (S := S) r acc k
    simp only [List.length_cons]
    exact Nat.le_trans this (by omega)
theorem spl_mem {S : List Nat} : ∀ (t acc : List Nat) (k : Nat) (p : List Nat), p ∈ spl S k acc t → p.length ≤ acc.length + t.length ∧ ∀ c ∈ p, c ∈ acc ∨ c ∈ t
  | [], acc, k, p, h => by
    rw [TL.spl_nil] at h
    simp at h
    subst h
    exact ⟨by simp, fun c hc => .inl hc⟩
  | c :: r, acc, 0, p, h => by
    cases hp : pre S (c :: r) with
    | true =>
      rw [TL.spl_hit hp] at h
      rcases List.mem_cons.mp h with rfl | h
      · exact ⟨by omega, fun c hc => .inl hc⟩
      · obtain ⟨h1, h2⟩ := spl_mem r [] _ p h
        refine ⟨by simp at h1 ⊢; omega, fun d hd => ?_⟩
        rcases h2 d hd with h2 | h2
        · simp at h2
        · exact .inr (by simp [h2])
    | false =>
      rw [TL.spl_miss hp] at h
      obtain ⟨h1, h2⟩ := spl_mem r _ _ p h
      refine ⟨by simp at h1 ⊢; omega, fun d hd => ?_⟩
      rcases h2 d hd with h2 | h2
      · simp at h2
        rcases h2 with h2 | rfl
        · exact .inl h2
        · exact .inr (by simp)
      · exact .inr (by simp [h2])
  | c :: r, acc, k + 1, p, h => by
    obtain ⟨h1, h2⟩ := spl_mem r acc k p h
    refine ⟨by simp; omega, fun d hd => ?_⟩
    rcases h2 d hd with h2 | h2
    · exact .inl h2
    · exact .inr (by simp [h2])
theorem spl_sum {s : Nat} : ∀ (t acc : List Nat), (spl [s] 0 acc t).length + ((spl [s] 0 acc t).map (·.length)).sum ≤ acc.length + t.length + 1
  | [], acc => by rw [TL.spl_nil]; simp; omega
  | c :: r, acc => by
    cases hp : pre [s] (c :: r) with
    | true =>
      rw [TL.spl_hit hp]
      have := spl_sum (s := s) r []
      simp at this ⊢
      omega
    | false =>
      rw [TL.spl_miss hp]
      have := spl_sum (s := s) r (acc ++ [c])
      simp at this ⊢
      omega
theorem sum_set (w : List Nat) : ∀ (ls : List (List Nat)) (i : Nat), ((ls.set i w).map (·.length)).sum ≤ (ls.map (·.length)).sum + w.length
  | [], i => by simp
  | p :: r, 0 => by simp; omega
  | p :: r, i + 1 => by
    have := sum_set w r i
    simp only [List.set_cons_succ, List.map_cons, List.sum_cons]
    omega
theorem joinL_len (S : List Nat) : ∀ ls : List (List Nat), (TL.joinL S ls).length ≤ (ls.map (·.length)).sum + ls.length * S.length
  | [] => by simp [TL.joinL]
  | [p] => by simp [TL.joinL]
  | p :: q :: r => by
    have := joinL_len S (q :: r)
    simp only [TL.joinL, List.length_append, List.map_cons, List.sum_cons, List.length_cons, Nat.add_mul] at this ⊢
    omega
theorem joinL_mem (S : List Nat) : ∀ (ls : List (List Nat)) (c : Nat), c ∈ TL.joinL S ls → c ∈ S ∨ ∃ p ∈ ls, c ∈ p
  | [], c, h => by simp [TL.joinL] at h
  | [p], c, h => .inr ⟨p, by simp, h⟩
  | p :: q :: r, c, h => by
    simp only [TL.joinL, List.mem_append] at h
    rcases h with h | h | h
    · exact .inr ⟨p, by simp, h⟩
    · exact .inl h
    · rcases joinL_mem S (q :: r) c h with h | ⟨x, hx, h⟩
      · exact .inl h
      · exact .inr ⟨x, by simp [hx], h⟩
theorem sum_le {k : Nat} : ∀ (ls : List (List Nat)), (∀ p ∈ ls, p.length ≤ k) → (ls.map (·.length)).sum ≤ ls.length * k
  | [], _ => by simp
  | p :: r, h => by
    have h1 := h p (by simp)
    have h2 := sum_le r (fun q hq => h q (by simp [hq]))
    simp only [List.map_cons, List.sum_cons, List.length_cons, Nat.add_mul]
    omega
theorem fSl_to (l : List Nat) (n : Nat) (h : l.length ≤ sizeLine) : fSl (sD l) none (some (n : Int)) = some (sD (l.take n)) := by
  rw [fSl_s l none (some (n : Int)) h]
  congr 2
  have e1 : HT.sIx l.length 0 none = 0 := rfl
  have e2 : HT.sIx l.length l.length (some (n : Int)) = min n l.length := by
    unfold HT.sIx
    simp
    omega
  rw [e1, e2]
  simp
theorem fSl_from (l : List Nat) (n : Nat) (h : l.length ≤ sizeLine) : fSl (sD l) (some (n : Int)) none = some (sD (l.drop n)) := by
  rw [fSl_s l (some (n : Int)) none h]
  congr 2
  have e1 : HT.sIx l.length 0 (some (n : Int)) = min n l.length := by
    unfold HT.sIx
    simp
    omega
  have e2 : HT.sIx l.length l.length none = l.length := rfl
  rw [e1, e2]
  rw [List.take_of_length_le (by simp)]
  by_cases h7 : n ≤ l.length
  · rw [Nat.min_eq_left h7]
  · rw [Nat.min_eq_right (by omega), List.drop_length, List.drop_of_length_le (by omega)]
theorem fSl_from1 (l : List Nat) (n : Nat) (h : l.length ≤ sizeLine) : fSl (sD l) (some ((n : Int) + 1)) none = some (sD (l.drop (n + 1))) := fSl_from l (n + 1) h
theorem xSet_ok {i : Nat} {f : FM} {as : List Ar} {dfl : List PyData} {ρ : Ev} {y : Ev × List (PyData ⊕ Nat)} {ds : List PyData} {z : List PyData × PyData} (h1 : evA as ρ = .ok y) (h2 : resolve y.1 y.2 = some ds) (h3 : f (ds ++ dfl) = .ok z) : xSet i f as dfl ρ = .ok (.nx ((setL y.1 (jsOf as) z.1).set i (some z.2))) := by
  simp [xSet, xCall, h1, h2, h3]
theorem xSet_exc {i : Nat} {f : FM} {as : List Ar} {dfl : List PyData} {ρ : Ev} {y : Ev × List (PyData ⊕ Nat)} {ds : List PyData} {c : Str} {x : Option PyData} (h1 : evA as ρ = .ok y) (h2 : resolve y.1 y.2 = some ds) (h3 : f (ds ++ dfl) = .exc c x) (hj : (jsOf as).isEmpty = true) : xSet i f as dfl ρ = .exc y.1 c x := by
  simp [xSet, xCall, h1, h2, h3, hj]
theorem e_error (d : PyData) : m__law_error [excD "NoText" (some d)] = .ok ([], .str (PySem.Str.ofString "text")) := by
  kernel_rfl
open PySem.NumText (AllDigits digitsVal)
open TL (tl spl par pre)
def nT (n : Nat) : List Nat := TL.numL n
theorem str_nat (n : Nat) : PyData.str (PySem.Str.ofString (toString ((n : Nat) : Int))) = sD (nT n) := by
  congr 1
  exact TL.ext_tl (TL.tl_num n)
theorem nT_len {n : Nat} (h : n < 100) : (nT n).length ≤ 2 := TL.numL_len (by omega) (by omega)
theorem nT_dig {n c : Nat} (h : c ∈ nT n) : 48 ≤ c ∧ c ≤ 57 := TL.numL_digits n c h
theorem nT_dgs (n : Nat) : dgs (nT n) = true := dgs_iff.mpr (TL.numL_digits n)
theorem numR_nT : ∀ n, n < 40 → numR (nT n) = some n := by decide +kernel
theorem log_small {n : Nat} (h : n < 100) : ((n : Nat) : Int).natAbs.log2 < 1920 := by
  rw [Int.natAbs_natCast]
  by_cases h0 : n = 0
  · subst h0; decide
  · exact (Nat.log2_lt h0).mpr (Nat.lt_of_lt_of_le h (by decide +kernel))
theorem fStr_n {n : Nat} (h : n < 100) : fStrI [.int ((n : Nat) : Int)] = some (sD (nT n)) := by
  rw [fStrI_i, decide_eq_true (log_small h), Kd.iff_true, str_nat]
theorem nT_ok (n : Nat) : okL (nT n) := fun c hc => by have := nT_dig hc; omega
end KHead

end T_Ir_k61
section T_Is_k61
set_option maxRecDepth 100000
namespace KHead
open PySem PySem.Spec PyProof.Rows L2 Kd
/-! ### ends in texts -/
open PySem.NumText (AllDigits digitsVal)
open TL (tl spl par pre)
def GL : List Nat := [62, 60]
theorem c_gl : PyData.str (PySem.Str.ofString "><") = sD GL := strC _ _ (by decide +kernel)
/-- the end that a word writes -/
def endR (w : List Nat) : Option (Nat × Nat) := match w.getLast? with
  | none => none
  | some c => match numR w.dropLast with
    | none => none
    | some r => if c = 62 then some (r, 0) else if c = 60 then some (r, 1) else none
def optE : Option (Nat × Nat) → PyData
  | none => .none
  | some p => ptD p
theorem fSl_but (l : List Nat) (h : l.length ≤ sizeLine) (h0 : l ≠ []) : fSl (sD l) none (some (-1)) = some (sD l.dropLast) := by
  rw [fSl_s l none (some (-1)) h]
  congr 2
  have e1 : HT.sIx l.length 0 none = 0 := rfl
  have h1 : 0 < l.length := List.length_pos_iff.mpr h0
  have e2 : HT.sIx l.length l.length (some (-1)) = l.length - 1 := by
    unfold HT.sIx
    simp
    omega
  rw [e1, e2, List.dropLast_eq_take]
  simp
theorem fIx_last (l : List Nat) (c : Nat) (h : l.length ≤ sizeLine) (hc : l.getLast? = some c) : fIx (sD l) (.int (-1)) = some (sD [c]) := by
  rw [fIx_s l (-1) h]
  have h1 : 0 < l.length := by
    cases l with
    | nil => cases hc
    | cons _ _ => simp
  have : atI l (-1) = some c := by
    unfold atI ixN
    rw [if_neg (by omega), if_pos (by omega)]
    rw [List.getLast?_eq_getElem?] at hc
    simp only [Option.bind_some]
    rw [← hc]
    congr 1
    omega
  rw [this]
  rfl
theorem mem_gl (c : Nat) : decide (c ∈ GL) = (decide (c = 62) || decide (c = 60)) := by
  rw [Bool.eq_iff_iff]
  simp [GL]
theorem idx_gt : fTIdx (sS GL) (sD [62]) = some (.int 0) := by kernel_rfl
theorem idx_lt : fTIdx (sS GL) (sD [60]) = some (.int 1) := by kernel_rfl
theorem optI_isn (o : Option Nat) : fIsN (optI o) .none = some (.bool o.isNone) := by cases o <;> rfl
theorem e_endread (w : List Nat) (h0 : w ≠ []) (hl : w.length ≤ 1000000) : m_end_read [sD w] = .ok ([], optE (endR w)) := by
  have hs := len_ok hl
  have hz : 2 ≤ sizeLine := by rw [sl]; omega
  have f1 := fSl_but w hs h0
  obtain ⟨c, hc⟩ : ∃ c, w.getLast? = some c := ⟨w.getLast h0, List.getLast?_eq_some_getLast h0⟩
  have f2 := fIx_last w c hs hc
  have en := e_numread w.dropLast (by simp; omega)
  have eg := mem_gl c
  unfold endR
  rw [hc]
  simp only [m_end_read]
  cases hn : numR w.dropLast with
  | none =>
    rw [hn] at en
    have ei := optI_isn none
    simp [f1, en, optI, isNonD, optE]
  | some r =>
    rw [hn] at en
    by_cases h1 : c = 62
    · subst h1
      simp [f1, f2, en, optI, isNonD, c_gl, idx_gt, hz, optE, ptD, mem_gl]
    · by_cases h2 : c = 60
      · subst h2
        simp [f1, f2, en, optI, isNonD, c_gl, idx_lt, hz, optE, ptD, mem_gl]
      · simp [f1, f2, en, optI, isNonD, c_gl, mem_gl, h1, h2, optE]
end KHead

end T_Is_k61
section T_It_k61
set_option maxRecDepth 100000
namespace KHead
open PySem PySem.Spec PyProof.Rows L2 Kd
/-! ### goings in texts: the program's reading -/
open PySem.NumText (AllDigits digitsVal)
open TL (tl spl par pre)
/-- what the words of a text are read as -/
def Wd (l : List Nat) : List PyData := (spl [32] 0 [] l).map fun w => optE (endR w)
theorem endR_nil : endR [] = none := rfl
theorem lay_optE (o : Option (Nat × Nat)) : (optE o).canLay0 = true := by cases o <;> rfl
theorem dep_optE (o : Option (Nat × Nat)) : (optE o).depth ≤ 1 := by cases o <;> simp [optE, ptD]
theorem sh_Wd (l : List Nat) : SeqAt.shaped (.list (Wd l)) = true := by
  have h : ∀ ws : List (List Nat), PyData.canLayAll0 (ws.map fun w => optE (endR w)) = true ∧ PyData.depthAll (ws.map fun w => optE (endR w)) ≤ 1 := by
    intro ws
    induction ws with
    | nil => exact ⟨rfl, by simp⟩
    | cons w r ih =>
      have := dep_optE (endR w)
      refine ⟨by simp only [List.map_cons, PyData.canLayAll0, lay_optE, ih.1, Bool.and_self], by simp only [List.map_cons, depAll_c]; omega⟩
  exact shaped_of (by simpa [PyData.canLay0, Wd] using (h _).1) (by have := (h (spl [32] 0 [] l)).2; simp only [dep_l, Wd]; omega)
theorem len_Wd (l : List Nat) : (Wd l).length ≤ l.length + 1 := by
  unfold Wd
  rw [List.length_map]
  exact spl_len l [] 0
theorem e_comp (own : List Nat) (l : List Nat) (N B : Option PyData) (hl : l.length ≤ 9000) : mLc [] (iOf asL (mT1 fSplit (mV 1) (mC (.str (PySem.Str.ofString " "))))) (gN 4) tTrue (mIf (Kd.tB (m2 fNe (mV 4) (mC (.str (PySem.Str.ofString ""))))) (mCall m_end_read [.e (mV 4)] []) (mC .none)) [4] [N, some (sD l), B, none, none] = .ok ([N, some (sD l), B, none, none], .list (Wd l)) := by
  have hp := fSplit_s l [32] (by decide) (by rw [sl]; omega)
  have hln := spl_len (S := [32]) l [] 0
  have hmem := fun q hq => (spl_mem (S := [32]) l [] 0 q hq).1
  have hm := mLc_map (it := iOf asL (mT1 fSplit (mV 1) (mC (.str (PySem.Str.ofString " "))))) (m := mIf (Kd.tB (m2 fNe (mV 4) (mC (.str (PySem.Str.ofString ""))))) (mCall m_end_read [.e (mV 4)] []) (mC .none)) (i := 4) (ρ := [N, some (sD l), B, none, none]) (ds := (spl [32] 0 [] l).map sD)
    (fun d => match d with | .str x => optE (endR (tl x)) | _ => .none) (by simp) (by simp [c_sp, hp]) (by rw [List.length_map, sl]; omega) fun d hd => by
    obtain ⟨w, hw, rfl⟩ := List.mem_map.mp hd
    have hlen := hmem w hw
    simp at hlen
    by_cases h0 : w = []
    · subst h0
      simp [c_e, endR_nil, optE]
    · have e1 := e_endread w h0 (by omega)
      simp [c_e, h0, e1]
  rw [hm, List.map_map]
  congr 2
theorem e_goingread {c : Nat} {rs : List Rd} (l : List Nat) (back : Bool) (hl : l.length ≤ 9000) : m_going_read [netD c rs, sD l, .bool back] = .ok ([], if goB rs (.list (Wd l)) back then .list (Wd l) else .none) := by
  have e1 := e_comp [] l (some (netD c rs)) (some (.bool back)) hl
  have e2 := e_rgoing (c := c) (rs := rs) (.list (Wd l)) back (sh_Wd l) (fun xs h => by cases h; have := len_Wd l; omega)
  simp only [m_going_read]
  cases hg : goB rs (.list (Wd l)) back with
  | true => simp [e1, e2, hg, -mLc_]
  | false => simp [e1, e2, hg, -mLc_]
/-! ### goings in texts: the law's reading, both -/
open PySem.NumText (AllDigits digitsVal)
open TL (tl spl par pre)
def okW (n : Nat) (w : List Nat) : Bool := match endR w with
  | some p => decide (p.1 < n)
  | none => false
theorem endR_snd {w : List Nat} {p : Nat × Nat} (h : endR w = some p) : p.2 < 2 := by
  unfold endR at h
  split at h
  · cases h
  · split at h
    · cases h
    · split at h
      · cases h; exact Nat.zero_lt_two
      · split at h
        · cases h; exact Nat.one_lt_two
        · cases h
theorem okW_endB {n : Nat} {w : List Nat} : endB n (optE (endR w)) = okW n w := by
  unfold okW
  cases h : endR w with
  | none => rfl
  | some p =>
    have := endR_snd h
    simp only [optE]
    rw [endB_pt, decide_eq_true this, Bool.and_true]
theorem goB_bad {rs : List Rd} {l : List Nat} {back : Bool} {w : List Nat} (hw : w ∈ spl [32] 0 [] l) (h : okW rs.length w = false) : goB rs (.list (Wd l)) back = false := by
  have : (Wd l).all (endB rs.length) = false := by
    rw [List.all_eq_false]
    exact ⟨optE (endR w), List.mem_map.mpr ⟨w, hw, rfl⟩, by rw [okW_endB, h]; simp⟩
  simp [goB, this]
theorem endR_snoc (p : List Nat) (c : Nat) : endR (p ++ [c]) = (match numR p with
    | none => none
    | some r => if c = 62 then some (r, 0) else if c = 60 then some (r, 1) else none) := by
  unfold endR
  simp
  all_goals (cases numR p <;> rfl)
theorem filt_dgs (p : List Nat) : ((p.map fun c => sD [c]).filter fun d => !dgD d).isEmpty = dgs p := by
  rw [Bool.eq_iff_iff, List.isEmpty_iff, List.filter_eq_nil_iff]
  unfold dgs
  simp only [List.all_eq_true, List.mem_map, forall_exists_index, and_imp, forall_apply_eq_imp_iff₂, dgD_s]
  simp
theorem sh_filt {p : List Nat} (ho : okL p) : SeqAt.shaped (.list ((p.map fun c => sD [c]).filter fun d => !dgD d)) = true :=
  (sm_lst (k := 0) (n := 1) (fun x hx => by
    obtain ⟨c, hc, rfl⟩ := List.mem_map.mp (List.mem_filter.mp hx).1
    exact sm_s (fun d hd => by simp at hd; subst hd; exact ho _ hc) (by simp)) (Nat.le_refl _)).shaped (by omega)
end KHead

end T_It_k61
section T_Iu_k61
set_option maxRecDepth 100000
namespace KHead
open PySem PySem.Spec PyProof.Rows L2 Kd
/-! ### plans in texts: the program's reading -/
open TL (tl spl par pre)
def RND : List Nat := [114, 111, 117, 110, 100]
def WAY : List Nat := [119, 97, 121]
theorem c_round_ : PyData.str (PySem.Str.ofString "round ") = sD (RND ++ [32]) := strC _ _ (by decide +kernel)
theorem c_way_ : PyData.str (PySem.Str.ofString "way ") = sD (WAY ++ [32]) := strC _ _ (by decide +kernel)
theorem c_round : PyData.str (PySem.Str.ofString "round") = sD RND := strC _ _ (by decide +kernel)
theorem c_way : PyData.str (PySem.Str.ofString "way") = sD WAY := strC _ _ (by decide +kernel)
/-- the item that a line writes -/
def itR (rs : List Rd) (t : List Nat) : Option (Bool × List En) := match par [32] [] t with
  | none => none
  | some (a, b) => if a = RND ∨ a = WAY then (if goB rs (.list (Wd b)) (decide (a = RND)) then some (decide (a = RND), (Wd b).map toEn) else none) else none
def scanP (rs : List Rd) : Nat → List (List Nat) → List (Bool × List En) → Nat ⊕ List (Bool × List En)
  | k, [], acc => if planB rs (.list (acc.map itD)) then .inr acc else .inl (k + 1)
  | k, t :: r, acc => match itR rs t with
    | none => .inl (k + 1)
    | some it => scanP rs (k + 1) r (acc ++ [it])
def linesP (l : List Nat) : List (List Nat) := if l = [] then [] else spl [10] 0 [] l
def dueP (rs : List Rd) (l : List Nat) : Nat ⊕ List (Bool × List En) := scanP rs 0 (linesP l) []
def optIt : Option (Bool × List En) → PyData
  | none => .none
  | some it => itD it
theorem eqv_s (a b : List Nat) : PyData.eqv (sD a) (sD b) = decide (a = b) := by
  show (sS a == sS b) = _
  exact beq_sS a b
theorem rw_mem (a : List Nat) : memD (sD a) [sD RND, sD WAY] = (decide (a = RND) || decide (a = WAY)) := by
  unfold memD
  simp only [List.any_cons, List.any_nil, eqv_s, Bool.or_false]
  rw [decide_eq_decide.mpr (eq_comm : RND = a ↔ a = RND), decide_eq_decide.mpr (eq_comm : WAY = a ↔ a = WAY)]
theorem fNinT_rw {a : List Nat} (h : okL a) : fNinT (sD a) (.tuple [sD RND, sD WAY]) = some (.bool (!(decide (a = RND) || decide (a = WAY)))) := by
  show iff' (SeqAt.shaped (sD a) && SeqAt.shaped (.tuple [sD RND, sD WAY])) (PyData.bool (!memD (sD a) [sD RND, sD WAY])) = _
  have h1 : SeqAt.shaped (sD a) = true := (sm_s (n := a.length) h (Nat.le_refl _)).shaped (by omega)
  have h2 : SeqAt.shaped (.tuple [sD RND, sD WAY]) = true := by kernel_rfl
  rw [h1, h2, rw_mem]
  rfl
theorem fIn_rw {a : List Nat} (h : okL a) : fIn (sD a) (.list [sD RND, sD WAY]) = some (.bool (decide (a = RND) || decide (a = WAY))) := by
  show iff' (SeqAt.shaped (sD a) && SeqAt.shaped (.list [sD RND, sD WAY])) (PyData.bool (memD (sD a) [sD RND, sD WAY])) = _
  have h1 : SeqAt.shaped (sD a) = true := (sm_s (n := a.length) h (Nat.le_refl _)).shaped (by omega)
  have h2 : SeqAt.shaped (.list [sD RND, sD WAY]) = true := by kernel_rfl
  rw [h1, h2, rw_mem]
  rfl
theorem goB_ends {rs : List Rd} {xs : List PyData} {back : Bool} (h : goB rs (.list xs) back = true) : (xs.map toEn).map ptD = xs ∧ ∀ e ∈ xs.map toEn, enOk rs e := by
  simp only [goB, Bool.and_eq_true] at h
  obtain ⟨q1, q2⟩ := ends_of h.1.2
  exact ⟨q1.symm, q2⟩
section
variable {c : Nat} {rs : List Rd}
theorem e_itemread (t : List Nat) (ho : okL t) (hl : t.length ≤ 9000) : m_item_read [netD c rs, sD t] = .ok ([], optIt (itR rs t)) := by
  have hf := fPartn_s t [32] (by decide) (by rw [sl]; omega)
  have hz2 : 2 ≤ sizeLine := by rw [sl]; omega
  unfold itR
  simp only [m_item_read]
  cases hp : par [32] [] t with
  | none =>
    rw [hp] at hf
    simp [c_sp, hf, c_e, optIt]
  | some q =>
    obtain ⟨a, b⟩ := q
    rw [hp] at hf
    have hm := par_mem (by simp) hp
    have hoa : okL a := okL_sub ho fun c hc => by rw [hm]; simp [hc]
    have hbl : b.length ≤ 9000 := by rw [hm] at hl; simp at hl; omega
    have hn := fNinT_rw hoa
    have e := e_goingread (c := c) (rs := rs) b (decide (a = RND)) hbl
    by_cases h : a = RND ∨ a = WAY
    · have h' : (decide (a = RND) || decide (a = WAY)) = true := by simpa using h
      rw [h'] at hn
      cases hg : goB rs (.list (Wd b)) (decide (a = RND)) with
      | true =>
        rw [hg] at e
        obtain ⟨q1, -⟩ := goB_ends hg
        have hi : optIt (some (decide (a = RND), (Wd b).map toEn)) = .tuple [.bool (decide (a = RND)), .list (Wd b)] := by
          simp only [optIt, itD, q1]
        simp only [h, hg, if_true, hi]
        simp [c_sp, hf, c_e, c_round, c_way, hn, hz2, e, isNonD]
      | false =>
        rw [hg] at e
        simp [c_sp, hf, c_e, c_round, c_way, hn, hz2, h, hg, optIt, e, isNonD]
    · have h' : (decide (a = RND) || decide (a = WAY)) = false := by
        rw [← Bool.not_eq_true]; simpa using h
      rw [h'] at hn
      simp only [h, if_false]
      simp [c_sp, hf, c_e, c_round, c_way, hn, hz2, optIt]
end
end KHead

end T_Iu_k61
section T_Iv_k61
set_option maxRecDepth 100000
namespace KHead
open PySem PySem.Spec PyProof.Rows L2 Kd
/-! ### the law's reading of a going -/
open PySem.NumText (AllDigits digitsVal)
open TL (tl spl par pre)
theorem e_goingof {c : Nat} {rs : List Rd} (l : List Nat) (ho : okL l) (hl : l.length ≤ 9000) (hrs : rs.length ≤ 20) (back : Bool) : m__law_going_of [netD c rs, sD l, .bool back] = .ok ([], if goB rs (.list (Wd l)) back then .list (Wd l) else .none) := by
  suffices h : W (m__law_going_of [netD c rs, sD l, .bool back]) fun y => y = ([], if goB rs (.list (Wd l)) back then .list (Wd l) else .none) by
    obtain ⟨y, h1, h2⟩ := h
    rw [h1, h2]
  have hp := fSplit_s l [32] (by decide) (by rw [sl]; omega)
  have hn := spl_len (S := [32]) l [] 0
  have hm := fun p hp => spl_mem (S := [32]) l [] 0 p hp
  have hbad := fun w hw h => goB_bad (rs := rs) (l := l) (back := back) (w := w) hw h
  have eg := e_lgoing (c := c) (rs := rs) (.list (Wd l)) back (SeqAt.canLay_of_shaped (sh_Wd l)) (by
    have : PyData.depthAll (Wd l) ≤ 1 := by
      unfold Wd
      generalize spl [32] 0 [] l = ws
      induction ws with
      | nil => simp
      | cons w r ih =>
        have := dep_optE (endR w)
        simp only [List.map_cons, depAll_c]; omega
    simp only [dep_l]; omega) (fun xs h => by cases h; have := len_Wd l; omega)
  have hWd : Wd l = (spl [32] 0 [] l).map fun w => optE (endR w) := rfl
  have hN : fIx (netD c rs) (.int 1) = some (.tuple (rs.map rdD)) := by simp [netD]
  generalize spl [32] 0 [] l = ws at *
  have hz : 2 ≤ sizeLine := by rw [sl]; omega
  refine W_fn (W_seq ?_)
  simp [-sSeq_]
  refine W_seq ?_
  refine W_for (fun ds ρ => ∃ k x3 x4, k ≤ ws.length ∧ ds = (ws.drop k).map sD ∧ ρ = [some (netD c rs), some (sD l), some (.bool back), some (.list ((ws.take k).map fun w => optE (endR w))), x3, x4]) (ds := ws.map sD) (ρ1 := [some (netD c rs), some (sD l), some (.bool back), some (.list []), none, none]) (by simp [c_sp, hp]) ⟨0, none, none, Nat.zero_le _, rfl, rfl⟩ ?_ ?_
  · rintro d ds ρ ⟨k, x3, x4, hk, e1, rfl⟩
    have hkr : k < ws.length := by
      by_cases z : k < ws.length
      · exact z
      · rw [List.drop_of_length_le (by omega)] at e1
        cases e1
    rw [List.drop_eq_getElem_cons hkr] at e1
    obtain ⟨rfl, rfl⟩ := List.cons.inj e1
    refine ⟨_, rfl, ?_⟩
    have hw := List.getElem_mem hkr
    have hwl := (hm _ hw).1
    have hwo : okL ws[k] := fun d hd => by
      have := (hm _ hw).2 d hd
      simp at this
      exact ho d this
    have hbad := hbad _ hw
    have htk : (ws.take (k + 1)).map (fun w => optE (endR w)) = (ws.take k).map (fun w => optE (endR w)) ++ [optE (endR ws[k])] := by
      rw [List.take_succ_eq_append_getElem hkr, List.map_append]; rfl
    have hAl : ((ws.take k).map fun w => optE (endR w)).length < sizeLine := by rw [List.length_map, List.length_take, sl]; omega
    generalize ws[k] = w at *
    generalize (ws.take k).map (fun w => optE (endR w)) = A at *
    simp at hwl
    have hs : w.length ≤ sizeLine := by rw [sl]; omega
    refine W_seq ?_
    by_cases h2 : w.length < 2
    · have h2' : (w.length : Int) < 2 := by omega
      have : okW rs.length w = false := by
        match w, h2 with
        | [], _ => rfl
        | [c], _ =>
          have := endR_snoc [] c
          simp only [List.nil_append] at this
          simp [okW, this, numR]
      simp [hs, h2', hbad this]
    have h2' : ¬ (w.length : Int) < 2 := by omega
    obtain ⟨p, ch, rfl⟩ : ∃ p ch, w = p ++ [ch] := by
      have hne : w ≠ [] := fun z => by simp [z] at h2
      exact ⟨w.dropLast, w.getLast hne, (List.dropLast_concat_getLast hne).symm⟩
    have hp0 : p ≠ [] := fun z => by simp [z] at h2
    have f1 := fSl_but (p ++ [ch]) hs (by simp)
    have f2 := fIx_last (p ++ [ch]) ch hs (by simp)
    rw [List.dropLast_concat] at f1
    have hpo : okL p := okL_sub hwo fun d hd => by simp [hd]
    have ew := endR_snoc p ch
    have hwl' : p.length + 1 ≤ sizeLine := by simpa using hs
    have h2'' : ¬ (p.length : Int) + 1 < 2 := by simpa using h2'
    by_cases hc : ¬ (ch = 62 ∨ ch = 60)
    · have : okW rs.length (p ++ [ch]) = false := by
        unfold okW
        rw [ew]
        cases numR p with
        | none => rfl
        | some r =>
          show (match (if ch = 62 then some (r, 0) else if ch = 60 then some (r, 1) else none : Option (Nat × Nat)) with
            | some p => decide (p.1 < rs.length)
            | none => false) = false
          rw [if_neg (fun z => hc (.inl z)), if_neg (fun z => hc (.inr z))]
      have hc' : decide (ch = 62) = false ∧ decide (ch = 60) = false := ⟨decide_eq_false fun z => hc (.inl z), decide_eq_false fun z => hc (.inr z)⟩
      simp [hwl', h2'', f2, c_gl, mem_gl, hc'.1, hc'.2, hbad this]
    have hc := Classical.not_not.mp hc
    have hgl : (decide (ch = 62) || decide (ch = 60)) = true := by simpa using hc
    obtain ⟨sd, hidx, ew2⟩ : ∃ sd : Nat, fTIdx (sS GL) (sD [ch]) = some (.int (sd : Int)) ∧ endR (p ++ [ch]) = (numR p).map fun r => (r, sd) := by
      rcases hc with rfl | rfl
      · exact ⟨0, idx_gt, by rw [ew]; cases numR p <;> rfl⟩
      · exact ⟨1, idx_lt, by rw [ew]; cases numR p <;> rfl⟩
    have hfl := mLc_filterV (own := [3]) (it := iOf asQ (mSl (mV 4) none (some (m1 fNeg (mC (.int 1)))))) (g := gN 5) (t := Kd.tB (m2 fNinS (mV 5) (mC (.str (PySem.Str.ofString "0123456789"))))) (m := mV 5) (vs := [5]) (ρ := [some (netD c rs), some (sD l), some (.bool back), some (.list A), some (sD (p ++ [ch])), x4]) (ρ1 := [some (netD c rs), some (sD l), some (.bool back), some (.list A), some (sD (p ++ [ch])), x4]) (ds := p.map fun c => sD [c])
      (fun d => [some (netD c rs), some (sD l), some (.bool back), some (.list A), some (sD (p ++ [ch])), some d]) (fun d => !dgD d) (fun d => d) (by simp [f1]) (by simp) (by rw [List.length_map]; omega) (fun d hd => by
        obtain ⟨x, hx, rfl⟩ := List.mem_map.mp hd
        refine ⟨by simp [wipeE], by simp [c_fig, mem_fig], fun _ => by simp, by simp [wipeE]⟩)
    rw [List.map_id'] at hfl
    have hne := Kd.fNe_nilD (sh_filt hpo)
    rw [filt_dgs] at hne
    generalize ((p.map fun c => sD [c]).filter fun d => !dgD d) = DL at hfl hne
    cases hd : dgs p with
    | false =>
      have : okW rs.length (p ++ [ch]) = false := by
        unfold okW
        rw [ew2]
        simp [numR, hd]
      simp [hwl', h2'', f2, c_gl, mem_gl, hgl, hfl, hne, hd, hbad this, -mLc_]
    | true =>
      rw [hd] at hne
      have hcgl : ch = 62 ∨ ch = 60 := hc
      have hmem : decide (ch ∈ GL) = true := by rw [mem_gl]; exact hgl
      simp only [decide_eq_true_eq] at hmem
      have st : sIf (Kd.tOr (Kd.tB (m2 fLt (mN fLen [mV 4]) (mC (.int 2)))) (Kd.tOr (Kd.tB (m2 fNinS (m2 fIx (mV 4) (m1 fNeg (mC (.int 1)))) (mC (.str (PySem.Str.ofString "><"))))) (Kd.tB (m2 fNe (mLc [3] (iOf asQ (mSl (mV 4) none (some (m1 fNeg (mC (.int 1)))))) (gN 5) (Kd.tB (m2 fNinS (mV 5) (mC (.str (PySem.Str.ofString "0123456789"))))) (mV 5) [5]) (mN fLst [])))))
          (sRt (mC .none)) sNx ([some (netD c rs), some (sD l), some (.bool back), some (.list A), x3, x4].set 4 (some (sD (p ++ [ch])))) = .ok (.nx [some (netD c rs), some (sD l), some (.bool back), some (.list A), some (sD (p ++ [ch])), x4]) := by
        simp [hwl', h2'', f2, c_gl, hmem, hfl, hne, -mLc_]
      rw [st, W_ok, KS_nx]
      refine W_seq ?_
      obtain ⟨a, r, rfl⟩ : ∃ a r, p = a :: r := by
        cases p with
        | nil => exact absurd rfl hp0
        | cons a r => exact ⟨a, r, rfl⟩
      have ex := fIx_s (a :: r ++ [ch]) 0 hs
      simp at ex
      have hl3 : r.length + 1 + 1 ≤ sizeLine := by simpa using hwl'
      by_cases hz1 : a = 48 ∧ r ≠ []
      · obtain ⟨rfl, hr0⟩ := hz1
        have hlen2 : (2 : Int) < (r.length : Int) + 1 + 1 := by
          have : 0 < r.length := List.length_pos_iff.mpr hr0
          omega
        have : okW rs.length (48 :: r ++ [ch]) = false := by
          unfold okW
          rw [ew2]
          simp [numR, hd, hr0]
        have hb := hbad this
        simp [ex, c_0, hl3, hlen2, hb]
      · by_cases hz2 : 30 < r.length + 1
        · have hlen31 : (31 : Int) < (r.length : Int) + 1 + 1 := by omega
          have : okW rs.length (a :: r ++ [ch]) = false := by
            unfold okW
            rw [ew2]
            simp [numR, hd, hz2]
          have hb := hbad this
          by_cases ha : a = 48
          · have hr0 : r = [] := by
              by_cases z : r = []
              · exact z
              · exact absurd ⟨ha, z⟩ hz1
            subst hr0
            simp at hz2
          · simp [ex, c_0, hl3, hlen31, ha, hb]
        · have hlen31 : ¬ (31 : Int) < (r.length : Int) + 1 + 1 := by omega
          have hv : numR (a :: r) = some (digitsVal (a :: r)) := by
            unfold numR
            rw [if_neg (by simp [hd]; omega), if_neg (fun z => hz1 ⟨by simpa using z.1, fun hr => z.2 (by have := z.1; simp at this; rw [this, hr])⟩)]
          have ei := fIntS_d (a :: r) (dgs_iff.mp hd) (by simp) (by simp; omega)
          have f1' : fSl (sD (a :: (r ++ [ch]))) none (some (-1)) = some (sD (a :: r)) := f1
          have f2' : fIx (sD (a :: (r ++ [ch]))) (.int (-1)) = some (sD [ch]) := f2
          have hrl : ((rs.map rdD).length : Int) = rs.length := by simp
          have hokW : okW rs.length (a :: r ++ [ch]) = decide (digitsVal (a :: r) < rs.length) := by
            unfold okW
            rw [ew2, hv]
            rfl
          have hcase : (a = 48 → ¬ (2 : Int) < (r.length : Int) + 1 + 1) := fun ha z => hz1 ⟨ha, fun z2 => by subst z2; simp at z⟩
          have hnt : (fIx (sD (a :: (r ++ [ch]))) (.int 0) = some (sD [a])) := ex
          by_cases hlt : digitsVal (a :: r) < rs.length
          · have hlt' : ¬ (rs.length : Int) ≤ (digitsVal (a :: r) : Int) := by omega
            have hA : optE (endR (a :: r ++ [ch])) = .tuple [.int (digitsVal (a :: r) : Nat), .int (sd : Nat)] := by
              rw [ew2, hv]; rfl
            rw [hA] at htk
            by_cases ha : a = 48
            · have h2n := hcase ha
              subst ha
              simp [ex, c_0, hl3, hlen31, h2n, hN, hlt', ei, f1', f2', c_gl, hidx, hz, hAl]
              exact ⟨k + 1, hkr, rfl, htk.symm.trans List.map_take⟩
            · simp [ex, c_0, hl3, hlen31, ha, hN, hlt', ei, f1', f2', c_gl, hidx, hz, hAl]
              exact ⟨k + 1, hkr, rfl, htk.symm.trans List.map_take⟩
          · have hlt' : (rs.length : Int) ≤ (digitsVal (a :: r) : Int) := by omega
            have hb := hbad (by rw [hokW]; exact decide_eq_false hlt)
            by_cases ha : a = 48
            · have h2n := hcase ha
              subst ha
              simp [ex, c_0, hl3, hlen31, h2n, hN, hlt', ei, f1', hb]
            · simp [ex, c_0, hl3, hlen31, ha, hN, hlt', ei, f1', hb]
  · rintro ρ ⟨k, x3, x4, hk, e1, rfl⟩
    have hkr : k = ws.length := by
      by_cases z : k < ws.length
      · rw [List.drop_eq_getElem_cons z] at e1
        cases e1
      · omega
    subst hkr
    rw [List.take_length, ← hWd]
    cases hg : goB rs (.list (Wd l)) back with
    | true =>
      rw [hg] at eg
      simp [eg, hz]
    | false =>
      rw [hg] at eg
      simp [eg, hz]
end KHead

end T_Iv_k61
section T_Iw_k61
set_option maxRecDepth 100000
namespace KHead
open PySem PySem.Spec PyProof.Rows L2 Kd
/-! ### plans in texts: weight, the loops -/
open TL (tl spl par pre)
theorem join_spl {s : Nat} : ∀ (t acc : List Nat), TL.joinL [s] (spl [s] 0 acc t) = acc ++ t
  | [], acc => by rw [TL.spl_nil]; simp [TL.joinL]
  | c :: r, acc => by
    cases hp : pre [s] (c :: r) with
    | true =>
      rw [TL.spl_hit hp]
      have ih := join_spl (s := s) r []
      have hc : c = s := by
        simp [pre] at hp
        first | exact hp | exact hp.symm
      have hne := spl_ne [s] (r : List Nat) [] 0
      simp only [List.length_singleton, Nat.sub_self, List.length_cons, List.length_nil] at *
      cases hs : spl [s] 0 [] r with
      | nil => exact absurd hs hne
      | cons q qs =>
        rw [hs] at ih
        show acc ++ ([s] ++ TL.joinL [s] (q :: qs)) = _
        rw [ih, hc]
        simp
    | false =>
      rw [TL.spl_miss hp, join_spl r (acc ++ [c])]
      simp
/-- the weight of items -/
def wt (its : List (Bool × List En)) : Nat := (its.map fun it => it.2.length + 1).sum
theorem wt_c (it : Bool × List En) (r : List (Bool × List En)) : wt (it :: r) = it.2.length + 1 + wt r := by simp [wt]
theorem wt_a (a b : List (Bool × List En)) : wt (a ++ b) = wt a + wt b := by simp [wt]
theorem sm_wt {rs : List Rd} (hrs : rs.length ≤ 20) : ∀ (its : List (Bool × List En)), (∀ it ∈ its, ∀ e ∈ it.2, enOk rs e) → tameAll (its.map itD) = true ∧ PyData.depthAll (its.map itD) ≤ 4 ∧ PyData.bulkAll (its.map itD) ≤ 4 * wt its
  | [], _ => by simp [tameAll, wt]
  | it :: r, h => by
    obtain ⟨a, b, d⟩ := sm_wt hrs r (fun u hu => h u (List.mem_cons_of_mem _ hu))
    obtain ⟨x, y, z⟩ := sm_all (k := 1) (n := 2) (xs := it.2.map ptD) (fun x hx => by
      obtain ⟨e, he, rfl⟩ := List.mem_map.mp hx
      obtain ⟨h1, h2⟩ := h it List.mem_cons_self e he
      refine (sm_tup (k := 0) (n := 0) (l := 2) ?_ (by simp) : Sm 1 2 (.tuple [.int (e.1 : Int), .int (e.2 : Int)]))
      intro x hx
      simp at hx
      rcases hx with rfl | rfl
      · exact sm_int (by omega)
      · exact sm_int (by omega))
    rw [List.length_map] at z
    rw [wt_c]
    refine ⟨?_, ?_, ?_⟩
    · simp [itD, x, a]
    · simp [itD, Nat.max_le]; omega
    · simp [itD]; omega
theorem sm_its {rs : List Rd} (hrs : rs.length ≤ 20) {its : List (Bool × List En)} (h : ∀ it ∈ its, ∀ e ∈ it.2, enOk rs e) (hw : wt its ≤ 2000) : Sm 20 10000 (.list (its.map itD)) := by
  obtain ⟨a, b, d⟩ := sm_wt hrs its h
  refine ⟨?_, ?_, ?_⟩
  · simpa using a
  · simp; omega
  · simp; omega
theorem wt_len (its : List (Bool × List En)) : its.length ≤ wt its := by
  induction its with
  | nil => simp
  | cons it r ih => rw [wt_c]; simp; omega
theorem itR_some {rs : List Rd} {t : List Nat} {it : Bool × List En} (h : itR rs t = some it) : (∀ e ∈ it.2, enOk rs e) ∧ it.2.length + 1 ≤ t.length := by
  unfold itR at h
  cases hp : par [32] [] t with
  | none => rw [hp] at h; cases h
  | some q =>
    obtain ⟨a, b⟩ := q
    rw [hp] at h
    have hm := par_mem (by simp) hp
    simp only at h
    split at h
    · rename_i hw
      split at h
      · rename_i hg
        cases h
        obtain ⟨-, q2⟩ := goB_ends hg
        refine ⟨q2, ?_⟩
        have := len_Wd b
        have ha : 3 ≤ a.length := by rcases hw with rfl | rfl <;> simp [RND, WAY]
        rw [hm]
        simp
        omega
      · cases h
    · cases h
def linesW (r : List (List Nat)) : Nat := (r.map fun t => t.length + 1).sum
theorem linesW_c (t : List Nat) (r : List (List Nat)) : linesW (t :: r) = t.length + 1 + linesW r := by simp [linesW]
theorem sum_len1 (ls : List (List Nat)) : linesW ls = ls.length + (ls.map (·.length)).sum := by
  induction ls with
  | nil => rfl
  | cons t r ih => rw [linesW_c, ih]; simp; omega
theorem linesP_w (l : List Nat) : linesW (linesP l) ≤ l.length + 1 := by
  unfold linesP
  split
  · simp [linesW]
  · have := spl_sum (s := 10) l []
    rw [sum_len1]
    simpa using this
theorem linesP_mem (l : List Nat) : ∀ t ∈ linesP l, t.length ≤ l.length ∧ ∀ c ∈ t, c ∈ l := by
  unfold linesP
  split
  · simp
  · intro t ht
    have := spl_mem (S := [10]) l [] 0 t ht
    simpa using this
/-- lines with their numbers -/
def numbered (k : Nat) (r : List (List Nat)) : List PyData := (r.zipIdx k).map fun p => .tuple [.int (1 + (p.2 : Nat)), sD p.1]
theorem optIt_isn (o : Option (Bool × List En)) : fIsN (optIt o) .none = some (.bool o.isNone) := by cases o <;> rfl
abbrev rpBody : SM := (sSeq (sSet 6 (mCall m_item_read [.e (mV 0), .e (mV 5)] []))
    (sSeq (sIf (Kd.tB (m2 fIsN (mV 6) (mC .none))) (sRaiseF "NoText" (mV 4)) sNx)
    (sE (mMt 3 fApp [(mV 6)]))))
theorem it_nn (it : Bool × List En) : isNonD (itD it) = false := rfl
theorem rp_loop {c : Nat} {rs : List Rd} (B C : Option PyData) : ∀ (r : List (List Nat)) (k : Nat) (acc : List (Bool × List En)) (x4 x5 x6 : Option PyData), (∀ t ∈ r, okL t ∧ t.length ≤ 9000) → acc.length + r.length ≤ 9001 →
    (∀ j, (scanP rs k r acc = .inl j ∧ ∃ t ∈ r, itR rs t = none) → forL (gT [gN 4, gN 5]) rpBody (numbered k r) [some (netD c rs), B, C, some (.list (acc.map itD)), x4, x5, x6] = .exc "NoText" (some (.int (j : Nat)))) ∧
    ((∀ t ∈ r, itR rs t ≠ none) → ∃ y4 y5 y6, forL (gT [gN 4, gN 5]) rpBody (numbered k r) [some (netD c rs), B, C, some (.list (acc.map itD)), x4, x5, x6] = .ok (.nx [some (netD c rs), B, C, some (.list ((acc ++ r.filterMap (itR rs)).map itD)), y4, y5, y6]))
  | [], k, acc, x4, x5, x6, _, _ => by
    refine ⟨fun j h => ?_, fun h => ?_⟩
    · obtain ⟨_, t, ht, _⟩ := h
      cases ht
    · exact ⟨x4, x5, x6, by rw [List.filterMap_nil, List.append_nil]; rfl⟩
  | t :: r, k, acc, x4, x5, x6, ht, hl => by
    obtain ⟨o1, o2⟩ := ht t (by simp)
    have e1 := e_itemread (c := c) (rs := rs) t o1 o2
    have e0 : numbered k (t :: r) = .tuple [.int (1 + (k : Nat)), sD t] :: numbered (k + 1) r := by
      simp [numbered, List.zipIdx_cons]
    have ih := rp_loop (c := c) (rs := rs) B C r (k + 1)
    rw [e0]
    cases h : itR rs t with
    | none =>
      rw [h] at e1
      have es : scanP rs k (t :: r) acc = .inl (k + 1) := by simp [scanP, h]
      rw [es]
      refine ⟨fun j z => ?_, fun z => absurd h (z t (by simp))⟩
      obtain ⟨z, -⟩ := z
      cases z
      simp [forL, e1, optIt, fIsN, isNonD]
      omega
    | some it =>
      rw [h] at e1
      have es : scanP rs k (t :: r) acc = scanP rs (k + 1) r (acc ++ [it]) := by simp [scanP, h]
      rw [es]
      have hlen : acc.length < sizeLine := by rw [sl]; simp at hl; omega
      have ih := ih (acc ++ [it]) (some (.int (1 + (k : Nat)))) (some (sD t)) (some (itD it)) (fun t' h' => ht t' (by simp [h'])) (by simp at hl ⊢; omega)
      have st : forL (gT [gN 4, gN 5]) rpBody (.tuple [.int (1 + (k : Nat)), sD t] :: numbered (k + 1) r) [some (netD c rs), B, C, some (.list (acc.map itD)), x4, x5, x6] =
          forL (gT [gN 4, gN 5]) rpBody (numbered (k + 1) r) [some (netD c rs), B, C, some (.list ((acc ++ [it]).map itD)), some (.int (1 + (k : Nat))), some (sD t), some (itD it)] := by
        simp [forL, e1, optIt, fIsN, it_nn, hlen]
      rw [st]
      refine ⟨fun j z => ih.1 j ⟨z.1, ?_⟩, fun z => ?_⟩
      · obtain ⟨-, t', h', hn⟩ := z
        rcases List.mem_cons.mp h' with rfl | h'
        · rw [h] at hn; cases hn
        · exact ⟨t', h', hn⟩
      · obtain ⟨y4, y5, y6, f1⟩ := ih.2 (fun t' h' => z t' (by simp [h']))
        refine ⟨y4, y5, y6, ?_⟩
        rw [f1]
        simp [List.filterMap_cons, h]
theorem scan_all {rs : List Rd} : ∀ (r : List (List Nat)) (k : Nat) (acc : List (Bool × List En)), (∀ t ∈ r, itR rs t ≠ none) → scanP rs k r acc = (if planB rs (.list ((acc ++ r.filterMap (itR rs)).map itD)) then .inr (acc ++ r.filterMap (itR rs)) else .inl (k + r.length + 1))
  | [], k, acc, _ => by simp [scanP]
  | t :: r, k, acc, h => by
    cases e : itR rs t with
    | none => exact absurd e (h t (by simp))
    | some it =>
      have ih := scan_all r (k + 1) (acc ++ [it]) (fun t' h' => h t' (by simp [h']))
      have es : scanP rs k (t :: r) acc = scanP rs (k + 1) r (acc ++ [it]) := by simp [scanP, e]
      rw [es, ih]
      have e2 : acc ++ [it] ++ r.filterMap (itR rs) = acc ++ (t :: r).filterMap (itR rs) := by simp [List.filterMap_cons, e]
      rw [e2]
      simp only [List.length_cons]
      rw [show k + 1 + r.length + 1 = k + (r.length + 1) + 1 by omega]
theorem scan_at {rs : List Rd} : ∀ (r : List (List Nat)) (j k : Nat) (acc : List (Bool × List En)) (hk : k < r.length), (∀ t ∈ r.take k, itR rs t ≠ none) → itR rs r[k] = none → scanP rs j r acc = .inl (j + k + 1)
  | t :: r, j, 0, acc, _, _, h => by
    have h : itR rs t = none := h
    simp [scanP, h]
  | t :: r, j, k + 1, acc, hk, ht, h => by
    have hk' : k < r.length := by simpa using hk
    have h : itR rs r[k] = none := h
    cases e : itR rs t with
    | none => exact absurd e (ht t (by simp))
    | some it =>
      have ih := scan_at r (j + 1) k (acc ++ [it]) hk' (fun t' h' => ht t' (by simp [h'])) h
      have es : scanP rs j (t :: r) acc = scanP rs (j + 1) r (acc ++ [it]) := by simp [scanP, e]
      rw [es, ih, show j + 1 + k + 1 = j + (k + 1) + 1 by omega]
theorem scan_none {rs : List Rd} (r : List (List Nat)) (j : Nat) (acc : List (Bool × List En)) (h : ∃ t ∈ r, itR rs t = none) : ∃ n : Nat, scanP rs j r acc = .inl n := by
  induction r generalizing j acc with
  | nil => obtain ⟨t, ht, _⟩ := h; cases ht
  | cons t r ih =>
    cases e : itR rs t with
    | none => exact ⟨j + 1, by simp [scanP, e]⟩
    | some it =>
      obtain ⟨t', h', hn⟩ := h
      rcases List.mem_cons.mp h' with rfl | h'
      · rw [e] at hn; cases hn
      · obtain ⟨n, hn⟩ := ih (j + 1) (acc ++ [it]) ⟨t', h', hn⟩
        exact ⟨n, by simp [scanP, e, hn]⟩
theorem fm_ok {rs : List Rd} : ∀ (r : List (List Nat)), (∀ it ∈ r.filterMap (itR rs), ∀ e ∈ it.2, enOk rs e) ∧ wt (r.filterMap (itR rs)) ≤ linesW r
  | [] => by simp [wt, linesW]
  | t :: r => by
    obtain ⟨a, b⟩ := fm_ok (rs := rs) r
    rw [linesW_c]
    cases e : itR rs t with
    | none =>
      rw [List.filterMap_cons, e]
      exact ⟨a, by show wt (r.filterMap (itR rs)) ≤ _; omega⟩
    | some it =>
      obtain ⟨q1, q2⟩ := itR_some e
      rw [List.filterMap_cons, e]
      refine ⟨fun u hu => ?_, ?_⟩
      · rcases List.mem_cons.mp hu with rfl | hu
        · exact q1
        · exact a u hu
      · rw [wt_c]; omega
end KHead

end T_Iw_k61
section T_Ix_k61
set_option maxRecDepth 100000
namespace KHead
open PySem PySem.Spec PyProof.Rows L2 Kd
open TL (tl spl par pre)
theorem e_readplan {c : Nat} {rs : List Rd} (l : List Nat) (ho : okL l) (hl : l.length ≤ 1900) (hrs : rs.length ≤ 20) (hlook : m_look_at_net [netD c rs] = .ok ([], .none)) : m_read_plan [netD c rs, sD l] = (match dueP rs l with
    | .inl k => .exc "NoText" (some (.int (k : Nat)))
    | .inr its => .ok ([], .list (its.map itD))) := by
  have hp := fSplit_s l [10] (by decide) (by rw [sl]; omega)
  have hS : ∀ ρ : Ev, ρ = [some (netD c rs), some (sD l), none, none, none, none, none] → mIf (Kd.tB (m2 fEq (mV 1) (mC (.str (PySem.Str.ofString ""))))) (mN fLst []) (mT1 fSplit (mV 1) (mC (.str (PySem.Str.ofString "\n")))) ρ = .ok (ρ, .list ((linesP l).map sD)) := fun ρ e => by
    subst e
    by_cases h : l = []
    · subst h
      simp [c_e, linesP]
    · simp [c_e, c_nl, hp, h, linesP]
  have hw := linesP_w l
  have hmem := linesP_mem l
  have hlen : (linesP l).length ≤ 1901 := by rw [sum_len1] at hw; omega
  have hen : enumC [.list ((linesP l).map sD), .int 1] = some (numbered 0 (linesP l)) := by
    simp [enumC, numbered, List.zipIdx_map]
  obtain ⟨L1, L2⟩ := rp_loop (c := c) (rs := rs) (some (sD l)) (some (.list ((linesP l).map sD))) (linesP l) 0 [] none none none (fun t ht => ⟨fun c hc => ho c ((hmem t ht).2 c hc), by have := (hmem t ht).1; omega⟩) (by simp; omega)
  simp only [List.map_nil] at L1 L2
  unfold dueP
  have hLl : ((linesP l).map sD).length ≤ sizeLine := by rw [List.length_map, sl]; omega
  have hLl2 : ((linesP l).map sD).length = (linesP l).length := List.length_map _
  simp only [m_read_plan]
  by_cases hex : ∃ t ∈ linesP l, itR rs t = none
  · obtain ⟨j, hj⟩ := scan_none (rs := rs) (linesP l) 0 [] hex
    have f := L1 j ⟨hj, hex⟩
    rw [hj]
    have hS := hS _ rfl
    clear L1 L2
    generalize (linesP l).map sD = LS at *
    simp [hlook, hS, hen, f, -mIf_]
  · have hall : ∀ t ∈ linesP l, itR rs t ≠ none := fun t ht h => hex ⟨t, ht, h⟩
    obtain ⟨y4, y5, y6, f⟩ := L2 hall
    rw [scan_all _ 0 [] hall]
    simp only [List.nil_append] at f ⊢
    obtain ⟨g1, g2⟩ := fm_ok (rs := rs) (linesP l)
    have er := e_rplan (c := c) (rs := rs) _ (sm_its hrs g1 (by omega)) (by omega) (by omega) hrs
    clear L1 L2 g1 g2 hS
    generalize (linesP l).filterMap (itR rs) = its at *
    have hS : ∀ ρ : Ev, ρ = [some (netD c rs), some (sD l), none, none, none, none, none] → mIf (Kd.tB (m2 fEq (mV 1) (mC (.str (PySem.Str.ofString ""))))) (mN fLst []) (mT1 fSplit (mV 1) (mC (.str (PySem.Str.ofString "\n")))) ρ = .ok (ρ, .list ((linesP l).map sD)) := fun ρ e => by
      subst e
      by_cases h : l = []
      · subst h
        simp [c_e, linesP]
      · simp [c_e, c_nl, hp, h, linesP]
    have hS := hS _ rfl
    generalize (linesP l).map sD = LS at *
    generalize hD : PyData.list (its.map itD) = D at *
    cases hpl : planB rs D with
    | true =>
      rw [hpl] at er
      simp [hlook, hS, hen, f, er, hD, -mIf_]
    | false =>
      rw [hpl] at er
      simp [hlook, hS, hen, f, er, hLl, hLl2, -mIf_]
end KHead

end T_Ix_k61
section T_Iy_k61
set_option maxRecDepth 100000
namespace KHead
open PySem PySem.Spec PyProof.Rows L2 Kd
/-! ### plans in texts: the law's reading -/
open TL (tl spl par pre)
theorem numL_step (lo : Int) (n : Nat) : numL lo (n + 1) = .int lo :: numL (lo + 1) n := by
  unfold numL
  rw [List.range_succ_eq_map]
  simp only [List.map_cons, List.map_map]
  congr 1
  · simp
  · refine List.map_congr_left fun i _ => ?_
    simp only [Function.comp]
    congr 1
    omega
abbrev dueBody : SM := (sSeq (sSet 5 (mT1 fSplit (m2 fIx (mV 2) (mV 4)) (mC (.str (PySem.Str.ofString " ")))))
    (sSeq (sSet 6 (mC .none))
    (sSeq (sIf (Kd.tAnd (Kd.tB (m2 fIn (m2 fIx (mV 5) (mC (.int 0))) (mN fLst [(mC (.str (PySem.Str.ofString "round"))), (mC (.str (PySem.Str.ofString "way")))]))) (Kd.tB (m2 fGt (mN fLen [(mV 5)]) (mC (.int 1))))) (sSet 6 (mCall m__law_going_of [.e (mV 0), .e (mT1 fJoin (mC (.str (PySem.Str.ofString " "))) (mSl (mV 5) (some (mC (.int 1))) none)), .e (m2 fEq (m2 fIx (mV 5) (mC (.int 0))) (mC (.str (PySem.Str.ofString "round"))))] [])) sNx)
    (sSeq (sIf (Kd.tB (m2 fIsN (mV 6) (mC .none))) (sRt (m2 fAdd (mV 4) (mC (.int 1)))) sNx)
    (sE (mMt 3 fApp [(mN fTup [(m2 fEq (m2 fIx (mV 5) (mC (.int 0))) (mC (.str (PySem.Str.ofString "round")))), (mV 6)])]))))))
theorem cut_c (d : PyData) (ds : List PyData) : cutD (d :: ds) (some 1) none = ds := by
  have := cut_from (d :: ds) 1
  simpa using this
theorem w_dueBody {c : Nat} {rs : List Rd} (t : List Nat) (ho : okL t) (hl : t.length ≤ 1900) (hrs : rs.length ≤ 20) (T x5 x6 : Option PyData) (LS A : List PyData) (k : Nat) (hx : LS[k]? = some (sD t)) (hA : A.length < sizeLine) : W (dueBody [some (netD c rs), T, some (.list LS), some (.list A), some (.int (k : Int)), x5, x6]) fun fl => match itR rs t with
    | none => ∃ ρ, fl = .rt ρ (.int ((k : Int) + 1))
    | some it => ∃ y5 y6, fl = .nx [some (netD c rs), T, some (.list LS), some (.list (A ++ [itD it])), some (.int (k : Int)), y5, y6] := by
  have hq := fSplit_s t [32] (by decide) (by rw [sl]; omega)
  have hql := spl_len (S := [32]) t [] 0
  have hz2 : 2 ≤ sizeLine := by rw [sl]; omega
  unfold itR
  refine W_seq ?_
  simp [c_sp, hx, hq, -sSeq_]
  refine W_seq ?_
  simp [-sSeq_]
  refine W_seq ?_
  cases hp : par [32] [] t with
  | none =>
    have hs := par_nosplit (S := [32]) t [] hp
    simp only [List.nil_append] at hs
    rw [hs]
    have hin := fIn_rw ho
    have hz1 : 1 ≤ sizeLine := by rw [sl]; omega
    by_cases h : (decide (t = RND) || decide (t = WAY)) = true
    · rw [h] at hin
      simp [c_round, c_way, hz1, hz2, hin, isNonD]
    · rw [Bool.not_eq_true] at h
      rw [h] at hin
      simp [c_round, c_way, hz2, hin, isNonD]
  | some q =>
    obtain ⟨a, b⟩ := q
    obtain ⟨hs, hm⟩ := par_split (S := [32]) (by simp) t [] a b hp
    simp only [List.nil_append] at hm
    have hoa : okL a := okL_sub ho fun c hc => by rw [hm]; simp [hc]
    have hob : okL b := okL_sub ho fun c hc => by rw [hm]; simp [hc]
    have hbl : b.length + a.length + 1 ≤ 1900 := by rw [hm] at hl; simp at hl; omega
    have hin := fIn_rw hoa
    have eg := e_goingof (c := c) (rs := rs) b hob (by omega) hrs (decide (a = RND))
    have hbn := spl_ne [32] b [] 0
    have hbs := spl_sum (s := 32) b []
    simp only [List.length_nil, Nat.zero_add] at hbs
    have hj := fJoin_s [32] (spl [32] 0 [] b) (by simp only [List.length_cons, List.length_nil]; omega)
    rw [join_spl b []] at hj
    simp only [List.nil_append] at hj
    have hsl : (spl [32] 0 [] b).length + 1 ≤ sizeLine := by rw [sl]; omega
    have hgt : (1 : Int) < ((spl [32] 0 [] b).length : Int) + 1 := by
      have := List.length_pos_iff.mpr hbn
      omega
    rw [hs]
    generalize spl [32] 0 [] b = BS at *
    have hc1 := cut_c (sD a) (BS.map sD)
    by_cases h : a = RND ∨ a = WAY
    · have h' : (decide (a = RND) || decide (a = WAY)) = true := by simpa using h
      rw [h'] at hin
      cases hg : goB rs (.list (Wd b)) (decide (a = RND)) with
      | true =>
        rw [hg] at eg
        obtain ⟨q1, -⟩ := goB_ends hg
        have hi : itD (decide (a = RND), (Wd b).map toEn) = .tuple [.bool (decide (a = RND)), .list (Wd b)] := by
          simp only [itD, q1]
        simp only [h, hg, if_true, hi]
        simp [c_round, c_way, c_sp, hz2, hin, hsl, hgt, hc1, hj, eg, isNonD, hA]
      | false =>
        rw [hg] at eg
        simp only [h, hg, if_true]
        simp [c_round, c_way, c_sp, hz2, hin, hsl, hgt, hc1, hj, eg, isNonD]
    · have h' : (decide (a = RND) || decide (a = WAY)) = false := by
        rw [← Bool.not_eq_true]; simpa using h
      rw [h'] at hin
      simp only [h, if_false]
      simp [c_round, c_way, hz2, hin, isNonD]
theorem e_due61 {c : Nat} {rs : List Rd} (l : List Nat) (ho : okL l) (hl : l.length ≤ 1900) (hrs : rs.length ≤ 20) : m__law_due [netD c rs, sD l] = .ok ([], match dueP rs l with
    | .inl k => .int (k : Nat)
    | .inr its => .list (its.map itD)) := by
  suffices h : W (m__law_due [netD c rs, sD l]) fun y => y = ([], match dueP rs l with
      | .inl k => .int (k : Nat)
      | .inr its => .list (its.map itD)) by
    obtain ⟨y, h1, h2⟩ := h
    rw [h1, h2]
  have hp := fSplit_s l [10] (by decide) (by rw [sl]; omega)
  have hw := linesP_w l
  have hmem := linesP_mem l
  have hlen : (linesP l).length ≤ 1901 := by rw [sum_len1] at hw; omega
  have hz2 : 2 ≤ sizeLine := by rw [sl]; omega
  refine W_fn (W_seq ?_)
  simp [c_nl, hp, -sSeq_]
  refine W_seq (W.mono (P := fun fl => fl = .nx [some (netD c rs), some (sD l), some (.list ((linesP l).map sD)), none, none, none, none]) ?_ ?_)
  · by_cases h : l = []
    · subst h
      simp [c_e, linesP]
    · simp [c_e, h, linesP]
  rintro fl rfl
  rw [KS_nx]
  refine W_seq ?_
  simp [-sSeq_]
  refine W_seq ?_
  unfold dueP
  generalize hLS : linesP l = ls at *
  have hL2 : (ls.map sD).length ≤ sizeLine := by rw [List.length_map, sl]; omega
  have hit : iNg rng1 [mN fLen [mV 2]] [some (netD c rs), some (sD l), some (.list (ls.map sD)), some (.list []), none, none, none] = .ok ([some (netD c rs), some (sD l), some (.list (ls.map sD)), some (.list []), none, none, none], numL 0 ls.length) := it_rng (n := ls.length) (by simp) (by rw [sl]; omega)
  refine W_for (fun ds ρ => ∃ k x4 x5 x6, k ≤ ls.length ∧ ds = numL (k : Int) (ls.length - k) ∧ (∀ t ∈ ls.take k, itR rs t ≠ none) ∧ ρ = [some (netD c rs), some (sD l), some (.list (ls.map sD)), some (.list (((ls.take k).filterMap (itR rs)).map itD)), x4, x5, x6]) hit ⟨0, none, none, none, Nat.zero_le _, rfl, by simp, by simp⟩ ?_ ?_
  · rintro d ds ρ ⟨k, x4, x5, x6, hk, e1, hok, rfl⟩
    have hkr : k < ls.length := by
      by_cases z : k < ls.length
      · exact z
      · rw [show ls.length - k = 0 by omega] at e1
        cases e1
    rw [show ls.length - k = (ls.length - (k + 1)) + 1 by omega, numL_step] at e1
    obtain ⟨rfl, rfl⟩ := List.cons.inj e1
    refine ⟨[some (netD c rs), some (sD l), some (.list (ls.map sD)), some (.list (((ls.take k).filterMap (itR rs)).map itD)), some (.int (k : Int)), x5, x6], by simp, ?_⟩
    have hm := hmem _ (List.getElem_mem hkr)
    have hAl : (((ls.take k).filterMap (itR rs)).map itD).length < sizeLine := by
      have := List.length_filterMap_le (itR rs) (ls.take k)
      rw [List.length_take] at this
      rw [List.length_map, sl]; omega
    have hb := w_dueBody (c := c) (rs := rs) ls[k] (fun d hd => ho d (hm.2 d hd)) (by have := hm.1; omega) hrs (some (sD l)) x5 x6 (ls.map sD) (((ls.take k).filterMap (itR rs)).map itD) k (by simp [hkr]) hAl
    refine hb.mono ?_
    intro fl hfl
    cases hi : itR rs ls[k] with
    | none =>
      rw [hi] at hfl
      obtain ⟨ρ', rfl⟩ := hfl
      have := scan_at (rs := rs) ls 0 k [] hkr hok hi
      rw [this]
      simp
    | some it =>
      rw [hi] at hfl
      obtain ⟨y5, y6, rfl⟩ := hfl
      have htk : (ls.take (k + 1)).filterMap (itR rs) = (ls.take k).filterMap (itR rs) ++ [it] := by
        rw [List.take_succ_eq_append_getElem hkr, List.filterMap_append]
        simp [List.filterMap_cons, hi]
      refine ⟨k + 1, _, y5, y6, hkr, by simp, ?_, by rw [htk]; simp; rfl⟩
      intro t ht
      rw [List.take_succ_eq_append_getElem hkr] at ht
      rcases List.mem_append.mp ht with ht | ht
      · exact hok t ht
      · simp at ht; subst ht; rw [hi]; simp
  · rintro ρ ⟨k, x4, x5, x6, hk, e1, hok, rfl⟩
    have hkr : k = ls.length := by
      by_cases z : k < ls.length
      · rw [show ls.length - k = (ls.length - (k + 1)) + 1 by omega, numL_step] at e1
        cases e1
      · omega
    subst hkr
    rw [List.take_length] at hok ⊢
    rw [scan_all ls 0 [] hok]
    obtain ⟨g1, g2⟩ := fm_ok (rs := rs) ls
    have el := e_lplan (c := c) (rs := rs) _ (sm_its hrs g1 (by omega)) (by omega) (by omega) hrs
    simp only [List.nil_append]
    generalize ls.filterMap (itR rs) = its at *
    have hL3 : (ls.map sD).length = ls.length := List.length_map _
    generalize ls.map sD = LS at *
    generalize hD : PyData.list (its.map itD) = D at *
    cases hpl : planB rs D with
    | true =>
      rw [hpl] at el
      simp [hL2, hL3, el, hz2, hD]
    | false =>
      rw [hpl] at el
      simp [hL2, hL3, el, hz2, hD]
end KHead

end T_Iy_k61
section T_Iz_k61
set_option maxRecDepth 100000
namespace KHead
open PySem PySem.Spec PyProof.Rows L2 Kd
/-! ### what is asked of a plan's text -/
open TL (tl spl par pre)
theorem fNe_refl {xs : List PyData} (h : SeqAt.shaped (.list xs) = true) : fNe (.list xs) (.list xs) = some (.bool false) := by
  have e : fNe (.list xs) (.list xs) = iff' (SeqAt.shaped (.list xs) && SeqAt.shaped (.list xs)) (.bool (!PyData.eqv (.list xs) (.list xs))) := by
    cases xs <;> rfl
  rw [e, h, PySem.SeqAt.eqv_refl _ (SeqAt.canLay_of_shaped h)]
  rfl
theorem dueP_ok {rs : List Rd} {l : List Nat} {its : List (Bool × List En)} (h : dueP rs l = .inr its) : (∀ it ∈ its, ∀ e ∈ it.2, enOk rs e) ∧ wt its ≤ l.length + 1 := by
  unfold dueP at h
  have hw := linesP_w l
  by_cases hex : ∃ t ∈ linesP l, itR rs t = none
  · obtain ⟨j, hj⟩ := scan_none (rs := rs) (linesP l) 0 [] hex
    rw [hj] at h
    cases h
  · have hall : ∀ t ∈ linesP l, itR rs t ≠ none := fun t ht h => hex ⟨t, ht, h⟩
    rw [scan_all _ 0 [] hall] at h
    obtain ⟨g1, g2⟩ := fm_ok (rs := rs) (linesP l)
    split at h
    · simp at h
      subst h
      exact ⟨g1, by omega⟩
    · cases h
theorem e_both61 {c : Nat} {rs : List Rd} (l : List Nat) (ho : okL l) (hl : l.length ≤ 1900) (hrs : rs.length ≤ 20) (hlook : m_look_at_net [netD c rs] = .ok ([], .none)) : m__law_both [netD c rs, sD l] = .ok ([], .bool true) := by
  suffices h : W (m__law_both [netD c rs, sD l]) fun y => y = ([], .bool true) by
    obtain ⟨y, h1, h2⟩ := h
    rw [h1, h2]
  have e1 := e_readplan (c := c) (rs := rs) l ho hl hrs hlook
  have e2 := e_due61 (c := c) (rs := rs) l ho hl hrs
  have hz : 2 ≤ sizeLine := by rw [sl]; omega
  refine W_fn (W_seq ?_)
  cases hg : dueP rs l with
  | inl j =>
    rw [hg] at e1 e2
    simp only at e1 e2
    generalize netD c rs = N at *
    generalize sD l = T at *
    simp [e2, -sSeq_]
    refine W_seq ?_
    refine W_rng' 2 (fun k ρ => ∃ x3 x4 x5 x6, ρ = [some N, some T, some (.int (j : Int)), x3, x4, x5, x6]) (it_rng (ρ := [some N, some T, some (.int (j : Int)), none, none, none, none]) (by simp) (by rw [sl]; omega)) ⟨_, _, _, _, rfl⟩ ?_ ?_
    · rintro k ρ hk ⟨x3, x4, x5, x6, rfl⟩
      refine ⟨_, rfl, ?_⟩
      have ee := e_error (.int (j : Int))
      have ef : fFldX ["NoText"] (excD "NoText" (some (.int (j : Int)))) = some (.int (j : Int)) := by kernel_rfl
      have en : isNonD (excD "NoText" (some (.int (j : Int)))) = false := rfl
      have ei : isNonD .none = true := rfl
      have hc : ("NoText" : Str) ∈ xsL := by decide
      simp [sTD, e1]
      rw [if_pos hc]
      generalize excD "NoText" (some (.int (j : Int))) = D at ee ef en
      simp [ee, ef, en, ei, isB]
    · rintro ρ ⟨x3, x4, x5, x6, rfl⟩
      simp
  | inr its =>
    rw [hg] at e1 e2
    simp only at e1 e2
    obtain ⟨g1, g2⟩ := dueP_ok hg
    have sm := sm_its hrs g1 (by omega)
    have er := sm.repr (by omega) (by omega)
    have eq := fNe_refl (sm.shaped (by omega))
    have hlt : (its.map itD).length < sizeLine := by have := wt_len its; rw [List.length_map, sl]; omega
    generalize netD c rs = N at *
    generalize sD l = T at *
    generalize its.map itD = ds at *
    simp [e2, -sSeq_]
    refine W_seq ?_
    refine W_rng' 2 (fun k ρ => ∃ x3 x4 x5 x6, ρ = [some N, some T, some (.list ds), x3, x4, x5, x6]) (it_rng (ρ := [some N, some T, some (.list ds), none, none, none, none]) (by simp) (by rw [sl]; omega)) ⟨_, _, _, _, rfl⟩ ?_ ?_
    · rintro k ρ hk ⟨x3, x4, x5, x6, rfl⟩
      refine ⟨_, rfl, ?_⟩
      simp [sTD, e1]
      simp [gD, er, eq, hlt, isNonD, isB]
    · rintro ρ ⟨x3, x4, x5, x6, rfl⟩
      simp
end KHead

end T_Iz_k61
section T_JA_k61
set_option maxRecDepth 100000
namespace KHead
open PySem PySem.Spec PyProof.Rows L2 Kd
/-! ### goings' texts, k62 -/
open PySem.NumText (AllDigits digitsVal)
open TL (tl spl par pre)
theorem sm_going {n : Nat} {xs : List PyData} (h : xs.all (endB n) = true) (hn : n ≤ 1000) (hl : xs.length ≤ 10000) : Sm 2 30000 (.list xs) := by
  obtain ⟨q1, q2⟩ := ends_of h
  refine sm_lst (k := 1) (n := 2) (l := 10000) (fun x hx => ?_) hl
  rw [q1] at hx
  obtain ⟨e, he, rfl⟩ := List.mem_map.mp hx
  obtain ⟨h1, h2⟩ := q2 e he
  refine (sm_tup (k := 0) (n := 0) (l := 2) ?_ (by simp) : Sm 1 2 (.tuple [.int (e.1 : Int), .int (e.2 : Int)]))
  intro x hx
  simp at hx
  rcases hx with rfl | rfl
  · exact sm_int (by omega)
  · exact sm_int (by omega)
/-! ### a going's own text -/
open PySem.NumText (AllDigits digitsVal)
open TL (tl spl par pre)
def wT (e : En) : List Nat := nT e.1 ++ [if e.2 = 0 then 62 else 60]
def goT (es : List En) : List Nat := TL.joinL [32] (es.map wT)
section
variable {c : Nat} {rs : List Rd} {es : List En}
theorem wT_len {e : En} (h : e.1 < 100) : (wT e).length ≤ 3 := by
  have := nT_len h
  simp [wT]; omega
theorem endR_wT {e : En} (h1 : e.1 < 40) (h2 : e.2 < 2) : endR (wT e) = some e := by
  obtain ⟨a, b⟩ := e
  unfold wT
  rw [endR_snoc, numR_nT a h1]
  simp at h2
  rcases (by omega : b = 0 ∨ b = 1) with rfl | rfl <;> rfl
theorem wT_ok (e : En) : okL (wT e) := okL_app (nT_ok _) fun c hc => by
  simp at hc
  subst hc
  split <;> omega
theorem wT_sp (e : En) : 32 ∉ wT e := fun h => by
  rcases List.mem_append.mp h with h | h
  · have := nT_dig h; omega
  · simp at h
    split at h <;> omega
theorem goT_sum (hok : ∀ e ∈ es, enOk rs e) (hrs : rs.length ≤ 20) (hl : es.length ≤ 30) : ((es.map wT).map (·.length)).sum ≤ 90 := by
  have h2 := sum_le (k := 3) (es.map wT) (fun p hp => by
    obtain ⟨e, he, rfl⟩ := List.mem_map.mp hp
    have := (hok e he).1
    exact wT_len (by omega))
  simp only [List.length_map] at h2
  omega
theorem goT_len (hok : ∀ e ∈ es, enOk rs e) (hrs : rs.length ≤ 20) (hl : es.length ≤ 30) : (goT es).length ≤ 120 := by
  have h1 := goT_sum hok hrs hl
  have h2 := joinL_len [32] (es.map wT)
  unfold goT
  simp only [List.length_cons, List.length_map, List.length_nil] at h2
  omega
theorem goT_ok : okL (goT es) := fun x hx => by
  rcases joinL_mem _ _ x hx with h | ⟨p, hp, h⟩
  · simp at h; omega
  · obtain ⟨e, he, rfl⟩ := List.mem_map.mp hp
    exact wT_ok e x h
theorem Wd_goT (h0 : es ≠ []) (hok : ∀ e ∈ es, enOk rs e) (hrs : rs.length ≤ 20) : Wd (goT es) = es.map ptD := by
  have hs : spl [32] 0 [] (goT es) = es.map wT := by
    refine TL.spl_join (by simpa using h0) fun p hp => ?_
    obtain ⟨e, he, rfl⟩ := List.mem_map.mp hp
    exact wT_sp e
  unfold Wd
  rw [hs, List.map_map]
  refine List.map_congr_left fun e he => ?_
  have := (hok e he).1
  simp only [Function.comp, endR_wT (e := e) (by omega) (hok e he).2, optE]
theorem goB_pt (h0 : es ≠ []) (hok : ∀ e ∈ es, enOk rs e) (ht : (tsD es false).all (turnB rs) = true) : goB rs (.list (es.map ptD)) false = true := by
  have h1 : (es.map ptD).isEmpty = false := by
    cases es with
    | nil => exact absurd rfl h0
    | cons _ _ => rfl
  have h2 : (es.map ptD).all (endB rs.length) = true := by
    rw [List.all_eq_true]
    intro d hd
    obtain ⟨e, he, rfl⟩ := List.mem_map.mp hd
    rw [endB_pt, decide_eq_true (hok e he).1, decide_eq_true (hok e he).2]
    rfl
  have h3 : (es.map ptD).map toEn = es := by
    rw [List.map_map]
    conv => rhs; rw [← List.map_id es]
    exact List.map_congr_left fun e _ => toEn_pt e
  simp only [goB, h1, h2, h3, ht]
  rfl
theorem sm_es (hok : ∀ e ∈ es, enOk rs e) (hrs : rs.length ≤ 20) (hl : es.length ≤ 30) : Sm 2 30000 (.list (es.map ptD)) := by
  refine sm_going (n := rs.length) (List.all_eq_true.mpr fun d hd => ?_) (by omega) (by rw [List.length_map]; omega)
  obtain ⟨e, he, rfl⟩ := List.mem_map.mp hd
  rw [endB_pt, decide_eq_true (hok e he).1, decide_eq_true (hok e he).2]
  rfl
theorem go_map (hok : ∀ e ∈ es, enOk rs e) (hrs : rs.length ≤ 20) (hl : es.length ≤ 30) (ρ : Ev) (hρ : ρ = [some (.list (es.map ptD)), none, none]) : mT1 fJoin (mC (.str (PySem.Str.ofString " "))) (mLc [] (iOf asQ (mV 0)) (gT [(gN 1), (gN 2)]) tTrue (m2 fAdd (mN fStrI [(mV 1)]) (m2 fIx (mC (.str (PySem.Str.ofString "><"))) (mV 2))) [1, 2]) ρ = .ok (ρ, sD (goT es)) := by
  subst hρ
  have hm := mLc_mapV (own := []) (it := iOf asQ (mV 0)) (g := gT [gN 1, gN 2]) (m := m2 fAdd (mN fStrI [(mV 1)]) (m2 fIx (mC (.str (PySem.Str.ofString "><"))) (mV 2))) (vs := [1, 2]) (ρ := [some (.list (es.map ptD)), none, none]) (ρ1 := [some (.list (es.map ptD)), none, none]) (ds := es.map ptD)
    (fun d => match d with | .tuple [a, b] => [some (.list (es.map ptD)), some a, some b] | _ => []) (fun d => match d with | .tuple [.int a, .int b] => sD (wT (a.toNat, b.toNat)) | _ => .none) (by simp) (by simp) (by rw [List.length_map, sl]; omega) (fun d hd => by
      obtain ⟨e, he, rfl⟩ := List.mem_map.mp hd
      obtain ⟨a, b⟩ := e
      have h1 := (hok _ he).1
      have h2 := (hok _ he).2
      simp only at h1 h2
      have s1 := fStr_n (n := a) (by omega)
      have s2 := nT_len (n := a) (by omega)
      have z : (nT a).length + 1 ≤ sizeLine := by rw [sl]; omega
      have hg : fIx (sD GL) (.int (b : Int)) = some (sD [if b = 0 then 62 else 60]) := by
        rcases (by omega : b = 0 ∨ b = 1) with rfl | rfl <;> kernel_rfl
      refine ⟨by simp [ptD, wipeE], ?_, by simp [ptD, wipeE]⟩
      simp [ptD, s1, c_gl, hg, z, wT, -fStrI_i])
  have hds : (es.map ptD).map (fun d => match d with | .tuple [.int a, .int b] => sD (wT (a.toNat, b.toNat)) | _ => .none) = (es.map wT).map sD := by
    rw [List.map_map, List.map_map]
    refine List.map_congr_left fun e he => ?_
    simp [ptD]
  rw [hds] at hm
  have hsum := goT_sum hok hrs hl
  have hj := fJoin_s [32] (es.map wT) (by rw [List.length_map]; simp only [List.length_cons, List.length_nil]; omega)
  have hj' : fJoin (sS [32]) (.list ((es.map wT).map sD)) = some (sD (goT es)) := hj
  generalize (es.map wT).map sD = LS at hm hj'
  simp [c_sp, hm, hj', -mLc_]
theorem e_gwritten (hok : ∀ e ∈ es, enOk rs e) (hrs : rs.length ≤ 20) (hl : es.length ≤ 30) : m_going_written [.list (es.map ptD)] = .ok ([], sD (goT es)) := by
  have := go_map hok hrs hl _ rfl
  simp only [m_going_written]
  simp [this, -mLc_, -mT1_]
theorem e_lgoingtext (hok : ∀ e ∈ es, enOk rs e) (hrs : rs.length ≤ 20) (hl : es.length ≤ 30) : m__law_going_text [.list (es.map ptD)] = .ok ([], sD (goT es)) := by
  have := go_map hok hrs hl _ rfl
  simp only [m__law_going_text]
  simp only [fnM_, sRt_]
  simp [this, -mLc_, -mT1_]
end
end KHead

end T_JA_k61
section T_JB_k61
set_option maxRecDepth 100000
namespace KHead
open PySem PySem.Spec PyProof.Rows L2 Kd
/-! ### a plan's text -/
open TL (tl spl par pre)
def itT (it : Bool × List En) : List Nat := (if it.1 then [114, 111, 117, 110, 100, 32] else [119, 97, 121, 32]) ++ goT it.2
theorem c_round1 : PyData.str (PySem.Str.ofString "round ") = sD [114, 111, 117, 110, 100, 32] := strC _ _ (by decide +kernel)
theorem c_way1 : PyData.str (PySem.Str.ofString "way ") = sD [119, 97, 121, 32] := strC _ _ (by decide +kernel)
section
variable {c : Nat} {rs : List Rd} {its : List (Bool × List En)}
theorem itT_len {it : Bool × List En} (hok : ∀ e ∈ it.2, enOk rs e) (hrs : rs.length ≤ 20) (hl : it.2.length ≤ 30) : (itT it).length ≤ 126 := by
  have := goT_len hok hrs hl
  obtain ⟨b, g⟩ := it
  cases b <;> simp [itT] at this ⊢ <;> omega
theorem itT_sum (hit : ∀ it ∈ its, (∀ e ∈ it.2, enOk rs e) ∧ it.2.length ≤ 30) (hrs : rs.length ≤ 20) (hl : its.length ≤ 30) : ((its.map itT).map (·.length)).sum ≤ 3780 := by
  have h2 := sum_le (k := 126) (its.map itT) (fun p hp => by
    obtain ⟨it, hi, rfl⟩ := List.mem_map.mp hp
    exact itT_len (hit it hi).1 hrs (hit it hi).2)
  simp only [List.length_map] at h2
  omega
theorem e_plantext {k n : Nat} (hlook : m_look_at_net [netD c rs] = .ok ([], .none)) (h : Sm k n (.list (its.map itD))) (hk : k ≤ 50) (hn : n ≤ 10000) (hp : planB rs (.list (its.map itD)) = true) (hit : ∀ it ∈ its, (∀ e ∈ it.2, enOk rs e) ∧ it.2.length ≤ 30) (hrs : rs.length ≤ 20) (hl : its.length ≤ 30) : m_plan_text [netD c rs, .list (its.map itD)] = .ok ([], sD (TL.joinL [10] (its.map itT))) := by
  have er := e_rplan (c := c) (rs := rs) _ h hk hn hrs
  rw [hp] at er
  have hm := mLc_mapV (own := []) (it := iOf asQ (mV 1)) (g := gT [gN 2, gN 3]) (m := m2 fAdd (mIf (tE (mV 2)) (mC (.str (PySem.Str.ofString "round "))) (mC (.str (PySem.Str.ofString "way ")))) (mCall m_going_written [.e (mV 3)] [])) (vs := [2, 3]) (ρ := [some (netD c rs), some (.list (its.map itD)), none, none]) (ρ1 := [some (netD c rs), some (.list (its.map itD)), none, none]) (ds := its.map itD)
    (fun d => match d with | .tuple [a, b] => [some (netD c rs), some (.list (its.map itD)), some a, some b] | _ => []) (fun d => match d with | .tuple [.bool b, .list xs] => sD (itT (b, xs.map toEn)) | _ => .none) (by simp) (by simp) (by rw [List.length_map, sl]; omega) (fun d hd => by
      obtain ⟨it, hi, rfl⟩ := List.mem_map.mp hd
      obtain ⟨b, g⟩ := it
      obtain ⟨h1, h2⟩ := hit _ hi
      have hw := e_gwritten (es := g) h1 hrs h2
      have hlen := goT_len (es := g) h1 hrs h2
      have z6 : 6 + (goT g).length ≤ sizeLine := by rw [sl]; omega
      have z4 : 4 + (goT g).length ≤ sizeLine := by rw [sl]; omega
      have hid : (g.map ptD).map toEn = g := by
        rw [List.map_map]
        conv => rhs; rw [← List.map_id g]
        exact List.map_congr_left fun e _ => toEn_pt e
      refine ⟨by simp [itD, wipeE], ?_, by simp [itD, wipeE]⟩
      have hf : (match (itD (b, g)) with | .tuple [.bool b, .list xs] => sD (itT (b, xs.map toEn)) | _ => .none) = sD (itT (b, g)) := by
        show sD (itT (b, (g.map ptD).map toEn)) = _
        rw [hid]
      rw [hf]
      cases b <;> simp [itD, hw, c_round1, c_way1, z6, z4, itT])
  have hds : (its.map itD).map (fun d => match d with | .tuple [.bool b, .list xs] => sD (itT (b, xs.map toEn)) | _ => .none) = (its.map itT).map sD := by
    rw [List.map_map, List.map_map]
    refine List.map_congr_left fun it hi => ?_
    obtain ⟨b, g⟩ := it
    have hid : (g.map ptD).map toEn = g := by
      rw [List.map_map]
      conv => rhs; rw [← List.map_id g]
      exact List.map_congr_left fun e _ => toEn_pt e
    show sD (itT (b, (g.map ptD).map toEn)) = _
    rw [hid]
    rfl
  rw [hds] at hm
  have hsum := itT_sum (its := its) hit hrs hl
  have hj := fJoin_s [10] (its.map itT) (by rw [List.length_map]; simp only [List.length_cons, List.length_nil]; omega)
  generalize (its.map itT).map sD = LS at hm hj
  generalize netD c rs = N at *
  generalize PyData.list (its.map itD) = D at *
  simp only [m_plan_text]
  simp [hlook, er, hm, c_nl, hj, -mLc_]
end
end KHead

end T_JB_k61
section T_JC_k61
set_option maxRecDepth 100000
namespace KHead
open PySem PySem.Spec PyProof.Rows L2 Kd
/-! ### bent texts -/
open TL (tl spl par pre)
/-- the law's signs, its words -/
def sgL : List Nat := [48, 49, 50, 62, 60, 45, 32, 10, 114, 111, 117, 110, 100, 119, 97, 121, 43, 95, 82, 87]
def wdL : List (List Nat) := [[114, 111, 117, 110, 100], [119, 97, 121], [48, 62], [49, 60], [48, 60], [50, 62], [48, 48, 62], [45, 49, 62], [62], [], [57, 62], [48], [114, 111, 117, 110, 100, 115], [49, 62], [48, 62, 48, 60]]
theorem c_sg : PyData.str (PySem.Str.ofString "012><- \nroundway+_RW") = sD sgL := strC _ _ (by decide +kernel)
theorem c_wd : ([.str (PySem.Str.ofString "round"), .str (PySem.Str.ofString "way"), .str (PySem.Str.ofString "0>"), .str (PySem.Str.ofString "1<"), .str (PySem.Str.ofString "0<"), .str (PySem.Str.ofString "2>"), .str (PySem.Str.ofString "00>"), .str (PySem.Str.ofString "-1>"), .str (PySem.Str.ofString ">"), .str (PySem.Str.ofString ""), .str (PySem.Str.ofString "9>"), .str (PySem.Str.ofString "0"), .str (PySem.Str.ofString "rounds"), .str (PySem.Str.ofString "1>"), .str (PySem.Str.ofString "0>0<")] : List PyData) = wdL.map sD := by
  simp only [wdL, List.map_cons, List.map_nil]
  rw [strC "round" _ rfl, strC "way" _ rfl, strC "0>" _ rfl, strC "1<" _ rfl, strC "0<" _ rfl, strC "2>" _ rfl, strC "00>" _ rfl, strC "-1>" _ rfl, strC ">" _ rfl, strC "" _ rfl, strC "9>" _ rfl, strC "0" _ rfl, strC "rounds" _ rfl, strC "1>" _ rfl, strC "0>0<" _ rfl]
  rfl
theorem wd_ok : ∀ w ∈ wdL, okL w ∧ w.length ≤ 9 := by
  intro w hw
  have : (wdL.all fun w => w.all (fun c => decide (c < 256)) && decide (w.length ≤ 9)) = true := by decide +kernel
  have := List.all_eq_true.mp this w hw
  simp only [Bool.and_eq_true, List.all_eq_true, decide_eq_true_eq] at this
  exact this
theorem sg_ok : okL sgL := by
  have : (sgL.all fun c => decide (c < 256)) = true := by decide +kernel
  intro c hc
  exact of_decide_eq_true (List.all_eq_true.mp this c hc)
theorem w_tbent (p : Int) (l : List Nat) (ho : okL l) (hl : l.length ≤ 800) : ∃ (q : Int) (l' : List Nat), m__law_bent [.list [.int p], sD l] = .ok ([.list [.int q]], sD l') ∧ okL l' ∧ l'.length ≤ l.length + 20 := by
  suffices hW : W (m__law_bent [.list [.int p], sD l]) fun y => ∃ (q : Int) (l' : List Nat), y = ([.list [.int q]], sD l') ∧ okL l' ∧ l'.length ≤ l.length + 20 by
    obtain ⟨y, e, q, l', e2, h⟩ := hW
    exact ⟨q, l', by rw [e, e2], h⟩
  have hs : l.length ≤ sizeLine := by rw [sl]; omega
  have hsg : sgL.length = 20 := rfl
  have hsgs : sgL.length ≤ sizeLine := by rw [sl, hsg]; omega
  have h16 : (wdL.map sD).length = 15 := rfl
  have h16s : 15 ≤ sizeLine := by rw [sl]; omega
  refine W_fn (W_seq ?_)
  simp only [List.map_cons, List.map_nil]
  have e0 : ∀ ρ, sSet 2 (mN fLst [(mC (.str (PySem.Str.ofString "round"))), (mC (.str (PySem.Str.ofString "way"))), (mC (.str (PySem.Str.ofString "0>"))), (mC (.str (PySem.Str.ofString "1<"))), (mC (.str (PySem.Str.ofString "0<"))), (mC (.str (PySem.Str.ofString "2>"))), (mC (.str (PySem.Str.ofString "00>"))), (mC (.str (PySem.Str.ofString "-1>"))), (mC (.str (PySem.Str.ofString ">"))), (mC (.str (PySem.Str.ofString ""))), (mC (.str (PySem.Str.ofString "9>"))), (mC (.str (PySem.Str.ofString "0"))), (mC (.str (PySem.Str.ofString "rounds"))), (mC (.str (PySem.Str.ofString "1>"))), (mC (.str (PySem.Str.ofString "0>0<")))]) ρ = .ok (.nx (ρ.set 2 (some (.list (wdL.map sD))))) := fun ρ => by
    rw [← c_wd]
    simp [h16s]
  rw [e0]
  have hpw : ∀ k : Nat, k < 15 → ∃ w ∈ wdL, (wdL.map sD)[k]? = some (sD w) := fun k hk => by
    have : k < wdL.length := hk
    exact ⟨wdL[k], List.getElem_mem this, by simp [this]⟩
  have hps : ∀ k : Nat, k < 20 → ∃ c ∈ sgL, fIx (sD sgL) (.int (k : Int)) = some (sD [c]) := fun k hk => by
    have : k < sgL.length := hk
    refine ⟨sgL[k], List.getElem_mem this, ?_⟩
    rw [fIx_s _ _ hsgs, atI_n, List.getElem?_eq_getElem this]
    rfl
  generalize wdL.map sD = WL at *
  have hsgz : 20 ≤ sizeLine := by rw [sl]; omega
  have hls : fLen [sD sgL] = some (.int 20) := by simp [hsgz, hsg]
  generalize hSG : sD sgL = SG at *
  simp [-sSeq_]
  refine W_seq ?_
  simp [c_sg, hSG, -sSeq_]
  refine W_seq ?_
  obtain ⟨p1, a, e1, ha⟩ := w_takeI p ((l.length : Int) + 1) (by omega) (by omega)
  simp [hs, e1, -sSeq_]
  refine W_seq ?_
  obtain ⟨p2, w, e2, hw⟩ := w_take p1 5 (by decide) (by decide)
  have e2 : m__law_take [.list [.int p1], .int 5] = .ok ([.list [.int p2]], .int (w : Int)) := e2
  simp [e2, -sSeq_]
  refine W_seq ?_
  have f1 := fSl_to l a hs
  have f2 := fSl_from l a hs
  have f3 := fSl_from1 l a hs
  have hal : a ≤ l.length := by omega
  by_cases w0 : w = 0
  · subst w0
    obtain ⟨p3, k, e3, hk⟩ := w_take p2 20 (by decide) (by decide)
    have e3 : m__law_take [.list [.int p2], .int 20] = .ok ([.list [.int p3]], .int (k : Int)) := e3
    obtain ⟨c, hc, ex⟩ := hps k hk
    have z1 : min a l.length + 1 ≤ sizeLine := by rw [sl]; omega
    have z2 : min a l.length + 1 + (l.length - a) ≤ sizeLine := by rw [sl]; omega
    simp [f1, f2, hls, e3, ex, z1, z2]
    exact ⟨p3, _, ⟨rfl, rfl⟩, okL_app (okL_take ho a) (fun d hd => by
      rcases List.mem_cons.mp hd with rfl | hd
      · exact sg_ok _ hc
      · exact okL_drop ho a d hd), by simp; omega⟩
  have w0' : ¬ (w : Int) = 0 := by omega
  simp [w0, w0', -sSeq_]
  refine W_seq ?_
  by_cases w1 : w = 1
  · subst w1
    have z2 : min a l.length + (l.length - (a + 1)) ≤ sizeLine := by rw [sl]; omega
    simp [f1, f3, z2]
    exact ⟨p2, _, ⟨rfl, rfl⟩, okL_app (okL_take ho a) (okL_drop ho _), by simp; omega⟩
  have w1' : ¬ (w : Int) = 1 := by omega
  simp [w1, w1', -sSeq_]
  refine W_seq ?_
  by_cases w2 : w = 2
  · subst w2
    obtain ⟨p3, k, e3, hk⟩ := w_take p2 20 (by decide) (by decide)
    have e3 : m__law_take [.list [.int p2], .int 20] = .ok ([.list [.int p3]], .int (k : Int)) := e3
    obtain ⟨c, hc, ex⟩ := hps k hk
    have z1 : min a l.length + 1 ≤ sizeLine := by rw [sl]; omega
    have z2 : min a l.length + 1 + (l.length - (a + 1)) ≤ sizeLine := by rw [sl]; omega
    simp [f1, f3, hls, e3, ex, z1, z2]
    exact ⟨p3, _, ⟨rfl, rfl⟩, okL_app (okL_take ho a) (fun d hd => by
      rcases List.mem_cons.mp hd with rfl | hd
      · exact sg_ok _ hc
      · exact okL_drop ho _ d hd), by simp; omega⟩
  have w2' : ¬ (w : Int) = 2 := by omega
  simp [w2, w2', -sSeq_]
  refine W_seq ?_
  have hsep : ∃ s, (s = 32 ∨ s = 10) ∧ m2 fIx (mN fLst [mC (.str (PySem.Str.ofString " ")), mC (.str (PySem.Str.ofString "\n"))]) (m2 fSub (mV 5) (mC (.int 3))) = m2 fIx (mN fLst [mC (.str (PySem.Str.ofString " ")), mC (.str (PySem.Str.ofString "\n"))]) (m2 fSub (mV 5) (mC (.int 3))) ∧ atI ([sD [32], sD [10]] : List PyData) ((w : Int) - 3) = some (sD [s]) := by
    rcases (by omega : w = 3 ∨ w = 4) with rfl | rfl
    · exact ⟨32, .inl rfl, rfl, rfl⟩
    · exact ⟨10, .inr rfl, rfl, rfl⟩
  obtain ⟨s, hs1, -, hat⟩ := hsep
  have hsb : sepB [s] = true := by rcases hs1 with rfl | rfl <;> decide
  have hsp := fSplit_s l [s] hsb (by rw [sl]; omega)
  have hz : 2 ≤ sizeLine := by rw [sl]; omega
  have hsum := spl_sum (s := s) l []
  have hne := spl_ne [s] l [] 0
  have hmem := fun q hq => (spl_mem (S := [s]) l [] 0 q hq).2
  generalize hP : spl [s] 0 [] l = P at *
  simp at hsum
  simp [c_sp, c_nl, hz, hat, hsp, -sSeq_]
  refine W_seq ?_
  have hPl : 0 < P.length := List.length_pos_iff.mpr hne
  obtain ⟨p3, i, e3, hi⟩ := w_take p2 P.length hPl (by omega)
  simp [e3, -sSeq_]
  refine W_seq ?_
  obtain ⟨p4, k, e4, hk⟩ := w_take p3 15 (by decide) (by decide)
  have e4 : m__law_take [.list [.int p3], .int 15] = .ok ([.list [.int p4]], .int (k : Int)) := e4
  obtain ⟨wd, hwd, ex⟩ := hpw k hk
  obtain ⟨wo, wl⟩ := wd_ok wd hwd
  have hset : (P.map sD).set i (sD wd) = (P.set i wd).map sD := by rw [List.map_set]
  have hss := sum_set wd P i
  have hj := fJoin_s [s] (P.set i wd) (by rw [List.length_set]; simp only [List.length_cons, List.length_nil]; omega)
  have hjl := joinL_len [s] (P.set i wd)
  rw [List.length_set] at hjl
  simp only [List.length_cons, List.length_nil] at hjl
  have hset' : (P.map sD).set i (sD wd) = (P.set i wd).map sD := hset
  have hJo : okL (TL.joinL [s] (P.set i wd)) := fun c hc => by
    rcases joinL_mem _ _ c hc with h | ⟨q, hq, h⟩
    · simp at h
      rcases hs1 with rfl | rfl <;> omega
    · rcases List.mem_or_eq_of_mem_set hq with hq | rfl
      · rcases hmem q hq c h with h | h
        · simp at h
        · exact ho c h
      · exact wo c h
  generalize TL.joinL [s] (P.set i wd) = J at *
  generalize (P.set i wd).map sD = PS at *
  simp [h16, e4, ex, ixN, hi, hset', hz, hat, hj]
  exact ⟨p4, J, ⟨rfl, rfl⟩, hJo, by omega⟩
end KHead

end T_JC_k61
section T_JD_k61
set_option maxRecDepth 100000
namespace KHead
open PySem PySem.Spec PyProof.Rows L2 Kd
/-! ### an even net -/
def reV (v a : Nat) : Nat := if v = 12 then 11 - a else a % v
def reVR (v : Nat) (r : Rd) : Rd := ((reV v r.1.1, r.1.2), (reV v r.2.1, r.2.2))
theorem reV_lt {v a : Nat} (hv : v = 1 ∨ v = 2 ∨ v = 12) : reV v a < v := by
  unfold reV
  rcases hv with rfl | rfl | rfl
  · rw [if_neg (by decide)]; exact Nat.mod_lt _ (by decide)
  · rw [if_neg (by decide)]; exact Nat.mod_lt _ (by decide)
  · rw [if_pos rfl]; omega
theorem w_even (p : Int) (n : Nat) (hn : n ≤ 20) : ∃ (q : Int) (c : Nat) (rs : List Rd), m__law_even_net [.list [.int p], .int (n : Int)] = .ok ([.list [.int q]], netD c rs) ∧ 1 ≤ c ∧ c ≤ 12 ∧ rs.length ≤ n ∧ ∀ r ∈ rs, rdOk c r := by
  suffices hW : W (m__law_even_net [.list [.int p], .int (n : Int)]) fun y => ∃ (q : Int) (c : Nat) (rs : List Rd), y = ([.list [.int q]], netD c rs) ∧ 1 ≤ c ∧ c ≤ 12 ∧ rs.length ≤ n ∧ ∀ r ∈ rs, rdOk c r by
    obtain ⟨y, e, q, c, rs, e2, h⟩ := hW
    exact ⟨q, c, rs, by rw [e, e2], h⟩
  obtain ⟨q, c, rs, e1, h1, h2, h3, h4⟩ := w_net p n hn
  refine W_fn (W_seq ?_)
  simp [e1, -sSeq_]
  refine W_seq ?_
  obtain ⟨q2, w, e2, hw⟩ := w_take q 4 (by decide) (by decide)
  have e2 : m__law_take [.list [.int q], .int 4] = .ok ([.list [.int q2]], .int (w : Int)) := e2
  simp [e2, -sSeq_]
  refine W_seq ?_
  have hN : fIx (netD c rs) (.int 1) = some (.tuple (rs.map rdD)) := by simp [netD]
  have hrl : rs.length ≤ sizeLine := by rw [sl]; omega
  have hz : 2 ≤ sizeLine := by rw [sl]; omega
  have hz3 : 3 ≤ sizeLine := by rw [sl]; omega
  by_cases hw0 : w = 0
  · subst hw0
    simp
    exact ⟨q2, c, rs, ⟨rfl, rfl⟩, h1, by omega, h3, fun a b a' b' h => h4 _ h⟩
  have hw0' : ¬ (w : Int) = 0 := by omega
  by_cases hr2 : rs.length < 2
  · have hr2' : (rs.length : Int) < 2 := by omega
    simp [hw0, hN, hrl, hr2']
    exact ⟨q2, c, rs, ⟨rfl, rfl⟩, h1, by omega, h3, fun a b a' b' h => h4 _ h⟩
  have hr2' : ¬ (rs.length : Int) < 2 := by omega
  simp [hw0, hN, hrl, hr2', -sSeq_]
  refine W_seq ?_
  obtain ⟨q3, t, e3, ht⟩ := w_take q2 3 (by decide) (by decide)
  have e3 : m__law_take [.list [.int q2], .int 3] = .ok ([.list [.int q3]], .int (t : Int)) := e3
  obtain ⟨v, hv, hat⟩ : ∃ v : Nat, (v = 1 ∨ v = 2 ∨ v = 12) ∧ ([.int 1, .int 2, .int 12] : List PyData)[t]? = some (.int (v : Int)) := by
    rcases (by omega : t = 0 ∨ t = 1 ∨ t = 2) with rfl | rfl | rfl
    · exact ⟨1, .inl rfl, rfl⟩
    · exact ⟨2, .inr (.inl rfl), rfl⟩
    · exact ⟨12, .inr (.inr rfl), rfl⟩
  simp [hz3, e3, hat, -sSeq_]
  refine W_seq ?_
  simp [-sSeq_]
  refine W_seq ?_
  refine W_for' (fun ds ρ => ∃ k x6 x7 x8 x9, k ≤ rs.length ∧ ds = (rs.drop k).map rdD ∧ ρ = [some (.list [.int q3]), some (.int (n : Int)), some (netD c rs), some (.int (w : Int)), some (.int (v : Int)), some (.list (((rs.take k).map (reVR v)).map rdD)), x6, x7, x8, x9]) (ds := rs.map rdD) (ρ1 := [some (.list [.int q3]), some (.int (n : Int)), some (netD c rs), some (.int (w : Int)), some (.int (v : Int)), some (.list []), none, none, none, none]) (by simp [hN]) ⟨0, _, _, _, _, Nat.zero_le _, rfl, rfl⟩ ?_ ?_
  · rintro d ds ρ ⟨k, x6, x7, x8, x9, hk, e4, rfl⟩
    have hkr : k < rs.length := by
      by_cases z : k < rs.length
      · exact z
      · rw [List.drop_of_length_le (by omega)] at e4
        cases e4
    have hdr : rs.drop k = rs[k] :: rs.drop (k + 1) := List.drop_eq_getElem_cons hkr
    rw [hdr] at e4
    obtain ⟨rfl, rfl⟩ := List.cons.inj e4
    obtain ⟨g1, g2, g3, g4⟩ := h4 rs[k] (List.getElem_mem hkr)
    refine ⟨_, rfl, ?_⟩
    have htk : ((rs.take (k + 1)).map (reVR v)).map rdD = ((rs.take k).map (reVR v)).map rdD ++ [rdD (reVR v rs[k])] := by
      rw [List.take_succ_eq_append_getElem hkr, List.map_append, List.map_append]; rfl
    have hAl : (((rs.take k).map (reVR v)).map rdD).length < sizeLine := by rw [List.length_map, List.length_map, List.length_take, sl]; omega
    have hgo : ∃ k' x6 x7 x8 x9, k' ≤ rs.length ∧ (rs.drop (k + 1)).map rdD = (rs.drop k').map rdD ∧ ([some (.list [.int q3]), some (.int (n : Int)), some (netD c rs), some (.int (w : Int)), some (.int (v : Int)), some (.list (((rs.take k).map (reVR v)).map rdD ++ [rdD (reVR v rs[k])])), some (.int (rs[k].1.1 : Nat)), some (.int (rs[k].1.2 : Nat)), some (.int (rs[k].2.1 : Nat)), some (.int (rs[k].2.2 : Nat))] : Ev) = [some (.list [.int q3]), some (.int (n : Int)), some (netD c rs), some (.int (w : Int)), some (.int (v : Int)), some (.list (((rs.take k').map (reVR v)).map rdD)), x6, x7, x8, x9] := ⟨k + 1, _, _, _, _, hkr, rfl, by rw [htk]⟩
    have hj : rdD (reVR v rs[k]) = .tuple [.tuple [.int (reV v rs[k].1.1 : Nat), .int (rs[k].1.2 : Nat)], .tuple [.int (reV v rs[k].2.1 : Nat), .int (rs[k].2.2 : Nat)]] := rfl
    rw [hj] at hgo
    generalize ((rs.take k).map (reVR v)).map rdD = A at *
    generalize (rs.drop (k + 1)).map rdD = R at *
    generalize hr : rs[k] = r at *
    refine W.mono (P := fun fl => fl = .nx [some (.list [.int q3]), some (.int (n : Int)), some (netD c rs), some (.int (w : Int)), some (.int (v : Int)), some (.list (A ++ [.tuple [.tuple [.int (reV v r.1.1 : Nat), .int (r.1.2 : Nat)], .tuple [.int (reV v r.2.1 : Nat), .int (r.2.2 : Nat)]]])), some (.int (r.1.1 : Nat)), some (.int (r.1.2 : Nat)), some (.int (r.2.1 : Nat)), some (.int (r.2.2 : Nat))]) ?_ (fun fl h => by subst h; exact hgo)
    by_cases hv12 : v = 12
    · subst hv12
      have f1 : (11 : Int) - (r.1.1 : Int) = ((reV 12 r.1.1 : Nat) : Int) := by
        simp only [reV, if_pos]; omega
      have f2 : (11 : Int) - (r.2.1 : Int) = ((reV 12 r.2.1 : Nat) : Int) := by
        simp only [reV, if_pos]; omega
      simp [hz, hAl, f1, f2]
    · have hv12' : ¬ (v : Int) = 12 := by omega
      have f1 : (r.1.1 : Int).fmod (v : Int) = ((reV v r.1.1 : Nat) : Int) := by
        rw [Int.fmod_eq_emod_of_nonneg _ (by omega)]
        simp only [reV, if_neg hv12]; omega
      have f2 : (r.2.1 : Int).fmod (v : Int) = ((reV v r.2.1 : Nat) : Int) := by
        rw [Int.fmod_eq_emod_of_nonneg _ (by omega)]
        simp only [reV, if_neg hv12]; omega
      have hv0 : ¬ v = 0 := by omega
      simp [hz, hAl, hv12, hv12', hv0, f1, f2]
  · rintro ρ ⟨k, x6, x7, x8, x9, hk, e4, rfl⟩
    have hkr : k = rs.length := by
      by_cases z : k < rs.length
      · rw [List.drop_eq_getElem_cons z] at e4
        cases e4
      · omega
    subst hkr
    rw [List.take_length]
    have hre : ∀ r ∈ rs.map (reVR v), rdOk v r := fun r hr => by
      obtain ⟨r0, hr0, rfl⟩ := List.mem_map.mp hr
      obtain ⟨g1, g2, g3, g4⟩ := h4 r0 hr0
      exact ⟨reV_lt hv, g2, reV_lt hv, g4⟩
    have hre2 : (rs.map (reVR v)).length ≤ n := by rw [List.length_map]; omega
    generalize rs.map (reVR v) = rs2 at hre hre2
    have hz2 : (rs2.map rdD).length ≤ sizeLine := by rw [List.length_map, sl]; omega
    simp [hz, hz2, -List.length_map]
    exact ⟨q3, v, rs2, ⟨rfl, rfl⟩, by omega, by omega, hre2, fun a b a' b' h => hre _ h⟩
end KHead

end T_JD_k61
section T_JE_k61
set_option maxRecDepth 100000
namespace KHead
open PySem PySem.Spec PyProof.Rows L2 Kd
theorem maxmin (l : Nat) (b : Nat) (hb : 2 ≤ b) : ∃ n : Nat, (if (if (b : Int) < (l : Int) then (b : Int) else (l : Int)) > 2 then (if (b : Int) < (l : Int) then (b : Int) else (l : Int)) else 2) = (n : Int) ∧ n ≤ b := by
  by_cases h1 : (b : Int) < (l : Int)
  · by_cases h2 : (b : Int) > 2
    · exact ⟨b, by rw [if_pos h1, if_pos h2], Nat.le_refl _⟩
    · exact ⟨2, by rw [if_pos h1, if_neg h2]; rfl, hb⟩
  · by_cases h2 : (l : Int) > 2
    · exact ⟨l, by rw [if_neg h1, if_pos h2], by omega⟩
    · exact ⟨2, by rw [if_neg h1, if_neg h2]; rfl, hb⟩
theorem its_len {its : List (Bool × List En)} {L : Nat} (h : (its.flatMap fun it => it.2.map Prod.fst).Perm (List.range L)) (hn : ∀ it ∈ its, it.2 ≠ []) : its.length ≤ L ∧ ∀ it ∈ its, it.2.length ≤ L := by
  have e : (its.flatMap fun it => it.2.map Prod.fst).length = L := by rw [h.length_eq]; simp
  rw [← e]
  clear h e
  induction its with
  | nil => simp
  | cons it r ih =>
    obtain ⟨i1, i2⟩ := ih fun u hu => hn u (List.mem_cons_of_mem _ hu)
    have h1 := List.length_pos_iff.mpr (hn it List.mem_cons_self)
    simp only [List.flatMap_cons, List.length_append, List.length_map, List.length_cons]
    refine ⟨by omega, fun u hu => ?_⟩
    rcases List.mem_cons.mp hu with rfl | hu
    · omega
    · have := i2 u hu
      omega
theorem flat_pick (its : List (Bool × List En)) (os : List Nat) (h : os.Perm (List.range its.length)) : (os.flatMap fun o => ((its[o]?).getD (false, [])).2.map Prod.fst).Perm (its.flatMap fun it => it.2.map Prod.fst) := by
  have h1 := List.Perm.flatMap_right (fun o => ((its[o]?).getD (false, [])).2.map Prod.fst) h
  refine h1.trans (List.Perm.of_eq ?_)
  have h2 := range_pick (false, ([] : List En)) its
  conv => rhs; rw [← h2]
  rw [List.flatMap_map]
/-- a plan of a drawn table, in drawn writings and order -/
theorem w_rewrite {rs : List Rd} {T : List (En × En)} (h : Tab rs T) (hl : rs.length ≤ 20) {its : List (Bool × List En)} (hv : ∀ it ∈ its, VG (jnT T) it.1 it.2 ∧ ∀ x ∈ it.2, enOk rs x) (hp : (its.flatMap fun it => it.2.map Prod.fst).Perm (List.range rs.length)) (q : Int) (S k N w w2 : Option PyData) (a6 : Option PyData) :
    ∃ (q' : Int) (js : List (Bool × List En)), mLc [2] (iOf asL (mCall m__law_order_of [.io 2, .e (mN fLen [(mV 4)])] [])) (gN 5) tTrue (mCall m__law_written [.io 2, .e (m2 fIx (mV 4) (mV 5))] []) [5] [S, k, some (.list [.int q]), N, some (.list (its.map itD)), a6, w, w2] = .ok ([S, k, some (.list [.int q']), N, some (.list (its.map itD)), a6, w, w2], .list (js.map itD)) ∧
      (∀ it ∈ js, VG (jnT T) it.1 it.2 ∧ ∀ x ∈ it.2, enOk rs x) ∧ (js.flatMap fun it => it.2.map Prod.fst).Perm (List.range rs.length) := by
  have hJ := h.jn
  obtain ⟨hil, hgl⟩ := its_len hp fun it hi => (hv it hi).1.ne
  obtain ⟨q2, os, e7, h7⟩ := w_order q its.length (by omega)
  have hol : os.length = its.length := by rw [h7.length_eq]; simp
  suffices hW : W (mLc [2] (iOf asL (mCall m__law_order_of [.io 2, .e (mN fLen [(mV 4)])] [])) (gN 5) tTrue (mCall m__law_written [.io 2, .e (m2 fIx (mV 4) (mV 5))] []) [5] [S, k, some (.list [.int q]), N, some (.list (its.map itD)), a6, w, w2]) fun y => ∃ (q' : Int) (js : List (Bool × List En)), y = ([S, k, some (.list [.int q']), N, some (.list (its.map itD)), a6, w, w2], .list (js.map itD)) ∧ (∀ it ∈ js, VG (jnT T) it.1 it.2 ∧ ∀ x ∈ it.2, enOk rs x) ∧ (js.flatMap fun it => it.2.map Prod.fst).Perm (List.range rs.length) by
    obtain ⟨y, e, q', js, rfl, h1⟩ := hW
    exact ⟨q', js, e, h1⟩
  refine W_mLc (ρ1 := [S, k, some (.list [.int q2]), N, some (.list (its.map itD)), a6, w, w2]) (ds := os.map nI) (fun acc r ρ => ∃ (q : Int) (x6 : Option PyData) (dn rest : List Nat) (js : List (Bool × List En)), ρ = [S, k, some (.list [.int q]), N, some (.list (its.map itD)), x6, w, w2] ∧ os = dn ++ rest ∧ r = rest.map nI ∧ acc = js.map itD ∧ js.length = dn.length ∧ (∀ it ∈ js, VG (jnT T) it.1 it.2 ∧ ∀ x ∈ it.2, enOk rs x) ∧ (js.flatMap fun it => it.2.map Prod.fst).Perm (dn.flatMap fun o => ((its[o]?).getD (false, [])).2.map Prod.fst))
    (by simp [e7]) (by simp [allSet]) (by rw [List.length_map, hol, sl]; omega) ⟨q2, a6, [], os, [], rfl, rfl, rfl, rfl, rfl, by simp, by simp⟩ ?_ ?_ ?_
  · rintro acc d r ρ ⟨q, x6, dn, rest, js, rfl, ho, hr, rfl, hjl, hjv, hjp⟩
    cases rest with
    | nil => cases hr
    | cons o rest =>
      simp only [List.map_cons, List.cons.injEq] at hr
      obtain ⟨rfl, rfl⟩ := hr
      have hoI : o < its.length := by
        have := h7.mem_iff.mp (by rw [ho]; simp : o ∈ os)
        simpa using this
      obtain ⟨b, g, hbg⟩ : ∃ b g, its[o] = (b, g) := ⟨_, _, rfl⟩
      have hmem : (b, g) ∈ its := by rw [← hbg]; exact List.getElem_mem hoI
      obtain ⟨v, hg⟩ := hv _ hmem
      have hgl2 : g.length ≤ 20 := by have := hgl _ hmem; simp at this; omega
      obtain ⟨q3, g', e3, v', p'⟩ := w_written (rs := rs) hJ q v hgl2
      have hg' : ∀ x ∈ g', enOk rs x := fun x hx => by
        have : x.1 ∈ g.map Prod.fst := p'.mem_iff.mp (List.mem_map.mpr ⟨x, hx, rfl⟩)
        obtain ⟨y, hy, e⟩ := List.mem_map.mp this
        exact ⟨by rw [← e]; exact (hg y hy).1, v'.vl x hx⟩
      have hix : (its.map itD)[o]? = some (itD (b, g)) := by rw [List.getElem?_map, List.getElem?_eq_getElem hoI, hbg]; rfl
      refine ⟨[S, k, some (.list [.int q]), N, some (.list (its.map itD)), some (nI o), w, w2], by simp, ?_⟩
      simp only [tTrue_, W_ok]
      refine ⟨fun _ => ?_, fun h => by simp at h⟩
      refine ⟨([S, k, some (.list [.int q3]), N, some (.list (its.map itD)), some (nI o), w, w2], itD (b, g')), ?_, q3, some (nI o), dn ++ [o], rest, js ++ [(b, g')], rfl, by rw [ho]; simp, rfl, by simp, by simp [hjl], ?_, ?_⟩
      · simp [nI, hoI, e3, hbg]
      · intro it hit
        rcases List.mem_append.mp hit with hit | hit
        · exact hjv it hit
        · simp at hit; subst hit; exact ⟨v', hg'⟩
      · rw [List.flatMap_append, List.flatMap_append]
        refine hjp.append ?_
        simp [hoI, hbg]
        exact p'
  · rintro acc ρ ⟨q, x6, dn, rest, js, rfl, ho, hr, rfl, hjl, hjv, hjp⟩
    have hr : rest = [] := by simpa using hr.symm
    subst hr
    rw [List.append_nil] at ho
    rw [List.length_map, hjl, ← ho, hol, sl]; omega
  · rintro acc ρ ⟨q, x6, dn, rest, js, rfl, ho, hr, rfl, hjl, hjv, hjp⟩
    have hr : rest = [] := by simpa using hr.symm
    subst hr
    rw [List.append_nil] at ho
    subst ho
    exact ⟨q, js, by simp, hjv, (hjp.trans (flat_pick its os h7)).trans hp⟩
end KHead

end T_JE_k61
section T_JF_k61
set_option maxRecDepth 100000
namespace KHead
open PySem PySem.Spec PyProof.Rows L2 Kd
/-! ### law_k61 -/
open TL (tl spl par pre)
def planT (its : List (Bool × List En)) : List Nat := TL.joinL [10] (its.map itT)
theorem goT_len4 {rs : List Rd} {es : List En} (hok : ∀ e ∈ es, enOk rs e) (hrs : rs.length ≤ 20) : (goT es).length ≤ 4 * es.length := by
  have h2 := sum_le (k := 3) (es.map wT) (fun p hp => by
    obtain ⟨e, he, rfl⟩ := List.mem_map.mp hp
    have := (hok e he).1
    exact wT_len (by omega))
  have h3 := joinL_len [32] (es.map wT)
  unfold goT
  simp only [List.length_cons, List.length_map, List.length_nil] at h2 h3
  omega
theorem itT_len7 {rs : List Rd} {it : Bool × List En} (hok : ∀ e ∈ it.2, enOk rs e) (hrs : rs.length ≤ 20) : (itT it).length + 1 ≤ 7 * (it.2.length + 1) := by
  have := goT_len4 hok hrs
  obtain ⟨b, g⟩ := it
  cases b <;> simp [itT] at this ⊢ <;> omega
theorem planT_sum {rs : List Rd} (hrs : rs.length ≤ 20) : ∀ (its : List (Bool × List En)), (∀ it ∈ its, ∀ e ∈ it.2, enOk rs e) → ((its.map itT).map (·.length)).sum + its.length ≤ 7 * wt its
  | [], _ => by simp [wt]
  | it :: r, h => by
    have h1 := itT_len7 (h it List.mem_cons_self) hrs
    have h2 := planT_sum hrs r (fun u hu => h u (List.mem_cons_of_mem _ hu))
    rw [wt_c]
    simp only [List.map_cons, List.sum_cons, List.length_cons]
    omega
theorem planT_len {rs : List Rd} (hrs : rs.length ≤ 20) {its : List (Bool × List En)} (h : ∀ it ∈ its, ∀ e ∈ it.2, enOk rs e) : (planT its).length ≤ 7 * wt its := by
  have h1 := planT_sum hrs its h
  have h2 := joinL_len [10] (its.map itT)
  unfold planT
  simp only [List.length_cons, List.length_map, List.length_nil] at h2
  omega
theorem itT_ok (it : Bool × List En) : okL (itT it) := by
  obtain ⟨b, g⟩ := it
  cases b
  · exact okL_app (fun c hc => by simp at hc; omega) goT_ok
  · exact okL_app (fun c hc => by simp at hc; omega) goT_ok
theorem planT_ok {its : List (Bool × List En)} : okL (planT its) := fun x hx => by
  rcases joinL_mem _ _ x hx with h | ⟨p, hp, h⟩
  · simp at h; omega
  · obtain ⟨it, hi, rfl⟩ := List.mem_map.mp hp
    exact itT_ok it x h
theorem wt_flat (its : List (Bool × List En)) : wt its = (its.flatMap fun it => it.2.map Prod.fst).length + its.length := by
  induction its with
  | nil => rfl
  | cons it r ih =>
    rw [wt_c, ih]
    simp only [List.flatMap_cons, List.length_append, List.length_map, List.length_cons]
    omega
theorem c_round2 : PyData.str (PySem.Str.ofString "round ") = sD [114, 111, 117, 110, 100, 32] := strC _ _ (by decide +kernel)
theorem c_way2 : PyData.str (PySem.Str.ofString "way ") = sD [119, 97, 121, 32] := strC _ _ (by decide +kernel)
section
variable {c : Nat} {rs : List Rd} {its : List (Bool × List En)}
theorem w_good61 (p : Int) (hlook : m_look_at_net [netD c rs] = .ok ([], .none)) (hrs : rs.length ≤ 20) (hp : planB rs (.list (its.map itD)) = true) (hit : ∀ it ∈ its, (∀ e ∈ it.2, enOk rs e) ∧ it.2.length ≤ 20) (hl : its.length ≤ 20) (hw : wt its ≤ 50) : ∃ q : Int, m__law_plan_good [.list [.int p], netD c rs, .list (its.map itD)] = .ok ([.list [.int q]], .bool true) := by
  suffices hW : W (m__law_plan_good [.list [.int p], netD c rs, .list (its.map itD)]) fun y => ∃ q : Int, y = ([.list [.int q]], .bool true) by
    obtain ⟨y, e, q, rfl⟩ := hW
    exact ⟨q, e⟩
  have sm := sm_its hrs (fun it hi => (hit it hi).1) (show wt its ≤ 2000 by omega)
  have er := sm.repr (by omega) (by omega)
  have et := e_plantext (c := c) (rs := rs) (its := its) hlook sm (by omega) (by omega) hp (fun it hi => ⟨(hit it hi).1, by have := (hit it hi).2; omega⟩) hrs (by omega)
  have hTl := planT_len hrs (fun it hi => (hit it hi).1)
  have hTo := planT_ok (its := its)
  have hsum := planT_sum hrs its (fun it hi => (hit it hi).1)
  have eb := e_both61 (c := c) (rs := rs) (planT its) hTo (by omega) hrs hlook
  have hj := fJoin_s [10] (its.map itT) (by rw [List.length_map]; simp only [List.length_cons, List.length_nil]; omega)
  have hz2 : 2 ≤ sizeLine := by rw [sl]; omega
  have hm : ∀ H : Option PyData, mLc [0] (iOf asQ (mV 2)) (gT [(gN 5), (gN 6)]) tTrue (m2 fAdd (m2 fIx (mN fLst [(mC (.str (PySem.Str.ofString "way "))), (mC (.str (PySem.Str.ofString "round ")))]) (mN fInt [(mV 5)])) (mCall m__law_going_text [.e (mV 6)] [])) [5, 6] [some (.list [.int p]), some (netD c rs), some (.list (its.map itD)), H, none, none, none, none] = .ok ([some (.list [.int p]), some (netD c rs), some (.list (its.map itD)), H, none, none, none, none], .list ((its.map itT).map sD)) := fun H => by
    have hm := mLc_mapV (own := [0]) (it := iOf asQ (mV 2)) (g := gT [gN 5, gN 6]) (m := m2 fAdd (m2 fIx (mN fLst [(mC (.str (PySem.Str.ofString "way "))), (mC (.str (PySem.Str.ofString "round ")))]) (mN fInt [(mV 5)])) (mCall m__law_going_text [.e (mV 6)] [])) (vs := [5, 6]) (ρ := [some (.list [.int p]), some (netD c rs), some (.list (its.map itD)), H, none, none, none, none]) (ρ1 := [some (.list [.int p]), some (netD c rs), some (.list (its.map itD)), H, none, none, none, none]) (ds := its.map itD)
      (fun d => match d with | .tuple [a, b] => [some (.list [.int p]), some (netD c rs), some (.list (its.map itD)), H, none, some a, some b, none] | _ => []) (fun d => match d with | .tuple [.bool b, .list xs] => sD (itT (b, xs.map toEn)) | _ => .none) (by simp) (by simp [allSet]) (by rw [List.length_map, sl]; omega) (fun d hd => by
        obtain ⟨it, hi, rfl⟩ := List.mem_map.mp hd
        obtain ⟨b, g⟩ := it
        obtain ⟨q1, q2⟩ := hit _ hi
        have q2 : g.length ≤ 20 := q2
        have hw := e_lgoingtext (es := g) q1 hrs (by omega)
        have hlen := goT_len4 (es := g) q1 hrs
        have z6 : 6 + (goT g).length ≤ sizeLine := by rw [sl]; omega
        have z4 : 4 + (goT g).length ≤ sizeLine := by rw [sl]; omega
        have hid : (g.map ptD).map toEn = g := by
          rw [List.map_map]
          conv => rhs; rw [← List.map_id g]
          exact List.map_congr_left fun e _ => toEn_pt e
        refine ⟨by simp [itD, wipeE], ?_, by simp [itD, wipeE]⟩
        have hf : (match (itD (b, g)) with | .tuple [.bool b, .list xs] => sD (itT (b, xs.map toEn)) | _ => .none) = sD (itT (b, g)) := by
          show sD (itT (b, (g.map ptD).map toEn)) = _
          rw [hid]
        rw [hf]
        cases b <;> simp [itD, hw, c_round2, c_way2, hz2, z6, z4, itT])
    have hds : (its.map itD).map (fun d => match d with | .tuple [.bool b, .list xs] => sD (itT (b, xs.map toEn)) | _ => .none) = (its.map itT).map sD := by
      rw [List.map_map, List.map_map]
      refine List.map_congr_left fun it hi => ?_
      obtain ⟨b, g⟩ := it
      have hid : (g.map ptD).map toEn = g := by
        rw [List.map_map]
        conv => rhs; rw [← List.map_id g]
        exact List.map_congr_left fun e _ => toEn_pt e
      show sD (itT (b, (g.map ptD).map toEn)) = _
      rw [hid]
      rfl
    rw [hds] at hm
    exact hm
  have hB := fun (p : Int) => w_tbent p (planT its) hTo (by omega)
  have hV := fun (T2 : List Nat) (o2 : okL T2) (l2 : T2.length ≤ 1900) => e_both61 (c := c) (rs := rs) T2 o2 l2 hrs hlook
  have hjT : TL.joinL [10] (its.map itT) = planT its := rfl
  rw [hjT] at hj et
  have hTl2 : (planT its).length ≤ 400 := by omega
  clear hTl hsum hTo
  generalize planT its = T at *
  generalize (its.map itT).map sD = LS at *
  generalize PyData.list (its.map itD) = D at *
  generalize netD c rs = N at *
  refine W_fn (W_seq ?_)
  simp [er, -sSeq_]
  refine W_seq ?_
  simp [hm, c_nl, hj, -mLc_, -sSeq_]
  refine W_seq ?_
  have hss : fNe (sD T) (sD T) = some (.bool false) := by simp
  simp [et, er, hss, eb, -sSeq_]
  refine W_seq ?_
  refine W_rng' 6 (fun j ρ => ∃ q x7, ρ = [some (.list [.int q]), some N, some D, some (.str D.shown), some (sD T), none, none, x7]) (it_rng (n := 6) (ρ := [some (.list [.int p]), some N, some D, some (.str D.shown), some (sD T), none, none, none]) (by simp) (by rw [sl]; omega)) ⟨p, none, rfl⟩ ?_ ?_
  · rintro j ρ hj ⟨q, x7, rfl⟩
    refine ⟨_, rfl, ?_⟩
    obtain ⟨q2, T2, b1, o2, l2⟩ := hB q
    have v2 := hV T2 o2 (by omega)
    simp [b1, v2]
  · rintro ρ ⟨q, x7, rfl⟩
    simp [er]
end
def goodT (d : PyData) : Prop := ∃ l, d = sD l ∧ okL l ∧ l.length ≤ 1900
theorem good_str (s : String) (h : ((s.toList.map Char.toNat).all (fun c => decide (c < 256)) && decide ((s.toList.map Char.toNat).length ≤ 900)) = true) : goodT (.str (PySem.Str.ofString s)) := by
  obtain ⟨h1, h2⟩ := Bool.and_eq_true_iff.mp h
  have h2 := of_decide_eq_true h2
  exact ⟨_, strC s _ rfl, fun c hc => of_decide_eq_true (List.all_eq_true.mp h1 c hc), by omega⟩
def ringR : List Rd := [((0, 0), (0, 0))]
theorem ring_ok : ∀ r ∈ ringR, rdOk 1 r := fun r hr => by
  simp [ringR] at hr
  subst hr
  exact ⟨by decide, by decide, by decide, by decide⟩
theorem law_true (ns : List Int) (hns : ns.length ≤ 63) : ∃ os, m_law [.list (ns.map .int)] = .ok (os, .bool true) := by
  suffices hW : W (m_law [.list (ns.map .int)]) fun y => y.2 = .bool true by
    obtain ⟨⟨os, y⟩, e, rfl⟩ := hW
    exact ⟨os, e⟩
  refine W_fn (W_seq ?_)
  obtain ⟨n, hn, hle⟩ := maxmin ns.length 8 (by decide)
  have hz2 : 2 ≤ sizeLine := by rw [sl]; omega
  refine W_rng' n (fun k ρ => ∃ x1 x2 x3 x4 x5 x6 x7, ρ = [some (.list (ns.map .int)), x1, x2, x3, x4, x5, x6, x7])
    (it_rng (ρ := [some (.list (ns.map .int)), none, none, none, none, none, none, none]) (by simp; exact hn) (by rw [sl]; omega)) ⟨_, _, _, _, _, _, _, rfl⟩ ?_ ?_
  · rintro k ρ hk ⟨x1, x2, x3, x4, x5, x6, x7, rfl⟩
    refine ⟨_, rfl, ?_⟩
    refine W_seq ?_
    obtain ⟨p, e1⟩ := w_pile ns k (by omega)
    simp [-sSeq_, e1]
    refine W_seq ?_
    have hmod : ∃ b : Nat, ([.int 6, .int 13] : List PyData)[k % 2]? = some (.int (b : Int)) ∧ b ≤ 13 := by
      rcases (by omega : k % 2 = 0 ∨ k % 2 = 1) with h | h
      · exact ⟨6, by rw [h]; rfl, by omega⟩
      · exact ⟨13, by rw [h]; rfl, by omega⟩
    obtain ⟨b, hb, hb14⟩ := hmod
    have hat : atI ([.int 6, .int 13] : List PyData) ((k : Int).fmod 2) = some (.int (b : Int)) := by
      rw [Int.fmod_eq_emod_of_nonneg _ (by omega), show (k : Int) % 2 = ((k % 2 : Nat) : Int) by omega, atI_n]; exact hb
    obtain ⟨q, c, rs, e2, h1, h2, h3, h4⟩ := w_even p b (by omega)
    simp [-sSeq_, hz2, hat, e2]
    have h3' : rs.length ≤ 13 := by omega
    have hlook := e_look (netD c rs) (sm_net h4 h2 (by omega)) (by omega) (net_D h1 h2 h4)
    refine W_seq ?_
    obtain ⟨q2, T, f1, hTab, hTl⟩ := w_table (c := c) (rs := rs) q 4 (by decide) (by decide) h2 (by omega)
    have f1 : m__law_drawn_table [.list [.int q], netD c rs, .int 4] = .ok ([.list [.int q2]], .list (T.map tnD)) := f1
    obtain ⟨its, f2, hv, hp, _⟩ := w_plan (c := c) hTab (by omega) (show rs.length ≤ 20 by omega)
    simp [-sSeq_, f1, f2]
    refine W_seq ?_
    obtain ⟨q3, js, f3, hv3, hp3⟩ := w_rewrite hTab (show rs.length ≤ 20 by omega) hv hp q2 (some (.list (ns.map .int))) (some (.int (k : Int))) (some (netD c rs)) x6 x7 x5
    simp [-sSeq_, -mLc_, f3]
    obtain ⟨hjl, hjg⟩ := its_len hp3 fun it hi => (hv3 it hi).1.ne
    have hpl := plan_ok hTab hv3 hp3
    have hwt : wt js ≤ 50 := by
      rw [wt_flat, hp3.length_eq, List.length_range]; omega
    obtain ⟨q4, f4⟩ := w_good61 (c := c) (rs := rs) (its := js) q3 hlook (by omega) hpl (fun it hi => ⟨(hv3 it hi).2, by have := hjg it hi; omega⟩) (by omega) hwt
    have hB : ∀ d, goodT d → m__law_both [netD c rs, d] = .ok ([], .bool true) := fun d hd => by
      obtain ⟨l, rfl, o, hl⟩ := hd
      exact e_both61 l o hl (by omega) hlook
    clear hTab hv hp hv3 hp3 hpl hwt hjg f1 f2 f3 hlook h4 e2
    generalize PyData.list (js.map itD) = P at *
    generalize netD c rs = N at *
    refine W_seq ?_
    simp [-sSeq_, f4]
    have z11 : 11 ≤ sizeLine := by rw [sl]; omega
    have z7 : 7 ≤ sizeLine := by rw [sl]; omega
    have z18 : 18 ≤ sizeLine := by rw [sl]; omega
    have z20 : 20 ≤ sizeLine := by rw [sl]; omega
    refine W_seq ?_
    simp [-sSeq_, z11]
    refine W_seq ?_
    simp [-sSeq_, -sFor_, z7, z18]
    refine W_forE (fun r ρ => ∃ (x7 : Option PyData) (x6 : PyData), ρ = [some (.list (ns.map .int)), some (.int (k : Int)), some (.list [.int q4]), some N, some P, x5, some x6, x7] ∧ ∀ x ∈ r, goodT x) ?_ ?_ ?_
    · simp [hz2, z20]
      have G := fun s h => good_str s h
      refine ⟨?_, ?_, ?_, ?_, ?_, ?_, ?_, ?_, ?_, ?_, ?_, ?_, ?_, ?_, ?_, ?_, ?_, ?_, ?_, ?_⟩ <;> exact G _ (by decide +kernel)
    · rintro d r ρ ⟨y7, y6, rfl, hr⟩
      refine ⟨_, rfl, ?_⟩
      have := hB d (hr d List.mem_cons_self)
      simp [this]
      exact fun x hx => hr x (List.mem_cons_of_mem _ hx)
    · rintro ρ ⟨y7, y6, rfl, hr⟩
      exact ⟨_, _, _, _, _, _, _, rfl⟩
  · rintro ρ ⟨x1, x2, x3, x4, x5, x6, x7, rfl⟩
    have s0 : Sm 4 282 (netD 1 []) := sm_net (fun r hr => by cases hr) (by omega) (by simp)
    have l0 := e_look (netD 1 []) s0 (by omega) (net_D (by omega) (by omega) (fun r hr => by cases hr))
    have b0 := e_both61 (c := 1) (rs := []) [] (fun c hc => by cases hc) (by simp) (by simp) l0
    have s1 : Sm 4 282 (netD 1 ringR) := sm_net ring_ok (by omega) (by decide)
    have l1 := e_look (netD 1 ringR) s1 (by omega) (net_D (by omega) (by omega) ring_ok)
    have b1 := e_both61 (c := 1) (rs := ringR) [119, 97, 121, 32, 48, 62, 32, 48, 62] (fun c hc => by simp at hc; omega) (by decide) (by decide) l1
    rw [← strC "" [] (by decide +kernel)] at b0
    rw [← strC "way 0> 0>" [119, 97, 121, 32, 48, 62, 32, 48, 62] (by decide +kernel)] at b1
    have b0' : m__law_both [.tuple [.int 1, .tuple []], .str (PySem.Str.ofString "")] = .ok ([], .bool true) := b0
    have b1' : m__law_both [.tuple [.int 1, .tuple [.tuple [.tuple [.int 0, .int 0], .tuple [.int 0, .int 0]]]], .str (PySem.Str.ofString "way 0> 0>")] = .ok ([], .bool true) := b1
    have z1 : 1 ≤ sizeLine := by rw [sl]; omega
    simp [hz2, z1, b0', b1', isB]
end KHead

end T_JF_k61
set_option maxRecDepth 100000
set_option maxHeartbeats 8000000
open PySem PySem.W PySem.Calls PyProof.Rows
theorem PySem.Challenge.cw_kindtrails_k61_plans_written_holds : PySem.Challenge.rw_kindtrails_k61_plans_written.Holds := by
  w_on; o_law
  refine HandSHeadRun.head_any (r := OpenLaw.row PySem.Challenge.rw_kindtrails_k61_plans_written) (q := view (OpenLaw.row PySem.Challenge.rw_kindtrails_k61_plans_written).prog [82]) (H := KHead.hk) (ob := KHead.ob) (M := 20000) (loose := KHead.loose) (d := HandSHeadRun.topDef (OpenLaw.row PySem.Challenge.rw_kindtrails_k61_plans_written).prog 82) (kwd := []) KHead.ob_eq
    (by kernel_rfl) (fun s => by kernel_rfl) KHead.run (by kernel_rfl) (by kernel_rfl) (by kernel_rfl) (by rfl) (by first | assumption | decide +kernel) (by decide +kernel) ⟨rfl, rfl, rfl, rfl, rfl, by decide +kernel⟩ ?hw ?hc
  case hw => w_witness2
  case hc =>
    refine Kd.walk_g (l := PySem.Challenge.rw_kindtrails_k61_plans_written) (n := 63) (k := 10) (x := "_law_script") rfl (by decide) (by kernel_rfl) ⟨rfl, by decide, by decide⟩ ?F
    intro w mg fa h Y G hmg0
    obtain ⟨K, KX, c⟩ := Y
    have hmg : mg ("law" : PySem.Str) = some (.ref fa) := by
      have e : (HandSHeadRun.topDef (OpenLaw.row PySem.Challenge.rw_kindtrails_k61_plans_written).prog 82).name = ("law" : PySem.Str) := by kernel_rfl
      rw [← e]
      exact hmg0
    have T := KHead.tx_of KX G c.t.d c.more
    obtain ⟨fd, F⟩ := T.d_law
    have e := hmg.symm.trans T.g_law
    cases e
    have b := L2.FunD.bindsA (ps := ["_law_script"]) F fun _ _ _ _ _ _ us hl => match us, hl with | [_], _ => rfl
    exact ⟨K, fd, KHead.m_law, KX, fun s u => b s [u] rfl, KHead.law_true, fun base _ _ => KHead.fn_law T F (PySem.Challenge.rw_kindtrails_k61_plans_written).prog w base⟩
