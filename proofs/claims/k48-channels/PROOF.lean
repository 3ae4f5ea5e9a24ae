import PyProof.Rows.All
import Wide.All
import OpenK.AllK
import Wide.FinOn
import HandS.ForMost
import HandS.TupAny
import HandS.Deep
import HandS.Wide
import HandS.Style
import HandS.TupLe
import HandS.Flow
import KE.DataCmp
import KE.DataEq
import HandS.Rev
import HandS.RevRange
import HandS.Zip
import HandS.IsInst
import HandS.SetFor
import HandS.Conv
import HandS.Gcd
import KE.DataMinMax
import KE.SortData
import KE.DatumOrd
import KE.DatumMore
import KE.DatumMoreOrd
import HandS.TupMul
import PySem.Challenge.RW_roundline_k48_whole_channels_of_masts
set_option Elab.async false
set_option linter.all false
set_option maxRecDepth 100000
set_option maxHeartbeats 4000000
/-! PV0: plain values over the abstract heap: what a value denotes (Dn), a frame's bindings (Rel), a step (Stp), results (RV), soundness of readings (Snd). -/
namespace PV
open PySem PySem.Spec PyProof.Rows L2

abbrev D := PyData
abbrev Kf := PySem.W.Frag

def kD : Key → D
  | .inl i => .int i
  | .inr x => .str x

/-- a list that nobody writes: locked, or of the written part -/
def SqZ (K : Kf) (H : Hp) (a : Addr) (xs : List V) : Prop :=
  (∃ o, H a = some (.frz o (.lst xs))) ∨
    ∃ (o : Obj) (its : Array Value) (n : Nat), K.lookup a = some o ∧ o.cls = .type "list" ∧ o.dict = none ∧ o.data = .seq its n ∧ its.size ≤ sizeLine ∧ Vals xs its.toList
theorem SqZ.sq {K : Kf} {H : Hp} {a : Addr} {xs : List V} (h : SqZ K H a xs) : SqL K H a xs := by
  rcases h with ⟨o, h⟩ | h
  · exact .inl (.inr ⟨o, h⟩)
  · exact .inr h

mutual
inductive Dn (K : Kf) (F : Addr → Prop) (H : Hp) : V → D → Prop
  | non : Dn K F H .non .none
  | bl (b : Bool) : Dn K F H (.bl b) (.bool b)
  | int (i : Int) : Dn K F H (.int i) (.int i)
  | str (x : Str) : Dn K F H (.str x) (.str x)
  | lst {a : Addr} {xs : List V} {ds : List D} : F a → H a = some (.lst xs) → xs.length ≤ sizeLine → DnAll K F H xs ds → Dn K F H (.ref a) (.list ds)
  | tup {a : Addr} {xs : List V} {ds : List D} : SqT K H a xs → xs.length ≤ sizeLine → DnAll K F H xs ds → Dn K F H (.ref a) (.tuple ds)
  | dic {a : Addr} {ws : List (Key × V)} {ds : List (D × D)} : F a → H a = some (.dK ws) → ws.length ≤ sizeLine → DnKv K F H ws ds → Dn K F H (.ref a) (.dict ds)
inductive DnAll (K : Kf) (F : Addr → Prop) (H : Hp) : List V → List D → Prop
  | nil : DnAll K F H [] []
  | cons {v : V} {vs : List V} {d : D} {ds : List D} : Dn K F H v d → DnAll K F H vs ds → DnAll K F H (v :: vs) (d :: ds)
inductive DnKv (K : Kf) (F : Addr → Prop) (H : Hp) : List (Key × V) → List (D × D) → Prop
  | nil : DnKv K F H [] []
  | cons {k : Key} {v : V} {vs : List (Key × V)} {d : D} {ds : List (D × D)} : Dn K F H v d → DnKv K F H vs ds → DnKv K F H ((k, v) :: vs) ((kD k, d) :: ds)
end

def Stb : HO → Prop
  | .tup _ => True
  | .frz _ _ => True
  | _ => False
def Kp (F : Addr → Prop) (H H' : Hp) : Prop := ∀ a o, H a = some o → (F a ∨ Stb o) → H' a = some o

section
variable {K : Kf} {F F' : Addr → Prop} {H H' : Hp}
theorem SqZ.mono (hk : Kp F H H') {a : Addr} {xs : List V} (h : SqZ K H a xs) : SqZ K H' a xs := by
  rcases h with ⟨o, h⟩ | h
  · exact .inl ⟨o, hk _ _ h (.inr trivial)⟩
  · exact .inr h
theorem sqT_mono (hk : Kp F H H') {a : Addr} {xs : List V} (h : SqT K H a xs) : SqT K H' a xs := by
  rcases h with (h | ⟨o, h⟩) | h
  · exact .inl (.inl (hk _ _ h (.inr trivial)))
  · exact .inl (.inr ⟨o, hk _ _ h (.inr trivial)⟩)
  · exact .inr h
mutual
theorem Dn.mono (hF : ∀ a, F a → F' a) (hk : Kp F H H') : ∀ (d : D) (v : V), Dn K F H v d → Dn K F' H' v d
  | .none, _, h => by cases h; exact .non
  | .bool b, _, h => by cases h; exact .bl b
  | .int i, _, h => by cases h; exact .int i
  | .str x, _, h => by cases h; exact .str x
  | .list ds, _, h => by
    cases h with
    | lst hf ha hl hd => exact .lst (hF _ hf) (hk _ _ ha (.inl hf)) hl (DnAll.mono hF hk ds _ hd)
  | .tuple ds, _, h => by
    cases h with
    | tup hs hl hd => exact .tup (sqT_mono hk hs) hl (DnAll.mono hF hk ds _ hd)
  | .dict ds, _, h => by
    cases h with
    | dic hf ha hl hd => exact .dic (hF _ hf) (hk _ _ ha (.inl hf)) hl (DnKv.mono hF hk ds _ hd)
theorem DnAll.mono (hF : ∀ a, F a → F' a) (hk : Kp F H H') : ∀ (ds : List D) (vs : List V), DnAll K F H vs ds → DnAll K F' H' vs ds
  | [], _, h => by cases h; exact .nil
  | d :: ds, _, h => by
    cases h with
    | cons h1 h2 => exact .cons (Dn.mono hF hk d _ h1) (DnAll.mono hF hk ds _ h2)
theorem DnKv.mono (hF : ∀ a, F a → F' a) (hk : Kp F H H') : ∀ (ds : List (D × D)) (vs : List (Key × V)), DnKv K F H vs ds → DnKv K F' H' vs ds
  | [], _, h => by cases h; exact .nil
  | (_, d) :: ds, _, h => by
    cases h with
    | cons h1 h2 => exact .cons (Dn.mono hF hk d _ h1) (DnKv.mono hF hk ds _ h2)
end
theorem DnAll.length : ∀ {vs : List V} {ds : List D}, DnAll K F H vs ds → vs.length = ds.length
  | _, _, .nil => rfl
  | _, _, .cons _ h => by rw [List.length_cons, List.length_cons, DnAll.length h]
theorem DnAll.get : ∀ {vs : List V} {ds : List D} {i : Nat} {v : V}, DnAll K F H vs ds → vs[i]? = some v → ∃ d, ds[i]? = some d ∧ Dn K F H v d
  | _, _, _, _, .nil, e => by simp at e
  | _, _, 0, v, .cons h _, e => by
    simp at e; subst e
    exact ⟨_, rfl, h⟩
  | _, _, i + 1, v, .cons _ h, e => DnAll.get (i := i) h (by simpa using e)
theorem DnAll.get' : ∀ {vs : List V} {ds : List D} {i : Nat} {d : D}, DnAll K F H vs ds → ds[i]? = some d → ∃ v, vs[i]? = some v ∧ Dn K F H v d
  | _, _, _, _, .nil, e => by simp at e
  | _, _, 0, v, .cons h _, e => by
    simp at e; subst e
    exact ⟨_, rfl, h⟩
  | _, _, i + 1, v, .cons _ h, e => DnAll.get' (i := i) h (by simpa using e)
theorem DnAll.append : ∀ {vs ws : List V} {ds es : List D}, DnAll K F H vs ds → DnAll K F H ws es → DnAll K F H (vs ++ ws) (ds ++ es)
  | _, _, _, _, .nil, h => h
  | _, _, _, _, .cons h1 h2, h => .cons h1 (DnAll.append h2 h)
theorem DnAll.one {v : V} {d : D} (h : Dn K F H v d) : DnAll K F H [v] [d] := .cons h .nil
theorem DnAll.take : ∀ {vs : List V} {ds : List D} (n : Nat), DnAll K F H vs ds → DnAll K F H (vs.take n) (ds.take n)
  | _, _, 0, _ => by rw [List.take_zero, List.take_zero]; exact .nil
  | _, _, _ + 1, .nil => .nil
  | _, _, n + 1, .cons h1 h2 => .cons h1 (DnAll.take n h2)
theorem DnAll.drop : ∀ {vs : List V} {ds : List D} (n : Nat), DnAll K F H vs ds → DnAll K F H (vs.drop n) (ds.drop n)
  | _, _, 0, h => h
  | _, _, _ + 1, .nil => .nil
  | _, _, n + 1, .cons _ h2 => DnAll.drop n h2
theorem DnAll.reverse {vs : List V} {ds : List D} (h : DnAll K F H vs ds) : DnAll K F H vs.reverse ds.reverse := by
  induction vs generalizing ds with
  | nil => cases h; exact .nil
  | cons v vs ih =>
    cases h with
    | cons h1 h2 =>
      rw [List.reverse_cons, List.reverse_cons]
      exact (ih h2).append (.one h1)
theorem DnAll.dropLast {vs : List V} {ds : List D} (h : DnAll K F H vs ds) : DnAll K F H vs.dropLast ds.dropLast := by
  rw [List.dropLast_eq_take, List.dropLast_eq_take, ← h.length]
  exact h.take _
theorem DnAll.set : ∀ {vs : List V} {ds : List D} {v : V} {d : D} (i : Nat), DnAll K F H vs ds → Dn K F H v d → DnAll K F H (vs.set i v) (ds.set i d)
  | _, _, _, _, _, .nil, _ => .nil
  | _, _, _, _, 0, .cons _ h2, h => .cons h h2
  | _, _, _, _, i + 1, .cons h1 h2, h => .cons h1 (DnAll.set i h2 h)
theorem DnAll.eraseIdx : ∀ {vs : List V} {ds : List D} (i : Nat), DnAll K F H vs ds → DnAll K F H (vs.eraseIdx i) (ds.eraseIdx i)
  | _, _, _, .nil => .nil
  | _, _, 0, .cons _ h2 => h2
  | _, _, i + 1, .cons h1 h2 => .cons h1 (DnAll.eraseIdx i h2)
theorem DnAll.flatRep {vs : List V} {ds : List D} (h : DnAll K F H vs ds) : ∀ n : Nat, DnAll K F H (List.replicate n vs).flatten (List.replicate n ds).flatten
  | 0 => .nil
  | n + 1 => by
    rw [List.replicate_succ, List.replicate_succ, List.flatten_cons, List.flatten_cons]
    exact h.append (DnAll.flatRep h n)
theorem DnKv.length : ∀ {vs : List (Key × V)} {ds : List (D × D)}, DnKv K F H vs ds → vs.length = ds.length
  | _, _, .nil => rfl
  | _, _, .cons _ h => by rw [List.length_cons, List.length_cons, DnKv.length h]
end

/-! ### objects that are owned -/
inductive OD where
  | lst (ds : List D)
  | dic (kvs : List (Key × D))
@[simp] def OD.dat : OD → D
  | .lst ds => .list ds
  | .dic kvs => .dict (kvs.map fun p => (kD p.1, p.2))
def ObjIs (K : Kf) (F : Addr → Prop) (H : Hp) (a : Addr) : OD → Prop
  | .lst ds => ∃ xs, H a = some (.lst xs) ∧ xs.length ≤ sizeLine ∧ DnAll K F H xs ds
  | .dic kvs => ∃ ws, H a = some (.dK ws) ∧ ws.length ≤ sizeLine ∧ ws.map (·.1) = kvs.map (·.1) ∧ DnAll K F H (ws.map (·.2)) (kvs.map (·.2))
theorem ObjIs.some {K : Kf} {F : Addr → Prop} {H : Hp} {a : Addr} {o : OD} (h : ObjIs K F H a o) : ∃ u, H a = some u ∧ ¬ Stb u := by
  cases o with
  | lst ds => obtain ⟨xs, e, _⟩ := h; exact ⟨_, e, fun z => z⟩
  | dic kvs => obtain ⟨ws, e, _⟩ := h; exact ⟨_, e, fun z => z⟩
theorem ObjIs.mono {K : Kf} {F F' : Addr → Prop} {H H' : Hp} {a : Addr} {o : OD} (hF : ∀ a, F a → F' a) (hk : Kp F H H') (ha : ∀ u, H a = Option.some u → H' a = Option.some u) (h : ObjIs K F H a o) : ObjIs K F' H' a o := by
  cases o with
  | lst ds => obtain ⟨xs, e, l, d⟩ := h; exact ⟨xs, ha _ e, l, DnAll.mono hF hk _ _ d⟩
  | dic kvs => obtain ⟨ws, e, l, q, d⟩ := h; exact ⟨ws, ha _ e, l, q, DnAll.mono hF hk _ _ d⟩
theorem kv_of {K : Kf} {F : Addr → Prop} {H : Hp} : ∀ {ws : List (Key × V)} {kvs : List (Key × D)}, ws.map (·.1) = kvs.map (·.1) → DnAll K F H (ws.map (·.2)) (kvs.map (·.2)) → DnKv K F H ws (kvs.map fun p => (kD p.1, p.2))
  | [], [], _, _ => .nil
  | (k, v) :: ws, (k', d) :: kvs, e, h => by
    simp only [List.map_cons, List.cons.injEq] at e
    obtain ⟨e1, e2⟩ := e
    subst e1
    cases h with
    | cons h1 h2 => exact .cons h1 (kv_of e2 h2)
/-- an owned object is frozen: from now on it may be shared, and is no longer written -/
theorem ObjIs.freeze {K : Kf} {F F' : Addr → Prop} {H : Hp} {a : Addr} {o : OD} (hF : ∀ b, F b → F' b) (ha : F' a) (h : ObjIs K F H a o) : Dn K F' H (.ref a) o.dat := by
  have hk : Kp F H H := fun _ _ e _ => e
  cases o with
  | lst ds => obtain ⟨xs, e, l, d⟩ := h; exact .lst ha e l (DnAll.mono hF hk _ _ d)
  | dic kvs => obtain ⟨ws, e, l, q, d⟩ := h; exact .dic ha e l (kv_of q (DnAll.mono hF hk _ _ d))

/-- a slot's binding: not known; a value; an object that the slot alone holds: m = 0 its own, 1 the caller's, 2 and 3 the same while a loop walks it -/
inductive B where
  | un
  | val (d : D)
  | obj (m : Nat) (o : OD)
  | zl (ds : List D)

def SlotIs (K : Kf) (F : Addr → Prop) (H : Hp) (x : Option V) : B → Prop
  | .un => True
  | .val d => ∃ v, x = some v ∧ Dn K F H v d
  | .obj _ o => ∃ a, x = some (.ref a) ∧ ObjIs K F H a o
  | .zl ds => ∃ a xs, x = some (.ref a) ∧ SqZ K H a xs ∧ xs.length ≤ sizeLine ∧ DnAll K F H xs ds
/-- slot i holds the object at a -/
def Ows (σ : L2.St) (η : List B) (i : Nat) (a : Addr) : Prop := σ[i]? = some (some (V.ref a)) ∧ ∃ (m : Nat) (o : OD), η[i]? = some (B.obj m o)
def Hold (σ : L2.St) (η : List B) (a : Addr) : Prop := ∃ i, Ows σ η i a
/-- .. and may write it -/
def Own (σ : L2.St) (η : List B) (a : Addr) : Prop := ∃ (i m : Nat) (o : OD), σ[i]? = some (some (V.ref a)) ∧ η[i]? = some (B.obj m o) ∧ m < 2
theorem Own.hold {σ : L2.St} {η : List B} {a : Addr} (h : Own σ η a) : Hold σ η a := let ⟨i, m, o, e, e', _⟩ := h; ⟨i, e, m, o, e'⟩

structure Rel (K : Kf) (F : Addr → Prop) (σ : L2.St) (H : Hp) (η : List B) : Prop where
  len : η.length = σ.length
  dom : ∀ a, F a → ∃ o, H a = some o
  slot : ∀ (i : Nat) b, η[i]? = some b → SlotIs K F H (σ[i]?.join) b
  apart : ∀ i j a, Ows σ η i a → Ows σ η j a → i = j
  loose : ∀ i a, Ows σ η i a → ¬ F a
section
variable {K : Kf} {F F' : Addr → Prop} {σ σ' : L2.St} {H H' : Hp} {η η' : List B}
theorem Rel.holdObj (R : Rel K F σ H η) {i : Nat} {a : Addr} {m : Nat} {o : OD} (e : σ[i]? = some (some (V.ref a))) (q : η[i]? = some (B.obj m o)) : ObjIs K F H a o := by
  obtain ⟨b, e', h⟩ := R.slot i _ q
  rw [e] at e'
  cases e'
  exact h
theorem Rel.obj (R : Rel K F σ H η) {i : Nat} {m : Nat} {o : OD} (q : η[i]? = some (B.obj m o)) : ∃ a, σ[i]? = some (some (V.ref a)) ∧ ObjIs K F H a o ∧ Ows σ η i a := by
  obtain ⟨a, e', h⟩ := R.slot i _ q
  have e : σ[i]? = some (some (V.ref a)) := by
    cases z : σ[i]? with
    | none => rw [z] at e'; cases e'
    | some y =>
      rw [z] at e'
      rw [show y = some (V.ref a) from e']
  exact ⟨a, e, h, e, m, o, q⟩
theorem Rel.val (R : Rel K F σ H η) {i : Nat} {d : D} (q : η[i]? = some (B.val d)) : ∃ v, σ[i]? = some (some v) ∧ Dn K F H v d := by
  obtain ⟨a, e', h⟩ := R.slot i _ q
  cases z : σ[i]? with
  | none => rw [z] at e'; cases e'
  | some y =>
    rw [z] at e'
    exact ⟨a, by rw [show y = some a from e'], h⟩
theorem Rel.holdSome (R : Rel K F σ H η) {a : Addr} (h : Hold σ η a) : ∃ u, H a = some u ∧ ¬ Stb u := by
  obtain ⟨i, e, m, o, q⟩ := h
  exact (R.holdObj e q).some
theorem Rel.holdF (R : Rel K F σ H η) {a : Addr} (h : Hold σ η a) : ¬ F a := let ⟨i, o⟩ := h; R.loose i a o
end

/-! ### a step from one state to another -/
structure Stp (K : Kf) (F : Addr → Prop) (σ : L2.St) (H : Hp) (η : List B) (F' : Addr → Prop) (σ' : L2.St) (H' : Hp) (η' : List B) : Prop where
  rel : Rel K F' σ' H' η'
  keep : ∀ a o, H a = some o → ¬ Own σ η a → H' a = some o
  live : ∀ a o, H a = some o → ∃ o', H' a = some o'
  sub : ∀ a, F a → F' a
  new : ∀ a, F' a → F a ∨ Own σ η a ∨ H a = none
  hold : ∀ a, Hold σ' η' a → Hold σ η a ∨ H a = none
  own : ∀ a, Own σ' η' a → Own σ η a ∨ H a = none
  lenS : σ'.length = σ.length
  prot : ∀ (i m : Nat) (o : OD), η[i]? = some (B.obj m o) → 1 ≤ m → σ'[i]? = σ[i]? ∧ ∃ o', η'[i]? = some (B.obj m o') ∧ (2 ≤ m → o' = o)
section
variable {K : Kf} {F F' F1 F2 : Addr → Prop} {σ σ' σ1 σ2 : L2.St} {H H' H1 H2 : Hp} {η η' η1 η2 : List B}
theorem Stp.refl (R : Rel K F σ H η) : Stp K F σ H η F σ H η :=
  ⟨R, fun _ _ e _ => e, fun _ o e => ⟨o, e⟩, fun _ h => h, fun _ h => .inl h, fun _ h => .inl h, fun _ h => .inl h, rfl, fun _ _ o e _ => ⟨rfl, o, e, fun _ => rfl⟩⟩
theorem Stp.back (s : Stp K F σ H η F1 σ1 H1 η1) {a : Addr} (h : H1 a = none) : H a = none := by
  cases e : H a with
  | none => rfl
  | some o =>
    obtain ⟨o', q⟩ := s.live a o e
    rw [h] at q
    cases q
theorem Stp.trans (s : Stp K F σ H η F1 σ1 H1 η1) (t : Stp K F1 σ1 H1 η1 F2 σ2 H2 η2) : Stp K F σ H η F2 σ2 H2 η2 where
  rel := t.rel
  keep := fun a o e n => by
    have e1 := s.keep a o e n
    refine t.keep a o e1 fun z => ?_
    rcases s.own a z with z | z
    · exact n z
    · rw [e] at z; cases z
  live := fun a o e => let ⟨o', e'⟩ := s.live a o e; t.live a o' e'
  sub := fun a h => t.sub a (s.sub a h)
  new := fun a h => by
    rcases t.new a h with z | z | z
    · exact s.new a z
    · exact .inr (s.own a z)
    · exact .inr (.inr (s.back z))
  hold := fun a h => by
    rcases t.hold a h with z | z
    · exact s.hold a z
    · exact .inr (s.back z)
  own := fun a h => by
    rcases t.own a h with z | z
    · exact s.own a z
    · exact .inr (s.back z)
  lenS := t.lenS.trans s.lenS
  prot := fun i m o e h => by
    obtain ⟨e1, o1, q1, w1⟩ := s.prot i m o e h
    obtain ⟨e2, o2, q2, w2⟩ := t.prot i m o1 q1 h
    exact ⟨e2.trans e1, o2, q2, fun z => (w2 z).trans (w1 z)⟩
/-- what is frozen or never changes stays -/
theorem Stp.kp (R : Rel K F σ H η) (s : Stp K F σ H η F1 σ1 H1 η1) : Kp F H H1 := fun a o e h => by
  refine s.keep a o e fun z => ?_
  obtain ⟨u, e', ns⟩ := R.holdSome z.hold
  rw [e] at e'
  cases e'
  rcases h with h | h
  · exact R.holdF z.hold h
  · exact ns h
theorem Stp.dn (R : Rel K F σ H η) (s : Stp K F σ H η F1 σ1 H1 η1) {v : V} {d : D} (h : Dn K F H v d) : Dn K F1 H1 v d := Dn.mono s.sub (s.kp R) d v h
theorem Stp.dnAll (R : Rel K F σ H η) (s : Stp K F σ H η F1 σ1 H1 η1) {v : List V} {d : List D} (h : DnAll K F H v d) : DnAll K F1 H1 v d := DnAll.mono s.sub (s.kp R) d v h
end

/-! ### results -/
inductive R where
  | val (d : D)
  | fr (o : OD)
  | bor (i : Nat)
  | ty (n : String)
  | zl (ds : List D)
def RV (K : Kf) (F : Addr → Prop) (σ : L2.St) (H : Hp) (η : List B) (v : V) : R → Prop
  | .val d => Dn K F H v d
  | .fr o => ∃ p, v = .ref p ∧ ¬ F p ∧ ¬ Hold σ η p ∧ ObjIs K F H p o
  | .bor i => σ[i]? = some (some v)
  | .ty n => v = .ty n
  | .zl ds => ∃ a xs, v = .ref a ∧ SqZ K H a xs ∧ xs.length ≤ sizeLine ∧ DnAll K F H xs ds
def Fresh (H : Hp) (v : V) : R → Prop
  | .fr _ => ∀ p, v = .ref p → H p = none
  | _ => True
section
variable {K : Kf} {F F' F1 F2 : Addr → Prop} {σ σ' σ1 σ2 : L2.St} {H H' H1 H2 : Hp} {η η' η1 η2 : List B} {v w : V} {r : R}
theorem RV.step (Rl : Rel K F σ H η) (s : Stp K F σ H η F1 σ H1 η1) (h : RV K F σ H η v r) : RV K F1 σ H1 η1 v r := by
  cases r with
  | val d => exact s.dn Rl h
  | fr o =>
    obtain ⟨p, e, nf, nh, ob⟩ := h
    obtain ⟨u, hu, _⟩ := ob.some
    have no : ¬ Own σ η p := fun z => nh z.hold
    refine ⟨p, e, fun z => ?_, fun z => ?_, ob.mono s.sub (s.kp Rl) fun u q => s.keep p u q no⟩
    · rcases s.new p z with z | z | z
      · exact nf z
      · exact no z
      · rw [hu] at z; cases z
    · rcases s.hold p z with z | z
      · exact nh z
      · rw [hu] at z; cases z
  | bor i => exact h
  | ty n => exact h
  | zl ds =>
    obtain ⟨a, xs, e, hz, hl, hd⟩ := h
    exact ⟨a, xs, e, hz.mono (s.kp Rl), hl, s.dnAll Rl hd⟩
theorem Fresh.back (s : Stp K F σ H η F1 σ1 H1 η1) (h : Fresh H1 v r) : Fresh H v r := by
  cases r with
  | fr o => exact fun p e => s.back (h p e)
  | val d => trivial
  | bor i => trivial
  | ty n => trivial
  | zl ds => trivial
end

/-! ### soundness of readings -/
abbrev EF := List B → Option (R × List B)
abbrev TF := List B → Option (Bool × List B)
abbrev AF := List B → Option (List R × List B)
def Snd (K : Kf) (t : TE) (f : EF) : Prop := ∀ F σ H η r η', Rel K F σ H η → f η = some (r, η') → ∀ Q : VK,
  (∀ F' H' v, Stp K F σ H η F' σ H' η' → RV K F' σ H' η' v r → Fresh H v r → Q v H') → t σ H Q
def SndT (K : Kf) (t : TT) (f : TF) : Prop := ∀ F σ H η b η', Rel K F σ H η → f η = some (b, η') → ∀ Q : Bool → Hp → Prop,
  (∀ F' H', Stp K F σ H η F' σ H' η' → Q b H') → t σ H Q
inductive RVs (K : Kf) (F : Addr → Prop) (σ : L2.St) (H : Hp) (η : List B) : List V → List R → Prop
  | nil : RVs K F σ H η [] []
  | cons {v : V} {vs : List V} {r : R} {rs : List R} : RV K F σ H η v r → RVs K F σ H η vs rs → RVs K F σ H η (v :: vs) (r :: rs)
def SndA (K : Kf) (t : TA) (f : AF) : Prop := ∀ F σ H η rs η', Rel K F σ H η → f η = some (rs, η') → ∀ Q : List V → Hp → Prop,
  (∀ F' H' vs, Stp K F σ H η F' σ H' η' → RVs K F' σ H' η' vs rs → Q vs H') → t σ H Q

structure SE (X : Cx) (e : Expr) (t : TE) (f : EF) : Prop where
  pe : PE X e t
  sd : Snd X.K t f
structure ST (X : Cx) (e : Expr) (t : TT) (f : TF) : Prop where
  pt : PT X e t
  sd : SndT X.K t f
structure SA (X : Cx) (es : List Expr) (t : TA) (f : AF) : Prop where
  pa : PA X es t
  sd : SndA X.K t f

/-! ### a value: an owned object is frozen -/
@[simp] def toVal (r : R) (η : List B) : Option (D × List B) := match r with
  | .val d => some (d, η)
  | .fr o => some (o.dat, η)
  | .bor i => match η[i]? with
    | some (.val d) => some (d, η)
    | some (.obj 0 o) => some (o.dat, η.set i (.val o.dat))
    | _ => none
  | _ => none
@[simp] def frz (f : EF) : EF := fun η => (f η).bind fun (r, η1) => (toVal r η1).map fun (d, η2) => (.val d, η2)

section
variable {K : Kf} {F F' : Addr → Prop} {σ : L2.St} {H H' : Hp} {η η' : List B} {t : TE} {f : EF}
theorem set_get {α : Type} {l : List α} {i j : Nat} {x y : α} (h : (l.set i x)[j]? = some y) : (i = j ∧ y = x) ∨ (i ≠ j ∧ l[j]? = some y) := by
  by_cases e : i = j
  · subst e
    by_cases hl : i < l.length
    · rw [List.getElem?_set_self hl] at h
      exact .inl ⟨rfl, (Option.some.inj h).symm⟩
    · rw [List.getElem?_eq_none (by simpa using hl)] at h
      cases h
  · rw [List.getElem?_set_ne e] at h
    exact .inr ⟨e, h⟩
/-- slot i's own object is frozen -/
theorem Rel.freeze (R : Rel K F σ H η) {i : Nat} {a : Addr} {o : OD} (e : σ[i]? = some (some (V.ref a))) (q : η[i]? = some (B.obj 0 o)) :
    Stp K F σ H η (fun b => F b ∨ b = a) σ H (η.set i (.val o.dat)) := by
  have ob := R.holdObj e q
  obtain ⟨u, hu, _⟩ := ob.some
  have hF : ∀ b, F b → F b ∨ b = a := fun _ h => .inl h
  have ow : Ows σ η i a := ⟨e, 0, o, q⟩
  have back : ∀ j b, Ows σ (η.set i (.val o.dat)) j b → Ows σ η j b ∧ i ≠ j := fun j b h => by
    obtain ⟨e1, m, o1, q1⟩ := h
    rcases set_get q1 with ⟨_, z⟩ | ⟨n, z⟩
    · cases z
    · exact ⟨⟨e1, m, o1, z⟩, n⟩
  have kp : Kp F H H := fun _ _ e _ => e
  refine ⟨⟨?_, fun b h => ?_, fun j b h => ?_, fun j k b h1 h2 => ?_, fun j b h => ?_⟩, fun _ _ e _ => e, fun _ o e => ⟨o, e⟩, hF, fun b h => ?_, fun b h => ?_, fun b h => ?_, rfl, fun j m o1 h hm => ?_⟩
  · rw [List.length_set]; exact R.len
  · rcases h with h | h
    · exact R.dom b h
    · rw [h]; exact ⟨u, hu⟩
  · rcases set_get h with ⟨z, z'⟩ | ⟨n, z⟩
    · subst z z'
      exact ⟨.ref a, by rw [e]; rfl, ob.freeze hF (.inr rfl)⟩
    · have s := R.slot j b z
      cases b with
      | un => trivial
      | val d => obtain ⟨v, e1, h1⟩ := s; exact ⟨v, e1, Dn.mono hF kp _ _ h1⟩
      | obj m o1 => obtain ⟨v, e1, h1⟩ := s; exact ⟨v, e1, h1.mono hF kp fun _ q => q⟩
      | zl ds => obtain ⟨v, xs, e1, hz, hl, h1⟩ := s; exact ⟨v, xs, e1, hz.mono kp, hl, DnAll.mono hF kp _ _ h1⟩
  · exact R.apart j k b (back j b h1).1 (back k b h2).1
  · obtain ⟨h1, n⟩ := back j b h
    rintro (z | z)
    · exact R.loose j b h1 z
    · subst z
      exact n (R.apart i j b ow h1)
  · rcases h with h | h
    · exact .inl h
    · rw [h]; exact .inr (.inl ⟨i, 0, o, e, q, by decide⟩)
  · obtain ⟨j, h⟩ := h
    exact .inl ⟨j, (back j b h).1⟩
  · obtain ⟨j, m, o1, e1, q1, hm⟩ := h
    rcases set_get q1 with ⟨_, z⟩ | ⟨n, z⟩
    · cases z
    · exact .inl ⟨j, m, o1, e1, z, hm⟩
  · refine ⟨rfl, o1, ?_, fun _ => rfl⟩
    rw [List.getElem?_set_ne]
    · exact h
    · rintro rfl
      rw [q] at h
      cases h
      omega
/-- a new object is frozen -/
theorem Stp.freezeNew {F1 : Addr → Prop} {σ1 : L2.St} {H1 : Hp} {η1 : List B} (s : Stp K F σ H η F1 σ1 H1 η1) {p : Addr} {o : OD} (hn : H p = none) (nf : ¬ F1 p) (nh : ¬ Hold σ1 η1 p) (ob : ObjIs K F1 H1 p o) :
    Stp K F σ H η (fun b => F1 b ∨ b = p) σ1 H1 η1 ∧ Dn K (fun b => F1 b ∨ b = p) H1 (.ref p) o.dat := by
  obtain ⟨u, hu, _⟩ := ob.some
  have hF : ∀ b, F1 b → F1 b ∨ b = p := fun _ h => .inl h
  have kp : Kp F1 H1 H1 := fun _ _ e _ => e
  have R := s.rel
  refine ⟨⟨⟨R.len, fun b h => ?_, fun j b h => ?_, R.apart, fun j b h => ?_⟩, s.keep, s.live, fun a h => .inl (s.sub a h), fun b h => ?_, s.hold, s.own, s.lenS, s.prot⟩, ob.freeze hF (.inr rfl)⟩
  · rcases h with h | h
    · exact R.dom b h
    · rw [h]; exact ⟨u, hu⟩
  · have s := R.slot j b h
    cases b with
    | un => trivial
    | val d => obtain ⟨v, e1, h1⟩ := s; exact ⟨v, e1, Dn.mono hF kp _ _ h1⟩
    | obj m o1 => obtain ⟨v, e1, h1⟩ := s; exact ⟨v, e1, h1.mono hF kp fun _ q => q⟩
    | zl ds => obtain ⟨v, xs, e1, hz, hl, h1⟩ := s; exact ⟨v, xs, e1, hz.mono kp, hl, DnAll.mono hF kp _ _ h1⟩
  · rintro (z | z)
    · exact R.loose j b h z
    · subst z
      exact nh ⟨j, h⟩
  · rcases h with h | h
    · exact s.new b h
    · rw [h]; exact .inr (.inr hn)
theorem Snd.frz (h : Snd K t f) : Snd K t (frz f) := by
  intro F σ H η r η' R e Q hQ
  unfold PV.frz at e
  cases e1 : f η with
  | none => rw [e1] at e; cases e
  | some p =>
    obtain ⟨r1, η1⟩ := p
    rw [e1] at e
    have e : (toVal r1 η1).map (fun x => (PV.R.val x.1, x.2)) = some (r, η') := e
    refine h F σ H η r1 η1 R e1 Q fun F' H' v s rv fs => ?_
    cases r1 with
    | val d =>
      cases e
      exact hQ F' H' v s rv trivial
    | fr o =>
      cases e
      obtain ⟨p, rfl, nf, nh, ob⟩ := rv
      obtain ⟨s2, d2⟩ := s.freezeNew (fs p rfl) nf nh ob
      exact hQ _ H' _ s2 d2 trivial
    | bor i =>
      have hv : σ[i]? = some (some v) := rv
      unfold toVal at e
      simp only at e
      split at e
      · rename_i d q
        cases e
        obtain ⟨v', e2, dn⟩ := s.rel.val q
        rw [hv] at e2
        cases e2
        exact hQ F' H' v s dn trivial
      · rename_i o q
        cases e
        obtain ⟨a, ea, ob, ow⟩ := s.rel.obj q
        rw [hv] at ea
        cases ea
        have st := s.rel.freeze hv q
        exact hQ _ H' _ (s.trans st) (ob.freeze (fun b h => .inl h) (.inr rfl)) trivial
      · cases e
    | ty n => cases e
    | zl ds => cases e
end
end PV

/-! PV1: names, constants, operators, comparisons, tests. -/
namespace PV
open PySem PySem.Spec PyProof.Rows L2

/-! ### reading a result's contents -/
@[simp] def lstOf (η : List B) : R → Option (List D)
  | .val (.list ds) => some ds
  | .fr (.lst ds) => some ds
  | .bor i => match η[i]? with
    | some (.val (.list ds)) => some ds
    | some (.obj _ (.lst ds)) => some ds
    | _ => none
  | _ => none
@[simp] def lsqOf (η : List B) : R → Option (List D)
  | .zl ds => some ds
  | r => lstOf η r
@[simp] def tupOf : R → Option (List D)
  | .val (.tuple ds) => some ds
  | _ => none
@[simp] def seqOf (η : List B) (r : R) : Option (List D) := match tupOf r with
  | some ds => some ds
  | none => lsqOf η r
@[simp] def datOf (η : List B) : R → Option D
  | .val d => some d
  | .fr o => some o.dat
  | .bor i => match η[i]? with
    | some (.val d) => some d
    | some (.obj _ o) => some o.dat
    | _ => none
  | _ => none
section
variable {K : Kf} {F : Addr → Prop} {σ : L2.St} {H : Hp} {η : List B} {v : V} {r : R} {ds : List D} {d : D}
theorem lst_dn (h : Dn K F H v (.list ds)) : ∃ a xs, v = .ref a ∧ H a = some (.lst xs) ∧ xs.length ≤ sizeLine ∧ DnAll K F H xs ds := by
  cases h with
  | lst hf ha hl hd => exact ⟨_, _, rfl, ha, hl, hd⟩
theorem tup_dn (h : Dn K F H v (.tuple ds)) : ∃ a xs, v = .ref a ∧ SqT K H a xs ∧ xs.length ≤ sizeLine ∧ DnAll K F H xs ds := by
  cases h with
  | tup ha hl hd => exact ⟨_, _, rfl, ha, hl, hd⟩
theorem int_dn {i : Int} (h : Dn K F H v (.int i)) : v = .int i := by cases h; rfl
theorem str_dn {i : Str} (h : Dn K F H v (.str i)) : v = .str i := by cases h; rfl
theorem bool_dn {i : Bool} (h : Dn K F H v (.bool i)) : v = .bl i := by cases h; rfl
theorem none_dn (h : Dn K F H v .none) : v = .non := by cases h; rfl
theorem Rel.zlist (Rl : Rel K F σ H η) {i : Nat} (q : η[i]? = some (B.zl ds)) : ∃ a xs, σ[i]? = some (some (V.ref a)) ∧ SqZ K H a xs ∧ xs.length ≤ sizeLine ∧ DnAll K F H xs ds := by
  obtain ⟨a, xs, e', h1, h2, h3⟩ := Rl.slot i _ q
  cases z : σ[i]? with
  | none => rw [z] at e'; cases e'
  | some y =>
    rw [z] at e'
    exact ⟨a, xs, by rw [show y = some (V.ref a) from e'], h1, h2, h3⟩
theorem lstOf_ok (Rl : Rel K F σ H η) (h : RV K F σ H η v r) (e : lstOf η r = some ds) : ∃ a xs, v = .ref a ∧ H a = some (.lst xs) ∧ xs.length ≤ sizeLine ∧ DnAll K F H xs ds := by
  unfold lstOf at e
  split at e
  · cases e; exact lst_dn h
  · cases e
    obtain ⟨p, rfl, _, _, xs, h1, h2, h3⟩ := h
    exact ⟨p, xs, rfl, h1, h2, h3⟩
  · rename_i i
    have hv : σ[i]? = some (some v) := h
    split at e
    · rename_i q
      cases e
      obtain ⟨w, e2, dn⟩ := Rl.val q
      rw [hv] at e2; cases e2
      exact lst_dn dn
    · rename_i m _ q
      cases e
      obtain ⟨a, ea, ob, _⟩ := Rl.obj q
      rw [hv] at ea; cases ea
      obtain ⟨xs, h1, h2, h3⟩ := ob
      exact ⟨a, xs, rfl, h1, h2, h3⟩
    · cases e
  · cases e
theorem lsqOf_ok (Rl : Rel K F σ H η) (h : RV K F σ H η v r) (e : lsqOf η r = some ds) : ∃ a xs, v = .ref a ∧ SqL K H a xs ∧ xs.length ≤ sizeLine ∧ DnAll K F H xs ds := by
  unfold lsqOf at e
  split at e
  · cases e
    obtain ⟨a, xs, rfl, h1, h2, h3⟩ := h
    exact ⟨a, xs, rfl, h1.sq, h2, h3⟩
  · obtain ⟨a, xs, rfl, h1, h2, h3⟩ := lstOf_ok Rl h e
    exact ⟨a, xs, rfl, SqL.of h1, h2, h3⟩
theorem tupOf_ok (h : RV K F σ H η v r) (e : tupOf r = some ds) : ∃ a xs, v = .ref a ∧ SqT K H a xs ∧ xs.length ≤ sizeLine ∧ DnAll K F H xs ds := by
  unfold tupOf at e
  split at e
  · cases e; exact tup_dn h
  · cases e
theorem seqOf_ok (Rl : Rel K F σ H η) (h : RV K F σ H η v r) (e : seqOf η r = some ds) : ∃ a xs, v = .ref a ∧ (SqL K H a xs ∨ SqT K H a xs) ∧ xs.length ≤ sizeLine ∧ DnAll K F H xs ds := by
  unfold seqOf at e
  split at e
  · rename_i ds' e1
    cases e
    obtain ⟨a, xs, rfl, h1, h2, h3⟩ := tupOf_ok h e1
    exact ⟨a, xs, rfl, .inr h1, h2, h3⟩
  · obtain ⟨a, xs, rfl, h1, h2, h3⟩ := lsqOf_ok Rl h e
    exact ⟨a, xs, rfl, .inl h1, h2, h3⟩

/-! ### new objects -/
theorem kp_alloc {p : Addr} (hn : H p = none) (o : HO) : Kp F H (upd H p o) := fun a u e _ => by rw [upd_ne (ne_of_none e hn)]; exact e
theorem Stp.alloc (Rl : Rel K F σ H η) {p : Addr} (hn : H p = none) (o : HO) : Stp K F σ H η F σ (upd H p o) η := by
  have kp := kp_alloc (F := F) hn o
  have nx : ∀ a u, H a = some u → upd H p o a = some u := fun a u e => by rw [upd_ne (ne_of_none e hn)]; exact e
  refine ⟨⟨Rl.len, fun a h => ?_, fun j b h => ?_, Rl.apart, Rl.loose⟩, fun a u e _ => nx a u e, fun a u e => ⟨u, nx a u e⟩, fun _ h => h, fun _ h => .inl h, fun _ h => .inl h, fun _ h => .inl h, rfl, fun _ _ o e _ => ⟨rfl, o, e, fun _ => rfl⟩⟩
  · obtain ⟨u, e⟩ := Rl.dom a h
    exact ⟨u, nx a u e⟩
  · have s := Rl.slot j b h
    cases b with
    | un => trivial
    | val d => obtain ⟨v, e1, h1⟩ := s; exact ⟨v, e1, Dn.mono (fun _ h => h) kp _ _ h1⟩
    | obj m o1 => obtain ⟨v, e1, h1⟩ := s; exact ⟨v, e1, h1.mono (fun _ h => h) kp fun u q => nx _ u q⟩
    | zl ds => obtain ⟨v, xs, e1, hz, hl, h1⟩ := s; exact ⟨v, xs, e1, hz.mono kp, hl, DnAll.mono (fun _ h => h) kp _ _ h1⟩
/-- what no slot holds and F lacks -/
theorem Rel.fresh (Rl : Rel K F σ H η) {p : Addr} (hn : H p = none) : ¬ F p ∧ ¬ Hold σ η p := by
  refine ⟨fun z => ?_, fun z => ?_⟩
  · obtain ⟨u, e⟩ := Rl.dom p z
    rw [hn] at e; cases e
  · obtain ⟨u, e, _⟩ := Rl.holdSome z
    rw [hn] at e; cases e
/-- a new tuple -/
theorem new_tup (Rl : Rel K F σ H η) {xs : List V} (hl : xs.length ≤ sizeLine) (hd : DnAll K F H xs ds) {p : Addr} (hn : H p = none) :
    Stp K F σ H η F σ (upd H p (.tup xs)) η ∧ RV K F σ (upd H p (.tup xs)) η (.ref p) (.val (.tuple ds)) ∧ Fresh H (.ref p) (.val (.tuple ds)) :=
  ⟨.alloc Rl hn _, .tup (SqT.of upd_same) hl (DnAll.mono (fun _ h => h) (kp_alloc hn _) _ _ hd), trivial⟩
/-- a new list -/
theorem new_lst (Rl : Rel K F σ H η) {xs : List V} (hl : xs.length ≤ sizeLine) (hd : DnAll K F H xs ds) {p : Addr} (hn : H p = none) :
    Stp K F σ H η F σ (upd H p (.lst xs)) η ∧ RV K F σ (upd H p (.lst xs)) η (.ref p) (.fr (.lst ds)) ∧ Fresh H (.ref p) (.fr (.lst ds)) :=
  ⟨.alloc Rl hn _, ⟨p, rfl, (Rl.fresh hn).1, (Rl.fresh hn).2, xs, upd_same, hl, DnAll.mono (fun _ h => h) (kp_alloc hn _) _ _ hd⟩, fun q e => by cases e; exact hn⟩
end

/-! ### names, constants -/
@[simp] def eVar (i : Nat) : EF := fun η => match η[i]? with
  | some (.val d) => some (.val d, η)
  | some (.obj _ _) => some (.bor i, η)
  | some (.zl ds) => some (.zl ds, η)
  | _ => none
@[simp] def eC (d : D) : EF := fun η => some (.val d, η)
@[simp] def eTy (n : String) : EF := fun η => some (.ty n, η)
section
variable {K : Kf} {ta tb te : TE} {fa fb fe : EF}
theorem Snd.var (i : Nat) : Snd K (tVar i) (eVar i) := by
  intro F σ H η r η' Rl e Q hQ
  unfold eVar at e
  split at e
  · rename_i d q
    cases e
    obtain ⟨v, e1, dn⟩ := Rl.val q
    exact ⟨v, e1, hQ F H v (.refl Rl) dn trivial⟩
  · rename_i q
    cases e
    obtain ⟨a, e1, _, _⟩ := Rl.obj q
    exact ⟨.ref a, e1, hQ F H _ (.refl Rl) e1 trivial⟩
  · rename_i q
    cases e
    obtain ⟨a, xs, e1, h1, h2, h3⟩ := Rl.zlist q
    exact ⟨.ref a, e1, hQ F H _ (.refl Rl) ⟨a, xs, rfl, h1, h2, h3⟩ trivial⟩
  · cases e
theorem Snd.const {v : V} {d : D} (h : ∀ F H, Dn K F H v d) : Snd K (tC v) (eC d) := by
  intro F σ H η r η' Rl e Q hQ
  cases e
  exact hQ F H v (.refl Rl) (h F H) trivial

/-! ### operators of two values -/
abbrev G2 := R → R → List B → Option R
def OpS (K : Kf) (r : R2) (g : G2) : Prop := ∀ F σ H η x y z v w, Rel K F σ H η → RV K F σ H η v x → RV K F σ H η w y → g x y η = some z → ∀ Q : VK,
  (∀ H' u, Stp K F σ H η F σ H' η → RV K F σ H' η u z → Fresh H u z → Q u H') → r v w H Q
@[simp] def eOp (g : G2) (fa fb : EF) : EF := fun η => (fa η).bind fun p => (fb p.2).bind fun q => (g p.1 q.1 q.2).map fun z => (z, q.2)
theorem Snd.op {r : R2} {g : G2} (hr : OpS K r g) (ha : Snd K ta fa) (hb : Snd K tb fb) : Snd K (tOp r ta tb) (eOp g fa fb) := by
  intro F σ H η z η' Rl e Q hQ
  unfold eOp at e
  obtain ⟨⟨x, η1⟩, e1, e⟩ := Option.bind_eq_some_iff.mp e
  obtain ⟨⟨y, η2⟩, e2, e⟩ := Option.bind_eq_some_iff.mp e
  obtain ⟨z', e3, e⟩ := Option.map_eq_some_iff.mp e
  cases e
  refine ha F σ H η x η1 Rl e1 _ fun F1 H1 v s1 r1 f1 => ?_
  refine hb F1 σ H1 η1 y η2 s1.rel e2 _ fun F2 H2 w s2 r2 f2 => ?_
  refine hr F2 σ H2 η2 x y _ v w s2.rel (r1.step s1.rel s2) r2 e3 Q fun H3 u s3 r3 f3 => ?_
  have s12 := s1.trans s2
  exact hQ F2 H3 u (s12.trans s3) r3 (f3.back s12)
abbrev G1 := R → List B → Option R
def Op1S (K : Kf) (r : V → Hp → VK → Prop) (g : G1) : Prop := ∀ F σ H η x z v, Rel K F σ H η → RV K F σ H η v x → g x η = some z → ∀ Q : VK,
  (∀ H' u, Stp K F σ H η F σ H' η → RV K F σ H' η u z → Fresh H u z → Q u H') → r v H Q
@[simp] def eUn (g : G1) (fa : EF) : EF := fun η => (fa η).bind fun p => (g p.1 p.2).map fun z => (z, p.2)
theorem Snd.un {r : V → Hp → VK → Prop} {g : G1} (hr : Op1S K r g) (ha : Snd K ta fa) : Snd K (tUn r ta) (eUn g fa) := by
  intro F σ H η z η' Rl e Q hQ
  unfold eUn at e
  obtain ⟨⟨x, η1⟩, e1, e⟩ := Option.bind_eq_some_iff.mp e
  obtain ⟨z', e3, e⟩ := Option.map_eq_some_iff.mp e
  cases e
  refine ha F σ H η x η1 Rl e1 _ fun F1 H1 v s1 r1 f1 => ?_
  refine hr F1 σ H1 η1 x _ v s1.rel r1 e3 Q fun H3 u s3 r3 f3 => ?_
  exact hQ F1 H3 u (s1.trans s3) r3 (f3.back s1)
end

section
variable {X : Cx} {a b e : Expr} {ta tb te : TE} {fa fb fe : EF} {pos : Pos}
theorem SE.frz (h : SE X e te fe) : SE X e te (PV.frz fe) := ⟨h.pe, h.sd.frz⟩
theorem se_var (i : Nat) {x : Str} {pos : Pos} (hN : X.N[i]? = some x := by rfl) (hv : Vis X.env.scope x := by first | exact Or.inl rfl | exact Or.inr (Or.inl rfl) | exact Or.inr (Or.inr rfl)) (hd : (x == ("__debug__" : Str)) = false := by decide)
    (hcd : (x == ("__classdict__" : Str)) = false := by decide) : SE X (.Name x pos) (tVar i) (eVar i) := ⟨pe_var hN hv hd hcd, .var i⟩
theorem se_int {i j} : SE X (.Constant (.int i) j pos) (tC (.int i)) (eC (.int i)) := ⟨pe_int, .const fun _ _ => .int i⟩
theorem se_bl {i j} : SE X (.Constant (.bool i) j pos) (tC (.bl i)) (eC (.bool i)) := ⟨pe_bl, .const fun _ _ => .bl i⟩
theorem se_non {j} : SE X (.Constant .none j pos) (tC .non) (eC .none) := ⟨pe_non, .const fun _ _ => .non⟩
theorem se_str {i j} : SE X (.Constant (.str i) j pos) (tC (.str i)) (eC (.str i)) := ⟨pe_str, .const fun _ _ => .str i⟩
theorem se_op {op : Operator} {r : R2} {g : G2} (ho : OpR X (binaryOp op) r ∧ OpS X.K r g) (ha : SE X a ta fa) (hb : SE X b tb fb) : SE X (.BinOp a op b pos) (tOp r ta tb) (eOp g fa fb) := ⟨pe_op ho.1 ha.pe hb.pe, .op ho.2 ha.sd hb.sd⟩
theorem se_un {op : UnaryOp} {r : V → Hp → VK → Prop} {g : G1} (ho : UnR X (unaryOp op) r ∧ Op1S X.K r g) (ha : SE X a ta fa) : SE X (.UnaryOp op a pos) (tUn r ta) (eUn g fa) := ⟨pe_un ho.1 ha.pe, .un ho.2 ha.sd⟩
theorem se_cmp {op : CmpOp} {r : R2} {g : G2} (ho : OpR X (compareOp op) r ∧ OpS X.K r g) (ha : SE X a ta fa) (hb : SE X b tb fb) (hm : behindInMarks op b = false) : SE X (.Compare a [op] [b] pos) (tOp r ta tb) (eOp g fa fb) := ⟨pe_cmpR ho.1 ha.pe hb.pe hm, .op ho.2 ha.sd hb.sd⟩
end

/-! ### the operators -/
theorem OpS.or {K : Kf} {r r' : R2} {g g' : G2} (h : OpS K r g) (h' : OpS K r' g') : OpS K (fun x y H Q => r x y H Q ∨ r' x y H Q) (fun x y η => match g x y η with | some z => some z | none => g' x y η) := by
  intro F σ H η x y z v w Rl rv rw' e Q hQ
  cases q : g x y η with
  | some z' =>
    simp only [q] at e
    cases e
    exact .inl (h F σ H η x y _ v w Rl rv rw' q Q hQ)
  | none =>
    simp only [q] at e
    exact .inr (h' F σ H η x y _ v w Rl rv rw' e Q hQ)
@[simp] def gI (C : Int → Int → Bool) (g : Int → Int → D) : G2 := fun x y _ => match x, y with
  | .val (.int i), .val (.int j) => if C i j = true then some (.val (g i j)) else none
  | _, _ => none
@[simp] def gI0 (g : Int → Int → D) : G2 := fun x y _ => match x, y with
  | .val (.int i), .val (.int j) => some (.val (g i j))
  | _, _ => none
theorem opS_I {K : Kf} {C : Int → Int → Prop} {Cb : Int → Int → Bool} (hC : ∀ i j, Cb i j = true → C i j) {g : Int → Int → V} {gd : Int → Int → D} (hg : ∀ F H i j, Dn K F H (g i j) (gd i j)) : OpS K (rI C g) (gI Cb gd) := by
  intro F σ H η x y z v w Rl rv rw' e Q hQ
  unfold gI at e
  split at e
  · rename_i i j
    split at e
    · rename_i c
      cases e
      exact ⟨i, j, int_dn rv, int_dn rw', hC i j c, hQ H _ (.refl Rl) (hg F H i j) trivial⟩
    · cases e
  · cases e
theorem opS_I0 {K : Kf} {g : Int → Int → V} {gd : Int → Int → D} (hg : ∀ F H i j, Dn K F H (g i j) (gd i j)) : OpS K (rI0 g) (gI0 gd) := by
  intro F σ H η x y z v w Rl rv rw' e Q hQ
  unfold gI0 at e
  split at e
  · rename_i i j
    cases e
    exact ⟨i, j, int_dn rv, int_dn rw', hQ H _ (.refl Rl) (hg F H i j) trivial⟩
  · cases e
/-- + : ints, texts, tuples, lists -/
@[simp] def gStrCat : G2 := fun x y _ => match x, y with
  | .val (.str s), .val (.str t) => if s.length + t.length ≤ sizeLine then some (.val (.str (s ++ t))) else none
  | _, _ => none
@[simp] def gTupCat : G2 := fun x y _ => match x, y with
  | .val (.tuple s), .val (.tuple t) => if s.length + t.length ≤ sizeLine then some (.val (.tuple (s ++ t))) else none
  | _, _ => none
@[simp] def gLstCat : G2 := fun x y η => match lstOf η x, lstOf η y with
  | some s, some t => if s.length + t.length ≤ sizeLine then some (.fr (.lst (s ++ t))) else none
  | _, _ => none
theorem opS_strCat {K : Kf} : OpS K (fun x y H Q => ∃ i j, x = .str i ∧ y = .str j ∧ i.length + j.length ≤ sizeLine ∧ Q (.str (i ++ j)) H) gStrCat := by
  intro F σ H η x y z v w Rl rv rw' e Q hQ
  unfold gStrCat at e
  split at e
  · rename_i i j
    split at e
    · rename_i c
      cases e
      exact ⟨i, j, str_dn rv, str_dn rw', c, hQ H _ (.refl Rl) (.str _) trivial⟩
    · cases e
  · cases e
theorem opS_lstCat {K : Kf} : OpS K rCat gLstCat := by
  intro F σ H η x y z v w Rl rv rw' e Q hQ
  unfold gLstCat at e
  split at e
  · rename_i s t e1 e2
    split at e
    · rename_i c
      cases e
      obtain ⟨a, xs, rfl, h1, l1, d1⟩ := lstOf_ok Rl rv e1
      obtain ⟨b, ys, rfl, h2, l2, d2⟩ := lstOf_ok Rl rw' e2
      have hl : xs.length + ys.length ≤ sizeLine := by rw [d1.length, d2.length]; exact c
      refine ⟨a, b, xs, ys, rfl, rfl, h1, h2, hl, fun p hp => ?_⟩
      obtain ⟨n1, n2, n3⟩ := new_lst Rl (by rw [List.length_append]; exact hl) (d1.append d2) hp
      exact hQ _ _ n1 n2 n3
    · cases e
  · cases e
theorem opS_tupCat {K : Kf} : OpS K (rCatA K) gTupCat := by
  intro F σ H η x y z v w Rl rv rw' e Q hQ
  unfold gTupCat at e
  split at e
  · rename_i s t
    split at e
    · rename_i c
      cases e
      obtain ⟨a, xs, rfl, h1, l1, d1⟩ := tup_dn rv
      obtain ⟨b, ys, rfl, h2, l2, d2⟩ := tup_dn rw'
      have hl : xs.length + ys.length ≤ sizeLine := by rw [d1.length, d2.length]; exact c
      refine ⟨a, b, xs, ys, rfl, rfl, h1, h2, hl, fun z => ?_, fun _ z => ?_, fun _ _ p hp => ?_⟩
      · subst z
        cases d1
        exact hQ H _ (.refl Rl) rw' trivial
      · subst z
        cases d2
        rw [List.append_nil] at hQ
        exact hQ H _ (.refl Rl) rv trivial
      · obtain ⟨n1, n2, n3⟩ := new_tup Rl (by rw [List.length_append]; exact hl) (d1.append d2) hp
        exact hQ _ _ n1 n2 n3
    · cases e
  · cases e
abbrev intAdd : G2 := gI0 fun i j => .int (i + j)
def gAdd : G2 := fun x y η => match intAdd x y η with
  | some z => some z
  | none => match gStrCat x y η with
    | some z => some z
    | none => match gTupCat x y η with
      | some z => some z
      | none => gLstCat x y η
section
variable {X : Cx}
abbrev rAddA (K : Kf) : R2 := fun x y H Q => rI0 (fun i j => .int (i + j)) x y H Q ∨ (fun x y H Q => (∃ i j, x = .str i ∧ y = .str j ∧ i.length + j.length ≤ sizeLine ∧ Q (.str (i ++ j)) H) ∨ (fun x y H Q => rCatA K x y H Q ∨ rCat x y H Q) x y H Q) x y H Q
theorem oAdd : OpR X (binaryOp .Add) (rAddA X.K) ∧ OpS X.K (rAddA X.K) gAdd :=
  ⟨op_add.or (op_add_str.or (op_catA.or op_cat)), (opS_I0 fun _ _ _ _ => .int _).or (opS_strCat.or (opS_tupCat.or opS_lstCat))⟩
theorem oSub : OpR X (binaryOp .Sub) (rI0 fun i j => .int (i - j)) ∧ OpS X.K (rI0 fun i j => .int (i - j)) (gI0 fun i j => .int (i - j)) := ⟨op_sub, opS_I0 fun _ _ _ _ => .int _⟩
/-- * : ints (one within 2^64, or both below half a million bits) -/
def mulOk (i j : Int) : Bool := (decide (-(2 ^ 64) < i) && decide (i < 2 ^ 64)) || (decide (-(2 ^ 64) < j) && decide (j < 2 ^ 64)) || (decide (i.natAbs.log2 + j.natAbs.log2 < 1000000))
def CMulA (i j : Int) : Prop := CMul i j ∨ CMulW i j
theorem mulOk_ok : ∀ i j, mulOk i j = true → CMulA i j := fun i j h => by
  unfold mulOk at h
  simp only [Bool.or_eq_true, Bool.and_eq_true, decide_eq_true_eq] at h
  rcases h with (h | h) | h
  · exact .inl (.inl h)
  · exact .inl (.inr h)
  · exact .inr h
theorem op_mulA : OpR X (binaryOp .Mult) (rI CMulA fun i j => .int (i * j)) := opI fun _ _ _ _ _ _ _ hc q => mul_int q (hc.elim (fun h => h.ok) fun h => h.ok)
def gMulI : G2 := gI mulOk fun i j => .int (i * j)
def gRep : G2 := fun x y η => match lstOf η x, y with
  | some s, .val (.int k) => if -(2 ^ 63) ≤ k ∧ k < 2 ^ 63 ∧ s.length * k.toNat ≤ sizeLine then some (.fr (.lst (List.replicate k.toNat s).flatten)) else none
  | _, _ => none
theorem opS_rep {K : Kf} : OpS K rRep gRep := by
  intro F σ H η x y z v w Rl rv rw' e Q hQ
  unfold gRep at e
  split at e
  · rename_i s k e1
    split at e
    · rename_i c
      cases e
      obtain ⟨a, xs, rfl, h1, l1, d1⟩ := lstOf_ok Rl rv e1
      refine ⟨a, k, xs, rfl, int_dn rw', h1, c.1, c.2.1, by rw [d1.length]; exact c.2.2, fun p hp => ?_⟩
      obtain ⟨n1, n2, n3⟩ := new_lst Rl (by rw [PyProof.Rows.lm_len_rep_flat, d1.length, Nat.mul_comm]; exact c.2.2) (d1.flatRep k.toNat) hp
      exact hQ _ _ n1 n2 n3
    · cases e
  · cases e
def gMul : G2 := fun x y η => match gMulI x y η with
  | some z => some z
  | none => gRep x y η
abbrev rMulA : R2 := fun x y H Q => rI CMulA (fun i j => .int (i * j)) x y H Q ∨ rRep x y H Q
theorem oMul : OpR X (binaryOp .Mult) rMulA ∧ OpS X.K rMulA gMul := ⟨op_mulA.or op_rep, (opS_I mulOk_ok fun _ _ _ _ => .int _).or opS_rep⟩
/-- //, % by any divisor but 0 that is below 2^9000 -/
def divOk (_ j : Int) : Bool := decide (j ≠ 0) && decide (j.natAbs.log2 < 9000)
def CDivA (_ j : Int) : Prop := j ≠ 0 ∧ j.natAbs.log2 < 9000
theorem op_fdivA : OpR X (binaryOp .FloorDiv) (rI CDivA fun i j => .int (i.fdiv j)) := opI fun i j _ _ _ _ _ hc q => floordiv_int hc.1 q (.inl (PyProof.noPylong_of_log2 hc.2))
theorem oDiv : OpR X (binaryOp .FloorDiv) (rI CDivA fun i j => .int (i.fdiv j)) ∧ OpS X.K (rI CDivA fun i j => .int (i.fdiv j)) (gI divOk fun i j => .int (i.fdiv j)) :=
  ⟨op_fdivA, opS_I (fun i j h => by unfold divOk at h; simp only [Bool.and_eq_true, decide_eq_true_eq] at h; exact h) fun _ _ _ _ => .int _⟩
theorem oMod : OpR X (binaryOp .Mod) (rI (fun _ j => j ≠ 0) fun i j => .int (i.fmod j)) ∧ OpS X.K (rI (fun _ j => j ≠ 0) fun i j => .int (i.fmod j)) (gI (fun _ j => decide (j ≠ 0)) fun i j => .int (i.fmod j)) :=
  ⟨op_modN, opS_I (fun i j h => of_decide_eq_true h) fun _ _ _ _ => .int _⟩
def powOk (i j : Int) : Bool := decide (0 ≤ j) && decide (j ≤ 1000000) && decide (i.natAbs < 2 ^ 64)
theorem oPow : OpR X (binaryOp .Pow) (rI CPow fun i j => .int (i ^ j.toNat)) ∧ OpS X.K (rI CPow fun i j => .int (i ^ j.toNat)) (gI powOk fun i j => .int (i ^ j.toNat)) :=
  ⟨op_pow, opS_I (fun i j h => by unfold powOk at h; simp only [Bool.and_eq_true, decide_eq_true_eq] at h; exact ⟨h.1.1, h.1.2, h.2⟩) fun _ _ _ _ => .int _⟩
@[simp] def gNeg : G1 := fun x _ => match x with
  | .val (.int i) => some (.val (.int (-i)))
  | _ => none
theorem oNeg : UnR X (unaryOp .USub) (rU fun i => .int (-i)) ∧ Op1S X.K (rU fun i => .int (-i)) gNeg := by
  refine ⟨un_neg, ?_⟩
  intro F σ H η x z v Rl rv e Q hQ
  unfold gNeg at e
  split at e
  · rename_i i
    cases e
    exact ⟨i, int_dn rv, hQ H _ (.refl Rl) (.int _) trivial⟩
  · cases e

/-! ### comparisons -/
mutual
theorem Dn.dp {K : Kf} {F : Addr → Prop} {H : Hp} : ∀ (d : D) (v : V), d.plain = true → Dn K F H v d → Dp K H v d
  | .none, _, _, h => by cases h; exact .non
  | .bool b, _, _, h => by cases h; exact .bl b
  | .int i, _, _, h => by cases h; exact .int i
  | .str x, _, _, h => by cases h; exact .str x
  | .list ds, _, c, h => by
    cases h with
    | lst hf ha hl hd => exact .lst (SqL.of ha) (DnAll.dp ds _ (by simpa [PyData.plain] using c) hd)
  | .tuple ds, _, c, h => by
    cases h with
    | tup hs hl hd => exact .tup hs (DnAll.dp ds _ (by simpa [PyData.plain] using c) hd)
  | .dict ds, _, c, h => by simp [PyData.plain] at c
theorem DnAll.dp {K : Kf} {F : Addr → Prop} {H : Hp} : ∀ (ds : List D) (vs : List V), PyData.plainAll ds = true → DnAll K F H vs ds → DpAll K H vs ds
  | [], _, _, h => by cases h; exact .nil
  | d :: ds, _, c, h => by
    cases h with
    | cons h1 h2 =>
      have c' : d.plain = true ∧ PyData.plainAll ds = true := by simpa [PyData.plainAll] using c
      exact .cons (Dn.dp d _ c'.1 h1) (DnAll.dp ds _ c'.2 h2)
end
theorem datOf_dp {K : Kf} {F : Addr → Prop} {σ : L2.St} {H : Hp} {η : List B} {v : V} {r : PV.R} {d : D} (Rl : Rel K F σ H η) (h : RV K F σ H η v r) (e : datOf η r = some d) (c : d.plain = true) : Dp K H v d := by
  have obj : ∀ {a : Addr} {o : OD}, ObjIs K F H a o → o.dat = d → Dp K H (.ref a) d := fun {a o} ob q => by
    subst q
    cases o with
    | lst ds =>
      obtain ⟨xs, h1, h2, h3⟩ := ob
      exact .lst (SqL.of h1) (DnAll.dp ds _ (by simpa [PyData.plain, OD.dat] using c) h3)
    | dic kvs => simp [PyData.plain, OD.dat] at c
  unfold datOf at e
  split at e
  · cases e; exact Dn.dp d v c h
  · rename_i o
    obtain ⟨p, rfl, _, _, ob⟩ := h
    exact obj ob (Option.some.inj e)
  · rename_i i
    have hv : σ[i]? = some (some v) := h
    split at e
    · rename_i d' q
      cases e
      obtain ⟨w, e2, dn⟩ := Rl.val q
      rw [hv] at e2; cases e2
      exact Dn.dp _ v c dn
    · rename_i m o q
      obtain ⟨a, ea, ob, _⟩ := Rl.obj q
      rw [hv] at ea; cases ea
      exact obj ob (Option.some.inj e)
    · cases e
  · cases e
/-- data that == and the like take: no dict within, not deep -/
def okD (d : D) : Bool := d.plain && decide (d.depth ≤ 60)
theorem okD_plain {d : D} (h : okD d = true) : d.plain = true := (Bool.and_eq_true_iff.mp h).1
theorem okD_depth {d : D} (h : okD d = true) : d.depth ≤ 60 := of_decide_eq_true (Bool.and_eq_true_iff.mp h).2
def rEqP (K : Kf) : R2 := fun x y H Q => ∃ d e, Dp K H x d ∧ Dp K H y e ∧ okD d = true ∧ okD e = true ∧ Q (.bl (PyData.eqv d e)) H
def rNeP (K : Kf) : R2 := fun x y H Q => ∃ d e, Dp K H x d ∧ Dp K H y e ∧ okD d = true ∧ okD e = true ∧ Q (.bl (!PyData.eqv d e)) H
theorem room60 {A : Around} {d e : D} (h : d.depth ≤ 60) (hu : A.units + 64 < cLine) : A.units + min d.depth e.depth < cLine := by
  have := Nat.min_le_left d.depth e.depth
  omega
theorem op_eqP (hu : X.A.units + 64 < cLine) : OpR X (compareOp .Eq) (rEqP X.K) := by
  intro pins s σ H x y v u Q I rx ry h
  obtain ⟨d, e, hd, he, sd, se, q⟩ := h
  obtain ⟨as, r1⟩ := Dp.reads I d x v hd rx
  obtain ⟨bs, r2⟩ := Dp.reads I e y u he ry
  exact PySem.SeqAt.eq_plain r1 r2 (okD_plain sd) (okD_plain se) (room60 (okD_depth sd) hu) ⟨.bl _, H, I, rfl, q⟩
theorem op_neP (hu : X.A.units + 64 < cLine) : OpR X (compareOp .NotEq) (rNeP X.K) := by
  intro pins s σ H x y v u Q I rx ry h
  obtain ⟨d, e, hd, he, sd, se, q⟩ := h
  obtain ⟨as, r1⟩ := Dp.reads I d x v hd rx
  obtain ⟨bs, r2⟩ := Dp.reads I e y u he ry
  exact PySem.SeqAt.ne_plain r1 r2 (okD_plain sd) (okD_plain se) (room60 (okD_depth sd) hu) ⟨.bl _, H, I, rfl, q⟩
@[simp] def gD2 (ok : D → D → Bool) (f : D → D → Bool) : G2 := fun x y η => match datOf η x, datOf η y with
  | some d, some e => if (okD d && okD e && ok d e) = true then some (.val (.bool (f d e))) else none
  | _, _ => none
theorem opS_D2 {K : Kf} {ok : D → D → Bool} {f : D → D → Bool} : OpS K (fun x y H Q => ∃ d e, Dp K H x d ∧ Dp K H y e ∧ okD d = true ∧ okD e = true ∧ ok d e = true ∧ Q (.bl (f d e)) H) (gD2 ok f) := by
  intro F σ H η x y z v w Rl rv rw' e Q hQ
  unfold gD2 at e
  split at e
  · rename_i d e' e1 e2
    split at e
    · rename_i c
      cases e
      rw [Bool.and_eq_true, Bool.and_eq_true] at c
      exact ⟨d, e', datOf_dp Rl rv e1 (okD_plain c.1.1), datOf_dp Rl rw' e2 (okD_plain c.1.2), c.1.1, c.1.2, c.2, hQ H _ (.refl Rl) (.bl _) trivial⟩
    · cases e
  · cases e
@[simp] def gEq : G2 := gD2 (fun _ _ => true) PyData.eqv
@[simp] def gNe : G2 := gD2 (fun _ _ => true) fun d e => !PyData.eqv d e
theorem oEq (hu : X.A.units + 64 < cLine) : OpR X (compareOp .Eq) (fun x y H Q => ∃ d e, Dp X.K H x d ∧ Dp X.K H y e ∧ okD d = true ∧ okD e = true ∧ true = true ∧ Q (.bl (PyData.eqv d e)) H) ∧ OpS X.K (fun x y H Q => ∃ d e, Dp X.K H x d ∧ Dp X.K H y e ∧ okD d = true ∧ okD e = true ∧ true = true ∧ Q (.bl (PyData.eqv d e)) H) gEq :=
  ⟨fun pins s σ H x y v u Q I rx ry ⟨d, e, h1, h2, h3, h4, _, q⟩ => op_eqP hu pins s σ H x y v u Q I rx ry ⟨d, e, h1, h2, h3, h4, q⟩, opS_D2⟩
theorem oNe (hu : X.A.units + 64 < cLine) : OpR X (compareOp .NotEq) (fun x y H Q => ∃ d e, Dp X.K H x d ∧ Dp X.K H y e ∧ okD d = true ∧ okD e = true ∧ true = true ∧ Q (.bl (!PyData.eqv d e)) H) ∧ OpS X.K (fun x y H Q => ∃ d e, Dp X.K H x d ∧ Dp X.K H y e ∧ okD d = true ∧ okD e = true ∧ true = true ∧ Q (.bl (!PyData.eqv d e)) H) gNe :=
  ⟨fun pins s σ H x y v u Q I rx ry ⟨d, e, h1, h2, h3, h4, _, q⟩ => op_neP hu pins s σ H x y v u Q I rx ry ⟨d, e, h1, h2, h3, h4, q⟩, opS_D2⟩
/-- <, <=, >, >=: ints, and data that are alike -/
def alikeN (d e : D) : Bool := PySem.W.alike d e && !(match d with | .none => true | _ => false)
abbrev rCmpD (K : Kf) (f : D → D → Bool) : R2 := fun x y H Q => ∃ d e, Dp K H x d ∧ Dp K H y e ∧ okD d = true ∧ okD e = true ∧ alikeN d e = true ∧ Q (.bl (f d e)) H
theorem alikeN_ne {d e : D} (h : alikeN d e = true) : PySem.W.alike d e = true ∧ d ≠ .none := by
  unfold alikeN at h
  rw [Bool.and_eq_true] at h
  exact ⟨h.1, fun z => by subst z; simp at h⟩
theorem op_cmpD {op : CmpOp} {f : D → D → Bool} (hu : X.A.units + 64 < cLine)
    (rule : ∀ {s : Shared} {a b : Value} {da db : D} {as bs : List Addr} {Q : Value → Shared → Prop}, Reads s.heap a da as → Reads s.heap b db bs → PySem.W.alike da db = true → da ≠ .none → X.A.units + min da.depth db.depth < cLine → Q (.bool (f da db)) s → wpAny (model X.prog X.w) X.A (compareOp op a b) Q X.xe s) :
    OpR X (compareOp op) (rCmpD X.K f) := by
  intro pins s σ H x y v u Q I rx ry h
  obtain ⟨d, e, hd, he, sd, se, al, q⟩ := h
  obtain ⟨as, r1⟩ := Dp.reads I d x v hd rx
  obtain ⟨bs, r2⟩ := Dp.reads I e y u he ry
  exact rule r1 r2 (alikeN_ne al).1 (alikeN_ne al).2 (room60 (okD_depth sd) hu) ⟨.bl _, H, I, rfl, q⟩
@[simp] def gCmp (p : Int → Int → Bool) (f : D → D → Bool) : G2 := fun x y η => match gI0 (fun i j => .bool (p i j)) x y η with
  | some z => some z
  | none => gD2 alikeN f x y η
abbrev gLt : G2 := gCmp (fun i j => decide (i < j)) PySem.W.dataLt
abbrev gGt : G2 := gCmp (fun i j => decide (j < i)) fun d e => PySem.W.dataLt e d
abbrev gLe : G2 := gCmp (fun i j => decide (i ≤ j)) fun d e => !PySem.W.dataLt e d
abbrev gGe : G2 := gCmp (fun i j => decide (j ≤ i)) fun d e => !PySem.W.dataLt d e
theorem oLt (hu : X.A.units + 64 < cLine) : OpR X (compareOp .Lt) (fun x y H Q => rI0 (fun i j => .bl (decide (i < j))) x y H Q ∨ rCmpD X.K PySem.W.dataLt x y H Q) ∧ OpS X.K (fun x y H Q => rI0 (fun i j => .bl (decide (i < j))) x y H Q ∨ rCmpD X.K PySem.W.dataLt x y H Q) gLt := ⟨op_lt.or (op_cmpD hu fun a b c d e q => PySem.W.lt_data a b c d e q), (opS_I0 fun _ _ _ _ => .bl _).or opS_D2⟩
theorem oGt (hu : X.A.units + 64 < cLine) : OpR X (compareOp .Gt) (fun x y H Q => rI0 (fun i j => .bl (decide (j < i))) x y H Q ∨ rCmpD X.K (fun d e => PySem.W.dataLt e d) x y H Q) ∧ OpS X.K (fun x y H Q => rI0 (fun i j => .bl (decide (j < i))) x y H Q ∨ rCmpD X.K (fun d e => PySem.W.dataLt e d) x y H Q) gGt := ⟨op_gt.or (op_cmpD hu fun a b c d e q => PySem.W.gt_data a b c d e q), (opS_I0 fun _ _ _ _ => .bl _).or opS_D2⟩
theorem oLe (hu : X.A.units + 64 < cLine) : OpR X (compareOp .LtE) (fun x y H Q => rI0 (fun i j => .bl (decide (i ≤ j))) x y H Q ∨ rCmpD X.K (fun d e => !PySem.W.dataLt e d) x y H Q) ∧ OpS X.K (fun x y H Q => rI0 (fun i j => .bl (decide (i ≤ j))) x y H Q ∨ rCmpD X.K (fun d e => !PySem.W.dataLt e d) x y H Q) gLe := ⟨op_le.or (op_cmpD hu fun a b c d e q => PySem.W.le_data a b c d e q), (opS_I0 fun _ _ _ _ => .bl _).or opS_D2⟩
theorem oGe (hu : X.A.units + 64 < cLine) : OpR X (compareOp .GtE) (fun x y H Q => rI0 (fun i j => .bl (decide (j ≤ i))) x y H Q ∨ rCmpD X.K (fun d e => !PySem.W.dataLt d e) x y H Q) ∧ OpS X.K (fun x y H Q => rI0 (fun i j => .bl (decide (j ≤ i))) x y H Q ∨ rCmpD X.K (fun d e => !PySem.W.dataLt d e) x y H Q) gGe := ⟨op_ge.or (op_cmpD hu fun a b c d e q => PySem.W.ge_data a b c d e q), (opS_I0 fun _ _ _ _ => .bl _).or opS_D2⟩
/-- is None, is True, is False and their nots -/
@[simp] def isNon : D → Bool
  | .none => true
  | _ => false
@[simp] def gIs : G2 := fun x y η => match y with
  | .val .none => match datOf η x with
    | some d => some (.val (.bool (isNon d)))
    | none => none
  | .val (.bool b) => match x with
    | .val (.bool a) => some (.val (.bool (decide (a = b))))
    | _ => none
  | _ => none
@[simp] def gIsNot : G2 := fun x y η => match y with
  | .val .none => match datOf η x with
    | some d => some (.val (.bool (!isNon d)))
    | none => none
  | .val (.bool b) => match x with
    | .val (.bool a) => some (.val (.bool (!decide (a = b))))
    | _ => none
  | _ => none
theorem datOf_non {K : Kf} {F : Addr → Prop} {σ : L2.St} {H : Hp} {η : List B} {v : V} {r : PV.R} {d : D} (Rl : Rel K F σ H η) (h : RV K F σ H η v r) (e : datOf η r = some d) : decide (v = .non) = isNon d := by
  have dn : ∀ {v : V} {d : D}, Dn K F H v d → decide (v = .non) = isNon d := fun {v d} h => by cases h <;> rfl
  have ob : ∀ {a : Addr} {o : OD}, decide (V.ref a = V.non) = isNon o.dat := fun {a o} => by cases o <;> rfl
  unfold datOf at e
  split at e
  · cases e; exact dn h
  · cases e
    obtain ⟨p, rfl, _⟩ := h
    exact ob
  · rename_i i
    have hv : σ[i]? = some (some v) := h
    split at e
    · rename_i q
      cases e
      obtain ⟨w, e2, h2⟩ := Rl.val q
      rw [hv] at e2; cases e2
      exact dn h2
    · rename_i q
      cases e
      obtain ⟨a, ea, _, _⟩ := Rl.obj q
      rw [hv] at ea; cases ea
      exact ob
    · cases e
  · cases e
abbrev rIsA : R2 := fun x y H Q => (fun x y H Q => y = .non ∧ Q (.bl (decide (x = .non))) H) x y H Q ∨ rIsB x y H Q
abbrev rIsNotA : R2 := fun x y H Q => (fun x y H Q => y = .non ∧ Q (.bl (!decide (x = .non))) H) x y H Q ∨ rNotB x y H Q
theorem oIs : OpR X (compareOp .Is) rIsA ∧ OpS X.K rIsA gIs := by
  refine ⟨op_isN.or op_isBl, ?_⟩
  intro F σ H η x y z v w Rl rv rw' e Q hQ
  unfold gIs at e
  split at e
  · split at e
    · rename_i d e1
      cases e
      refine .inl ⟨none_dn rw', ?_⟩
      rw [datOf_non Rl rv e1]
      exact hQ H _ (.refl Rl) (.bl _) trivial
    · cases e
  · rename_i b
    split at e
    · rename_i a
      cases e
      exact .inr ⟨a, b, bool_dn rv, bool_dn rw', hQ H _ (.refl Rl) (.bl _) trivial⟩
    · cases e
  · cases e
theorem oIsNot : OpR X (compareOp .IsNot) rIsNotA ∧ OpS X.K rIsNotA gIsNot := by
  refine ⟨op_notN.or op_notBl, ?_⟩
  intro F σ H η x y z v w Rl rv rw' e Q hQ
  unfold gIsNot at e
  split at e
  · split at e
    · rename_i d e1
      cases e
      refine .inl ⟨none_dn rw', ?_⟩
      rw [datOf_non Rl rv e1]
      exact hQ H _ (.refl Rl) (.bl _) trivial
    · cases e
  · rename_i b
    split at e
    · rename_i a
      cases e
      exact .inr ⟨a, b, bool_dn rv, bool_dn rw', hQ H _ (.refl Rl) (.bl _) trivial⟩
    · cases e
  · cases e
/-- in, not in: a list or a tuple of data -/
def rInA (K : Kf) (neg : Bool) : R2 := fun x y H Q => ∃ d c ds, Dp K H x d ∧ Dp K H y c ∧ (c = .list ds ∨ c = .tuple ds) ∧ okD d = true ∧ okD c = true ∧ Q (.bl (if neg then !ds.any (fun z => PyData.eqv z d) else ds.any fun z => PyData.eqv z d)) H
theorem plainAll_of {ds : List D} (h : okD (.tuple ds) = true) : PyData.plainAll ds = true := by simpa [PyData.plain] using okD_plain h
theorem plainAll_of' {ds : List D} (h : okD (.list ds) = true) : PyData.plainAll ds = true := by simpa [PyData.plain] using okD_plain h
theorem room61 {A : Around} {xs : List D} {d : D} (h : d.depth ≤ 60) (hu : A.units + 64 < cLine) : A.units + 1 + min (PyData.depthAll xs) d.depth < cLine := by
  have := Nat.min_le_right (PyData.depthAll xs) d.depth
  omega
theorem op_inA (hu : X.A.units + 64 < cLine) : OpR X (compareOp .In) (rInA X.K false) := by
  intro pins s σ H x y v u Q I rx ry h
  obtain ⟨d, c, ds, hd, he, hc, sd, se, q⟩ := h
  obtain ⟨as, r1⟩ := Dp.reads I d x v hd rx
  obtain ⟨bs, r2⟩ := Dp.reads I c y u he ry
  rcases hc with rfl | rfl
  · exact PySem.SeqAt.in_list_data r2 r1 (plainAll_of' se) (okD_plain sd) (room61 (okD_depth sd) hu) ⟨.bl _, H, I, rfl, q⟩
  · exact PySem.SeqAt.in_tuple_data r2 r1 (plainAll_of se) (okD_plain sd) (room61 (okD_depth sd) hu) ⟨.bl _, H, I, rfl, q⟩
theorem op_notInA (hu : X.A.units + 64 < cLine) : OpR X (compareOp .NotIn) (rInA X.K true) := by
  intro pins s σ H x y v u Q I rx ry h
  obtain ⟨d, c, ds, hd, he, hc, sd, se, q⟩ := h
  obtain ⟨as, r1⟩ := Dp.reads I d x v hd rx
  obtain ⟨bs, r2⟩ := Dp.reads I c y u he ry
  rcases hc with rfl | rfl
  · exact PySem.SeqAt.notIn_list_data r2 r1 (plainAll_of' se) (okD_plain sd) (room61 (okD_depth sd) hu) ⟨.bl _, H, I, rfl, q⟩
  · exact PySem.SeqAt.notIn_tuple_data r2 r1 (plainAll_of se) (okD_plain sd) (room61 (okD_depth sd) hu) ⟨.bl _, H, I, rfl, q⟩
@[simp] def itemsD : D → Option (List D)
  | .list ds => some ds
  | .tuple ds => some ds
  | _ => none
@[simp] def gIn (neg : Bool) : G2 := fun x y η => match datOf η x, datOf η y with
  | some d, some c => (itemsD c).bind fun ds => if (okD d && okD c) = true then some (.val (.bool (if neg then !ds.any (fun z => PyData.eqv z d) else ds.any fun z => PyData.eqv z d))) else none
  | _, _ => none
theorem opS_in {neg : Bool} : OpS X.K (rInA X.K neg) (gIn neg) := by
  intro F σ H η x y z v w Rl rv rw' e Q hQ
  unfold gIn at e
  split at e
  · rename_i d c0 e1 e2
    obtain ⟨ds, e3, e⟩ := Option.bind_eq_some_iff.mp e
    split at e
    · rename_i c
      cases e
      rw [Bool.and_eq_true] at c
      refine ⟨d, c0, ds, datOf_dp Rl rv e1 (okD_plain c.1), datOf_dp Rl rw' e2 (okD_plain c.2), ?_, c.1, c.2, hQ H _ (.refl Rl) (.bl _) trivial⟩
      cases c0 with
      | list xs => cases e3; exact .inl rfl
      | tuple xs => cases e3; exact .inr rfl
      | _ => cases e3
    · cases e
  · cases e
theorem oIn (hu : X.A.units + 64 < cLine) : OpR X (compareOp .In) (rInA X.K false) ∧ OpS X.K (rInA X.K false) (gIn false) := ⟨op_inA hu, opS_in⟩
theorem oNotIn (hu : X.A.units + 64 < cLine) : OpR X (compareOp .NotIn) (rInA X.K true) ∧ OpS X.K (rInA X.K true) (gIn true) := ⟨op_notInA hu, opS_in⟩
end

/-! ### tests -/
@[simp] def tfOf (fa : EF) : TF := fun η => (fa η).bind fun p => match p.1 with
  | .val (.bool b) => some (b, p.2)
  | _ => none
@[simp] def truD (η : List B) : PV.R → Option Bool
  | .val .none => some false
  | .val (.bool b) => some b
  | .val (.int i) => some (i != 0)
  | .val (.str y) => if y.length ≤ sizeLine then some ((y.length : Int) != 0) else none
  | r => (seqOf η r).map fun ds => !ds.isEmpty
def tTru (K : Kf) (ta : TE) : TT := fun σ H Q => ta σ H fun x H1 => ∃ k, TruV K x H1 k ∧ Q k H1
@[simp] def tfTru (fa : EF) : TF := fun η => (fa η).bind fun p => (truD p.2 p.1).map fun b => (b, p.2)
@[simp] def tfAnd (f g : TF) : TF := fun η => (f η).bind fun p => if p.1 = true then g p.2 else some (false, p.2)
@[simp] def tfOr (f g : TF) : TF := fun η => (f η).bind fun p => if p.1 = true then some (true, p.2) else g p.2
@[simp] def tfNot (f : TF) : TF := fun η => (f η).map fun p => (!p.1, p.2)
section
variable {K : Kf} {ta tb te : TE} {fa fb fe : EF} {tA tB' : TT} {gA gB : TF}
theorem SndT.test (ha : Snd K ta fa) : SndT K (tTest ta) (tfOf fa) := by
  intro F σ H η b η' Rl e Q hQ
  unfold tfOf at e
  obtain ⟨⟨x, η1⟩, e1, e⟩ := Option.bind_eq_some_iff.mp e
  refine ha F σ H η x η1 Rl e1 _ fun F1 H1 v s1 r1 f1 => ?_
  simp only at e
  split at e
  · cases e
    exact ⟨_, bool_dn r1, hQ F1 H1 s1⟩
  · cases e
theorem truD_ok {F : Addr → Prop} {σ : L2.St} {H : Hp} {η : List B} {v : V} {r : PV.R} {b : Bool} (Rl : Rel K F σ H η) (h : RV K F σ H η v r) (e : truD η r = some b) : TruV K v H b := by
  unfold truD at e
  split at e
  · cases e; cases none_dn h; exact rfl
  · cases e; cases bool_dn h; exact rfl
  · cases e; cases int_dn h; exact rfl
  · cases str_dn h
    split at e
    · rename_i c
      cases e; exact ⟨c, rfl⟩
    · cases e
  · obtain ⟨ds, e1, e2⟩ := Option.map_eq_some_iff.mp e
    obtain ⟨a, xs, rfl, h1, h2, h3⟩ := seqOf_ok Rl h e1
    have q : (!ds.isEmpty) = !xs.isEmpty := by cases h3 <;> rfl
    rw [q] at e2
    rcases h1 with h1 | h1
    · exact .inl ⟨xs, h1, e2.symm⟩
    · exact .inr (.inl ⟨xs, h1, e2.symm⟩)
theorem SndT.truth (ha : Snd K ta fa) : SndT K (fun σ H Q => ta σ H fun x H1 => ∃ k, TruV K x H1 k ∧ Q k H1) (tfTru fa) := by
  intro F σ H η b η' Rl e Q hQ
  unfold tfTru at e
  obtain ⟨⟨x, η1⟩, e1, e⟩ := Option.bind_eq_some_iff.mp e
  obtain ⟨b', e2, e⟩ := Option.map_eq_some_iff.mp e
  cases e
  exact ha F σ H η x η1 Rl e1 _ fun F1 H1 v s1 r1 f1 => ⟨_, truD_ok s1.rel r1 e2, hQ F1 H1 s1⟩
theorem SndT.and (h : SndT K tA gA) (h' : SndT K tB' gB) : SndT K (tAnd tA tB') (tfAnd gA gB) := by
  intro F σ H η b η' Rl e Q hQ
  unfold tfAnd at e
  obtain ⟨⟨x, η1⟩, e1, e⟩ := Option.bind_eq_some_iff.mp e
  refine h F σ H η x η1 Rl e1 _ fun F1 H1 s1 => ?_
  cases x with
  | true => exact h' F1 σ H1 η1 b η' s1.rel e Q fun F2 H2 s2 => hQ F2 H2 (s1.trans s2)
  | false =>
    cases e
    exact hQ F1 H1 s1
theorem SndT.or (h : SndT K tA gA) (h' : SndT K tB' gB) : SndT K (tOr tA tB') (tfOr gA gB) := by
  intro F σ H η b η' Rl e Q hQ
  unfold tfOr at e
  obtain ⟨⟨x, η1⟩, e1, e⟩ := Option.bind_eq_some_iff.mp e
  refine h F σ H η x η1 Rl e1 _ fun F1 H1 s1 => ?_
  cases x with
  | false => exact h' F1 σ H1 η1 b η' s1.rel e Q fun F2 H2 s2 => hQ F2 H2 (s1.trans s2)
  | true =>
    cases e
    exact hQ F1 H1 s1
theorem SndT.not (h : SndT K tA gA) : SndT K (tNot tA) (tfNot gA) := by
  intro F σ H η b η' Rl e Q hQ
  unfold tfNot at e
  obtain ⟨⟨x, η1⟩, e1, e⟩ := Option.map_eq_some_iff.mp e
  cases e
  exact h F σ H η x _ Rl e1 _ fun F1 H1 s1 => hQ F1 H1 s1
@[simp] def eAnd (fa fb : EF) : EF := fun η => (fa η).bind fun p => match p.1 with
  | .val (.bool true) => fb p.2
  | .val (.bool false) => some (.val (.bool false), p.2)
  | _ => none
@[simp] def eOr (fa fb : EF) : EF := fun η => (fa η).bind fun p => match p.1 with
  | .val (.bool true) => some (.val (.bool true), p.2)
  | .val (.bool false) => fb p.2
  | _ => none
@[simp] def eNot (fa : EF) : EF := fun η => (fa η).bind fun p => (truD p.2 p.1).map fun b => (.val (.bool (!b)), p.2)
@[simp] def eIf (g : TF) (fa fb : EF) : EF := fun η => (g η).bind fun p => if p.1 = true then fa p.2 else fb p.2
theorem Snd.and (ha : Snd K ta fa) (hb : Snd K tb fb) : Snd K (tAndV ta tb) (eAnd fa fb) := by
  intro F σ H η z η' Rl e Q hQ
  unfold eAnd at e
  obtain ⟨⟨x, η1⟩, e1, e⟩ := Option.bind_eq_some_iff.mp e
  refine ha F σ H η x η1 Rl e1 _ fun F1 H1 v s1 r1 f1 => ?_
  simp only at e
  split at e
  · exact ⟨true, bool_dn r1, hb F1 σ H1 η1 z η' s1.rel e Q fun F2 H2 w s2 r2 f2 => hQ F2 H2 w (s1.trans s2) r2 (f2.back s1)⟩
  · cases e
    exact ⟨false, bool_dn r1, hQ F1 H1 _ s1 (.bl _) trivial⟩
  · cases e
theorem Snd.or (ha : Snd K ta fa) (hb : Snd K tb fb) : Snd K (tOrV ta tb) (eOr fa fb) := by
  intro F σ H η z η' Rl e Q hQ
  unfold eOr at e
  obtain ⟨⟨x, η1⟩, e1, e⟩ := Option.bind_eq_some_iff.mp e
  refine ha F σ H η x η1 Rl e1 _ fun F1 H1 v s1 r1 f1 => ?_
  simp only at e
  split at e
  · cases e
    exact ⟨true, bool_dn r1, hQ F1 H1 _ s1 (.bl _) trivial⟩
  · exact ⟨false, bool_dn r1, hb F1 σ H1 η1 z η' s1.rel e Q fun F2 H2 w s2 r2 f2 => hQ F2 H2 w (s1.trans s2) r2 (f2.back s1)⟩
  · cases e
theorem Snd.not (ha : Snd K ta fa) : Snd K (tNotT K ta) (eNot fa) := by
  intro F σ H η z η' Rl e Q hQ
  unfold eNot at e
  obtain ⟨⟨x, η1⟩, e1, e⟩ := Option.bind_eq_some_iff.mp e
  obtain ⟨b', e2, e⟩ := Option.map_eq_some_iff.mp e
  cases e
  exact ha F σ H η x η1 Rl e1 _ fun F1 H1 v s1 r1 f1 => ⟨_, truD_ok s1.rel r1 e2, hQ F1 H1 _ s1 (.bl _) trivial⟩
theorem Snd.ifE (hc : SndT K tA gA) (ha : Snd K ta fa) (hb : Snd K tb fb) : Snd K (tIf tA ta tb) (eIf gA fa fb) := by
  intro F σ H η z η' Rl e Q hQ
  unfold eIf at e
  obtain ⟨⟨x, η1⟩, e1, e⟩ := Option.bind_eq_some_iff.mp e
  refine hc F σ H η x η1 Rl e1 _ fun F1 H1 s1 => ?_
  cases x with
  | true => exact ha F1 σ H1 η1 z η' s1.rel e Q fun F2 H2 w s2 r2 f2 => hQ F2 H2 w (s1.trans s2) r2 (f2.back s1)
  | false => exact hb F1 σ H1 η1 z η' s1.rel e Q fun F2 H2 w s2 r2 f2 => hQ F2 H2 w (s1.trans s2) r2 (f2.back s1)
end
section
variable {X : Cx} {a b c e : Expr} {ta tb te tc : TE} {fa fb fe fc : EF} {pos : Pos} {tA tB' : TT} {gA gB : TF} {rest : List Expr}
/-- a test, whatever its whole is -/
structure SW (X : Cx) (e : Expr) (t : TT) (f : TF) : Prop where
  pw : PW X e t
  sd : SndT X.K t f
theorem st_cmp {op : CmpOp} {r : R2} {g : G2} (ho : OpR X (compareOp op) r ∧ OpS X.K r g) (ha : SE X a ta fa) (hb : SE X b tb fb) (hm : behindInMarks op b = false) : ST X (.Compare a [op] [b] pos) (tTest (tOp r ta tb)) (tfOf (eOp g fa fb)) :=
  ⟨pt_cmpR ho.1 ha.pe hb.pe hm, .test (.op ho.2 ha.sd hb.sd)⟩
theorem st_truth (ha : SE X a ta fa) (he : ∀ whole, isTrue a X.env whole = (do let v ← whole; standAt a.pos; holding [v] (truthy v)) := by intro _; rfl) : ST X a (fun σ H Q => ta σ H fun x H1 => ∃ k, TruV X.K x H1 k ∧ Q k H1) (tfTru fa) :=
  ⟨pt_truth ha.pe he, .truth ha.sd⟩
theorem SW.st (h : SW X e tA gA) : ST X e tA gA := ⟨h.pw.pt, h.sd⟩
theorem sw_and1 (h : ST X a tA gA) : SW X (.BoolOp .And [a] pos) tA gA := ⟨pw_and1 h.pt, h.sd⟩
theorem sw_or1 (h : ST X a tA gA) : SW X (.BoolOp .Or [a] pos) tA gA := ⟨pw_or1 h.pt, h.sd⟩
theorem sw_and (h : ST X a tA gA) (h' : SW X (.BoolOp .And (b :: rest) pos) tB' gB) : SW X (.BoolOp .And (a :: b :: rest) pos) (tAnd tA tB') (tfAnd gA gB) := ⟨pw_and h.pt h'.pw, .and h.sd h'.sd⟩
theorem sw_or (h : ST X a tA gA) (h' : SW X (.BoolOp .Or (b :: rest) pos) tB' gB) : SW X (.BoolOp .Or (a :: b :: rest) pos) (tOr tA tB') (tfOr gA gB) := ⟨pw_or h.pt h'.pw, .or h.sd h'.sd⟩
theorem st_not (h : ST X a tA gA) : ST X (.UnaryOp .Not a pos) (tNot tA) (tfNot gA) := ⟨pt_not h.pt, .not h.sd⟩
theorem se_one {op} (h : SE X a te fe) : SE X (.BoolOp op [a] pos) te fe := ⟨pe_one h.pe, h.sd⟩
theorem se_and (ha : SE X a ta fa) (hb : SE X (.BoolOp .And (b :: rest) pos) tb fb) : SE X (.BoolOp .And (a :: b :: rest) pos) (tAndV ta tb) (eAnd fa fb) := ⟨pe_and ha.pe hb.pe, .and ha.sd hb.sd⟩
theorem se_or (ha : SE X a ta fa) (hb : SE X (.BoolOp .Or (b :: rest) pos) tb fb) : SE X (.BoolOp .Or (a :: b :: rest) pos) (tOrV ta tb) (eOr fa fb) := ⟨pe_or ha.pe hb.pe, .or ha.sd hb.sd⟩
theorem se_not (ha : SE X a ta fa) : SE X (.UnaryOp .Not a pos) (tNotT X.K ta) (eNot fa) := ⟨pe_notT ha.pe, .not ha.sd⟩
theorem se_if (hc : ST X c tA gA) (ha : SE X a ta fa) (hb : SE X b tb fb) : SE X (.IfExp c a b pos) (tIf tA ta tb) (eIf gA fa fb) := ⟨pe_ifExp hc.pt ha.pe hb.pe, .ifE hc.sd ha.sd hb.sd⟩
/-- a < b <= c -/
@[simp] def eChain (g g' : G2) (fa fb fc : EF) : EF := fun η => (fa η).bind fun p => (fb p.2).bind fun q => (g p.1 q.1 q.2).bind fun z => match z with
  | .val (.bool true) => (fc q.2).bind fun r => (g' q.1 r.1 r.2).map fun z => (z, r.2)
  | .val (.bool false) => some (.val (.bool false), q.2)
  | _ => none
theorem se_chain {op op' : CmpOp} {r r' : R2} {g g' : G2} (ho : OpR X (compareOp op) r ∧ OpS X.K r g) (ho' : OpR X (compareOp op') r' ∧ OpS X.K r' g') (ha : SE X a ta fa) (hb : SE X b tb fb) (hc : SE X c tc fc)
    (hm : lastMarks [op, op'] [b, c] = false := by with_unfolding_all rfl) : SE X (.Compare a [op, op'] [b, c] pos) (tChain r r' ta tb tc) (eChain g g' fa fb fc) := by
  refine ⟨pe_chain ho.1 ho'.1 ha.pe hb.pe hc.pe hm, ?_⟩
  intro F σ H η z η' Rl e Q hQ
  unfold eChain at e
  obtain ⟨⟨x, η1⟩, e1, e⟩ := Option.bind_eq_some_iff.mp e
  obtain ⟨⟨y, η2⟩, e2, e⟩ := Option.bind_eq_some_iff.mp e
  obtain ⟨z', e3, e⟩ := Option.bind_eq_some_iff.mp e
  refine ha.sd F σ H η x η1 Rl e1 _ fun F1 H1 v s1 r1 f1 => ?_
  refine hb.sd F1 σ H1 η1 y η2 s1.rel e2 _ fun F2 H2 w s2 r2 f2 => ?_
  refine ho.2 F2 σ H2 η2 x y _ v w s2.rel (r1.step s1.rel s2) r2 e3 _ fun H3 u s3 r3 f3 => ?_
  have s123 := (s1.trans s2).trans s3
  simp only at e
  split at e
  · refine ⟨true, bool_dn r3, ?_⟩
    obtain ⟨⟨x4, η4⟩, e4, e⟩ := Option.bind_eq_some_iff.mp e
    obtain ⟨z', e5, e⟩ := Option.map_eq_some_iff.mp e
    cases e
    refine hc.sd F2 σ H3 η2 x4 η4 s3.rel e4 _ fun F4 H4 w4 s4 r4 f4 => ?_
    refine ho'.2 F4 σ H4 η4 y x4 _ w w4 s4.rel ((r2.step s2.rel s3).step s3.rel s4) r4 e5 _ fun H5 u5 s5 r5 f5 => ?_
    exact hQ F4 H5 u5 ((s123.trans s4).trans s5) r5 ((f5.back s4).back s123)
  · cases e
    exact ⟨false, bool_dn r3, hQ F2 H3 _ s123 (.bl _) trivial⟩
  · cases e
theorem st_chain {op op' : CmpOp} {r r' : R2} {g g' : G2} (ho : OpR X (compareOp op) r ∧ OpS X.K r g) (ho' : OpR X (compareOp op') r' ∧ OpS X.K r' g') (ha : SE X a ta fa) (hb : SE X b tb fb) (hc : SE X c tc fc)
    (hm : lastMarks [op, op'] [b, c] = false := by with_unfolding_all rfl) : ST X (.Compare a [op, op'] [b, c] pos) (tTest (tChain r r' ta tb tc)) (tfOf (eChain g g' fa fb fc)) :=
  ⟨pt_chain ho.1 ho'.1 ha.pe hb.pe hc.pe hm, .test (se_chain (pos := pos) ho ho' ha hb hc hm).sd⟩
end
end PV

/-! PV2: argument lists, displays, subscripts, slices, built-ins, methods. -/
namespace PV
open PySem PySem.Spec PyProof.Rows L2

/-! ### argument lists -/
@[simp] def aNil : AF := fun η => some ([], η)
@[simp] def aCons (f : EF) (g : AF) : AF := fun η => (f η).bind fun p => (g p.2).map fun q => (p.1 :: q.1, q.2)
section
variable {K : Kf} {ta tb te : TE} {fa fb fe : EF} {t : TA} {g : AF}
theorem RVs.step {F F' : Addr → Prop} {σ : L2.St} {H H' : Hp} {η η' : List B} (Rl : Rel K F σ H η) (s : Stp K F σ H η F' σ H' η') : ∀ {vs : List V} {rs : List PV.R}, RVs K F σ H η vs rs → RVs K F' σ H' η' vs rs
  | _, _, .nil => .nil
  | _, _, .cons h1 h2 => .cons (h1.step Rl s) (RVs.step Rl s h2)
theorem SndA.nil : SndA K tNil aNil := by
  intro F σ H η rs η' Rl e Q hQ
  cases e
  exact hQ F H [] (.refl Rl) .nil
theorem SndA.cons (h : Snd K te fe) (hr : SndA K t g) : SndA K (tCons te t) (aCons fe g) := by
  intro F σ H η rs η' Rl e Q hQ
  unfold aCons at e
  obtain ⟨⟨x, η1⟩, e1, e⟩ := Option.bind_eq_some_iff.mp e
  obtain ⟨⟨y, η2⟩, e2, e⟩ := Option.map_eq_some_iff.mp e
  cases e
  refine h F σ H η x η1 Rl e1 _ fun F1 H1 v s1 r1 f1 => ?_
  refine hr F1 σ H1 η1 y η2 s1.rel e2 _ fun F2 H2 vs s2 r2 => ?_
  exact hQ F2 H2 _ (s1.trans s2) (.cons (r1.step s1.rel s2) r2)
/-- the values that a list of results denotes (all frozen) -/
@[simp] def valsOf : List PV.R → Option (List D)
  | [] => some []
  | .val d :: r => (valsOf r).map fun ds => d :: ds
  | _ :: _ => none
theorem valsOf_ok {F : Addr → Prop} {σ : L2.St} {H : Hp} {η : List B} : ∀ {vs : List V} {rs : List PV.R} {ds : List D}, RVs K F σ H η vs rs → valsOf rs = some ds → DnAll K F H vs ds
  | _, _, _, .nil, e => by cases e; exact .nil
  | _, _, _, .cons (r := r) h1 h2, e => by
    cases r with
    | val d =>
      obtain ⟨ds', e1, e2⟩ := Option.map_eq_some_iff.mp e
      cases e2
      exact .cons h1 (valsOf_ok h2 e1)
    | fr o => cases e
    | bor i => cases e
    | ty n => cases e
    | zl ds => cases e
@[simp] def eTup (g : AF) : EF := fun η => (g η).bind fun p => (valsOf p.1).bind fun ds => if ds.length ≤ sizeLine then some (.val (.tuple ds), p.2) else none
@[simp] def eLst (g : AF) : EF := fun η => (g η).bind fun p => (valsOf p.1).bind fun ds => if ds.length ≤ sizeLine then some (.fr (.lst ds), p.2) else none
theorem Snd.tup (h : SndA K t g) : Snd K (tTup t) (eTup g) := by
  intro F σ H η z η' Rl e Q hQ
  unfold eTup at e
  obtain ⟨⟨rs, η1⟩, e1, e⟩ := Option.bind_eq_some_iff.mp e
  obtain ⟨ds, e2, e⟩ := Option.bind_eq_some_iff.mp e
  split at e
  · rename_i c
    cases e
    refine h F σ H η rs _ Rl e1 _ fun F1 H1 vs s1 r1 => ?_
    have dn := valsOf_ok r1 e2
    have hl : vs.length ≤ sizeLine := by rw [dn.length]; exact c
    refine ⟨hl, fun p hp => ?_⟩
    obtain ⟨n1, n2, n3⟩ := new_tup s1.rel hl dn hp
    exact hQ _ _ _ (s1.trans n1) n2 trivial
  · cases e
theorem Snd.lst (h : SndA K t g) : Snd K (tLst t) (eLst g) := by
  intro F σ H η z η' Rl e Q hQ
  unfold eLst at e
  obtain ⟨⟨rs, η1⟩, e1, e⟩ := Option.bind_eq_some_iff.mp e
  obtain ⟨ds, e2, e⟩ := Option.bind_eq_some_iff.mp e
  split at e
  · rename_i c
    cases e
    refine h F σ H η rs _ Rl e1 _ fun F1 H1 vs s1 r1 => ?_
    have dn := valsOf_ok r1 e2
    have hl : vs.length ≤ sizeLine := by rw [dn.length]; exact c
    refine ⟨hl, fun p hp => ?_⟩
    obtain ⟨n1, n2, n3⟩ := new_lst s1.rel hl dn hp
    exact hQ _ _ _ (s1.trans n1) n2 (n3.back s1)
  · cases e
end
section
variable {X : Cx} {e : Expr} {es : List Expr} {te : TE} {fe : EF} {t : TA} {g : AF} {pos : Pos}
theorem sa_nil : SA X [] tNil aNil := ⟨pa_nil, .nil⟩
theorem sa_cons (h : SE X e te fe) (hr : SA X es t g) (hs : starEach (e :: es) X.env = (false, eval e X.env) :: starEach es X.env := by rfl) : SA X (e :: es) (tCons te t) (aCons fe g) := ⟨pa_cons h.pe hr.pa hs, .cons h.sd hr.sd⟩
theorem se_tup {x1} (h : SA X es t g) : SE X (.Tuple es x1 pos) (tTup t) (eTup g) := ⟨pe_tup h.pa, .tup h.sd⟩
theorem se_lst (h : SA X es t g) : SE X (.List es pos) (tLst t) (eLst g) := ⟨pe_lst h.pa, .lst h.sd⟩
end

/-! ### subscripts -/
@[simp] def gIx : G2 := fun x y η => match y with
  | .val (.int i) => match seqOf η x with
    | some ds => (atI ds i).map PV.R.val
    | none => match x with
      | .val (.str z) => if z.length ≤ sizeLine then (atI z.cps.toList i).map fun c => .val (.str ⟨#[c]⟩) else none
      | _ => none
  | _ => none
theorem atI_dn {K : Kf} {F : Addr → Prop} {H : Hp} {xs : List V} {ds : List D} {i : Int} {d : D} (h : DnAll K F H xs ds) (e : atI ds i = some d) : ∃ v, atI xs i = some v ∧ Dn K F H v d := by
  unfold atI at e ⊢
  rw [h.length]
  obtain ⟨j, e1, e2⟩ := Option.bind_eq_some_iff.mp e
  obtain ⟨v, e3, dn⟩ := h.get' e2
  exact ⟨v, by rw [e1]; exact e3, dn⟩
theorem opS_ix {K : Kf} : OpS K (rIx K) gIx := by
  intro F σ H η x y z v w Rl rv rw' e Q hQ
  unfold gIx at e
  split at e
  · rename_i i
    have ew := int_dn rw'
    subst ew
    split at e
    · rename_i ds e1
      obtain ⟨d, e2, e3⟩ := Option.map_eq_some_iff.mp e
      cases e3
      obtain ⟨a, xs, rfl, h1, l1, d1⟩ := seqOf_ok Rl rv e1
      obtain ⟨u, e4, dn⟩ := atI_dn d1 e2
      rcases h1 with h1 | h1
      · exact .inl ⟨a, xs, i, u, rfl, rfl, h1, e4, hQ H u (.refl Rl) dn trivial⟩
      · exact .inr (.inl ⟨a, xs, i, u, rfl, rfl, h1, e4, hQ H u (.refl Rl) dn trivial⟩)
    · split at e
      · rename_i z' _
        split at e
        · rename_i c
          obtain ⟨d, e2, e3⟩ := Option.map_eq_some_iff.mp e
          cases e3
          exact .inr (.inr ⟨z', i, d, str_dn rv, rfl, c, e2, hQ H _ (.refl Rl) (.str _) trivial⟩)
        · cases e
      · cases e
  · cases e
section
variable {X : Cx} {a b : Expr} {ta tb : TE} {fa fb : EF} {pos : Pos}
theorem se_ix (ha : SE X a ta fa) (hb : SE X b tb fb) (hs : PlainIx b := by intro _ _; rfl) : SE X (.Subscript a b pos) (tOp (rIx X.K) ta tb) (eOp gIx fa fb) := ⟨pe_ix ix_seq ha.pe hb.pe hs, .op opS_ix ha.sd hb.sd⟩
end

/-! ### slices -/
def SndO (K : Kf) (t : TO) (f : List B → Option (Option Int × List B)) : Prop := ∀ F σ H η o η', Rel K F σ H η → f η = some (o, η') → ∀ Q : Option Int → Hp → Prop,
  (∀ F' H', Stp K F σ H η F' σ H' η' → Q o H') → t σ H Q
abbrev OF := List B → Option (Option Int × List B)
@[simp] def oNo : OF := fun η => some (none, η)
@[simp] def oSome (f : EF) : OF := fun η => (f η).bind fun p => match p.1 with
  | .val (.int i) => some (some i, p.2)
  | _ => none
def cutD (xs : List D) (lo hi : Option Int) : List D := (xs.drop (HT.sIx xs.length 0 lo)).take (HT.sIx xs.length xs.length hi - HT.sIx xs.length 0 lo)
@[simp] def sliceR (η : List B) (x : PV.R) (lo hi : Option Int) : Option PV.R := match tupOf x with
  | some ds => some (.val (.tuple (cutD ds lo hi)))
  | none => match lsqOf η x with
    | some ds => some (.fr (.lst (cutD ds lo hi)))
    | none => match x with
      | .val (.str z) => if z.length ≤ sizeLine then some (.val (.str (cutS z lo hi))) else none
      | _ => none
@[simp] def eSl (f : EF) (lo hi : OF) : EF := fun η => (f η).bind fun p => (lo p.2).bind fun l => (hi l.2).bind fun h => (sliceR h.2 p.1 l.1 h.1).map fun z => (z, h.2)
def rSlAll (K : Kf) : V → Option Int → Option Int → Hp → VK → Prop := fun x lo hi H Q => rSlA K x lo hi H Q ∨ (fun x lo hi H Q => rSlL K x lo hi H Q ∨ rSlS x lo hi H Q) x lo hi H Q
theorem cut_dn {K : Kf} {F : Addr → Prop} {H : Hp} {xs : List V} {ds : List D} (h : DnAll K F H xs ds) (lo hi : Option Int) : DnAll K F H (cutV xs lo hi) (cutD ds lo hi) := by
  unfold cutV cutD
  rw [h.length]
  exact (h.drop _).take _
theorem cutD_whole {ds : List D} {lo hi : Option Int} (h : HT.sIx ds.length 0 lo = 0 ∧ HT.sIx ds.length ds.length hi = ds.length) : cutD ds lo hi = ds := by
  unfold cutD
  rw [h.1, h.2, List.drop_zero, Nat.sub_zero, List.take_length]
section
variable {K : Kf} {te : TE} {fe : EF} {tl th : TO} {fl fh : OF}
theorem SndO.no : SndO K tNoPart oNo := by
  intro F σ H η o η' Rl e Q hQ
  cases e
  exact hQ F H (.refl Rl)
theorem SndO.some (h : Snd K te fe) : SndO K (tPart te) (oSome fe) := by
  intro F σ H η o η' Rl e Q hQ
  unfold oSome at e
  obtain ⟨⟨x, η1⟩, e1, e⟩ := Option.bind_eq_some_iff.mp e
  refine h F σ H η x η1 Rl e1 _ fun F1 H1 v s1 r1 f1 => ?_
  simp only at e
  split at e
  · cases e
    exact ⟨_, int_dn r1, hQ F1 H1 s1⟩
  · cases e
theorem Snd.sl (h : Snd K te fe) (hl : SndO K tl fl) (hh : SndO K th fh) : Snd K (tSl (rSlAll K) te tl th) (eSl fe fl fh) := by
  intro F σ H η z η' Rl e Q hQ
  unfold eSl at e
  obtain ⟨⟨x, η1⟩, e1, e⟩ := Option.bind_eq_some_iff.mp e
  obtain ⟨⟨l, η2⟩, e2, e⟩ := Option.bind_eq_some_iff.mp e
  obtain ⟨⟨u, η3⟩, e3, e⟩ := Option.bind_eq_some_iff.mp e
  obtain ⟨z', e4, e⟩ := Option.map_eq_some_iff.mp e
  cases e
  refine h F σ H η x η1 Rl e1 _ fun F1 H1 v s1 r1 f1 => ?_
  refine hl F1 σ H1 η1 l η2 s1.rel e2 _ fun F2 H2 s2 => ?_
  refine hh F2 σ H2 η2 u _ s2.rel e3 _ fun F3 H3 s3 => ?_
  have s := (s1.trans s2).trans s3
  have r3 := (r1.step s1.rel s2).step s2.rel s3
  simp only at e4
  unfold sliceR at e4
  split at e4
  · rename_i ds q
    cases e4
    obtain ⟨a, xs, rfl, h1, l1, d1⟩ := tupOf_ok r3 q
    refine .inl ⟨a, xs, rfl, h1, fun c => ?_, fun c p hp => ?_⟩
    · rw [d1.length] at c
      rw [cutD_whole c] at hQ
      refine hQ F3 H3 _ s ?_ trivial
      exact .tup h1 l1 d1
    · obtain ⟨n1, n2, n3⟩ := new_tup s3.rel (Nat.le_trans (cutV_length xs l u) l1) (cut_dn d1 l u) hp
      exact hQ _ _ _ (s.trans n1) n2 trivial
  · split at e4
    · rename_i ds q
      cases e4
      obtain ⟨a, xs, rfl, h1, l1, d1⟩ := lsqOf_ok s3.rel r3 q
      refine .inr (.inl ⟨a, xs, rfl, h1, fun p hp => ?_⟩)
      obtain ⟨n1, n2, n3⟩ := new_lst s3.rel (Nat.le_trans (cutV_length xs l u) l1) (cut_dn d1 l u) hp
      exact hQ _ _ _ (s.trans n1) n2 (n3.back s)
    · split at e4
      · split at e4
        · rename_i c
          cases e4
          exact .inr (.inr ⟨_, str_dn r3, c, hQ F3 H3 _ s (.str _) trivial⟩)
        · cases e4
      · cases e4
end
section
variable {X : Cx} {e : Expr} {te : TE} {fe : EF} {lo hi : Option Expr} {tl th : TO} {fl fh : OF} {pos p2 : Pos}
structure SO (X : Cx) (e : Option Expr) (t : TO) (f : OF) : Prop where
  po : PO X e t
  sd : SndO X.K t f
theorem so_none : SO X none tNoPart oNo := ⟨po_none, .no⟩
theorem so_some (h : SE X e te fe) : SO X (some e) (tPart te) (oSome fe) := ⟨po_some h.pe, .some h.sd⟩
theorem se_sl (h : SE X e te fe) (hl : SO X lo tl fl) (hh : SO X hi th fh) : SE X (.Subscript e (.Slice lo hi none p2) pos) (tSl (rSlAll X.K) te tl th) (eSl fe fl fh) :=
  ⟨pe_slice (sl_tupA.or (sl_list.or sl_str)) h.pe hl.po hh.po, .sl h.sd hl.sd hh.sd⟩
end

/-! ### built-ins by their names -/
abbrev GA := List PV.R → List B → Option PV.R
def CallS (K : Kf) (r : List V → Hp → VK → Prop) (g : GA) : Prop := ∀ F σ H η rs z vs, Rel K F σ H η → RVs K F σ H η vs rs → g rs η = some z → ∀ Q : VK,
  (∀ H' u, Stp K F σ H η F σ H' η → RV K F σ H' η u z → Fresh H u z → Q u H') → r vs H Q
@[simp] def eCB (g : GA) (fa : AF) : EF := fun η => (fa η).bind fun p => (g p.1 p.2).map fun z => (z, p.2)
theorem Snd.cb {K : Kf} {r : List V → Hp → VK → Prop} {g : GA} {t : TA} {fa : AF} (hr : CallS K r g) (ha : SndA K t fa) : Snd K (tCB r t) (eCB g fa) := by
  intro F σ H η z η' Rl e Q hQ
  unfold eCB at e
  obtain ⟨⟨rs, η1⟩, e1, e⟩ := Option.bind_eq_some_iff.mp e
  obtain ⟨z', e2, e⟩ := Option.map_eq_some_iff.mp e
  cases e
  refine ha F σ H η rs _ Rl e1 _ fun F1 H1 vs s1 r1 => ?_
  refine hr F1 σ H1 _ rs _ vs s1.rel r1 e2 Q fun H2 u s2 r2 f2 => ?_
  exact hQ F1 H2 u (s1.trans s2) r2 (f2.back s1)
section
variable {X : Cx} {e : Expr} {es : List Expr} {t : TA} {fa : AF} {r : List V → Hp → VK → Prop} {g : GA} {x : Str} {p pos : Pos}
theorem se_cb {id : String} (hc : CallR X (.builtin id) r ∧ CallS X.K r g) (hg : Gl X x) (hm : X.mg x = none) (hv : bootBuiltins x = some (.builtin id)) (ha : SA X (e :: es) t fa) (hn : x ≠ "__name__" := by decide) (hdb : (x == ("__debug__" : Str)) = false := by decide)
    (he : starEach (e :: es) X.env = (false, eval e X.env) :: starEach es X.env := by rfl) (hpl : (backTo pos (starEach es X.env)).any (·.1) = false := by rfl) :
    SE X (.Call (.Name x p) (e :: es) [] pos) (tCB r t) (eCB g fa) := ⟨pe_callB hc.1 hg hm hv ha.pa hn hdb he hpl, .cb hc.2 ha.sd⟩
theorem se_ct {T : String} (hc : CallR X (.type T) r ∧ CallS X.K r g) (hg : Gl X x) (hm : X.mg x = none) (hv : bootBuiltins x = some (.type T)) (ha : SA X (e :: es) t fa) (hn : x ≠ "__name__" := by decide) (hdb : (x == ("__debug__" : Str)) = false := by decide)
    (he : starEach (e :: es) X.env = (false, eval e X.env) :: starEach es X.env := by rfl) (hpl : (backTo pos (starEach es X.env)).any (·.1) = false := by rfl) :
    SE X (.Call (.Name x p) (e :: es) [] pos) (tCB r t) (eCB g fa) := ⟨pe_callTy hc.1 hg hm hv ha.pa hn hdb he hpl, .cb hc.2 ha.sd⟩
end
theorem RVs.one {K : Kf} {F : Addr → Prop} {σ : L2.St} {H : Hp} {η : List B} {vs : List V} {r : PV.R} (h : RVs K F σ H η vs [r]) : ∃ v, vs = [v] ∧ RV K F σ H η v r := by
  cases h with
  | cons h1 h2 => cases h2; exact ⟨_, rfl, h1⟩
theorem RVs.two {K : Kf} {F : Addr → Prop} {σ : L2.St} {H : Hp} {η : List B} {vs : List V} {r q : PV.R} (h : RVs K F σ H η vs [r, q]) : ∃ v w, vs = [v, w] ∧ RV K F σ H η v r ∧ RV K F σ H η w q := by
  cases h with
  | cons h1 h2 =>
    obtain ⟨w, rfl, h3⟩ := h2.one
    exact ⟨_, w, rfl, h1, h3⟩
def intsOf : List D → Option (List Int)
  | [] => some []
  | .int i :: r => (intsOf r).map fun is => i :: is
  | _ :: _ => none
theorem intsOf_ok {K : Kf} {F : Addr → Prop} {H : Hp} : ∀ {xs : List V} {ds : List D} {is : List Int}, DnAll K F H xs ds → intsOf ds = some is → xs = is.map V.int
  | _, _, _, .nil, e => by cases e; rfl
  | _, _, _, .cons (d := d) h1 h2, e => by
    cases d with
    | int i =>
      obtain ⟨is', e1, e2⟩ := Option.map_eq_some_iff.mp e
      cases e2
      rw [int_dn h1, intsOf_ok h2 e1]
      rfl
    | _ => cases e
def boolsOf : List D → Option (List Bool)
  | [] => some []
  | .bool i :: r => (boolsOf r).map fun is => i :: is
  | _ :: _ => none
theorem boolsOf_ok {K : Kf} {F : Addr → Prop} {H : Hp} : ∀ {xs : List V} {ds : List D} {is : List Bool}, DnAll K F H xs ds → boolsOf ds = some is → xs = is.map V.bl
  | _, _, _, .nil, e => by cases e; rfl
  | _, _, _, .cons (d := d) h1 h2, e => by
    cases d with
    | bool i =>
      obtain ⟨is', e1, e2⟩ := Option.map_eq_some_iff.mp e
      cases e2
      rw [bool_dn h1, boolsOf_ok h2 e1]
      rfl
    | _ => cases e
/-- len -/
@[simp] def gLen : GA := fun rs η => match rs with
  | [r] => match seqOf η r with
    | some ds => some (.val (.int ds.length))
    | none => match r with
      | .val (.str z) => if z.length ≤ sizeLine then some (.val (.int z.length)) else none
      | _ => none
  | _ => none
section
variable {X : Cx}
abbrev rLenA (K : Kf) : List V → Hp → VK → Prop := fun xs H Q => (fun xs H Q => ∃ p ys, xs = [.ref p] ∧ (SqL K H p ys ∨ SqT K H p ys) ∧ Q (.int ys.length) H) xs H Q ∨ (fun xs H Q => ∃ z, xs = [.str z] ∧ z.length ≤ sizeLine ∧ Q (.int z.length) H) xs H Q
theorem bLen : CallR X (.builtin "len") (rLenA X.K) ∧ CallS X.K (rLenA X.K) gLen := by
  refine ⟨call_len_seq.or call_len_str, ?_⟩
  intro F σ H η rs z vs Rl rv e Q hQ
  unfold gLen at e
  split at e
  · rename_i r
    obtain ⟨v, rfl, r1⟩ := rv.one
    split at e
    · rename_i ds e1
      cases e
      obtain ⟨a, xs, rfl, h1, l1, d1⟩ := seqOf_ok Rl r1 e1
      refine .inl ⟨a, xs, rfl, h1, ?_⟩
      rw [d1.length]
      exact hQ H _ (.refl Rl) (.int _) trivial
    · split at e
      · rename_i z' _
        split at e
        · rename_i c
          cases e
          cases str_dn r1
          exact .inr ⟨z', rfl, c, hQ H _ (.refl Rl) (.int _) trivial⟩
        · cases e
      · cases e
  · cases e
/-- sum of a list of ints -/
@[simp] def gSum : GA := fun rs η => match rs with
  | [r] => (lsqOf η r).bind fun ds => (intsOf ds).map fun is => .val (.int is.sum)
  | _ => none
theorem bSum (hc : X.calm = true) : CallR X (.builtin "sum") (rSum X.K) ∧ CallS X.K (rSum X.K) gSum := by
  refine ⟨cr_sum hc, ?_⟩
  intro F σ H η rs z vs Rl rv e Q hQ
  unfold gSum at e
  split at e
  · rename_i r
    obtain ⟨v, rfl, r1⟩ := rv.one
    obtain ⟨ds, e1, e⟩ := Option.bind_eq_some_iff.mp e
    obtain ⟨is, e2, e⟩ := Option.map_eq_some_iff.mp e
    cases e
    obtain ⟨a, xs, rfl, h1, l1, d1⟩ := lsqOf_ok Rl r1 e1
    rw [intsOf_ok d1 e2] at h1
    exact ⟨a, is, rfl, h1, hQ H _ (.refl Rl) (.int _) trivial⟩
  · cases e
@[simp] def gAny : GA := fun rs η => match rs with
  | [r] => (lsqOf η r).bind fun ds => (boolsOf ds).map fun is => .val (.bool (is.any id))
  | _ => none
@[simp] def gAll : GA := fun rs η => match rs with
  | [r] => (lsqOf η r).bind fun ds => (boolsOf ds).map fun is => .val (.bool (is.all id))
  | _ => none
theorem bAny (hc : X.calm = true) : CallR X (.builtin "any") (rAny X.K) ∧ CallS X.K (rAny X.K) gAny := by
  refine ⟨cr_any hc, ?_⟩
  intro F σ H η rs z vs Rl rv e Q hQ
  unfold gAny at e
  split at e
  · rename_i r
    obtain ⟨v, rfl, r1⟩ := rv.one
    obtain ⟨ds, e1, e⟩ := Option.bind_eq_some_iff.mp e
    obtain ⟨is, e2, e⟩ := Option.map_eq_some_iff.mp e
    cases e
    obtain ⟨a, xs, rfl, h1, l1, d1⟩ := lsqOf_ok Rl r1 e1
    rw [boolsOf_ok d1 e2] at h1
    exact ⟨a, is, rfl, h1, hQ H _ (.refl Rl) (.bl _) trivial⟩
  · cases e
theorem bAll (hc : X.calm = true) : CallR X (.builtin "all") (rAll X.K) ∧ CallS X.K (rAll X.K) gAll := by
  refine ⟨cr_all hc, ?_⟩
  intro F σ H η rs z vs Rl rv e Q hQ
  unfold gAll at e
  split at e
  · rename_i r
    obtain ⟨v, rfl, r1⟩ := rv.one
    obtain ⟨ds, e1, e⟩ := Option.bind_eq_some_iff.mp e
    obtain ⟨is, e2, e⟩ := Option.map_eq_some_iff.mp e
    cases e
    obtain ⟨a, xs, rfl, h1, l1, d1⟩ := lsqOf_ok Rl r1 e1
    rw [boolsOf_ok d1 e2] at h1
    exact ⟨a, is, rfl, h1, hQ H _ (.refl Rl) (.bl _) trivial⟩
  · cases e
def gAbs : GA := fun rs _ => match rs with
  | [.val (.int i)] => some (.val (.int (if i < 0 then -i else i)))
  | _ => none
theorem bAbs : CallR X (.builtin "abs") (fun xs H Q => ∃ i, xs = [.int i] ∧ Q (.int (if i < 0 then -i else i)) H) ∧ CallS X.K (fun xs H Q => ∃ i, xs = [.int i] ∧ Q (.int (if i < 0 then -i else i)) H) gAbs := by
  refine ⟨call_abs, ?_⟩
  intro F σ H η rs z vs Rl rv e Q hQ
  unfold gAbs at e
  split at e
  · cases e
    obtain ⟨v, rfl, r1⟩ := rv.one
    exact ⟨_, by rw [int_dn r1], hQ H _ (.refl Rl) (.int _) trivial⟩
  · cases e
@[simp] def gMax2 : GA := fun rs _ => match rs with
  | [.val (.int i), .val (.int j)] => some (.val (.int (if j > i then j else i)))
  | _ => none
@[simp] def gMin2 : GA := fun rs _ => match rs with
  | [.val (.int i), .val (.int j)] => some (.val (.int (if j < i then j else i)))
  | _ => none
theorem bMax2 (hc : X.calm = true) : CallR X (.builtin "max") (fun xs H Q => ∃ i j, xs = [.int i, .int j] ∧ Q (.int (if j > i then j else i)) H) ∧ CallS X.K (fun xs H Q => ∃ i j, xs = [.int i, .int j] ∧ Q (.int (if j > i then j else i)) H) gMax2 := by
  refine ⟨call_max2 hc, ?_⟩
  intro F σ H η rs z vs Rl rv e Q hQ
  unfold gMax2 at e
  split at e
  · cases e
    obtain ⟨v, w, rfl, r1, r2⟩ := rv.two
    exact ⟨_, _, by rw [int_dn r1, int_dn r2], hQ H _ (.refl Rl) (.int _) trivial⟩
  · cases e
theorem bMin2 (hc : X.calm = true) : CallR X (.builtin "min") (fun xs H Q => ∃ i j, xs = [.int i, .int j] ∧ Q (.int (if j < i then j else i)) H) ∧ CallS X.K (fun xs H Q => ∃ i j, xs = [.int i, .int j] ∧ Q (.int (if j < i then j else i)) H) gMin2 := by
  refine ⟨call_min2 hc, ?_⟩
  intro F σ H η rs z vs Rl rv e Q hQ
  unfold gMin2 at e
  split at e
  · cases e
    obtain ⟨v, w, rfl, r1, r2⟩ := rv.two
    exact ⟨_, _, by rw [int_dn r1, int_dn r2], hQ H _ (.refl Rl) (.int _) trivial⟩
  · cases e
/-- int(n), int(flag) -/
@[simp] def gInt : GA := fun rs _ => match rs with
  | [.val (.int i)] => some (.val (.int i))
  | [.val (.bool b)] => some (.val (.int (if b then 1 else 0)))
  | _ => none
theorem bInt : CallR X (.type "int") (fun xs H Q => (∃ i, xs = [.int i] ∧ Q (.int i) H) ∨ ∃ k, xs = [.bl k] ∧ Q (.int (if k then 1 else 0)) H) ∧ CallS X.K (fun xs H Q => (∃ i, xs = [.int i] ∧ Q (.int i) H) ∨ ∃ k, xs = [.bl k] ∧ Q (.int (if k then 1 else 0)) H) gInt := by
  refine ⟨call_int1, ?_⟩
  intro F σ H η rs z vs Rl rv e Q hQ
  unfold gInt at e
  split at e
  · cases e
    obtain ⟨v, rfl, r1⟩ := rv.one
    exact .inl ⟨_, by rw [int_dn r1], hQ H _ (.refl Rl) (.int _) trivial⟩
  · cases e
    obtain ⟨v, rfl, r1⟩ := rv.one
    exact .inr ⟨_, by rw [bool_dn r1], hQ H _ (.refl Rl) (.int _) trivial⟩
  · cases e
/-- tuple(xs), list(xs) -/
@[simp] def gTuple : GA := fun rs η => match rs with
  | [r] => match tupOf r with
    | some ds => some (.val (.tuple ds))
    | none => (lsqOf η r).map fun ds => .val (.tuple ds)
  | _ => none
theorem bTuple : CallR X (.type "tuple") (fun xs H Q => ∃ p ys, xs = [.ref p] ∧ ((SqL X.K H p ys ∧ ∀ l, H l = none → Q (.ref l) (upd H l (.tup ys))) ∨ (SqT X.K H p ys ∧ Q (.ref p) H))) ∧ CallS X.K (fun xs H Q => ∃ p ys, xs = [.ref p] ∧ ((SqL X.K H p ys ∧ ∀ l, H l = none → Q (.ref l) (upd H l (.tup ys))) ∨ (SqT X.K H p ys ∧ Q (.ref p) H))) gTuple := by
  refine ⟨call_tuple_of, ?_⟩
  intro F σ H η rs z vs Rl rv e Q hQ
  unfold gTuple at e
  split at e
  · obtain ⟨v, rfl, r1⟩ := rv.one
    split at e
    · rename_i ds e1
      cases e
      obtain ⟨a, xs, rfl, h1, l1, d1⟩ := tupOf_ok r1 e1
      exact ⟨a, xs, rfl, .inr ⟨h1, hQ H _ (.refl Rl) (.tup h1 l1 d1) trivial⟩⟩
    · obtain ⟨ds, e1, e2⟩ := Option.map_eq_some_iff.mp e
      cases e2
      obtain ⟨a, xs, rfl, h1, l1, d1⟩ := lsqOf_ok Rl r1 e1
      refine ⟨a, xs, rfl, .inl ⟨h1, fun l hl => ?_⟩⟩
      obtain ⟨n1, n2, n3⟩ := new_tup Rl l1 d1 hl
      exact hQ _ _ n1 n2 n3
  · cases e
@[simp] def gList : GA := fun rs η => match rs with
  | [r] => (seqOf η r).map fun ds => .fr (.lst ds)
  | _ => none
theorem bList : CallR X (.type "list") (fun xs H Q => ∃ p ys, xs = [.ref p] ∧ (SqL X.K H p ys ∨ SqT X.K H p ys) ∧ ∀ l, H l = none → Q (.ref l) (upd H l (.lst ys))) ∧ CallS X.K (fun xs H Q => ∃ p ys, xs = [.ref p] ∧ (SqL X.K H p ys ∨ SqT X.K H p ys) ∧ ∀ l, H l = none → Q (.ref l) (upd H l (.lst ys))) gList := by
  refine ⟨call_list_of, ?_⟩
  intro F σ H η rs z vs Rl rv e Q hQ
  unfold gList at e
  split at e
  · obtain ⟨v, rfl, r1⟩ := rv.one
    obtain ⟨ds, e1, e2⟩ := Option.map_eq_some_iff.mp e
    cases e2
    obtain ⟨a, xs, rfl, h1, l1, d1⟩ := seqOf_ok Rl r1 e1
    refine ⟨a, xs, rfl, h1, fun l hl => ?_⟩
    obtain ⟨n1, n2, n3⟩ := new_lst Rl l1 d1 hl
    exact hQ _ _ n1 n2 n3
  · cases e
end
end PV

/-! PV3: statements; calls of defs; a def's promise. -/
namespace PV
open PySem PySem.Spec PyProof.Rows L2

inductive Out where
  | nx (η : List B)
  | bk (η : List B)
  | ct (η : List B)
  | rt (r : R) (η : List B)
abbrev SF := List B → Option Out
def FreshS (σ : L2.St) (η : List B) (H : Hp) (v : V) : R → Prop
  | .fr _ => ∀ p, v = .ref p → H p = none ∨ Own σ η p
  | _ => True
section
variable {K : Kf} {F F' F1 F2 : Addr → Prop} {σ σ' σ1 σ2 : L2.St} {H H' H1 H2 : Hp} {η η' η1 η2 : List B} {v w : V} {r : R}
theorem FreshS.back (s : Stp K F σ H η F1 σ1 H1 η1) (h : FreshS σ1 η1 H1 v r) : FreshS σ η H v r := by
  cases r with
  | fr o =>
    intro p e
    rcases h p e with z | z
    · exact .inl (s.back z)
    · exact (s.own p z).symm
  | val d => trivial
  | bor i => trivial
  | ty n => trivial
  | zl ds => trivial
end
/-- what is wanted behind a statement that ends so -/
def Post (K : Kf) (F : Addr → Prop) (σ : L2.St) (H : Hp) (η : List B) (D : Ends) : Out → Prop
  | .nx η' => ∀ F' σ' H', Stp K F σ H η F' σ' H' η' → D.nx σ' H'
  | .bk η' => ∀ F' σ' H', Stp K F σ H η F' σ' H' η' → D.bk σ' H'
  | .ct η' => ∀ F' σ' H', Stp K F σ H η F' σ' H' η' → D.ct σ' H'
  | .rt r η' => ∀ F' σ' H' v, Stp K F σ H η F' σ' H' η' → RV K F' σ' H' η' v r → FreshS σ η H v r → D.rt v H'
def SndS (K : Kf) (t : TS) (f : SF) : Prop := ∀ F σ H η o, Rel K F σ H η → f η = some o → ∀ D : Ends, Post K F σ H η D o → t D σ H
structure SS (X : Cx) (st : Stmt) (t : TS) (f : SF) : Prop where
  ps : PS X st t
  sd : SndS X.K t f
structure SB (X : Cx) (st : List Stmt) (t : TS) (f : SF) : Prop where
  ps : PSs X st t
  sd : SndS X.K t f
section
variable {K : Kf} {F F' F1 F2 : Addr → Prop} {σ σ' σ1 σ2 : L2.St} {H H' H1 H2 : Hp} {η η' η1 η2 : List B} {v w : V} {r : R}
theorem Post.back (s : Stp K F σ H η F1 σ1 H1 η1) {D : Ends} {o : Out} (h : Post K F σ H η D o) : Post K F1 σ1 H1 η1 D o := by
  cases o with
  | nx η' => exact fun F' σ' H' s' => h F' σ' H' (s.trans s')
  | bk η' => exact fun F' σ' H' s' => h F' σ' H' (s.trans s')
  | ct η' => exact fun F' σ' H' s' => h F' σ' H' (s.trans s')
  | rt r η' => exact fun F' σ' H' v s' rv fs => h F' σ' H' v (s.trans s') rv (fs.back s)
end

/-! ### blocks -/
@[simp] def sNext : SF := fun η => some (.nx η)
@[simp] def sSeq (f g : SF) : SF := fun η => (f η).bind fun o => match o with
  | .nx η1 => g η1
  | o => some o
@[simp] def sBrk : SF := fun η => some (.bk η)
@[simp] def sCnt : SF := fun η => some (.ct η)
section
variable {K : Kf} {t u : TS} {f g : SF} {te : TE} {fe : EF} {tc : TT} {fc : TF}
theorem SndS.next : SndS K tNext sNext := by
  intro F σ H η o Rl e D hD
  cases e
  exact hD F σ H (.refl Rl)
theorem SndS.brk : SndS K tBreak sBrk := by
  intro F σ H η o Rl e D hD
  cases e
  exact hD F σ H (.refl Rl)
theorem SndS.cnt : SndS K tCont sCnt := by
  intro F σ H η o Rl e D hD
  cases e
  exact hD F σ H (.refl Rl)
theorem SndS.seq (h1 : SndS K t f) (h2 : SndS K u g) : SndS K (tSeq t u) (sSeq f g) := by
  intro F σ H η o Rl e D hD
  unfold sSeq at e
  obtain ⟨o1, e1, e⟩ := Option.bind_eq_some_iff.mp e
  refine h1 F σ H η o1 Rl e1 _ ?_
  cases o1 with
  | nx η1 => exact fun F1 σ1 H1 s1 => h2 F1 σ1 H1 η1 o s1.rel e D (hD.back s1)
  | bk η1 => cases e; exact hD
  | ct η1 => cases e; exact hD
  | rt r η1 => cases e; exact hD
/-- return e: an object that a slot alone holds goes with it -/
@[simp] def fin (r : R) (η : List B) : Option (R × List B) := match r with
  | .val d => some (.val d, η)
  | .fr o => some (.fr o, η)
  | .bor i => match η[i]? with
    | some (.val d) => some (.val d, η)
    | some (.obj 0 o) => some (.fr o, η.set i .un)
    | _ => none
  | _ => none
@[simp] def sRet (fe : EF) : SF := fun η => (fe η).bind fun p => (fin p.1 p.2).map fun q => .rt q.1 q.2
@[simp] def sRetN : SF := fun η => some (.rt (.val .none) η)
/-- slot i is let go -/
theorem Rel.drop {F : Addr → Prop} {σ : L2.St} {H : Hp} {η : List B} (Rl : Rel K F σ H η) {i : Nat} {o : OD} (q : η[i]? = some (.obj 0 o)) : Stp K F σ H η F σ H (η.set i .un) := by
  have back : ∀ j b, Ows σ (η.set i .un) j b → Ows σ η j b := fun j b h => by
    obtain ⟨e1, m, o1, q1⟩ := h
    rcases set_get q1 with ⟨_, z⟩ | ⟨n, z⟩
    · cases z
    · exact ⟨e1, m, o1, z⟩
  refine ⟨⟨?_, Rl.dom, fun j b h => ?_, fun j k b h1 h2 => Rl.apart j k b (back j b h1) (back k b h2), fun j b h => Rl.loose j b (back j b h)⟩, fun _ _ e _ => e, fun _ o e => ⟨o, e⟩, fun _ h => h, fun _ h => .inl h, fun a h => ?_, fun a h => ?_, rfl, fun j m o1 h hm => ?_⟩
  · rw [List.length_set]; exact Rl.len
  · rcases set_get h with ⟨_, z⟩ | ⟨n, z⟩
    · subst z; trivial
    · exact Rl.slot j b z
  · obtain ⟨j, h⟩ := h
    exact .inl ⟨j, back j a h⟩
  · obtain ⟨j, m, o1, e1, q1, hm⟩ := h
    rcases set_get q1 with ⟨_, z⟩ | ⟨n, z⟩
    · cases z
    · exact .inl ⟨j, m, o1, e1, z, hm⟩
  · refine ⟨rfl, o1, ?_, fun _ => rfl⟩
    rw [List.getElem?_set_ne]
    · exact h
    · rintro rfl
      rw [q] at h
      cases h
      omega
theorem SndS.ret (h : Snd K te fe) : SndS K (tRet te) (sRet fe) := by
  intro F σ H η o Rl e D hD
  unfold sRet at e
  obtain ⟨⟨x, η1⟩, e1, e⟩ := Option.bind_eq_some_iff.mp e
  obtain ⟨⟨y, η2⟩, e2, e⟩ := Option.map_eq_some_iff.mp e
  cases e
  refine h F σ H η x η1 Rl e1 _ fun F1 H1 v s1 r1 f1 => ?_
  simp only at e2
  unfold fin at e2
  split at e2
  · cases e2; exact hD F1 σ H1 v s1 r1 trivial
  · cases e2; exact hD F1 σ H1 v s1 r1 fun p ep => .inl (f1 p ep)
  · rename_i i
    have hv : σ[i]? = some (some v) := r1
    split at e2
    · rename_i d q
      cases e2
      obtain ⟨w, e3, dn⟩ := s1.rel.val q
      rw [hv] at e3; cases e3
      exact hD F1 σ H1 v s1 dn trivial
    · rename_i o q
      cases e2
      obtain ⟨a, ea, ob, ow⟩ := s1.rel.obj q
      rw [hv] at ea; cases ea
      have st := s1.rel.drop q
      refine hD F1 σ H1 _ (s1.trans st) ⟨a, rfl, s1.rel.loose i a ow, fun z => ?_, ob⟩ fun p ep => ?_
      · obtain ⟨j, e1', m, o1, q1⟩ := z
        rcases set_get q1 with ⟨_, z⟩ | ⟨n, z⟩
        · cases z
        · exact n (s1.rel.apart i j a ow ⟨e1', m, o1, z⟩)
      · cases ep
        rcases s1.own a ⟨i, 0, o, hv, q, by decide⟩ with z | z
        · exact .inr z
        · exact .inl z
    · cases e2
  · cases e2
theorem SndS.retN : SndS K tRetN sRetN := by
  intro F σ H η o Rl e D hD
  cases e
  exact hD F σ H .non (.refl Rl) .non trivial
@[simp] def sIf (fc : TF) (f g : SF) : SF := fun η => (fc η).bind fun p => if p.1 = true then f p.2 else g p.2
theorem SndS.ifS (hc : SndT K tc fc) (h1 : SndS K t f) (h2 : SndS K u g) : SndS K (tIfS tc t u) (sIf fc f g) := by
  intro F σ H η o Rl e D hD
  unfold sIf at e
  obtain ⟨⟨x, η1⟩, e1, e⟩ := Option.bind_eq_some_iff.mp e
  refine hc F σ H η x η1 Rl e1 _ fun F1 H1 s1 => ?_
  cases x with
  | true => exact h1 F1 σ H1 η1 o s1.rel e D (hD.back s1)
  | false => exact h2 F1 σ H1 η1 o s1.rel e D (hD.back s1)
@[simp] def sExpr (fe : EF) : SF := fun η => (fe η).map fun p => .nx p.2
theorem SndS.expr (h : Snd K te fe) : SndS K (tDrop te) (sExpr fe) := by
  intro F σ H η o Rl e D hD
  unfold sExpr at e
  obtain ⟨⟨x, η1⟩, e1, e⟩ := Option.map_eq_some_iff.mp e
  cases e
  exact h F σ H η x _ Rl e1 _ fun F1 H1 v s1 r1 f1 => hD F1 σ H1 s1
end

/-! ### stores -/
def isProt : Option B → Bool
  | some (.obj m _) => decide (1 ≤ m)
  | none => true
  | _ => false
@[simp] def storeB (i : Nat) (r : R) (η : List B) : Option (List B) := if isProt η[i]? = true then none else match r with
  | .val d => some (η.set i (.val d))
  | .fr o => some (η.set i (.obj 0 o))
  | .zl ds => some (η.set i (.zl ds))
  | .bor j => (toVal (.bor j) η).bind fun p => if isProt p.2[i]? = true then none else some (p.2.set i (.val p.1))
  | .ty _ => none
section
variable {K : Kf} {F F1 : Addr → Prop} {σ σ1 : L2.St} {H H1 : Hp} {η η1 η2 : List B} {v : V} {r : R}
/-- slot i gets a value -/
theorem Stp.setSlot (s : Stp K F σ H η F1 σ1 H1 η1) {i : Nat} {b : B} (hp : isProt η1[i]? = false) (hb : SlotIs K F1 H1 (some v) b) (hn : ∀ m o, b = .obj m o → m = 0 ∧ ∃ p, v = .ref p ∧ H p = none ∧ ¬ F1 p ∧ ¬ Hold σ1 η1 p) :
    Stp K F σ H η F1 (σ1.set i (some v)) H1 (η1.set i b) := by
  have R := s.rel
  have hi : i < η1.length := by
    cases e : η1[i]? with
    | none => rw [e] at hp; cases hp
    | some x => exact (List.getElem?_eq_some_iff.mp e).1
  have hiσ : i < σ1.length := by rw [← R.len]; exact hi
  have back : ∀ j a, Ows (σ1.set i (some v)) (η1.set i b) j a → (i ≠ j ∧ Ows σ1 η1 j a) ∨ (i = j ∧ ∃ m o, b = .obj m o ∧ v = .ref a) := fun j a h => by
    obtain ⟨e1, m, o1, q1⟩ := h
    rcases set_get q1 with ⟨z0, z⟩ | ⟨n, z⟩
    · subst z0
      rw [List.getElem?_set_self hiσ] at e1
      cases e1
      exact .inr ⟨rfl, m, o1, z.symm, rfl⟩
    · rw [List.getElem?_set_ne n] at e1
      exact .inl ⟨n, e1, m, o1, z⟩
  refine ⟨⟨?_, R.dom, fun j c h => ?_, fun j k a h1 h2 => ?_, fun j a h => ?_⟩, s.keep, s.live, s.sub, s.new, fun a h => ?_, fun a h => ?_, ?_, fun j m o1 h hm => ?_⟩
  · rw [List.length_set, List.length_set]; exact R.len
  · rcases set_get h with ⟨z0, z⟩ | ⟨n, z⟩
    · subst z0 z
      rw [List.getElem?_set_self hiσ]
      exact hb
    · rw [List.getElem?_set_ne n]
      exact R.slot j c z
  · rcases back j a h1 with ⟨n1, z1⟩ | ⟨n1, m1, o1, b1, v1⟩
    · rcases back k a h2 with ⟨n2, z2⟩ | ⟨n2, m2, o2, b2, v2⟩
      · exact R.apart j k a z1 z2
      · obtain ⟨_, p, ep, _, _, nh⟩ := hn m2 o2 b2
        rw [v2] at ep
        cases ep
        exact absurd ⟨j, z1⟩ nh
    · rcases back k a h2 with ⟨n2, z2⟩ | ⟨n2, m2, o2, b2, v2⟩
      · obtain ⟨_, p, ep, _, _, nh⟩ := hn m1 o1 b1
        rw [v1] at ep
        cases ep
        exact absurd ⟨k, z2⟩ nh
      · exact n1.symm.trans n2
  · rcases back j a h with ⟨n1, z1⟩ | ⟨n1, m1, o1, b1, v1⟩
    · exact R.loose j a z1
    · obtain ⟨_, p, ep, _, nf, _⟩ := hn m1 o1 b1
      rw [v1] at ep
      cases ep
      exact nf
  · obtain ⟨j, h⟩ := h
    rcases back j a h with ⟨n1, z1⟩ | ⟨n1, m1, o1, b1, v1⟩
    · exact s.hold a ⟨j, z1⟩
    · obtain ⟨_, p, ep, hp', _, _⟩ := hn m1 o1 b1
      rw [v1] at ep
      cases ep
      exact .inr hp'
  · obtain ⟨j, m, o1, e1, q1, hm⟩ := h
    rcases set_get q1 with ⟨z0, z⟩ | ⟨n, z⟩
    · subst z0
      rw [List.getElem?_set_self hiσ] at e1
      obtain ⟨_, p, ep, hp', _, _⟩ := hn m o1 z.symm
      rw [ep] at e1
      cases e1
      exact .inr hp'
    · rw [List.getElem?_set_ne n] at e1
      exact s.own a ⟨j, m, o1, e1, z, hm⟩
  · rw [List.length_set]; exact s.lenS
  · obtain ⟨e1, o', e2, w⟩ := s.prot j m o1 h hm
    have n : i ≠ j := fun z => by
      subst z
      rw [e2] at hp
      have : decide (1 ≤ m) = false := hp
      simp at this
      omega
    exact ⟨by rw [List.getElem?_set_ne n]; exact e1, o', by rw [List.getElem?_set_ne n]; exact e2, w⟩
theorem store_ok (s : Stp K F σ H η F1 σ1 H1 η1) (rv : RV K F1 σ1 H1 η1 v r) (fs : Fresh H v r) {i : Nat} (e : storeB i r η1 = some η2) : ∃ F2, Stp K F σ H η F2 (σ1.set i (some v)) H1 η2 := by
  unfold storeB at e
  split at e
  · cases e
  · rename_i hp
    have hp : isProt η1[i]? = false := by simpa using hp
    cases r with
    | val d =>
      cases e
      exact ⟨F1, s.setSlot hp ⟨v, rfl, rv⟩ fun m o z => by cases z⟩
    | fr o =>
      cases e
      obtain ⟨p, rfl, nf, nh, ob⟩ := rv
      exact ⟨F1, s.setSlot hp ⟨p, rfl, ob⟩ fun m o z => by cases z; exact ⟨rfl, p, rfl, fs p rfl, nf, nh⟩⟩
    | zl ds =>
      cases e
      obtain ⟨a, xs, rfl, h1, h2, h3⟩ := rv
      exact ⟨F1, s.setSlot hp ⟨a, xs, rfl, h1, h2, h3⟩ fun m o z => by cases z⟩
    | ty n => cases e
    | bor j =>
      obtain ⟨⟨d, η3⟩, e1, e⟩ := Option.bind_eq_some_iff.mp e
      simp only at e
      split at e
      · cases e
      · rename_i hp3
        have hp3 : isProt η3[i]? = false := by simpa using hp3
        cases e
        have hv : σ1[j]? = some (some v) := rv
        unfold toVal at e1
        simp only at e1
        split at e1
        · rename_i d q
          cases e1
          obtain ⟨w, e2, dn⟩ := s.rel.val q
          rw [hv] at e2; cases e2
          exact ⟨F1, s.setSlot hp3 ⟨v, rfl, dn⟩ fun m o z => by cases z⟩
        · rename_i o q
          cases e1
          obtain ⟨a, ea, ob, ow⟩ := s.rel.obj q
          rw [hv] at ea; cases ea
          have st := s.trans (s.rel.freeze hv q)
          exact ⟨_, st.setSlot hp3 ⟨_, rfl, ob.freeze (fun b h => .inl h) (.inr rfl)⟩ fun m o z => by cases z⟩
        · cases e1
end

/-! ### targets -/
/-- ts: the slots it may store -/
def SndG (K : Kf) (g : TG) (gf : R → List B → Option (List B)) (ts : List Nat) : Prop := ∀ F0 σ0 H0 η0 F σ H η v r η', Rel K F0 σ0 H0 η0 → Stp K F0 σ0 H0 η0 F σ H η → RV K F σ H η v r → Fresh H0 v r → gf r η = some η' → ∀ Q : L2.St → Hp → Prop,
  (∀ F' σ' H', Stp K F0 σ0 H0 η0 F' σ' H' η' → (∀ j, j ∉ ts → σ'[j]? = σ[j]?) → Q σ' H') → g v σ H Q
abbrev GTF := R → List B → Option (List B)
structure SG (X : Cx) (tg : Expr) (g : TG) (gf : GTF) (ts : List Nat) : Prop where
  pg : PG X tg g
  sd : SndG X.K g gf ts
@[simp] def gNm (i : Nat) : GTF := fun r η => storeB i r η
/-- (a, b) = a tuple -/
@[simp] def gTp (n : Nat) (gs : List D → List B → Option (List B)) : GTF := fun r η => match tupOf r with
  | some ds => if ds.length = n then gs ds η else none
  | none => none
@[simp] def gsNil : List D → List B → Option (List B) := fun ds η => match ds with
  | [] => some η
  | _ => none
@[simp] def gsCons (g : GTF) (gs : List D → List B → Option (List B)) : List D → List B → Option (List B) := fun ds η => match ds with
  | d :: r => (g (.val d) η).bind fun η1 => gs r η1
  | [] => none
def SndGs (K : Kf) (g : TGs) (gf : List D → List B → Option (List B)) (ts : List Nat) : Prop := ∀ F0 σ0 H0 η0 F σ H η vs ds η', Rel K F0 σ0 H0 η0 → Stp K F0 σ0 H0 η0 F σ H η → DnAll K F H vs ds → gf ds η = some η' → ∀ Q : L2.St → Hp → Prop,
  (∀ F' σ' H', Stp K F0 σ0 H0 η0 F' σ' H' η' → (∀ j, j ∉ ts → σ'[j]? = σ[j]?) → Q σ' H') → g vs σ H Q
structure SGs (X : Cx) (es : List Expr) (g : TGs) (gf : List D → List B → Option (List B)) (ts : List Nat) : Prop where
  pg : PGs X es g
  sd : SndGs X.K g gf ts
section
variable {K : Kf}
theorem SndG.name (i : Nat) : SndG K (gName i) (gNm i) [i] := by
  intro F0 σ0 H0 η0 F σ H η v r η' R0 s rv fs e Q hQ
  obtain ⟨F2, s2⟩ := store_ok s rv fs e
  exact hQ F2 _ H s2 fun j hj => List.getElem?_set_ne (by simpa using fun z : i = j => hj (by simp [z]))
theorem SndGs.nil : SndGs K gNil gsNil [] := by
  intro F0 σ0 H0 η0 F σ H η vs ds η' R0 s dn e Q hQ
  unfold gsNil at e
  cases dn with
  | nil =>
    cases e
    exact ⟨rfl, hQ F σ H s fun _ _ => rfl⟩
  | cons _ _ => cases e
theorem SndGs.cons {g : TG} {gf : GTF} {ts us : List Nat} {gr : TGs} {gfr : List D → List B → Option (List B)} (h : SndG K g gf ts) (hr : SndGs K gr gfr us) : SndGs K (gCons g gr) (gsCons gf gfr) (ts ++ us) := by
  intro F0 σ0 H0 η0 F σ H η vs ds η' R0 s dn e Q hQ
  unfold gsCons at e
  cases dn with
  | nil => cases e
  | cons d1 d2 =>
    rename_i v vs' d ds'
    obtain ⟨η1, e1, e⟩ := Option.bind_eq_some_iff.mp e
    refine ⟨v, vs', rfl, h F σ H η F σ H η v (.val d) η1 s.rel (.refl s.rel) d1 trivial e1 _ fun F1 σ1 H1 s1 t1 => ?_⟩
    refine hr F0 σ0 H0 η0 F1 σ1 H1 η1 vs' ds' η' R0 (s.trans s1) (s1.dnAll s.rel d2) e Q fun F2 σ2 H2 s2 t2 => ?_
    exact hQ F2 σ2 H2 s2 fun j hj => (t2 j fun z => hj (List.mem_append_right _ z)).trans (t1 j fun z => hj (List.mem_append_left _ z))
theorem SndG.tup {n : Nat} {g : TGs} {gf : List D → List B → Option (List B)} {ts : List Nat} (h : SndGs K g gf ts) : SndG K (gTup K n g) (gTp n gf) ts := by
  intro F0 σ0 H0 η0 F σ H η v r η' R0 s rv fs e Q hQ
  unfold gTp at e
  split at e
  · rename_i ds e1
    split at e
    · rename_i hn
      obtain ⟨a, xs, rfl, h1, l1, d1⟩ := tupOf_ok rv e1
      exact ⟨a, xs, rfl, h1, by rw [d1.length]; exact hn, h F0 σ0 H0 η0 F σ H η xs ds η' R0 s d1 e Q hQ⟩
    · cases e
  · cases e
end
section
variable {X : Cx} {e : Expr} {es : List Expr} {pos : Pos} {g : TG} {gf : GTF} {ts us : List Nat} {gr : TGs} {gfr : List D → List B → Option (List B)}
theorem sg_name (i : Nat) {x : Str} (hN : X.N.Nodup) (hi : X.N[i]? = some x) (hx : Loc X.env.scope x) (hf : X.fn x = true ∨ X.env.scope.names.lookup x = some .local := by first | exact .inl rfl | exact .inr rfl | assumption) : SG X (.Name x pos) (gName i) (gNm i) [i] := ⟨pg_name hN hi hx hf, .name i⟩
theorem sgs_nil : SGs X [] gNil gsNil [] := ⟨pgs_nil, .nil⟩
theorem sgs_cons (h1 : SG X e g gf ts) (h2 : SGs X es gr gfr us) (hs : (assignEach (e :: es) X.env).map (·.2) = assign e X.env :: (assignEach es X.env).map (·.2) := by rfl) : SGs X (e :: es) (gCons g gr) (gsCons gf gfr) (ts ++ us) := ⟨pgs_cons h1.pg h2.pg hs, .cons h1.sd h2.sd⟩
theorem sg_tup {k n : Nat} (hc : X.calm = true) (h : SGs X es gr gfr ts) (hn : (assignEach es X.env).length = n := by rfl) (hst : (assignEach es X.env).findIdx? (·.1) = none := by rfl) : SG X (.Tuple es k pos) (gTup X.K n gr) (gTp n gfr) ts := ⟨pg_tup hc h.pg hn hst, .tup h.sd⟩
end

/-! ### assignments -/
@[simp] def sAsg (fe : EF) (gf : GTF) : SF := fun η => (fe η).bind fun p => (gf p.1 p.2).map fun η2 => .nx η2
theorem SndS.asg {K : Kf} {te : TE} {fe : EF} {g : TG} {gf : GTF} {ts : List Nat} (h : Snd K te fe) (hg : SndG K g gf ts) : SndS K (tAsg te g) (sAsg fe gf) := by
  intro F σ H η o Rl e D hD
  unfold sAsg at e
  obtain ⟨⟨x, η1⟩, e1, e⟩ := Option.bind_eq_some_iff.mp e
  obtain ⟨η2, e2, e⟩ := Option.map_eq_some_iff.mp e
  cases e
  refine h F σ H η x η1 Rl e1 _ fun F1 H1 v s1 r1 f1 => ?_
  exact hg F σ H η F1 σ H1 η1 v x η2 Rl s1 r1 f1 e2 _ fun F2 σ2 H2 s2 _ => hD F2 σ2 H2 s2
section
variable {X : Cx} {st : Stmt} {rest a b : List Stmt} {t u : TS} {f g : SF} {e tg c : Expr} {te : TE} {fe : EF} {pos : Pos} {gt : TG} {gf : GTF} {ts : List Nat} {tc : TT} {fc : TF}
theorem sb_nil : SB X [] tNext sNext := ⟨pss_nil, .next⟩
theorem sb_cons (h1 : SS X st t f) (h2 : SB X rest u g) : SB X (st :: rest) (tSeq t u) (sSeq f g) := ⟨pss_cons h1.ps h2.ps, .seq h1.sd h2.sd⟩
theorem sb_one (h1 : SS X st t f) : SB X [st] t f := ⟨pss_one h1.ps, h1.sd⟩
theorem ss_pass : SS X (.Pass pos) tNext sNext := ⟨ps_pass, .next⟩
theorem ss_break : SS X (.Break pos) tBreak sBrk := ⟨ps_break, .brk⟩
theorem ss_continue : SS X (.Continue pos) tCont sCnt := ⟨ps_continue, .cnt⟩
theorem ss_expr (h : SE X e te fe) (hs : swapsWith e none pos.line X.env = pure false := by rfl) : SS X (.Expr e pos) (tDrop te) (sExpr fe) := ⟨ps_expr h.pe hs, .expr h.sd⟩
theorem ss_ret (h : SE X e te fe) : SS X (.Return (some e) pos) (tRet te) (sRet fe) := ⟨ps_ret h.pe, .ret h.sd⟩
theorem ss_retN : SS X (.Return none pos) tRetN sRetN := ⟨ps_retN, .retN⟩
theorem ss_if (hc : ST X c tc fc) (ha : SB X a t f) (hb : SB X b u g) : SS X (.If c a b pos) (tIfS tc t u) (sIf fc f g) := ⟨ps_if hc.pt ha.ps hb.ps, .ifS hc.sd ha.sd hb.sd⟩
theorem ss_asg (he : SE X e te fe) (hg : SG X tg gt gf ts) (hs : swapsWithSole [tg] e pos.line X.env = pure false := by rfl) (hw : swappedStores [tg] e X.env = pure none := by rfl)
    (h1 : (assignEach [tg] X.env).map (·.2) = [assign tg X.env] := by rfl) : SS X (.Assign [tg] e pos) (tAsg te gt) (sAsg fe gf) := ⟨ps_asg he.pe hg.pg hs hw h1, .asg he.sd hg.sd⟩
theorem ss_set (i : Nat) {x : Str} {pos' : Pos} (hN : X.N.Nodup) (hi : X.N[i]? = some x) (hx : Loc X.env.scope x) (he : SE X e te fe) (hs : swapsWith e (some (.Name x pos')) pos.line X.env = pure false := by rfl)
    (hf : X.fn x = true ∨ X.env.scope.names.lookup x = some .local := by first | exact .inl rfl | exact .inr rfl | assumption) : SS X (.Assign [.Name x pos'] e pos) (tAsg te (gName i)) (sAsg fe (gNm i)) := ⟨ps_set hN hi hx he.pe hs hf, .asg he.sd (.name i)⟩
end

/-! ### an object that a slot holds is written -/
theorem Rel.write {K : Kf} {F : Addr → Prop} {σ : L2.St} {H : Hp} {η : List B} (Rl : Rel K F σ H η) {i m : Nat} {a : Addr} {o o' : OD} {u : HO} (hσ : σ[i]? = some (some (V.ref a))) (q : η[i]? = some (B.obj m o)) (hm : m < 2) (hu : ∀ F', Kp F' H (upd H a u) → F = F' → ObjIs K F' (upd H a u) a o') :
    Stp K F σ H η F σ (upd H a u) (η.set i (.obj m o')) := by
  have ow : Ows σ η i a := ⟨hσ, m, o, q⟩
  have ob := Rl.holdObj hσ q
  obtain ⟨u0, hu0, ns⟩ := ob.some
  have nf := Rl.loose i a ow
  have kp : Kp F H (upd H a u) := fun b x e h => by
    rw [upd_ne]
    · exact e
    · rintro rfl
      rcases h with h | h
      · exact nf h
      · rw [hu0] at e; cases e; exact ns h
  have hi : i < η.length := (List.getElem?_eq_some_iff.mp q).1
  have back : ∀ j b, Ows σ (η.set i (.obj m o')) j b → Ows σ η j b := fun j b h => by
    obtain ⟨e1, m1, o1, q1⟩ := h
    rcases set_get q1 with ⟨z0, z⟩ | ⟨n, z⟩
    · subst z0; exact ⟨e1, m, o, q⟩
    · exact ⟨e1, m1, o1, z⟩
  refine ⟨⟨?_, fun b h => ?_, fun j b h => ?_, fun j k b h1 h2 => Rl.apart j k b (back j b h1) (back k b h2), fun j b h => Rl.loose j b (back j b h)⟩, fun b x e n => ?_, fun b x e => ?_, fun _ h => h, fun _ h => .inl h, fun b h => ?_, fun b h => ?_, rfl, fun j m1 o1 h hm1 => ?_⟩
  · rw [List.length_set]; exact Rl.len
  · obtain ⟨x, e⟩ := Rl.dom b h
    exact ⟨x, kp b x e (.inl h)⟩
  · rcases set_get h with ⟨z0, z⟩ | ⟨n, z⟩
    · subst z0 z
      exact ⟨a, by rw [hσ]; rfl, hu F kp rfl⟩
    · have s := Rl.slot j b z
      cases b with
      | un => trivial
      | val d => obtain ⟨v, e1, h1⟩ := s; exact ⟨v, e1, Dn.mono (fun _ h => h) kp _ _ h1⟩
      | obj m1 o1 =>
        obtain ⟨v, e1, h1⟩ := s
        refine ⟨v, e1, h1.mono (fun _ h => h) kp fun x e => ?_⟩
        rw [upd_ne]
        · exact e
        · rintro rfl
          obtain ⟨a', ea, _, ow'⟩ := Rl.obj z
          rw [ea] at e1
          have e1 : a' = v := by
            have : some (V.ref a') = some (V.ref v) := e1
            cases this; rfl
          subst e1
          exact n (Rl.apart i j _ ow ow')
      | zl ds => obtain ⟨v, xs, e1, hz, hl, h1⟩ := s; exact ⟨v, xs, e1, hz.mono kp, hl, DnAll.mono (fun _ h => h) kp _ _ h1⟩
  · rw [upd_ne]
    · exact e
    · rintro rfl
      exact n ⟨i, m, o, hσ, q, hm⟩
  · by_cases hb : b = a
    · subst hb; exact ⟨u, upd_same⟩
    · exact ⟨x, by rw [upd_ne hb]; exact e⟩
  · obtain ⟨j, h⟩ := h
    exact .inl ⟨j, back j b h⟩
  · obtain ⟨j, m1, o1, e1, q1, hm1⟩ := h
    rcases set_get q1 with ⟨z0, z⟩ | ⟨n, z⟩
    · subst z0; cases z; exact .inl ⟨i, m, o, e1, q, hm⟩
    · exact .inl ⟨j, m1, o1, e1, z, hm1⟩
  · by_cases n : i = j
    · subst n
      rw [q] at h
      cases h
      exact ⟨rfl, o', by rw [List.getElem?_set_self hi], fun z => by omega⟩
    · exact ⟨rfl, o1, by rw [List.getElem?_set_ne n]; exact h, fun _ => rfl⟩
/-- the list that slot i holds gets other items -/
theorem Rel.writeL {K : Kf} {F : Addr → Prop} {σ : L2.St} {H : Hp} {η : List B} (Rl : Rel K F σ H η) {i m : Nat} {a : Addr} {o : OD} {xs : List V} {ds : List D} (hσ : σ[i]? = some (some (V.ref a))) (q : η[i]? = some (B.obj m o)) (hm : m < 2) (hl : xs.length ≤ sizeLine) (hd : DnAll K F H xs ds) :
    Stp K F σ H η F σ (upd H a (.lst xs)) (η.set i (.obj m (.lst ds))) :=
  Rl.write hσ q hm fun F' kp e => by subst e; exact ⟨xs, upd_same, hl, DnAll.mono (fun _ h => h) kp _ _ hd⟩
/-- the list that a result borrows, where it may be written -/
@[simp] def ownL (η : List B) : R → Option (Nat × Nat × List D)
  | .bor i => match η[i]? with
    | some (.obj m (.lst ds)) => if m < 2 then some (i, m, ds) else none
    | _ => none
  | _ => none
theorem ownL_ok {K : Kf} {F : Addr → Prop} {σ : L2.St} {H : Hp} {η : List B} {v : V} {r : R} {i m : Nat} {ds : List D} (Rl : Rel K F σ H η) (rv : RV K F σ H η v r) (e : ownL η r = some (i, m, ds)) :
    ∃ a xs, v = .ref a ∧ σ[i]? = some (some (V.ref a)) ∧ η[i]? = some (B.obj m (.lst ds)) ∧ m < 2 ∧ H a = some (.lst xs) ∧ xs.length ≤ sizeLine ∧ DnAll K F H xs ds := by
  unfold ownL at e
  split at e
  · rename_i j
    have hv : σ[j]? = some (some v) := rv
    split at e
    · rename_i m' ds' q
      split at e
      · rename_i hm
        cases e
        obtain ⟨a, ea, ob, _⟩ := Rl.obj q
        rw [hv] at ea; cases ea
        obtain ⟨xs, h1, h2, h3⟩ := ob
        exact ⟨a, xs, rfl, hv, q, hm, h1, h2, h3⟩
      · cases e
    · cases e
  · cases e
/-- xs[i] = v -/
@[simp] def gSubL (fo fi : EF) : GTF := fun r η => match r with
  | .val d => (fo η).bind fun p => (fi p.2).bind fun q => match q.1 with
    | .val (.int k) => (ownL q.2 p.1).bind fun w => (ixN w.2.2.length k).map fun j => q.2.set w.1 (.obj w.2.1 (.lst (w.2.2.set j d)))
    | _ => none
  | _ => none
theorem SndG.sub {K : Kf} {to ti : TE} {fo fi : EF} (ho : Snd K to fo) (hi : Snd K ti fi) : SndG K (gSub to ti rSetL) (gSubL fo fi) [] := by
  intro F0 σ0 H0 η0 F σ H η v r η' R0 s rv fs e Q hQ
  unfold gSubL at e
  split at e
  · rename_i d
    obtain ⟨⟨x, η1⟩, e1, e⟩ := Option.bind_eq_some_iff.mp e
    obtain ⟨⟨y, η2⟩, e2, e⟩ := Option.bind_eq_some_iff.mp e
    refine ho F σ H η x η1 s.rel e1 _ fun F1 H1 vo s1 r1 f1 => ?_
    refine hi F1 σ H1 η1 y η2 s1.rel e2 _ fun F2 H2 vi s2 r2 f2 => ?_
    simp only at e
    split at e
    · rename_i k
      obtain ⟨⟨i, m, ds⟩, e3, e⟩ := Option.bind_eq_some_iff.mp e
      obtain ⟨j, e4, e⟩ := Option.map_eq_some_iff.mp e
      cases e
      obtain ⟨a, xs, rfl, hσ, q, hm, h1, h2, h3⟩ := ownL_ok s2.rel (r1.step s1.rel s2) e3
      refine ⟨a, xs, k, j, rfl, int_dn r2, h1, by rw [h3.length]; exact e4, ?_⟩
      have dv := (s1.trans s2).dn s.rel rv
      have w := s2.rel.writeL hσ q hm (xs := xs.set j v) (ds := ds.set j d) (by rw [List.length_set]; exact h2) (h3.set j dv)
      exact hQ F2 σ _ (((s.trans s1).trans s2).trans w) fun _ _ => rfl
    · cases e
  · cases e
section
variable {X : Cx} {o i : Expr} {to ti : TE} {fo fi : EF} {pos : Pos}
theorem sg_sub (ho : SE X o to fo) (hi : SE X i ti fi)
    (ha : ∀ v, assign (.Subscript o i pos) X.env v = (do
      let ov ← holding [v] (eval o X.env)
      let iv ← holding [v, ov] (eval i X.env)
      standAt pos
      holding [v, ov, iv] (setItem ov iv v)
      release [v, ov, iv] []) := by intro _; rfl) : SG X (.Subscript o i pos) (gSub to ti rSetL) (gSubL fo fi) [] := ⟨pg_sub ho.pe hi.pe set_list ha, .sub ho.sd hi.sd⟩
end
end PV

/-! PV4: defs and their calls; while. -/
namespace PV
open PySem PySem.Spec PyProof.Rows L2

/-! ### a def's promise -/
def okArg : B → Prop
  | .val _ => True
  | .zl _ => True
  | .obj m _ => 1 ≤ m
  | .un => False
def spOf (K : Kf) (n : Nat) (G : EF) : Sp := fun vs H Q _ => vs.length = n ∧ ∃ F η r η', Rel K F (vs.map some) H η ∧ (∀ b ∈ η, okArg b) ∧ G η = some (r, η') ∧
  ∀ F' H' v, Stp K F (vs.map some) H η F' (vs.map some) H' η' → RV K F' (vs.map some) H' η' v r → Fresh H v r → Q v H'
@[simp] def backArg (b b1 : B) : B := match b with
  | .obj _ _ => b1
  | b => b
@[simp] def backArgs (η η1 : List B) : List B := List.zipWith backArg η η1
@[simp] def defF (body : SF) (k : Nat) : EF := fun η => (body (η ++ List.replicate k .un)).bind fun o => match o with
  | .nx η1 => some (.val .none, backArgs η η1)
  | .rt (.val d) η1 => some (.val d, backArgs η η1)
  | .rt (.fr o) η1 => some (.fr o, backArgs η η1)
  | _ => none
section
variable {K : Kf} {F F' : Addr → Prop} {H H' : Hp} {η η1 : List B} {vs : List V} {σ' : L2.St} {k : Nat}
theorem app_get1 {α : Type} {l m : List α} {i : Nat} (h : i < l.length) : (l ++ m)[i]? = l[i]? := List.getElem?_append_left h
theorem rep_un {k i : Nat} {b : B} (h : (List.replicate k B.un)[i]? = some b) : b = .un := (List.mem_replicate.mp (List.mem_of_getElem? h)).2
theorem start_rel (R : Rel K F (vs.map some) H η) : Rel K F (vs.map some ++ List.replicate k none) H (η ++ List.replicate k .un) := by
  have hl : η.length = vs.length := by have := R.len; rwa [List.length_map] at this
  have back : ∀ i a, Ows (vs.map some ++ List.replicate k none) (η ++ List.replicate k .un) i a → Ows (vs.map some) η i a := fun i a h => by
    obtain ⟨e, m, o, q⟩ := h
    by_cases hi : i < η.length
    · rw [app_get1 hi] at q
      rw [app_get1 (by rw [List.length_map, ← hl]; exact hi)] at e
      exact ⟨e, m, o, q⟩
    · rw [List.getElem?_append_right (by omega)] at q
      cases rep_un q
  refine ⟨?_, R.dom, fun i b h => ?_, fun i j a h1 h2 => R.apart i j a (back i a h1) (back j a h2), fun i a h => R.loose i a (back i a h)⟩
  · rw [List.length_append, List.length_append, List.length_replicate, List.length_replicate, R.len]
  · by_cases hi : i < η.length
    · rw [app_get1 hi] at h
      rw [app_get1 (by rw [List.length_map, ← hl]; exact hi)]
      exact R.slot i b h
    · rw [List.getElem?_append_right (by omega)] at h
      cases rep_un h
      trivial
theorem back_get {i : Nat} {b : B} (h : (backArgs η η1)[i]? = some b) : ∃ b0 b1, η[i]? = some b0 ∧ η1[i]? = some b1 ∧ b = backArg b0 b1 := by
  unfold backArgs at h
  rw [List.getElem?_zipWith] at h
  cases e0 : η[i]? with
  | none => simp only [e0] at h; cases h
  | some b0 =>
    cases e1 : η1[i]? with
    | none => simp only [e0, e1] at h; cases h
    | some b1 =>
      simp only [e0, e1] at h
      cases h
      exact ⟨b0, b1, rfl, rfl, rfl⟩
theorem end_stp (R : Rel K F (vs.map some) H η) (ok : ∀ b ∈ η, okArg b) (s : Stp K F (vs.map some ++ List.replicate k none) H (η ++ List.replicate k .un) F' σ' H' η1) :
    Stp K F (vs.map some) H η F' (vs.map some) H' (backArgs η η1) ∧ (∀ a, Hold (vs.map some) (backArgs η η1) a → Hold σ' η1 a) ∧ (∀ a, Own (vs.map some ++ List.replicate k none) (η ++ List.replicate k .un) a → Hold σ' η1 a) := by
  have hl : η.length = vs.length := by have := R.len; rwa [List.length_map] at this
  have hl1 : η1.length = η.length + k := by
    have h1 := s.rel.len
    have h2 := s.lenS
    rw [List.length_append, List.length_map, List.length_replicate] at h2
    omega
  have R0 := start_rel (k := k) R
  have σi : ∀ {i : Nat}, i < η.length → (vs.map some ++ List.replicate k none)[i]? = (vs.map some)[i]? := fun {i} hi => app_get1 (by rw [List.length_map, ← hl]; exact hi)
  have ηi : ∀ {i : Nat}, i < η.length → (η ++ List.replicate k .un)[i]? = η[i]? := fun {i} hi => app_get1 hi
  have lt : ∀ {i : Nat} {b : B}, η[i]? = some b → i < η.length := fun {i b} e => (List.getElem?_eq_some_iff.mp e).1
  have ownUp : ∀ a, Own (vs.map some ++ List.replicate k none) (η ++ List.replicate k .un) a → Own (vs.map some) η a := fun a h => by
    obtain ⟨i, m, o, e, q, hm⟩ := h
    by_cases hi : i < η.length
    · rw [ηi hi] at q
      rw [σi hi] at e
      exact ⟨i, m, o, e, q, hm⟩
    · rw [List.getElem?_append_right (by omega)] at q
      cases rep_un q
  have ownDn : ∀ a, Own (vs.map some) η a → Own (vs.map some ++ List.replicate k none) (η ++ List.replicate k .un) a := fun a h => by
    obtain ⟨i, m, o, e, q, hm⟩ := h
    exact ⟨i, m, o, by rw [σi (lt q)]; exact e, by rw [ηi (lt q)]; exact q, hm⟩
  have hold0 : ∀ a, Hold (vs.map some ++ List.replicate k none) (η ++ List.replicate k .un) a → Hold (vs.map some) η a := fun a h => by
    obtain ⟨i, e, m, o, q⟩ := h
    by_cases hi : i < η.length
    · rw [ηi hi] at q
      rw [σi hi] at e
      exact ⟨i, e, m, o, q⟩
    · rw [List.getElem?_append_right (by omega)] at q
      cases rep_un q
  -- an object's slot keeps its place
  have pr : ∀ {i m : Nat} {o : OD}, η[i]? = some (B.obj m o) → 1 ≤ m ∧ σ'[i]? = (vs.map some)[i]? ∧ ∃ o', η1[i]? = some (B.obj m o') ∧ (2 ≤ m → o' = o) := fun {i m o} q => by
    have hm : 1 ≤ m := ok _ (List.mem_of_getElem? q)
    obtain ⟨e1, o', q1, w⟩ := s.prot i m o (by rw [ηi (lt q)]; exact q) hm
    exact ⟨hm, by rw [e1, σi (lt q)], o', q1, w⟩
  -- a slot of the answer that holds an object
  have obj : ∀ {i m : Nat} {o : OD}, (backArgs η η1)[i]? = some (B.obj m o) → η1[i]? = some (B.obj m o) ∧ (∃ o0, η[i]? = some (B.obj m o0)) ∧ σ'[i]? = (vs.map some)[i]? := fun {i m o} q => by
    obtain ⟨b0, b1, e0, e1, e2⟩ := back_get q
    cases b0 with
    | un => cases e2
    | val d => cases e2
    | zl ds => cases e2
    | obj m0 o0 =>
      obtain ⟨_, es, o', q1, _⟩ := pr e0
      have e2 : B.obj m o = b1 := e2
      subst e2
      rw [q1] at e1
      cases e1
      exact ⟨q1, ⟨o0, e0⟩, es⟩
  have ows : ∀ i a, Ows (vs.map some) (backArgs η η1) i a → Ows σ' η1 i a := fun i a h => by
    obtain ⟨e, m, o, q⟩ := h
    obtain ⟨q1, _, es⟩ := obj q
    exact ⟨es.trans e, m, o, q1⟩
  refine ⟨⟨⟨?_, s.rel.dom, fun i b h => ?_, fun i j a h1 h2 => s.rel.apart i j a (ows i a h1) (ows j a h2), fun i a h => s.rel.loose i a (ows i a h)⟩, fun a o e n => s.keep a o e fun z => n (ownUp a z), s.live, s.sub, fun a h => ?_, fun a h => ?_, fun a h => ?_, rfl, fun i m o q hm => ?_⟩, fun a h => let ⟨i, h⟩ := h; ⟨i, ows i a h⟩, fun a h => ?_⟩
  · unfold backArgs
    rw [List.length_zipWith, List.length_map]
    omega
  · obtain ⟨b0, b1, e0, e1, e2⟩ := back_get h
    subst e2
    have sl := R.slot i b0 e0
    cases b0 with
    | un => trivial
    | val d => obtain ⟨v, e, dn⟩ := sl; exact ⟨v, e, s.dn R0 dn⟩
    | zl ds => obtain ⟨a, xs, e, h1, h2, h3⟩ := sl; exact ⟨a, xs, e, h1.mono (s.kp R0), h2, s.dnAll R0 h3⟩
    | obj m0 o0 =>
      obtain ⟨_, es, o', q1, _⟩ := pr e0
      rw [q1] at e1
      cases e1
      have z := s.rel.slot i _ q1
      rw [es] at z
      exact z
  · rcases s.new a h with z | z | z
    · exact .inl z
    · exact .inr (.inl (ownUp a z))
    · exact .inr (.inr z)
  · obtain ⟨i, h⟩ := h
    rcases s.hold a ⟨i, ows i a h⟩ with z | z
    · exact .inl (hold0 a z)
    · exact .inr z
  · obtain ⟨i, m, o, e, q, hm⟩ := h
    obtain ⟨q1, _, es⟩ := obj q
    rcases s.own a ⟨i, m, o, es.trans e, q1, hm⟩ with z | z
    · exact .inl (ownUp a z)
    · exact .inr z
  · obtain ⟨_, es, o', q1, w⟩ := pr q
    refine ⟨rfl, o', ?_, w⟩
    unfold backArgs
    rw [List.getElem?_zipWith]
    simp only [q, q1]
    rfl
  · obtain ⟨i, m, o, e, q, hm⟩ := ownUp a h
    obtain ⟨_, es, o', q1, _⟩ := pr q
    exact ⟨i, es.trans e, m, o', q1⟩
end
section
variable {P : Program} {w : World} {K : Kf} {mg : Str → Option Value} {base : Heap}
/-- THE RULE for a def -/
theorem def_ok {x qual : Str} {st : Stmt} {f : Addr} {fd : FuncData} {N ps : List Str} {k : Nat} {body : SF} (Fn : Fun K x qual st f fd) (S : FnScope N ps (defScope st))
    (hbody : ∀ (cdv : Value) (A : Around) (outer : List Env) (s : Shared) (H : Hp) (E : XK), Room k (A.deeper (envOfC qual (defScope st) s.heap.objs.size f cdv)) →
      ∃ t, SB (cxOf CX0 P w K mg base N qual (defScope st) f cdv A outer s H E).nox (defBody st) t body) : FnOk P w K mg base CX0 (k + 1) f fd ps (spOf K ps.length (defF body (N.length - ps.length))) := by
  refine Fn.ok S (fun vs H Q E h => h.1) (fun cdv A outer s H vs Q E hr h => ?_)
  obtain ⟨t, hb⟩ := hbody cdv A outer s H E hr
  refine ⟨t, hb.ps, ?_⟩
  obtain ⟨hlen, F, η, r, η', R, ok, e, q⟩ := h
  unfold defF at e
  obtain ⟨o, e1, e⟩ := Option.bind_eq_some_iff.mp e
  have e0 : L2.start N vs = vs.map some ++ List.replicate (N.length - ps.length) none := by unfold L2.start; rw [hlen]
  rw [e0]
  refine hb.sd F _ H _ o (start_rel R) e1 _ ?_
  cases o with
  | nx η1 =>
    cases e
    intro F' σ' H' s
    obtain ⟨s1, h1, h2⟩ := end_stp R ok s
    exact q F' H' .non s1 .non trivial
  | bk η1 => cases e
  | ct η1 => cases e
  | rt r1 η1 =>
    intro F' σ' H' v s rv fs
    obtain ⟨s1, h1, h2⟩ := end_stp R ok s
    cases r1 with
    | val d =>
      cases e
      exact q F' H' v s1 rv trivial
    | fr o =>
      cases e
      obtain ⟨p, rfl, nf, nh, ob⟩ := rv
      refine q F' H' _ s1 ⟨p, rfl, nf, fun z => nh (h1 p z), ob⟩ fun p' ep => ?_
      cases ep
      rcases fs p rfl with z | z
      · exact z
      · exact absurd (h2 p z) nh
    | bor i => cases e
    | ty n => cases e
    | zl ds => cases e
end

/-! ### calls -/
@[simp] def convA (η : List B) : R → Option B
  | .val d => some (.val d)
  | .zl ds => some (.zl ds)
  | .bor i => match η[i]? with
    | some (.val d) => some (.val d)
    | some (.obj m o) => some (.obj (if m < 2 then 1 else 3) o)
    | _ => none
  | _ => none
@[simp] def convs (η : List B) : List R → Option (List B)
  | [] => some []
  | r :: rs => (convA η r).bind fun b => (convs η rs).map fun bs => b :: bs
/-- the slots that are lent, with the argument's place -/
@[simp] def lent1 (η : List B) : R → Nat → List (Nat × Nat)
  | .bor i, k => match η[i]? with
    | some (.obj m o) => [(k, i)]
    | _ => []
  | _, _ => []
@[simp] def lent (η : List B) : List R → Nat → List (Nat × Nat)
  | [], _ => []
  | r :: rs, k => lent1 η r k ++ lent η rs (k + 1)
@[simp] def wback (η ηc : List B) : List (Nat × Nat) → Option (List B)
  | [] => some η
  | [(k, i)] => match η[i]?, ηc[k]? with
    | some (.obj m _), some (.obj _ o) => some (η.set i (.obj m o))
    | _, _ => none
  | _ => none
def isRes : R → Bool
  | .val _ => true
  | .fr _ => true
  | _ => false
@[simp] def eCall (G : EF) (fa : AF) : EF := fun η => (fa η).bind fun p => (convs p.2 p.1).bind fun ηc => (G ηc).bind fun q => (wback p.2 q.2 (lent p.2 p.1 0)).bind fun η2 => if isRes q.1 = true then some (q.1, η2) else none
section
variable {K : Kf} {F F' : Addr → Prop} {σ : L2.St} {H H' : Hp} {η ηc ηc' : List B} {vs : List V} {rs : List R}
theorem convs_get : ∀ {rs : List R} {ηc : List B} {k : Nat} {b : B}, convs η rs = some ηc → ηc[k]? = some b → ∃ r, rs[k]? = some r ∧ convA η r = some b
  | [], _, k, b, e, h => by cases e; simp at h
  | r :: rs, _, k, b, e, h => by
    obtain ⟨b1, e1, e⟩ := Option.bind_eq_some_iff.mp e
    obtain ⟨bs, e2, e⟩ := Option.map_eq_some_iff.mp e
    cases e
    cases k with
    | zero =>
      cases h
      exact ⟨r, rfl, e1⟩
    | succ k => exact convs_get (k := k) e2 (by simpa using h)
theorem convs_len : ∀ {rs : List R} {ηc : List B}, convs η rs = some ηc → ηc.length = rs.length
  | [], _, e => by cases e; rfl
  | r :: rs, _, e => by
    obtain ⟨b1, e1, e⟩ := Option.bind_eq_some_iff.mp e
    obtain ⟨bs, e2, e⟩ := Option.map_eq_some_iff.mp e
    cases e
    rw [List.length_cons, List.length_cons, convs_len e2]
theorem RVs.len : ∀ {vs : List V} {rs : List R}, RVs K F σ H η vs rs → vs.length = rs.length
  | _, _, .nil => rfl
  | _, _, .cons _ h => by rw [List.length_cons, List.length_cons, RVs.len h]
theorem RVs.get : ∀ {vs : List V} {rs : List R} {k : Nat} {r : R}, RVs K F σ H η vs rs → rs[k]? = some r → ∃ v, vs[k]? = some v ∧ RV K F σ H η v r
  | _, _, _, _, .nil, e => by simp at e
  | _, _, 0, _, .cons h _, e => by cases e; exact ⟨_, rfl, h⟩
  | _, _, k + 1, _, .cons _ h, e => RVs.get (k := k) h (by simpa using e)
/-- the lent places are just those of objects -/
theorem lent_mem : ∀ {rs : List R} {k0 k i : Nat}, (k, i) ∈ lent η rs k0 ↔ ∃ j, k = k0 + j ∧ rs[j]? = some (R.bor i) ∧ ∃ (m : Nat) (o : OD), η[i]? = some (B.obj m o)
  | [], k0, k, i => by simp [lent]
  | r :: rs, k0, k, i => by
    have ih := @lent_mem rs (k0 + 1) k i
    have shift : (∃ j, k = k0 + 1 + j ∧ rs[j]? = some (R.bor i) ∧ ∃ (m : Nat) (o : OD), η[i]? = some (B.obj m o)) ↔ ∃ j, k = k0 + (j + 1) ∧ (r :: rs)[j + 1]? = some (R.bor i) ∧ ∃ (m : Nat) (o : OD), η[i]? = some (B.obj m o) := by
      constructor
      · rintro ⟨j, e, h, z⟩; exact ⟨j, by omega, by simpa using h, z⟩
      · rintro ⟨j, e, h, z⟩; exact ⟨j, by omega, by simpa using h, z⟩
    have split : (∃ j, k = k0 + j ∧ (r :: rs)[j]? = some (R.bor i) ∧ ∃ (m : Nat) (o : OD), η[i]? = some (B.obj m o)) ↔ (k = k0 ∧ r = R.bor i ∧ ∃ (m : Nat) (o : OD), η[i]? = some (B.obj m o)) ∨ ∃ j, k = k0 + (j + 1) ∧ (r :: rs)[j + 1]? = some (R.bor i) ∧ ∃ (m : Nat) (o : OD), η[i]? = some (B.obj m o) := by
      constructor
      · rintro ⟨j, e, h, z⟩
        cases j with
        | zero => exact .inl ⟨by omega, by simpa using h, z⟩
        | succ j => exact .inr ⟨j, e, h, z⟩
      · rintro (⟨e, h, z⟩ | ⟨j, e, h, z⟩)
        · exact ⟨0, by omega, by simp [h], z⟩
        · exact ⟨j + 1, e, h, z⟩
    rw [split, ← shift, ← ih]
    rw [show lent η (r :: rs) k0 = lent1 η r k0 ++ lent η rs (k0 + 1) from rfl, List.mem_append]
    refine or_congr ?_ Iff.rfl
    cases r with
    | bor i' =>
      unfold lent1
      constructor
      · intro h
        simp only at h
        split at h
        · rename_i m o q
          have e := List.mem_singleton.mp h
          cases e
          exact ⟨rfl, rfl, m, o, q⟩
        · simp at h
      · rintro ⟨rfl, e, m, o, q⟩
        cases e
        simp only [q]
        exact List.mem_singleton.mpr rfl
    | val d => exact ⟨fun h => (by cases h), fun h => by obtain ⟨_, h, _⟩ := h; cases h⟩
    | fr o => exact ⟨fun h => (by cases h), fun h => by obtain ⟨_, h, _⟩ := h; cases h⟩
    | ty n => exact ⟨fun h => (by cases h), fun h => by obtain ⟨_, h, _⟩ := h; cases h⟩
    | zl ds => exact ⟨fun h => (by cases h), fun h => by obtain ⟨_, h, _⟩ := h; cases h⟩
theorem Snd.call {t : TA} {fa : AF} {n : Nat} {G : EF} (ha : SndA K t fa) (hn : ∀ η rs η1, fa η = some (rs, η1) → rs.length = n) : Snd K (tCall (spOf K n G) [] E0 t) (eCall G fa) := by
  intro F σ H η z η2 Rl e Q hQ
  unfold eCall at e
  obtain ⟨⟨rs, η1⟩, e1, e⟩ := Option.bind_eq_some_iff.mp e
  obtain ⟨ηc, e2, e⟩ := Option.bind_eq_some_iff.mp e
  obtain ⟨⟨r, ηc'⟩, e3, e⟩ := Option.bind_eq_some_iff.mp e
  obtain ⟨η2', e4, e⟩ := Option.bind_eq_some_iff.mp e
  split at e
  case isFalse => cases e
  rename_i hres
  cases e
  refine ha F σ H η rs η1 Rl e1 _ fun F1 H1 vs s1 rv => ?_
  have hl := rv.len
  have hlc : ηc.length = rs.length := convs_len e2
  show spOf K n G (vs ++ []) H1 Q E0
  rw [List.append_nil]
  have few : (lent η1 rs 0).length ≤ 1 := by
    simp only at e4
    unfold wback at e4
    split at e4
    · rename_i q; rw [q]; simp
    · rename_i q; rw [q]; simp
    · cases e4
  have one : ∀ {k i k' i' : Nat}, (k, i) ∈ lent η1 rs 0 → (k', i') ∈ lent η1 rs 0 → k = k' ∧ i = i' := fun {k i k' i'} h h' => by
    match lent η1 rs 0, few, h, h' with
    | [p], _, h, h' =>
      have a := List.mem_singleton.mp h
      have b := List.mem_singleton.mp h'
      cases a
      cases b
      exact ⟨rfl, rfl⟩
  -- a callee's object is a lent slot's
  have co : ∀ {k m : Nat} {o : OD}, ηc[k]? = some (B.obj m o) → ∃ i m0, (k, i) ∈ lent η1 rs 0 ∧ rs[k]? = some (R.bor i) ∧ η1[i]? = some (B.obj m0 o) ∧ m = (if m0 < 2 then 1 else 3) := fun {k m o} q => by
    obtain ⟨r0, h0, h1⟩ := convs_get e2 q
    cases r0 with
    | val d => cases h1
    | fr o => cases h1
    | ty n => cases h1
    | zl ds => cases h1
    | bor i =>
      unfold convA at h1
      simp only at h1
      split at h1
      · cases h1
      · rename_i m0 o0 q0
        cases h1
        exact ⟨i, m0, lent_mem.mpr ⟨k, by omega, h0, m0, _, q0⟩, h0, q0, rfl⟩
      · cases h1
  have cs : ∀ {k i : Nat}, rs[k]? = some (R.bor i) → (vs.map some)[k]? = σ[i]? := fun {k i} h => by
    obtain ⟨v, hv, r1⟩ := rv.get h
    have r1 : σ[i]? = some (some v) := r1
    rw [List.getElem?_map, hv, r1]
    rfl
  have cows : ∀ k a, Ows (vs.map some) ηc k a → ∃ i, (k, i) ∈ lent η1 rs 0 ∧ Ows σ η1 i a := fun k a h => by
    obtain ⟨e, m, o, q⟩ := h
    obtain ⟨i, m0, hm, hr, q0, _⟩ := co q
    exact ⟨i, hm, by rw [← cs hr]; exact e, m0, o, q0⟩
  have Rc : Rel K F1 (vs.map some) H1 ηc := by
    refine ⟨by rw [List.length_map]; omega, s1.rel.dom, fun k b h => ?_, fun k k' a h h' => ?_, fun k a h => ?_⟩
    · obtain ⟨r0, h0, h1⟩ := convs_get e2 h
      obtain ⟨v, hv, r1⟩ := rv.get h0
      have ev : ((vs.map some)[k]?).join = some v := by rw [List.getElem?_map, hv]; rfl
      rw [ev]
      cases r0 with
      | val d => cases h1; exact ⟨v, rfl, r1⟩
      | fr o => cases h1
      | ty n => cases h1
      | zl ds =>
        cases h1
        obtain ⟨a, xs, rfl, z1, z2, z3⟩ := r1
        exact ⟨a, xs, rfl, z1, z2, z3⟩
      | bor i =>
        have r1 : σ[i]? = some (some v) := r1
        unfold convA at h1
        simp only at h1
        split at h1
        · rename_i d q0
          cases h1
          obtain ⟨w, e5, dn⟩ := s1.rel.val q0
          rw [r1] at e5; cases e5
          exact ⟨v, rfl, dn⟩
        · rename_i m0 o0 q0
          cases h1
          obtain ⟨a, ea, ob, _⟩ := s1.rel.obj q0
          rw [r1] at ea; cases ea
          exact ⟨a, rfl, ob⟩
        · cases h1
    · obtain ⟨i, hm, _⟩ := cows k a h
      obtain ⟨i', hm', _⟩ := cows k' a h'
      exact (one hm hm').1
    · obtain ⟨i, hm, o⟩ := cows k a h
      exact s1.rel.loose i a o
  have okc : ∀ b ∈ ηc, okArg b := fun b hb => by
    obtain ⟨k, hk⟩ := List.getElem?_of_mem hb
    obtain ⟨r0, h0, h1⟩ := convs_get e2 hk
    cases r0 with
    | val d => cases h1; trivial
    | fr o => cases h1
    | ty n => cases h1
    | zl ds => cases h1; trivial
    | bor i =>
      unfold convA at h1
      simp only at h1
      split at h1
      · cases h1; trivial
      · cases h1
        show 1 ≤ (if _ < 2 then 1 else 3)
        split <;> omega
      · cases h1
  refine ⟨by rw [hl]; exact hn _ _ _ e1, F1, ηc, r, ηc', Rc, okc, e3, fun F2 H2 v s2 r2 f2 => ?_⟩
  have R2 := s2.rel
  -- the callee's own objects are the caller's
  have ownC : ∀ a, Own (vs.map some) ηc a → Own σ η1 a := fun a h => by
    obtain ⟨k, m, o, e, q, hm⟩ := h
    obtain ⟨i, m0, hmm, hr, q0, em⟩ := co q
    refine ⟨i, m0, o, by rw [← cs hr]; exact e, q0, ?_⟩
    split at em <;> omega
  have kp2 : Kp F1 H1 H2 := s2.kp Rc
  have fin : Stp K F1 σ H1 η1 F2 σ H2 η2 ∧ ∀ a, Hold σ η2 a → Hold σ η1 a := by
    simp only at e4
    unfold wback at e4
    split at e4
    · -- nothing is lent
      rename_i nl
      cases e4
      have no : ∀ a, ¬ Own (vs.map some) ηc a := fun a h => by
        obtain ⟨k, m, o, e, q, hm⟩ := h
        obtain ⟨i, m0, hmm, _⟩ := co q
        rw [nl] at hmm
        cases hmm
      have keep : ∀ a o, H1 a = some o → H2 a = some o := fun a o e => s2.keep a o e (no a)
      refine ⟨⟨⟨s1.rel.len, R2.dom, fun j b h => ?_, s1.rel.apart, fun j a h z => ?_⟩, fun a o e _ => keep a o e, s2.live, s2.sub, fun a h => ?_, fun _ h => .inl h, fun _ h => .inl h, rfl, fun _ _ o e _ => ⟨rfl, o, e, fun _ => rfl⟩⟩, fun _ h => h⟩
      · have sl := s1.rel.slot j b h
        cases b with
        | un => trivial
        | val d => obtain ⟨v, e, dn⟩ := sl; exact ⟨v, e, Dn.mono s2.sub kp2 _ _ dn⟩
        | zl ds => obtain ⟨a, xs, e, h1, h2, h3⟩ := sl; exact ⟨a, xs, e, h1.mono kp2, h2, DnAll.mono s2.sub kp2 _ _ h3⟩
        | obj m o => obtain ⟨a, e, ob⟩ := sl; exact ⟨a, e, ob.mono s2.sub kp2 fun u q => keep a u q⟩
      · rcases s2.new a z with z | z | z
        · exact s1.rel.loose j a h z
        · exact no a z
        · obtain ⟨u, hu, _⟩ := s1.rel.holdSome ⟨j, h⟩
          rw [hu] at z; cases z
      · rcases s2.new a h with z | z | z
        · exact .inl z
        · exact absurd z (no a)
        · exact .inr (.inr z)
    · rename_i k i nl
      split at e4
      · rename_i m0 o0 mc o' q0 qc
        cases e4
        have hmem : (k, i) ∈ lent η1 rs 0 := by rw [nl]; exact List.mem_singleton.mpr rfl
        obtain ⟨j, ej, hr, _⟩ := lent_mem.mp hmem
        have ej : k = j := by omega
        subst ej
        obtain ⟨a, ea, ob, ow⟩ := s1.rel.obj q0
        have eac : (vs.map some)[k]? = some (some (V.ref a)) := by rw [cs hr]; exact ea
        obtain ⟨b0, hb0⟩ : ∃ b0, ηc[k]? = some b0 := by
          have hk : k < rs.length := (List.getElem?_eq_some_iff.mp hr).1
          exact ⟨_, List.getElem?_eq_getElem (by omega)⟩
        obtain ⟨r0, h0, h1⟩ := convs_get e2 hb0
        rw [hr] at h0
        cases h0
        unfold convA at h1
        simp only [q0] at h1
        cases h1
        have hm1 : 1 ≤ (if m0 < 2 then 1 else 3) := by split <;> omega
        obtain ⟨_, o2, q2, w2⟩ := s2.prot k _ o0 hb0 hm1
        rw [qc] at q2
        cases q2
        obtain ⟨a2, ea2, ob2, ow2⟩ := R2.obj qc
        rw [eac] at ea2
        cases ea2
        have onlyOwn : ∀ b, Own (vs.map some) ηc b → b = a := fun b h => by
          obtain ⟨k', m, o, e, q, hm⟩ := h
          obtain ⟨i', m0', hmm, hr', q0', em⟩ := co q
          obtain ⟨rfl, rfl⟩ := one hmem hmm
          rw [eac] at e
          cases e
          rfl
        have hi : i < η1.length := (List.getElem?_eq_some_iff.mp q0).1
        have back : ∀ j b, Ows σ (η1.set i (.obj m0 o')) j b → Ows σ η1 j b := fun j b h => by
          obtain ⟨e1, m1, o1, q1⟩ := h
          rcases set_get q1 with ⟨z0, z⟩ | ⟨n, z⟩
          · subst z0; exact ⟨e1, m0, o0, q0⟩
          · exact ⟨e1, m1, o1, z⟩
        refine ⟨⟨⟨by rw [List.length_set]; exact s1.rel.len, R2.dom, fun j b h => ?_, fun j k b h1 h2 => s1.rel.apart j k b (back j b h1) (back k b h2), fun j b h z => ?_⟩, fun b o e n => s2.keep b o e fun z => n (ownC b z), s2.live, s2.sub, fun b h => ?_, fun b h => ?_, fun b h => ?_, rfl, fun j m1 o1 h hm => ?_⟩, fun b h => let ⟨j, h⟩ := h; ⟨j, back j b h⟩⟩
        · rcases set_get h with ⟨z0, z⟩ | ⟨n, z⟩
          · subst z0 z
            exact ⟨a, by rw [ea]; rfl, ob2⟩
          · have sl := s1.rel.slot j b z
            cases b with
            | un => trivial
            | val d => obtain ⟨v, e, dn⟩ := sl; exact ⟨v, e, Dn.mono s2.sub kp2 _ _ dn⟩
            | zl ds => obtain ⟨a, xs, e, h1, h2, h3⟩ := sl; exact ⟨a, xs, e, h1.mono kp2, h2, DnAll.mono s2.sub kp2 _ _ h3⟩
            | obj m o =>
              obtain ⟨b, eb, obb, owb⟩ := s1.rel.obj z
              refine ⟨b, by rw [eb]; rfl, obb.mono s2.sub kp2 fun u q => s2.keep b u q fun y => ?_⟩
              have := onlyOwn b y
              subst this
              exact n (s1.rel.apart i j b ow owb)
        · have hj := back j b h
          rcases s2.new b z with z | z | z
          · exact s1.rel.loose j b hj z
          · have := onlyOwn b z
            subst this
            exact R2.loose k b ow2 (by assumption)
          · obtain ⟨u, hu, _⟩ := s1.rel.holdSome ⟨j, hj⟩
            rw [hu] at z; cases z
        · rcases s2.new b h with z | z | z
          · exact .inl z
          · exact .inr (.inl (ownC b z))
          · exact .inr (.inr z)
        · obtain ⟨j, h⟩ := h
          exact .inl ⟨j, back j b h⟩
        · obtain ⟨j, m1, o1, e1, q1, hm1⟩ := h
          rcases set_get q1 with ⟨z0, z⟩ | ⟨n, z⟩
          · subst z0; cases z; exact .inl ⟨i, m0, o0, e1, q0, hm1⟩
          · exact .inl ⟨j, m1, o1, e1, z, hm1⟩
        · by_cases n : i = j
          · subst n
            rw [q0] at h
            cases h
            refine ⟨rfl, o', by rw [List.getElem?_set_self hi], fun z => w2 ?_⟩
            split <;> omega
          · exact ⟨rfl, o1, by rw [List.getElem?_set_ne n]; exact h, fun _ => rfl⟩
      · cases e4
    · cases e4
  obtain ⟨s3, hold3⟩ := fin
  have s13 := s1.trans s3
  cases r with
  | val d => exact hQ F2 H2 v s13 r2 trivial
  | fr o =>
    obtain ⟨p, rfl, nf, nh, ob⟩ := r2
    have hp := f2 p rfl
    refine hQ F2 H2 _ s13 ⟨p, rfl, nf, fun z => ?_, ob⟩ fun p' ep => ?_
    · obtain ⟨u, hu, _⟩ := s1.rel.holdSome (hold3 p z)
      rw [hp] at hu; cases hu
    · cases ep
      exact s1.back hp
  | bor i => cases hres
  | ty n => cases hres
  | zl ds => cases hres
end
end PV

/-! PV5: calls as rules; while; for; comprehensions. -/
namespace PV
open PySem PySem.Spec PyProof.Rows L2

def ALen (fa : AF) (n : Nat) : Prop := ∀ η rs η1, fa η = some (rs, η1) → rs.length = n
theorem alen_nil : ALen aNil 0 := fun η rs η1 e => by cases e; rfl
theorem alen_cons {f : EF} {g : AF} {n : Nat} (h : ALen g n) : ALen (aCons f g) (n + 1) := fun η rs η1 e => by
  unfold aCons at e
  obtain ⟨⟨x, η2⟩, e1, e⟩ := Option.bind_eq_some_iff.mp e
  obtain ⟨⟨y, η3⟩, e2, e⟩ := Option.map_eq_some_iff.mp e
  cases e
  rw [List.length_cons, h _ _ _ e2]
section
variable {X : Cx} {k j n : Nat} {f : Addr} {fd : FuncData} {ps : List Str} {x : Str} {p pos : Pos} {e : Expr} {es : List Expr} {t : TA} {fa : AF} {G : EF}
theorem se_call (Fk : FnOk X.prog X.w X.K X.mg X.base CX0 k f fd ps (spOf X.K n G)) (hr : Room j X.A) (hk : k ≤ j) (hg : Gl X x) (hm : X.mg x = some (.ref f)) (hkp : PySem.W.keepIn X.K (.ref f) = true) (hb : Binds X.K fd ps [])
    (ha : SA X (e :: es) t fa) (hl : ALen fa n) (hdb : (x == ("__debug__" : Str)) = false := by decide) (he : starEach (e :: es) X.env = (false, eval e X.env) :: starEach es X.env := by rfl) (hpl : (backTo pos (starEach es X.env)).any (·.1) = false := by rfl) :
    SE X (.Call (.Name x p) (e :: es) [] pos) (tCall (spOf X.K n G) [] E0 t) (eCall G fa) :=
  ⟨pe_call Fk (hr.mono hk) hg hm hkp hb .nil pass0 ha.pa hdb he hpl, .call ha.sd hl⟩
end

/-! ### while -/
def whileN (c : TF) (b : SF) : Nat → List B → Option Out
  | 0, _ => none
  | n + 1, η => (c η).bind fun p => if p.1 = true then (b p.2).bind fun o => match o with
    | .nx η2 => whileN c b n η2
    | .ct η2 => whileN c b n η2
    | .bk η2 => some (.nx η2)
    | .rt r η2 => some (.rt r η2)
    else some (.nx p.2)
def sWhile (n : Nat) (c : TF) (b : SF) : SF := whileN c b n
theorem SndS.whileS {K : Kf} {tc : TT} {tb : TS} {c : TF} {b : SF} (n : Nat) (hc : SndT K tc c) (hb : SndS K tb b) : SndS K (tWhile tc tb) (sWhile n c b) := by
  intro F σ H η o Rl e D hD
  refine ⟨fun m σ' H' => ∃ F' η', Stp K F σ H η F' σ' H' η' ∧ whileN c b m η' = some o, ⟨n, F, η, .refl Rl, e⟩, ?_⟩
  rintro m σ1 H1 ⟨F1, η1, s1, e1⟩
  cases m with
  | zero => cases e1
  | succ m =>
    unfold whileN at e1
    obtain ⟨⟨x, η2⟩, e2, e1⟩ := Option.bind_eq_some_iff.mp e1
    refine hc F1 σ1 H1 η1 x η2 s1.rel e2 _ fun F2 H2 s2 => ?_
    have s12 := s1.trans s2
    cases x with
    | false =>
      cases e1
      exact hD F2 σ1 H2 s12
    | true =>
      show ∃ N : L2.St → Hp → Prop, _ ∧ _
      obtain ⟨o1, e3, e1⟩ := Option.bind_eq_some_iff.mp e1
      refine ⟨fun σ' H' => ∃ F' η', Stp K F σ H η F' σ' H' η' ∧ whileN c b m η' = some o, fun σ' H' h => ⟨m, Nat.lt_succ_self _, h⟩, ?_⟩
      refine hb F2 σ1 H2 η2 o1 s2.rel e3 _ ?_
      cases o1 with
      | nx η3 => exact fun F3 σ3 H3 s3 => ⟨F3, η3, s12.trans s3, e1⟩
      | ct η3 => exact fun F3 σ3 H3 s3 => ⟨F3, η3, s12.trans s3, e1⟩
      | bk η3 => cases e1; exact fun F3 σ3 H3 s3 => hD F3 σ3 H3 (s12.trans s3)
      | rt r η3 => cases e1; exact fun F3 σ3 H3 v s3 rv fs => hD F3 σ3 H3 v (s12.trans s3) rv (fs.back s12)
theorem ss_while {X : Cx} {c : Expr} {body : List Stmt} {tc : TT} {tb : TS} {fc : TF} {fb : SF} {pos : Pos} (n : Nat) (hp : PassesOwn (model X.prog X.w) X.A X.env X.xe) (hc : ST X c tc fc) (hb : SB X body tb fb) :
    SS X (.While c body [] pos) (tWhile tc tb) (sWhile n fc fb) := ⟨ps_while hp hc.pt hb.ps, .whileS n hc.sd hb.sd⟩

/-! ### what a loop walks -/
/-- a list or tuple that stands still -/
inductive SrcAt (K : Kf) (F : Addr → Prop) (σ : L2.St) (H : Hp) (η : List B) (v : V) (ds : List D) : Prop
  | lst (h : Dn K F H v (.list ds))
  | zl (h : RV K F σ H η v (.zl ds))
  | fr (h : RV K F σ H η v (.fr (.lst ds)))
  | lock (i m : Nat) (h : σ[i]? = some (some v)) (q : η[i]? = some (B.obj m (.lst ds))) (hm : 2 ≤ m)
section
variable {K : Kf} {F F1 F2 : Addr → Prop} {σ σ1 σ2 : L2.St} {H H1 H2 : Hp} {η η1 η2 : List B} {v : V} {ds : List D}
theorem fr_step (Rl : Rel K F σ H η) (s : Stp K F σ H η F1 σ1 H1 η1) {o : OD} (h : RV K F σ H η v (.fr o)) : RV K F1 σ1 H1 η1 v (.fr o) := by
  obtain ⟨p, e, nf, nh, ob⟩ := h
  obtain ⟨u, hu, _⟩ := ob.some
  have no : ¬ Own σ η p := fun z => nh z.hold
  refine ⟨p, e, fun z => ?_, fun z => ?_, ob.mono s.sub (s.kp Rl) fun u q => s.keep p u q no⟩
  · rcases s.new p z with z | z | z
    · exact nf z
    · exact no z
    · rw [hu] at z; cases z
  · rcases s.hold p z with z | z
    · exact nh z
    · rw [hu] at z; cases z
theorem SrcAt.step (Rl : Rel K F σ H η) (s : Stp K F σ H η F1 σ1 H1 η1) (h : SrcAt K F σ H η v ds) : SrcAt K F1 σ1 H1 η1 v ds := by
  cases h with
  | lst h => exact .lst (s.dn Rl h)
  | zl h => obtain ⟨a, xs, e, hz, hl, hd⟩ := h; exact .zl ⟨a, xs, e, hz.mono (s.kp Rl), hl, s.dnAll Rl hd⟩
  | fr h => exact .fr (fr_step Rl s h)
  | lock i m h q hm =>
    obtain ⟨e, o', q', w⟩ := s.prot i m _ q (by omega)
    have w := w hm
    subst w
    exact .lock i m (e.trans h) q' hm
/-- .. of a list, at whatever state -/
theorem SrcAt.list (Rl : Rel K F σ H η) (h : SrcAt K F σ H η v ds) : ∃ a xs, v = .ref a ∧ SqL K H a xs ∧ xs.length ≤ sizeLine ∧ DnAll K F H xs ds := by
  cases h with
  | lst h => obtain ⟨a, xs, e, h1, h2, h3⟩ := lst_dn h; exact ⟨a, xs, e, SqL.of h1, h2, h3⟩
  | zl h => obtain ⟨a, xs, e, h1, h2, h3⟩ := h; exact ⟨a, xs, e, h1.sq, h2, h3⟩
  | fr h => obtain ⟨p, e, _, _, xs, h1, h2, h3⟩ := h; exact ⟨p, xs, e, SqL.of h1, h2, h3⟩
  | lock i m h q hm =>
    obtain ⟨a, ea, ⟨xs, h1, h2, h3⟩, _⟩ := Rl.obj q
    rw [h] at ea
    cases ea
    exact ⟨a, xs, rfl, SqL.of h1, h2, h3⟩
end
/-- J gives the values ds, one by one, from the state on -/
structure ItOk (K : Kf) (J : It) (F : Addr → Prop) (σ : L2.St) (H : Hp) (η : List B) (ds : List D) : Prop where
  go : ∀ F' σ' H' η', Stp K F σ H η F' σ' H' η' → ∀ i, i < ds.length → J.go i H' ∧ ∀ x H'', J.yld i H' x H'' → ∃ d, ds[i]? = some d ∧ Stp K F' σ' H' η' F' σ' H'' η' ∧ Dn K F' H'' x d
  stop : ∀ F' σ' H' η', Stp K F σ H η F' σ' H' η' → J.stop ds.length H'
/-- while a loop walks slot i's list it is locked -/
@[simp] def lockE (lk : Option Nat) (η : List B) : List B := match lk with
  | some i => match η[i]? with
    | some (.obj m o) => η.set i (.obj (m + 2) o)
    | _ => η
  | none => η
@[simp] def unlockE (lk : Option Nat) (η0 η : List B) : List B := match lk with
  | some i => match η0[i]? with
    | some b => η.set i b
    | none => η
  | none => η
def lkOk (lk : Option Nat) (η : List B) : Prop := match lk with
  | some i => ∃ (m : Nat) (o : OD), η[i]? = some (B.obj m o) ∧ m < 2
  | none => True
section
variable {K : Kf} {F F1 F2 : Addr → Prop} {σ σ1 σ2 : L2.St} {H H1 H2 : Hp} {η η1 η2 : List B} {lk : Option Nat}
theorem lock_ows {i m : Nat} {o : OD} (q : η[i]? = some (B.obj m o)) (m' : Nat) : (∀ j a, Ows σ (η.set i (.obj m' o)) j a ↔ Ows σ η j a) := fun j a => by
  have hi : i < η.length := (List.getElem?_eq_some_iff.mp q).1
  constructor
  · rintro ⟨e, m1, o1, q1⟩
    rcases set_get q1 with ⟨z0, z⟩ | ⟨n, z⟩
    · subst z0; exact ⟨e, m, o, q⟩
    · exact ⟨e, m1, o1, z⟩
  · rintro ⟨e, m1, o1, q1⟩
    by_cases n : i = j
    · subst n; exact ⟨e, m', o, List.getElem?_set_self hi⟩
    · exact ⟨e, m1, o1, by rw [List.getElem?_set_ne n]; exact q1⟩
theorem lock_rel (Rl : Rel K F σ H η) (hl : lkOk lk η) : Rel K F σ H (lockE lk η) := by
  cases lk with
  | none => exact Rl
  | some i =>
    obtain ⟨m, o, q, hm⟩ := hl
    unfold lockE
    simp only [q]
    have ow := lock_ows (σ := σ) q (m + 2)
    refine ⟨by rw [List.length_set]; exact Rl.len, Rl.dom, fun j b h => ?_, fun j k a h1 h2 => Rl.apart j k a ((ow j a).mp h1) ((ow k a).mp h2), fun j a h => Rl.loose j a ((ow j a).mp h)⟩
    rcases set_get h with ⟨z0, z⟩ | ⟨n, z⟩
    · subst z0 z
      obtain ⟨a, ea, ob⟩ := Rl.slot i _ q
      exact ⟨a, ea, ob⟩
    · exact Rl.slot j b z
theorem unlock_stp (Rl : Rel K F σ H η) (hl : lkOk lk η) (s : Stp K F σ H (lockE lk η) F1 σ1 H1 η1) : Stp K F σ H η F1 σ1 H1 (unlockE lk η η1) ∧ ∀ a, Hold σ1 (unlockE lk η η1) a ↔ Hold σ1 η1 a := by
  cases lk with
  | none => exact ⟨s, fun _ => Iff.rfl⟩
  | some i =>
    obtain ⟨m, o, q, hm⟩ := hl
    have hi : i < η.length := (List.getElem?_eq_some_iff.mp q).1
    unfold lockE at s
    simp only [q] at s
    unfold unlockE
    simp only [q]
    have ow := lock_ows (σ := σ) q (m + 2)
    obtain ⟨es, o', q1, w⟩ := s.prot i (m + 2) o (List.getElem?_set_self hi) (by omega)
    have w := w (by omega)
    subst w
    have ow1 := lock_ows (σ := σ1) q1 m
    have own0 : ∀ a, Own σ (η.set i (.obj (m + 2) o')) a → Own σ η a := fun a h => by
      obtain ⟨j, m1, o1, e1, q2, hm1⟩ := h
      rcases set_get q2 with ⟨z0, z⟩ | ⟨n, z⟩
      · cases z; omega
      · exact ⟨j, m1, o1, e1, z, hm1⟩
    have hold1 : ∀ a, Hold σ1 (η1.set i (.obj m o')) a ↔ Hold σ1 η1 a := fun a => ⟨fun ⟨j, h⟩ => ⟨j, (ow1 j a).mp h⟩, fun ⟨j, h⟩ => ⟨j, (ow1 j a).mpr h⟩⟩
    refine ⟨⟨⟨by rw [List.length_set]; exact s.rel.len, s.rel.dom, fun j b h => ?_, fun j k a h1 h2 => s.rel.apart j k a ((ow1 j a).mp h1) ((ow1 k a).mp h2), fun j a h => s.rel.loose j a ((ow1 j a).mp h)⟩, fun a u e n => s.keep a u e fun z => n (own0 a z), s.live, s.sub, fun a h => ?_, fun a h => ?_, fun a h => ?_, s.lenS, fun j m1 o1 h hm1 => ?_⟩, hold1⟩
    · rcases set_get h with ⟨z0, z⟩ | ⟨n, z⟩
      · subst z0 z
        obtain ⟨a, ea, ob⟩ := s.rel.slot i _ q1
        exact ⟨a, ea, ob⟩
      · exact s.rel.slot j b z
    · rcases s.new a h with z | z | z
      · exact .inl z
      · exact .inr (.inl (own0 a z))
      · exact .inr (.inr z)
    · rcases s.hold a ((hold1 a).mp h) with ⟨j, z⟩ | z
      · exact .inl ⟨j, (ow j a).mp z⟩
      · exact .inr z
    · obtain ⟨j, m1, o1, e1, q2, hm1⟩ := h
      rcases set_get q2 with ⟨z0, z⟩ | ⟨n, z⟩
      · subst z0
        cases z
        exact .inl ⟨i, m, o', by rw [← es]; exact e1, q, hm⟩
      · rcases s.own a ⟨j, m1, o1, e1, z, hm1⟩ with z | z
        · exact .inl (own0 a z)
        · exact .inr z
    · by_cases n : i = j
      · subst n
        rw [q] at h
        cases h
        have hi1 : i < η1.length := (List.getElem?_eq_some_iff.mp q1).1
        exact ⟨es, o', by rw [List.getElem?_set_self hi1], fun _ => rfl⟩
      · obtain ⟨e1, o2, q2, w2⟩ := s.prot j m1 o1 (by rw [List.getElem?_set_ne n]; exact h) hm1
        exact ⟨e1, o2, by rw [List.getElem?_set_ne n]; exact q2, w2⟩
end

/-! ### what is walked -/
abbrev IF := List B → Option (List D × Option Nat × List B)
def SndI (K : Kf) (wi : TI) (fi : IF) : Prop := ∀ F σ H η ds lk η', Rel K F σ H η → fi η = some (ds, lk, η') → ∀ Rr : It → Hp → Prop,
  (∀ F' H' J, Stp K F σ H η F' σ H' η' → lkOk lk η' → ItOk K J F' σ H' (lockE lk η') ds → Rr J H') → wi σ H Rr
structure SI (X : Cx) (tg iter : Expr) (wi : TI) (fi : IF) : Prop where
  pi : PI X tg iter wi
  sd : SndI X.K wi fi
@[simp] def lkOf (η : List B) : R → Option Nat
  | .bor i => match η[i]? with
    | some (.obj m _) => if m < 2 then some i else none
    | _ => none
  | _ => none
@[simp] def iSeq (fe : EF) : IF := fun η => (fe η).bind fun p => (seqOf p.2 p.1).map fun ds => (ds, lkOf p.2 p.1, p.2)
def iSeqT (K : Kf) (te : TE) : TI := fun σ H Rr => iList K te σ H Rr ∨ iTup K te σ H Rr
theorem pi_seq {X : Cx} {tg l : Expr} {tl : TE} (hl : PE X l tl) : PI X tg l (iSeqT X.K tl) :=
  ⟨fun pins s σ H Rr I h => h.elim (fun h => (pi_list hl).run pins s σ H Rr I h) fun h => (pi_tup hl).run pins s σ H Rr I h⟩
section
variable {K : Kf} {F F1 F2 : Addr → Prop} {σ σ1 σ2 : L2.St} {H H1 H2 : Hp} {η η1 η2 : List B} {v : V} {ds : List D} {r : R}
theorem seq_src (Rl : Rel K F σ H η) (rv : RV K F σ H η v r) (e : lsqOf η r = some ds) : lkOk (lkOf η r) η ∧ SrcAt K F σ H (lockE (lkOf η r) η) v ds := by
  have tr : ∀ {r : R}, lkOf η r = none → lkOk (lkOf η r) η ∧ lockE (lkOf η r) η = η := fun {r} h => by rw [h]; exact ⟨trivial, rfl⟩
  cases r with
  | val d =>
    obtain ⟨h1, h2⟩ := tr (r := .val d) rfl
    rw [h2]
    refine ⟨h1, ?_⟩
    unfold lsqOf lstOf at e
    cases d with
    | list xs => simp only at e; cases e; exact .lst rv
    | tuple xs => cases e
    | none => cases e
    | bool b => cases e
    | int i => cases e
    | str x => cases e
    | dict x => cases e
  | fr o =>
    obtain ⟨h1, h2⟩ := tr (r := .fr o) rfl
    rw [h2]
    refine ⟨h1, ?_⟩
    unfold lsqOf lstOf at e
    cases o with
    | lst xs => simp only at e; cases e; exact .fr rv
    | dic x => cases e
  | ty n => cases e
  | zl xs =>
    obtain ⟨h1, h2⟩ := tr (r := .zl xs) rfl
    rw [h2]
    refine ⟨h1, ?_⟩
    unfold lsqOf at e
    simp only at e
    cases e
    exact .zl rv
  | bor i =>
    have hv : σ[i]? = some (some v) := rv
    unfold lsqOf lstOf at e
    simp only at e
    split at e
    · rename_i q
      cases e
      have h0 : lkOf η (.bor i) = none := by unfold lkOf; simp only [q]
      obtain ⟨h1, h2⟩ := tr h0
      rw [h2]
      obtain ⟨w, e2, dn⟩ := Rl.val q
      rw [hv] at e2; cases e2
      exact ⟨h1, .lst dn⟩
    · rename_i m ds' q
      cases e
      by_cases hm : m < 2
      · have h0 : lkOf η (.bor i) = some i := by unfold lkOf; simp only [q, if_pos hm]
        rw [h0]
        refine ⟨⟨m, _, q, hm⟩, ?_⟩
        unfold lockE
        simp only [q]
        have hi : i < η.length := (List.getElem?_eq_some_iff.mp q).1
        exact .lock i (m + 2) hv (List.getElem?_set_self hi) (by omega)
      · have h0 : lkOf η (.bor i) = none := by unfold lkOf; simp only [q, if_neg hm]
        obtain ⟨h1, h2⟩ := tr h0
        rw [h2]
        exact ⟨h1, .lock i m hv q (by omega)⟩
    · cases e
theorem it_list {a : Addr} (Rl : Rel K F σ H η) (h : SrcAt K F σ H η (.ref a) ds) : ItOk K (Itl K a) F σ H η ds where
  go := fun F' σ' H' η' s i hi => by
    obtain ⟨a', xs, ea, h1, h2, h3⟩ := (h.step Rl s).list s.rel
    cases ea
    obtain ⟨d, hd⟩ : ∃ d, ds[i]? = some d := ⟨_, List.getElem?_eq_getElem hi⟩
    obtain ⟨x, hx, dn⟩ := h3.get' hd
    refine ⟨⟨xs, x, h1, hx⟩, fun y H'' hy => ?_⟩
    obtain ⟨rfl, fy⟩ := hy
    have := fy xs h1
    rw [hx] at this
    cases this
    exact ⟨d, hd, .refl s.rel, dn⟩
  stop := fun F' σ' H' η' s => by
    obtain ⟨a', xs, ea, h1, h2, h3⟩ := (h.step Rl s).list s.rel
    cases ea
    exact ⟨xs, h1, by rw [h3.length]; exact Nat.le_refl _⟩
theorem it_tup {a : Addr} (Rl : Rel K F σ H η) (h : Dn K F H (.ref a) (.tuple ds)) : ItOk K (Itt K a) F σ H η ds where
  go := fun F' σ' H' η' s i hi => by
    obtain ⟨a', xs, ea, h1, h2, h3⟩ := tup_dn (s.dn Rl h)
    cases ea
    obtain ⟨d, hd⟩ : ∃ d, ds[i]? = some d := ⟨_, List.getElem?_eq_getElem hi⟩
    obtain ⟨x, hx, dn⟩ := h3.get' hd
    refine ⟨⟨xs, x, h1, hx⟩, fun y H'' hy => ?_⟩
    obtain ⟨rfl, fy⟩ := hy
    have := fy xs h1
    rw [hx] at this
    cases this
    exact ⟨d, hd, .refl s.rel, dn⟩
  stop := fun F' σ' H' η' s => by
    obtain ⟨a', xs, ea, h1, h2, h3⟩ := tup_dn (s.dn Rl h)
    cases ea
    exact ⟨xs, h1, by rw [h3.length]; exact Nat.le_refl _⟩
theorem SndI.seq {te : TE} {fe : EF} (h : Snd K te fe) : SndI K (iSeqT K te) (iSeq fe) := by
  intro F σ H η ds lk η' Rl e Rr hR
  unfold iSeq at e
  obtain ⟨⟨x, η1⟩, e1, e⟩ := Option.bind_eq_some_iff.mp e
  obtain ⟨ds', e2, e⟩ := Option.map_eq_some_iff.mp e
  cases e
  unfold seqOf at e2
  split at e2
  · rename_i ds' ht
    cases e2
    refine .inr (h F σ H η x _ Rl e1 _ fun F1 H1 v s1 r1 f1 => ?_)
    obtain ⟨a, xs, rfl, h1, h2, h3⟩ := tupOf_ok r1 ht
    have lk0 : lkOf η1 x = none := by
      cases x with
      | bor i => cases ht
      | _ => rfl
    refine ⟨a, rfl, ⟨xs, h1⟩, hR F1 H1 _ s1 ?_ ?_⟩
    · simp only [lk0]; trivial
    · simp only [lk0]
      exact it_tup s1.rel (.tup h1 h2 h3)
  · refine .inl (h F σ H η x _ Rl e1 _ fun F1 H1 v s1 r1 f1 => ?_)
    obtain ⟨h1, h2⟩ := seq_src s1.rel r1 e2
    have Rk := lock_rel s1.rel h1
    obtain ⟨a, xs, rfl, z1, z2, z3⟩ := h2.list Rk
    exact ⟨a, rfl, ⟨xs, z1⟩, hR F1 H1 _ s1 h1 (it_list Rk h2)⟩
/-- range(..) -/
def rngD (lo : Int) (n : Nat) : List D := (List.range n).map fun i => .int (lo + (i : Nat))
theorem rngD_get {lo : Int} {n i : Nat} (h : i < n) : (rngD lo n)[i]? = some (.int (lo + (i : Nat))) := by
  unfold rngD
  rw [List.getElem?_map, List.getElem?_range h]
  rfl
theorem rngD_len {lo : Int} {n : Nat} : (rngD lo n).length = n := by unfold rngD; rw [List.length_map, List.length_range]
theorem it_rng (Rl : Rel K F σ H η) (lo : Int) (n : Nat) : ItOk K (Itr lo n) F σ H η (rngD lo n) where
  go := fun F' σ' H' η' s i hi => by
    rw [rngD_len] at hi
    refine ⟨hi, fun x H'' hy => ?_⟩
    obtain ⟨rfl, rfl⟩ := hy
    exact ⟨_, rngD_get hi, .refl s.rel, .int _⟩
  stop := fun F' σ' H' η' s => by
    rw [rngD_len]
    exact Nat.le_refl _
def big62 (j : Int) : Bool := decide (-(2 ^ 62) ≤ j) && decide (j < 2 ^ 62)
@[simp] def iRange1 (fa : AF) : IF := fun η => (fa η).bind fun p => match p.1 with
  | [.val (.int j)] => if big62 j = true then some (rngD 0 j.toNat, none, p.2) else none
  | _ => none
@[simp] def iRange2 (fa : AF) : IF := fun η => (fa η).bind fun p => match p.1 with
  | [.val (.int i), .val (.int j)] => if (big62 i && big62 j) = true then some (rngD i (j - i).toNat, none, p.2) else none
  | _ => none
theorem big62_ok {j : Int} (h : big62 j = true) : -(2 ^ 62) ≤ j ∧ j < 2 ^ 62 := by
  unfold big62 at h
  simp only [Bool.and_eq_true, decide_eq_true_eq] at h
  exact h
theorem SndI.range1 {t : TA} {fa : AF} (h : SndA K t fa) : SndI K (iRng1 t) (iRange1 fa) := by
  intro F σ H η ds lk η' Rl e Rr hR
  unfold iRange1 at e
  obtain ⟨⟨x, η1⟩, e1, e⟩ := Option.bind_eq_some_iff.mp e
  refine h F σ H η x _ Rl e1 _ fun F1 H1 vs s1 r1 => ?_
  simp only at e
  split at e
  · rename_i j
    split at e
    · rename_i c
      cases e
      obtain ⟨v, rfl, r2⟩ := r1.one
      obtain ⟨b1, b2⟩ := big62_ok c
      exact ⟨j, by rw [int_dn r2], b1, b2, hR F1 H1 _ s1 trivial (it_rng s1.rel 0 j.toNat)⟩
    · cases e
  · cases e
theorem SndI.range2 {t : TA} {fa : AF} (h : SndA K t fa) : SndI K (iRng2 t) (iRange2 fa) := by
  intro F σ H η ds lk η' Rl e Rr hR
  unfold iRange2 at e
  obtain ⟨⟨x, η1⟩, e1, e⟩ := Option.bind_eq_some_iff.mp e
  refine h F σ H η x _ Rl e1 _ fun F1 H1 vs s1 r1 => ?_
  simp only at e
  split at e
  · rename_i i j
    split at e
    · rename_i c
      cases e
      rw [Bool.and_eq_true] at c
      obtain ⟨v, w, rfl, r3, r2⟩ := r1.two
      obtain ⟨b1, b2⟩ := big62_ok c.1
      obtain ⟨b3, b4⟩ := big62_ok c.2
      exact ⟨i, j, by rw [int_dn r3, int_dn r2], ⟨b1, b2, b3, b4⟩, hR F1 H1 _ s1 trivial (it_rng s1.rel i (j - i).toNat)⟩
    · cases e
  · cases e
end
section
variable {X : Cx} {tg e a b : Expr} {te : TE} {fe : EF} {t : TA} {fa : AF} {p pos : Pos}
theorem si_seq (h : SE X e te fe) : SI X tg e (iSeqT X.K te) (iSeq fe) := ⟨pi_seq h.pe, .seq h.sd⟩
theorem si_range1 (hg : Gl X "range") (hm : X.mg "range" = none) (ha : SA X [a] t fa) (hs : starEach [a] X.env = [(false, eval a X.env)] := by rfl) : SI X tg (.Call (.Name "range" p) [a] [] pos) (iRng1 t) (iRange1 fa) := ⟨pi_range1 hg hm ha.pa hs, .range1 ha.sd⟩
theorem si_range2 (hg : Gl X "range") (hm : X.mg "range" = none) (ha : SA X [a, b] t fa) (hs : starEach [a, b] X.env = [(false, eval a X.env), (false, eval b X.env)] := by rfl) (hs2 : starEach [b] X.env = [(false, eval b X.env)] := by rfl) : SI X tg (.Call (.Name "range" p) [a, b] [] pos) (iRng2 t) (iRange2 fa) := ⟨pi_range2 hg hm ha.pa hs hs2, .range2 ha.sd⟩
end

/-! ### for -/
def forG (g : GTF) (b : SF) : List D → List B → Option Out
  | [], η => some (.nx η)
  | d :: ds, η => (g (.val d) η).bind fun η1 => (b η1).bind fun o => match o with
    | .nx η2 => forG g b ds η2
    | .ct η2 => forG g b ds η2
    | .bk η2 => some (.nx η2)
    | .rt r η2 => some (.rt r η2)
@[simp] def unlockO (lk : Option Nat) (η0 : List B) : Out → Out
  | .nx η => .nx (unlockE lk η0 η)
  | .rt r η => .rt r (unlockE lk η0 η)
  | o => o
@[simp] def sFor (fi : IF) (g : GTF) (b : SF) : SF := fun η => (fi η).bind fun p => (forG g b p.1 (lockE p.2.1 p.2.2)).map (unlockO p.2.1 p.2.2)
theorem SndS.forS {K : Kf} {wi : TI} {fi : IF} {g : TG} {gf : GTF} {ts : List Nat} {tb : TS} {b : SF} (hi : SndI K wi fi) (hg : SndG K g gf ts) (hb : SndS K tb b) : SndS K (tFor wi g tb) (sFor fi gf b) := by
  intro F σ H η o Rl e D hD
  unfold sFor at e
  obtain ⟨⟨ds, lk, η1⟩, e1, e⟩ := Option.bind_eq_some_iff.mp e
  obtain ⟨o1, e2, e⟩ := Option.map_eq_some_iff.mp e
  simp only at e2 e
  refine hi F σ H η ds lk η1 Rl e1 _ fun F1 H1 J s1 hl hJ => ?_
  have Rk := lock_rel s1.rel hl
  -- the ends, from the locked state on
  have endN : ∀ {F' σ' H' η'}, o1 = .nx η' → Stp K F1 σ H1 (lockE lk η1) F' σ' H' η' → D.nx σ' H' := fun {F' σ' H' η'} z s => by
    subst z
    cases e
    exact hD F' σ' H' (s1.trans (unlock_stp s1.rel hl s).1)
  have endR : ∀ {F' σ' H' η' r v}, o1 = .rt r η' → Stp K F1 σ H1 (lockE lk η1) F' σ' H' η' → RV K F' σ' H' η' v r → FreshS σ (lockE lk η1) H1 v r → D.rt v H' := fun {F' σ' H' η' r v} z s rv fs => by
    subst z
    cases e
    obtain ⟨su, hh⟩ := unlock_stp s1.rel hl s
    refine hD F' σ' H' v (s1.trans su) ?_ ?_
    · cases r with
      | fr o =>
        obtain ⟨p, e, nf, nh, ob⟩ := rv
        exact ⟨p, e, nf, fun z => nh ((hh p).mp z), ob⟩
      | val d => exact rv
      | bor i => exact rv
      | ty n => exact rv
      | zl ds => exact rv
    · cases r with
      | fr o =>
        intro p ep
        rcases fs p ep with z | z
        · exact .inl (s1.back z)
        · obtain ⟨j, m, o2, ej, q, hm⟩ := z
          have : Own σ η1 p := by
            cases lk with
            | none => exact ⟨j, m, o2, ej, q, hm⟩
            | some i =>
              obtain ⟨m0, o0, q0, hm0⟩ := hl
              unfold lockE at q
              simp only [q0] at q
              rcases set_get q with ⟨_, z⟩ | ⟨n, z⟩
              · cases z; omega
              · exact ⟨j, m, o2, ej, z, hm⟩
          rcases s1.own p this with z | z
          · exact .inr z
          · exact .inl z
      | val d => trivial
      | bor i => trivial
      | ty n => trivial
      | zl ds => trivial
  refine ⟨fun i m σ' H' => m = ds.length - i ∧ i ≤ ds.length ∧ ∃ F' η', Stp K F1 σ H1 (lockE lk η1) F' σ' H' η' ∧ forG gf b (ds.drop i) η' = some o1, ⟨ds.length, by simp, Nat.zero_le _, F1, _, .refl Rk, by rw [List.drop_zero]; exact e2⟩, ?_⟩
  rintro i m σ2 H2 ⟨rfl, hi', F2, η2, s2, e3⟩
  by_cases hlt : i < ds.length
  · obtain ⟨hgo, hyl⟩ := hJ.go F2 σ2 H2 η2 s2 i hlt
    refine .inr ⟨hgo, fun σ' H' => ∃ F' η', Stp K F1 σ H1 (lockE lk η1) F' σ' H' η' ∧ forG gf b (ds.drop (i + 1)) η' = some o1, fun σ' H' h => ⟨ds.length - (i + 1), by omega, rfl, hlt, h⟩, fun x H3 hy => ?_⟩
    obtain ⟨d, hd, s3, dn⟩ := hyl x H3 hy
    have hdr : ds.drop i = d :: ds.drop (i + 1) := by
      rw [List.drop_eq_getElem_cons hlt]
      have := List.getElem?_eq_some_iff.mp hd
      rw [this.2]
    rw [hdr] at e3
    unfold forG at e3
    obtain ⟨η4, e4, e3⟩ := Option.bind_eq_some_iff.mp e3
    obtain ⟨o2, e5, e3⟩ := Option.bind_eq_some_iff.mp e3
    have s23 := s2.trans s3
    refine hg F1 σ H1 (lockE lk η1) F2 σ2 H3 η2 x (.val d) η4 Rk s23 dn trivial e4 _ fun F4 σ4 H4 s4 _ => ?_
    refine hb F4 σ4 H4 η4 o2 s4.rel e5 _ ?_
    cases o2 with
    | nx η5 => exact fun F5 σ5 H5 s5 => ⟨F5, η5, s4.trans s5, e3⟩
    | ct η5 => exact fun F5 σ5 H5 s5 => ⟨F5, η5, s4.trans s5, e3⟩
    | bk η5 => exact fun F5 σ5 H5 s5 => endN (Option.some.inj e3).symm (s4.trans s5)
    | rt r η5 => exact fun F5 σ5 H5 v s5 rv fs => endR (Option.some.inj e3).symm (s4.trans s5) rv (fs.back s4)
  · have hi2 : i = ds.length := by omega
    subst hi2
    rw [List.drop_length] at e3
    exact .inl ⟨hJ.stop F2 σ2 H2 η2 s2, endN (Option.some.inj e3).symm s2⟩
theorem ss_for {X : Cx} {tg iter : Expr} {body : List Stmt} {wi : TI} {fi : IF} {g : TG} {gf : GTF} {ts : List Nat} {tb : TS} {b : SF} {pos : Pos} (hp : PassesOwn (model X.prog X.w) X.A X.env X.xe) (hc : X.calm = true) (hi : SI X tg iter wi fi) (hg : SG X tg g gf ts) (hb : SB X body tb b)
    (hs : ∀ x, foldedSetIterable iter X.env x = pure x := by intro _; rfl) : SS X (.For tg iter body [] pos) (tFor wi g tb) (sFor fi gf b) := ⟨ps_for hp hc hi.pi hg.pg hb.ps hs, .forS hi.sd hg.sd hb.sd⟩
end PV

/-! PV6: comprehensions; op=; a, b = x, y; methods of lists. -/
namespace PV
open PySem PySem.Spec PyProof.Rows L2

/-! ### comprehensions -/
@[simp] def wipeB (η : List B) : List Nat → List B
  | [] => η
  | v :: vs => (wipeB η vs).set v .un
/-- the block's own slots as they were -/
@[simp] def restB (η0 η : List B) : List Nat → List B
  | [] => η
  | v :: vs => match η0[v]? with
    | some b => (restB η0 η vs).set v b
    | none => restB η0 η vs
def noB : Option B → Bool
  | some (.obj _ _) => false
  | _ => true
@[simp] def noObj (η : List B) (vs : List Nat) : Bool := vs.all fun v => noB η[v]?
@[simp] def tfYes : TF := fun η => some (true, η)
def compG (g : GTF) (c : TF) (fe : EF) (vs : List Nat) : List D → List D → List B → Option (List D × List B)
  | [], acc, η => some (acc, η)
  | d :: ds, acc, η => (g (.val d) η).bind fun η1 => (c η1).bind fun p => if p.1 = true then (fe p.2).bind fun q => match q.1 with
      | .val e => compG g c fe vs ds (acc ++ [e]) (wipeB q.2 vs)
      | _ => none
    else compG g c fe vs ds acc (wipeB p.2 vs)
@[simp] def eComp (fi : IF) (g : GTF) (c : TF) (fe : EF) (vs : List Nat) : EF := fun η => (fi η).bind fun p => if (noObj p.2.2 vs && decide (p.1.length ≤ sizeLine)) = true then (compG g c fe vs p.1 [] (wipeB (lockE p.2.1 p.2.2) vs)).map fun q => (.fr (.lst q.1), unlockE p.2.1 p.2.2 (restB p.2.2 q.2 vs)) else none
section
variable {K : Kf} {F F1 : Addr → Prop} {σ σ1 σ2 : L2.St} {H H1 : Hp} {η η0 η1 : List B} {vs : List Nat}
theorem wipeB_len : ∀ vs : List Nat, (wipeB η vs).length = η.length
  | [] => rfl
  | v :: vs => by unfold wipeB; rw [List.length_set, wipeB_len vs]
theorem wipeB_in {i : Nat} (hi : i < η.length) : ∀ {vs : List Nat}, i ∈ vs → (wipeB η vs)[i]? = some .un
  | v :: vs, h => by
    unfold wipeB
    by_cases e : v = i
    · subst e
      rw [List.getElem?_set_self (by rw [wipeB_len]; exact hi)]
    · rw [List.getElem?_set_ne e]
      exact wipeB_in hi ((List.mem_cons.mp h).resolve_left fun z => e z.symm)
theorem wipeB_out {i : Nat} : ∀ {vs : List Nat}, i ∉ vs → (wipeB η vs)[i]? = η[i]?
  | [], _ => rfl
  | v :: vs, h => by
    unfold wipeB
    rw [List.getElem?_set_ne (fun z => h (by simp [z])), wipeB_out fun z => h (List.mem_cons_of_mem _ z)]
theorem wipe_in {i : Nat} (hi : i < σ.length) : ∀ {vs : List Nat}, i ∈ vs → (wipe σ vs)[i]? = some none
  | v :: vs, h => by
    unfold wipe
    by_cases e : v = i
    · subst e
      rw [List.getElem?_set_self (by rw [wipe_length]; exact hi)]
    · rw [List.getElem?_set_ne e]
      exact wipe_in hi ((List.mem_cons.mp h).resolve_left fun z => e z.symm)
theorem wipe_outN {i : Nat} : ∀ {vs : List Nat}, i ∉ vs → (wipe σ vs)[i]? = σ[i]?
  | [], _ => rfl
  | v :: vs, h => by
    unfold wipe
    rw [List.getElem?_set_ne (fun z => h (by simp [z])), wipe_outN fun z => h (List.mem_cons_of_mem _ z)]
theorem restB_len : ∀ vs : List Nat, (restB η0 η vs).length = η.length
  | [] => rfl
  | v :: vs => by
    unfold restB
    split
    · rw [List.length_set, restB_len vs]
    · exact restB_len vs
theorem restB_out {i : Nat} : ∀ {vs : List Nat}, i ∉ vs → (restB η0 η vs)[i]? = η[i]?
  | [], _ => rfl
  | v :: vs, h => by
    unfold restB
    have ih := @restB_out i vs fun z => h (List.mem_cons_of_mem _ z)
    split
    · rw [List.getElem?_set_ne (fun z => h (by simp [z])), ih]
    · exact ih
theorem restB_in {i : Nat} (hl : η0.length = η.length) (hi : i < η.length) : ∀ {vs : List Nat}, i ∈ vs → (restB η0 η vs)[i]? = η0[i]?
  | v :: vs, h => by
    unfold restB
    by_cases e : v = i
    · subst e
      obtain ⟨b, hb⟩ : ∃ b, η0[v]? = some b := ⟨_, List.getElem?_eq_getElem (by rw [hl]; exact hi)⟩
      simp only [hb]
      rw [List.getElem?_set_self (by rw [restB_len]; exact hi)]
    · have ih := restB_in (vs := vs) hl hi ((List.mem_cons.mp h).resolve_left fun z => e z.symm)
      split
      · rw [List.getElem?_set_ne e, ih]
      · exact ih
theorem noObj_at {i m : Nat} {o : OD} (h : noObj η vs = true) (hi : i ∈ vs) (q : η[i]? = some (B.obj m o)) : False := by
  unfold noObj at h
  have := List.all_eq_true.mp h i hi
  rw [q] at this
  cases this
theorem wipe_ows (i : Nat) (a : Addr) (h : Ows (wipe σ vs) (wipeB η vs) i a) : Ows σ η i a ∧ i ∉ vs := by
  obtain ⟨e, m, o, q⟩ := h
  by_cases hi : i ∈ vs
  · by_cases hl : i < η.length
    · rw [wipeB_in hl hi] at q; cases q
    · rw [List.getElem?_eq_none (by rw [wipeB_len]; omega)] at q; cases q
  · rw [wipeB_out hi] at q
    rw [wipe_outN hi] at e
    exact ⟨⟨e, m, o, q⟩, hi⟩
/-- the block's slots forgotten -/
theorem wipe_rel (Rl : Rel K F σ H η) (vs : List Nat) : Rel K F (wipe σ vs) H (wipeB η vs) := by
  refine ⟨by rw [wipeB_len, wipe_length]; exact Rl.len, Rl.dom, fun i b h => ?_, fun i j a h1 h2 => Rl.apart i j a (wipe_ows i a h1).1 (wipe_ows j a h2).1, fun i a h => Rl.loose i a (wipe_ows i a h).1⟩
  by_cases hi : i ∈ vs
  · by_cases hl : i < η.length
    · rw [wipeB_in hl hi] at h; cases h; trivial
    · rw [List.getElem?_eq_none (by rw [wipeB_len]; omega)] at h; cases h
  · rw [wipeB_out hi] at h
    rw [wipe_outN hi]
    exact Rl.slot i b h
/-- .. behind a turn: back to the wiped slots -/
theorem wipe_back {σ0 : L2.St} {H0 : Hp} {F0 : Addr → Prop} {η00 : List B} (s : Stp K F0 (wipe σ0 vs) H0 (wipeB η00 vs) F σ H η) (hw : wipe σ vs = wipe σ0 vs) : Stp K F0 (wipe σ0 vs) H0 (wipeB η00 vs) F (wipe σ0 vs) H (wipeB η vs) ∧ ∀ a, Hold (wipe σ0 vs) (wipeB η vs) a → Hold σ η a := by
  rw [← hw] at s ⊢
  have R' := wipe_rel s.rel vs
  have hold : ∀ a, Hold (wipe σ vs) (wipeB η vs) a → Hold σ η a := fun a h => let ⟨i, h⟩ := h; ⟨i, (wipe_ows i a h).1⟩
  refine ⟨⟨R', s.keep, s.live, s.sub, s.new, fun a h => s.hold a (hold a h), fun a h => ?_, rfl, fun i m o q hm => ?_⟩, hold⟩
  · obtain ⟨i, m, o, e, q, hm⟩ := h
    obtain ⟨⟨e', m', o', q'⟩, hi⟩ := wipe_ows i a ⟨e, m, o, q⟩
    rw [wipeB_out hi] at q
    exact s.own a ⟨i, m, o, e', q, hm⟩
  · obtain ⟨e, o', q', w⟩ := s.prot i m o q hm
    have hi : i ∉ vs := fun hi => by
      by_cases hl : i < η00.length
      · rw [wipeB_in hl hi] at q; cases q
      · rw [List.getElem?_eq_none (by rw [wipeB_len]; omega)] at q; cases q
    exact ⟨rfl, o', by rw [wipeB_out hi]; exact q', w⟩
/-- .. and the slots as they were ahead of the block -/
theorem rest_stp (Rl : Rel K F σ H η) (hn : noObj η vs = true) (s : Stp K F (wipe σ vs) H (wipeB η vs) F1 (wipe σ vs) H1 η1) : Stp K F σ H η F1 σ H1 (restB η η1 vs) ∧ ∀ a, Hold σ (restB η η1 vs) a → Hold (wipe σ vs) η1 a := by
  have hl : η.length = η1.length := by
    have h1 := s.rel.len
    rw [wipe_length] at h1
    rw [Rl.len, h1]
  have Rw := wipe_rel Rl vs
  have ows : ∀ i a, Ows σ (restB η η1 vs) i a → Ows (wipe σ vs) η1 i a ∧ i ∉ vs := fun i a h => by
    obtain ⟨e, m, o, q⟩ := h
    have hi : i < η1.length := by
      have := (List.getElem?_eq_some_iff.mp q).1
      rwa [restB_len] at this
    by_cases hv : i ∈ vs
    · rw [restB_in hl hi hv] at q
      exact (noObj_at hn hv q).elim
    · rw [restB_out hv] at q
      exact ⟨⟨by rw [wipe_outN hv]; exact e, m, o, q⟩, hv⟩
  have own0 : ∀ a, Own (wipe σ vs) (wipeB η vs) a → Own σ η a := fun a h => by
    obtain ⟨i, m, o, e, q, hm⟩ := h
    obtain ⟨⟨e', _, _, _⟩, hi⟩ := wipe_ows i a ⟨e, m, o, q⟩
    rw [wipeB_out hi] at q
    exact ⟨i, m, o, e', q, hm⟩
  have hold0 : ∀ a, Hold (wipe σ vs) (wipeB η vs) a → Hold σ η a := fun a h => let ⟨i, h⟩ := h; ⟨i, (wipe_ows i a h).1⟩
  have kp : Kp F H H1 := fun a o e h => s.keep a o e fun z => by
    obtain ⟨u, e', ns⟩ := Rl.holdSome (own0 a z).hold
    rw [e] at e'
    cases e'
    rcases h with h | h
    · exact Rl.holdF (own0 a z).hold h
    · exact ns h
  refine ⟨⟨⟨by rw [restB_len, ← hl]; exact Rl.len, s.rel.dom, fun i b h => ?_, fun i j a h1 h2 => s.rel.apart i j a (ows i a h1).1 (ows j a h2).1, fun i a h => s.rel.loose i a (ows i a h).1⟩, fun a o e n => s.keep a o e fun z => n (own0 a z), s.live, s.sub, fun a h => ?_, fun a h => ?_, fun a h => ?_, rfl, fun i m o q hm => ?_⟩, fun a h => let ⟨i, h⟩ := h; ⟨i, (ows i a h).1⟩⟩
  · have hi : i < η1.length := by
      have := (List.getElem?_eq_some_iff.mp h).1
      rwa [restB_len] at this
    by_cases hv : i ∈ vs
    · rw [restB_in hl hi hv] at h
      have sl := Rl.slot i b h
      cases b with
      | un => trivial
      | val d => obtain ⟨v, e, dn⟩ := sl; exact ⟨v, e, Dn.mono s.sub kp _ _ dn⟩
      | obj m o => exact (noObj_at hn hv h).elim
      | zl ds => obtain ⟨a, xs, e, h1, h2, h3⟩ := sl; exact ⟨a, xs, e, h1.mono kp, h2, DnAll.mono s.sub kp _ _ h3⟩
    · rw [restB_out hv] at h
      have sl := s.rel.slot i b h
      rw [wipe_outN hv] at sl
      exact sl
  · rcases s.new a h with z | z | z
    · exact .inl z
    · exact .inr (.inl (own0 a z))
    · exact .inr (.inr z)
  · obtain ⟨i, h⟩ := h
    rcases s.hold a ⟨i, (ows i a h).1⟩ with z | z
    · exact .inl (hold0 a z)
    · exact .inr z
  · obtain ⟨i, m, o, e, q, hm⟩ := h
    obtain ⟨⟨e', _, _, _⟩, hv⟩ := ows i a ⟨e, m, o, q⟩
    rw [restB_out hv] at q
    rcases s.own a ⟨i, m, o, e', q, hm⟩ with z | z
    · exact .inl (own0 a z)
    · exact .inr z
  · have hv : i ∉ vs := fun hv => noObj_at hn hv q
    obtain ⟨e, o', q', w⟩ := s.prot i m o (by rw [wipeB_out hv]; exact q) hm
    exact ⟨rfl, o', by rw [restB_out hv]; exact q', w⟩
/-- an object that was not there at the start, and that nothing reaches, may change -/
theorem Stp.touch {F0 : Addr → Prop} {σ0 : L2.St} {H0 : Hp} {D : Addr} (s : Stp K F0 σ0 H0 η0 F σ H η) (hn : H0 D = none) (hs : ∀ u, H D = some u → ¬ Stb u) (nf : ¬ F D) (nh : ¬ Hold σ η D) (u : HO) : Stp K F0 σ0 H0 η0 F σ (upd H D u) η := by
  have kp : Kp F H (upd H D u) := fun a o e h => by
    rw [upd_ne]
    · exact e
    · rintro rfl
      rcases h with h | h
      · exact nf h
      · exact hs _ e h
  have ne : ∀ a, Hold σ η a → a ≠ D := fun a h z => nh (z ▸ h)
  have R := s.rel
  refine ⟨⟨R.len, fun a h => ?_, fun i b h => ?_, R.apart, R.loose⟩, fun a o e n => ?_, fun a o e => ?_, s.sub, s.new, s.hold, s.own, s.lenS, s.prot⟩
  · obtain ⟨o, e⟩ := R.dom a h
    exact ⟨o, kp a o e (.inl h)⟩
  · have sl := R.slot i b h
    cases b with
    | un => trivial
    | val d => obtain ⟨v, e, dn⟩ := sl; exact ⟨v, e, Dn.mono (fun _ h => h) kp _ _ dn⟩
    | obj m o =>
      obtain ⟨a, ea, ob, ow⟩ := R.obj h
      exact ⟨a, by rw [ea]; rfl, ob.mono (fun _ h => h) kp fun u q => by rw [upd_ne (ne a ⟨i, ow⟩)]; exact q⟩
    | zl ds => obtain ⟨a, xs, e, h1, h2, h3⟩ := sl; exact ⟨a, xs, e, h1.mono kp, h2, DnAll.mono (fun _ h => h) kp _ _ h3⟩
  · rw [upd_ne]
    · exact s.keep a o e n
    · rintro rfl
      rw [hn] at e; cases e
  · obtain ⟨o', e'⟩ := s.live a o e
    refine ⟨o', ?_⟩
    rw [upd_ne]
    · exact e'
    · rintro rfl
      rw [hn] at e; cases e
end
theorem Snd.comp {K : Kf} {wi : TI} {fi : IF} {g : TG} {gf : GTF} {ts vs : List Nat} {tt : TT} {c : TF} {te : TE} {fe : EF} (hi : SndI K wi fi) (hg : SndG K g gf ts) (hts : ∀ j ∈ ts, j ∈ vs) (ht : SndT K tt c) (he : Snd K te fe) :
    Snd K (tLc wi g tt te vs) (eComp fi gf c fe vs) := by
  intro F σ H η z η' Rl e Q hQ
  unfold eComp at e
  obtain ⟨⟨ds, lk, η1⟩, e1, e⟩ := Option.bind_eq_some_iff.mp e
  simp only at e
  split at e
  case isFalse => cases e
  rename_i hc
  rw [Bool.and_eq_true] at hc
  obtain ⟨hno, hsz⟩ := hc
  have hsz := of_decide_eq_true hsz
  obtain ⟨⟨acc, ηe⟩, e2, e⟩ := Option.map_eq_some_iff.mp e
  cases e
  refine hi F σ H η ds lk η1 Rl e1 _ fun F1 H1 J s1 hl hJ D hD => ?_
  have Rk := lock_rel s1.rel hl
  have hno' : noObj (lockE lk η1) vs = true := by
    cases lk with
    | none => exact hno
    | some i =>
      obtain ⟨m, o, q, hm⟩ := hl
      unfold lockE
      simp only [q]
      refine List.all_eq_true.mpr fun v hv => ?_
      have n : i ≠ v := fun z => by subst z; exact noObj_at hno hv q
      rw [List.getElem?_set_ne n]
      exact List.all_eq_true.mp hno v hv
  have rest_lock : ∀ {ηx : List B}, (lockE lk η1).length = ηx.length → restB η1 ηx vs = restB (lockE lk η1) ηx vs := fun {ηx} hlen => by
    refine List.ext_getElem? fun j => ?_
    have hl1 : η1.length = (lockE lk η1).length := by
      cases lk with
      | none => rfl
      | some i =>
        show _ = (match η1[i]? with | some (.obj m o) => η1.set i (.obj (m + 2) o) | _ => η1).length
        split <;> simp
    by_cases hj : j < ηx.length
    · by_cases hv : j ∈ vs
      · rw [restB_in (by omega) hj hv, restB_in hlen hj hv]
        cases lk with
        | none => rfl
        | some i =>
          obtain ⟨m, o, q, hm⟩ := hl
          unfold lockE
          simp only [q]
          have n : i ≠ j := fun z => by subst z; exact noObj_at hno hv q
          rw [List.getElem?_set_ne n]
      · rw [restB_out hv, restB_out hv]
    · rw [List.getElem?_eq_none (by rw [restB_len]; omega), List.getElem?_eq_none (by rw [restB_len]; omega)]
  have Rw := wipe_rel Rk vs
  obtain ⟨nfD, nhD⟩ := Rw.fresh hD
  refine ⟨fun i m H2 => m = ds.length - i ∧ i ≤ ds.length ∧ ∃ F2 η2 ac xs, Stp K F1 (wipe σ vs) H1 (wipeB (lockE lk η1) vs) F2 (wipe σ vs) H2 η2 ∧ H2 D = some (.lst xs) ∧ xs.length ≤ i ∧ DnAll K F2 H2 xs ac ∧ ¬ F2 D ∧ ¬ Hold (wipe σ vs) η2 D ∧
      compG gf c fe vs (ds.drop i) ac η2 = some (acc, ηe), ⟨ds.length, by simp, Nat.zero_le _, F1, _, [], [], .alloc Rw hD _, upd_same, Nat.le_refl _, .nil, nfD, nhD, by rw [List.drop_zero]; exact e2⟩, ?_⟩
  rintro i m H2 ⟨rfl, hi', F2, η2, ac, xs, s2, hD2, hx2, dn2, nf2, nh2, e3⟩
  by_cases hlt : i < ds.length
  · -- the walked thing is told of the unwiped state
    have sr := rest_stp Rk hno' s2
    obtain ⟨hgo, hyl⟩ := hJ.go F2 σ H2 _ sr.1 i hlt
    refine .inr ⟨hgo, fun H' => i + 1 ≤ ds.length ∧ ∃ F2 η2 ac xs, Stp K F1 (wipe σ vs) H1 (wipeB (lockE lk η1) vs) F2 (wipe σ vs) H' η2 ∧ H' D = some (.lst xs) ∧ xs.length ≤ i + 1 ∧ DnAll K F2 H' xs ac ∧ ¬ F2 D ∧ ¬ Hold (wipe σ vs) η2 D ∧
      compG gf c fe vs (ds.drop (i + 1)) ac η2 = some (acc, ηe), fun H' h => ⟨ds.length - (i + 1), by omega, rfl, h⟩, fun x H3 hy => ?_⟩
    obtain ⟨d, hd, s3', dn3⟩ := hyl x H3 hy
    -- .. and of the wiped one
    have s3 : Stp K F2 (wipe σ vs) H2 η2 F2 (wipe σ vs) H3 η2 := by
      have R2 := s2.rel
      have hold2 : ∀ a, Hold (wipe σ vs) η2 a → a ∉ ([] : List Addr) := fun _ _ => List.not_mem_nil
      have keep : ∀ a o, H2 a = some o → ¬ Own (wipe σ vs) η2 a → H3 a = some o := fun a o e n => s3'.keep a o e fun z => by
        obtain ⟨j, m, o', ej, q, hm⟩ := z
        have hj : j < η2.length := by
          have := (List.getElem?_eq_some_iff.mp q).1
          rwa [restB_len] at this
        have hl2 : (lockE lk η1).length = η2.length := by
          have h1 := s2.rel.len
          rw [wipe_length] at h1
          rw [Rk.len, h1]
        by_cases hv : j ∈ vs
        · rw [restB_in hl2 hj hv] at q
          exact (noObj_at hno' hv q).elim
        · rw [restB_out hv] at q
          exact n ⟨j, m, o', by rw [wipe_outN hv]; exact ej, q, hm⟩
      have kp : Kp F2 H2 H3 := fun a o e h => keep a o e fun z => by
        obtain ⟨u, e', ns⟩ := R2.holdSome z.hold
        rw [e] at e'
        cases e'
        rcases h with h | h
        · exact R2.holdF z.hold h
        · exact ns h
      refine ⟨⟨R2.len, s3'.rel.dom, fun j b h => ?_, R2.apart, R2.loose⟩, keep, s3'.live, fun _ h => h, fun _ h => .inl h, fun _ h => .inl h, fun _ h => .inl h, rfl, fun _ _ o e _ => ⟨rfl, o, e, fun _ => rfl⟩⟩
      have sl := R2.slot j b h
      cases b with
      | un => trivial
      | val d => obtain ⟨v, e, dn⟩ := sl; exact ⟨v, e, Dn.mono (fun _ h => h) kp _ _ dn⟩
      | zl ds => obtain ⟨a, xs, e, h1, h2, h3⟩ := sl; exact ⟨a, xs, e, h1.mono kp, h2, DnAll.mono (fun _ h => h) kp _ _ h3⟩
      | obj m o =>
        by_cases hv : j ∈ vs
        · -- a wiped slot holds nothing that may be told: its place holds no address
          obtain ⟨a, ea, ob, ow⟩ := R2.obj h
          have hj : j < σ.length := by
            have := (List.getElem?_eq_some_iff.mp ea).1
            rwa [wipe_length] at this
          rw [wipe_in hj hv] at ea
          cases ea
        · have q : (restB (lockE lk η1) η2 vs)[j]? = some (B.obj m o) := by rw [restB_out hv]; exact h
          have z := s3'.rel.slot j _ q
          rw [wipe_outN hv]
          exact z
    have hdr : ds.drop i = d :: ds.drop (i + 1) := by
      rw [List.drop_eq_getElem_cons hlt]
      have := List.getElem?_eq_some_iff.mp hd
      rw [this.2]
    rw [hdr] at e3
    unfold compG at e3
    obtain ⟨η4, e4, e3⟩ := Option.bind_eq_some_iff.mp e3
    obtain ⟨⟨bb, η5⟩, e5, e3⟩ := Option.bind_eq_some_iff.mp e3
    -- D through a step
    have stay : ∀ {Fa Fb : Addr → Prop} {σa σb : L2.St} {Ha Hb : Hp} {ηa ηb : List B} {ys : List V}, Stp K Fa σa Ha ηa Fb σb Hb ηb → Ha D = some (.lst ys) → ¬ Fa D → ¬ Hold σa ηa D → Hb D = some (.lst ys) ∧ ¬ Fb D ∧ ¬ Hold σb ηb D := fun {Fa Fb σa σb Ha Hb ηa ηb ys} s h nf nh => by
      refine ⟨s.keep D _ h fun z => nh z.hold, fun z => ?_, fun z => ?_⟩
      · rcases s.new D z with y | y | y
        · exact nf y
        · exact nh y.hold
        · rw [h] at y; cases y
      · rcases s.hold D z with y | y
        · exact nh y
        · rw [h] at y; cases y
    obtain ⟨hD3, nf3, nh3⟩ := stay s3 hD2 nf2 nh2
    refine hg F2 (wipe σ vs) H3 η2 F2 (wipe σ vs) H3 η2 x (.val d) η4 s3.rel (.refl s3.rel) dn3 trivial e4 _ fun F4 σ4 H4 s4 t4 => ?_
    obtain ⟨hD4, nf4, nh4⟩ := stay s4 hD3 nf3 nh3
    have hw : wipe σ4 vs = wipe σ vs := by
      refine List.ext_getElem? fun j => ?_
      have hl4 : σ4.length = σ.length := by rw [s4.lenS, wipe_length]
      by_cases hv : j ∈ vs
      · by_cases hj : j < σ.length
        · rw [wipe_in (by omega) hv, wipe_in hj hv]
        · rw [List.getElem?_eq_none (by rw [wipe_length]; omega), List.getElem?_eq_none (by rw [wipe_length]; omega)]
      · rw [wipe_outN hv, wipe_outN hv, t4 j fun z => hv (hts j z), wipe_outN hv]
    refine ⟨hw, ht F4 σ4 H4 η4 bb η5 s4.rel e5 _ fun F5 H5 s5 => ?_⟩
    obtain ⟨hD5, nf5, nh5⟩ := stay s5 hD4 nf4 nh4
    have s25 := ((s2.trans s3).trans s4).trans s5
    have dn5 := (((s3.trans s4).trans s5).dnAll s2.rel dn2)
    cases bb with
    | false =>
      obtain ⟨w1, w2⟩ := wipe_back s25 hw
      exact ⟨hlt, F5, _, ac, xs, w1, hD5, by omega, dn5, nf5, fun z => nh5 (w2 _ z), e3⟩
    | true =>
      simp only at e3
      obtain ⟨⟨r, η6⟩, e6, e3⟩ := Option.bind_eq_some_iff.mp e3
      simp only at e3
      refine he F5 σ4 H5 η5 r η6 s5.rel e6 _ fun F6 H6 y s6 r6 f6 => ?_
      obtain ⟨hD6, nf6, nh6⟩ := stay s6 hD5 nf5 nh5
      split at e3
      · rename_i ey
        obtain ⟨w1, w2⟩ := wipe_back (s25.trans s6) hw
        have nh7 : ¬ Hold (wipe σ vs) (wipeB η6 vs) D := fun z => nh6 (w2 _ z)
        have kp : Kp F6 H6 (upd H6 D (.lst (xs ++ [y]))) := fun a o e h => by
          rw [upd_ne]
          · exact e
          · rintro rfl
            rcases h with h | h
            · exact nf6 h
            · rw [hD6] at e; cases e; exact h
        have hlen : xs.length < sizeLine := by omega
        refine ⟨xs, hD6, hlen, hlt, F6, _, ac ++ [ey], xs ++ [y], w1.touch hD (fun u e => by rw [hD6] at e; cases e; exact fun z => z) nf6 nh7 _, upd_same, by rw [List.length_append]; simp; omega, ?_, nf6, nh7, e3⟩
        exact DnAll.mono (fun _ h => h) kp _ _ ((s6.dnAll s5.rel dn5).append (.one r6))
      · cases e3
  · have hi2 : i = ds.length := by omega
    subst hi2
    rw [List.drop_length] at e3
    cases e3
    obtain ⟨sr, hr⟩ := rest_stp Rk hno' s2
    have hstop := hJ.stop F2 σ H2 _ sr
    obtain ⟨su, hu⟩ := unlock_stp s1.rel hl sr
    have hl2 : (lockE lk η1).length = ηe.length := by
      have h1 := s2.rel.len
      rw [wipe_length] at h1
      rw [Rk.len, h1]
    refine .inl ⟨hstop, ?_⟩
    rw [← rest_lock hl2] at su hr hu
    exact hQ F2 H2 (.ref D) (s1.trans su) ⟨D, rfl, nf2, fun z => nh2 (hr D ((hu D).mp z)), xs, hD2, by omega, dn2⟩ fun p ep => by cases ep; exact s1.back hD
section
variable {X : Cx} {elt tg iter : Expr} {ifs : List Expr} {scope : Scope} {own : List (Str × Nat)} {pos spos : Pos} {wi : TI} {fi : IF} {g : TG} {gf : GTF} {ts : List Nat} {tt : TT} {c : TF} {te : TE} {fe : EF}
structure STs (X : Cx) (ifs : List Expr) (t : TT) (f : TF) : Prop where
  pt : PTs X ifs t
  sd : SndT X.K t f
theorem sts_nil : STs X [] tYes tfYes := ⟨pts_nil, by
  intro F σ H η b η' Rl e Q hQ
  cases e
  exact hQ F H (.refl Rl)⟩
theorem sts_one {c : Expr} {t : TT} {f : TF} (h : ST X c t f) : STs X [c] t f := ⟨pts_one h.pt, h.sd⟩
/-- the term that a function of bindings answers for by itself -/
def tE (K : Kf) (f : EF) : TE := fun σ H Q => ∃ F η r η', Rel K F σ H η ∧ f η = some (r, η') ∧ ∀ F' H' v, Stp K F σ H η F' σ H' η' → RV K F' σ H' η' v r → Fresh H v r → Q v H'
def tT (K : Kf) (f : TF) : TT := fun σ H Q => ∃ F η b η', Rel K F σ H η ∧ f η = some (b, η') ∧ ∀ F' H', Stp K F σ H η F' σ H' η' → Q b H'
def tG (K : Kf) (gf : GTF) (ts : List Nat) : TG := fun v σ H Q => ∃ F0 σ0 H0 η0 F η r η', Rel K F0 σ0 H0 η0 ∧ Stp K F0 σ0 H0 η0 F σ H η ∧ RV K F σ H η v r ∧ Fresh H0 v r ∧ gf r η = some η' ∧
  ∀ F' σ' H', Stp K F0 σ0 H0 η0 F' σ' H' η' → (∀ j, j ∉ ts → σ'[j]? = σ[j]?) → Q σ' H'
theorem snd_tE {K : Kf} {f : EF} : Snd K (tE K f) f := fun F σ H η r η' Rl e Q hQ => ⟨F, η, r, η', Rl, e, hQ⟩
theorem snd_tT {K : Kf} {f : TF} : SndT K (tT K f) f := fun F σ H η b η' Rl e Q hQ => ⟨F, η, b, η', Rl, e, hQ⟩
theorem snd_tG {K : Kf} {gf : GTF} {ts : List Nat} : SndG K (tG K gf ts) gf ts := fun F0 σ0 H0 η0 F σ H η v r η' Rl s rv fr e Q hQ => ⟨F0, σ0, H0, η0, F, η, r, η', Rl, s, rv, fr, e, hQ⟩
theorem SE.can {e : Expr} {t : TE} {f : EF} (h : SE X e t f) : SE X e (tE X.K f) f := by
  refine ⟨⟨fun pins s σ H Q I q => ?_⟩, snd_tE⟩
  obtain ⟨F, η, r, η', Rl, e, q⟩ := q
  exact h.pe.run pins s σ H Q I (h.sd F σ H η r η' Rl e Q q)
theorem STs.can {es : List Expr} {t : TT} {f : TF} (h : STs X es t f) : STs X es (tT X.K f) f := by
  refine ⟨⟨fun pins s σ H Q I q => ?_⟩, snd_tT⟩
  obtain ⟨F, η, r, η', Rl, e, q⟩ := q
  exact h.pt.run pins s σ H Q I (h.sd F σ H η r η' Rl e Q q)
theorem SG.can {e : Expr} {t : TG} {f : GTF} {ts : List Nat} (h : SG X e t f ts) : SG X e (tG X.K f ts) f ts := by
  refine ⟨⟨fun pins s σ H v u Q I rv q => ?_⟩, snd_tG⟩
  obtain ⟨F0, σ0, H0, η0, F, η, r, η', Rl, st, rv2, fr, e, q⟩ := q
  exact h.pg.run pins s σ H v u Q I rv (h.sd F0 σ0 H0 η0 F σ H η v r η' Rl st rv2 fr e Q q)
section
variable (hc : X.calm = true) (hN : X.N.Nodup) (hi : SI X tg iter wi fi) (ok : BlkOk X.N X.env.scope scope own)
    (hg : ∀ (s : Shared) (H : Hp) (C : Addr) (cl : List (Str × Addr)) (fp : List Addr), ∃ g, SG (X.blk s H scope (compEnvC scope cl C X.env) fp) tg g gf ts)
    (ht : ∀ (s : Shared) (H : Hp) (C : Addr) (cl : List (Str × Addr)) (fp : List Addr), ∃ tt, STs (X.blk s H scope (compEnvC scope cl C X.env) fp) ifs tt c)
    (he : ∀ (s : Shared) (H : Hp) (C : Addr) (cl : List (Str × Addr)) (fp : List Addr), ∃ te, SE (X.blk s H scope (compEnvC scope cl C X.env) fp) elt te fe)
include hc hN hi ok hg ht he
theorem se_lc (hts : ∀ j ∈ ts, j ∈ own.map (·.2)) (hs : ∀ x, foldedSetIterable iter X.env x = pure x := by intro _; rfl) :
    SE X (.ListComp elt [⟨tg, iter, ifs, 0⟩] scope pos) (tLc wi (tG X.K gf ts) (tT X.K c) (tE X.K fe) (own.map (·.2))) (eComp fi gf c fe (own.map (·.2))) :=
  ⟨pe_lc hc hN hi.pi ok (fun a b c d e => (hg a b c d e).elim fun _ h => h.can.pg) (fun a b c d e => (ht a b c d e).elim fun _ h => h.can.pt) (fun a b c d e => (he a b c d e).elim fun _ h => h.can.pe) hs,
   .comp hi.sd snd_tG hts snd_tT snd_tE⟩
theorem ss_setLc (i : Nat) {y : Str} {py : Pos} (hy : X.N[i]? = some y) (hyl : X.env.scope.names.lookup y = some .local)
    (hsw : swapsWith (.ListComp elt [⟨tg, iter, ifs, 0⟩] scope pos) (some (.Name y py)) spos.line X.env = pure true) (hts : ∀ j ∈ ts, j ∈ own.map (·.2)) (hs : ∀ x, foldedSetIterable iter X.env x = pure x := by intro _; rfl) :
    SS X (.Assign [.Name y py] (.ListComp elt [⟨tg, iter, ifs, 0⟩] scope pos) spos) (tAsg (tLc wi (tG X.K gf ts) (tT X.K c) (tE X.K fe) (own.map (·.2))) (gName i)) (sAsg (eComp fi gf c fe (own.map (·.2))) (gNm i)) :=
  ⟨ps_setLc hc hN hy hyl hsw hi.pi ok (fun a b c d e => (hg a b c d e).elim fun _ h => h.can.pg) (fun a b c d e => (ht a b c d e).elim fun _ h => h.can.pt) (fun a b c d e => (he a b c d e).elim fun _ h => h.can.pe) hs,
   .asg (.comp hi.sd snd_tG hts snd_tT snd_tE) (.name i)⟩
end
end
end PV

/-! PV7: op=; a, b = x, y; methods of lists; isinstance. -/
namespace PV
open PySem PySem.Spec PyProof.Rows L2

/-! ### names op= value -/
def rIAdd (K : Kf) : R2 := fun x y H Q => rI0 (fun i j => .int (i + j)) x y H Q ∨ (fun x y H Q => (∃ i j, x = .str i ∧ y = .str j ∧ i.length + j.length ≤ sizeLine ∧ Q (.str (i ++ j)) H) ∨ (fun x y H Q => rCatA K x y H Q ∨ rExt2 x y H Q) x y H Q) x y H Q
theorem noI_tuple_add : typeLookup (.type "tuple") (dunderI "add") = pure none := by rw [typeLookup_type, builtinLookup_eq_fast]; kernel_rfl
theorem icat_tup {prog : Program} {w : World} {A : Around} {E : Value → Shared → Prop} {s : Shared} {t b : Addr} {vs ws : List Value} {Q : Value → Shared → Prop} (ht : IsTup s.heap t vs.toArray) (hb : IsTup s.heap b ws.toArray)
    (h0 : vs = [] → Q (.ref b) s) (h1 : vs ≠ [] → ws = [] → Q (.ref t) s) (h2 : vs ≠ [] → ws ≠ [] → Q (.ref s.heap.objs.size) { s with heap := s.heap.push { cls := .type "tuple", data := .seq (vs ++ ws).toArray } })
    (hsz : vs.length + ws.length ≤ sizeLine) : wpAny (model prog w) A (inplaceOp .Add (.ref t) (.ref b)) Q E s := by
  obtain ⟨⟨cls, dd, data, sl⟩, ho, hc, n, hd⟩ := id ht
  obtain ⟨⟨cls2, dd2, data2, sl2⟩, ho2, hc2, n2, hd2⟩ := id hb
  simp only at hc hd hc2 hd2
  subst hc hd hc2 hd2
  have e : vs.toArray ++ ws.toArray = (vs ++ ws).toArray := by simp
  refine wpAny_inplaceOp_concat ⟨_, ho, rfl⟩ ⟨_, ho2, rfl⟩ noI_tuple_add noFill_tuple_add seq_tuple_add ?_
  by_cases hv : vs = []
  · subst hv
    exact call_meets PySem.F.slot_tuple_add ⟨_, ho, rfl⟩ PySem.F.entry_tuple_add (PySem.F.args_tuple_add_2 _ _) (tuple_addW0 t b ([] : List Value).toArray ws.toArray n n2 dd dd2 sl sl2 (by simp)) ⟨ho, ho2, h0 rfl⟩
  · by_cases hw : ws = []
    · exact call_meets PySem.F.slot_tuple_add ⟨_, ho, rfl⟩ PySem.F.entry_tuple_add (PySem.F.args_tuple_add_2 _ _)
        (tuple_addW1 t b vs.toArray ws.toArray n n2 dd dd2 sl sl2 (by simpa using hv) (by simp [hw])) ⟨ho, ho2, h1 hv hw⟩
    · refine call_meets PySem.F.slot_tuple_add ⟨_, ho, rfl⟩ PySem.F.entry_tuple_add (PySem.F.args_tuple_add_2 _ _)
        (tuple_addW2 t b vs.toArray ws.toArray n n2 dd dd2 sl sl2 (by simpa using hv) (by simpa using hw) (by rw [List.size_toArray, List.size_toArray]; exact hsz)) ⟨ho, ho2, ?_⟩
      rw [e]
      exact h2 hv hw
theorem iop_catA {X : Cx} : OpR X (inplaceOp .Add) (rCatA X.K) := by
  intro pins s σ H x y v u Q I rx ry h
  obtain ⟨a, b, xs, ys, rfl, rfl, ha, hb, hz, q0, q1, q2⟩ := h
  cases rx
  cases ry
  obtain ⟨its, r1, p1, _⟩ := I.tuple ha
  obtain ⟨its2, r2, p2, _⟩ := I.tuple hb
  have n1 := r1.nil_iff
  have n2 := r2.nil_iff
  refine icat_tup p1 p2 (fun z => ⟨.ref b, H, I, rfl, q0 (n1.mp z)⟩) (fun z z' => ⟨.ref a, H, I, rfl, q1 (fun y => z (n1.mpr y)) (n2.mp z')⟩) (fun z z' => ?_) (by rw [← r1.length, ← r2.length]; exact hz)
  refine ⟨.ref s.heap.objs.size, _, I.laid (t' := s.toks) (o := .tup (xs ++ ys)) (fun b ob q => Heap.get?_push_of_some _ q) (Nat.le_refl _) ?_, rfl, q2 (fun y => z (n1.mpr y)) (fun y => z' (n2.mpr y)) _ (I.hok.fresh (Nat.le_refl _))⟩
  exact ⟨by rw [List.length_append]; exact hz, _, r1.append r2, IsTup.new _ _⟩
theorem ip_addA {X : Cx} : PIp X .Add (rIAdd X.K) := iop_add.or (iop_add_str.or (iop_catA.or iop_ext))
def gIAdd : G2 := fun x y η => match intAdd x y η with
  | some z => some z
  | none => match gStrCat x y η with
    | some z => some z
    | none => gTupCat x y η
@[simp] def sAug (i : Nat) (g : G2) (fe : EF) : SF := fun η => match η[i]? with
  | some (.val d) => (fe η).bind fun p => (g (.val d) p.1 p.2).bind fun z => (storeB i z p.2).map .nx
  | some (.obj _ _) => (fe η).bind fun p => match p.2[i]?, lstOf p.2 p.1 with
    | some (.obj m (.lst ds)), some es => if m < 2 ∧ ds.length + es.length ≤ sizeLine then some (.nx (p.2.set i (.obj m (.lst (ds ++ es))))) else none
    | _, _ => none
  | _ => none
section
variable {K : Kf} {te : TE} {fe : EF}
theorem SndS.aug (i : Nat) {ti : TIp} {g : G2} (hg : OpS K ti g) (he : ∀ x y H Q, rExt2 x y H Q → ti x y H Q) (h : Snd K te fe) : SndS K (tAug i te ti) (sAug i g fe) := by
  intro F σ H η o Rl e D hD
  unfold sAug at e
  split at e
  · rename_i d q
    obtain ⟨v, hv, dn⟩ := Rl.val q
    obtain ⟨⟨y, η1⟩, e1, e⟩ := Option.bind_eq_some_iff.mp e
    obtain ⟨z, e2, e⟩ := Option.bind_eq_some_iff.mp e
    obtain ⟨η2, e3, e⟩ := Option.map_eq_some_iff.mp e
    cases e
    refine ⟨v, hv, h F σ H η y η1 Rl e1 _ fun F1 H1 w s1 r1 f1 => ?_⟩
    have dv : RV K F1 σ H1 η1 v (.val d) := s1.dn Rl dn
    refine hg F1 σ H1 η1 (.val d) y z v w s1.rel dv r1 e2 _ fun H2 u s2 r2 f2 => ?_
    obtain ⟨F2, s3⟩ := store_ok (s1.trans s2) r2 (f2.back s1) e3
    exact hD F2 _ H2 s3
  · rename_i m0 o0 q
    obtain ⟨a, ha, ob, ow⟩ := Rl.obj q
    obtain ⟨⟨y, η1⟩, e1, e⟩ := Option.bind_eq_some_iff.mp e
    refine ⟨.ref a, ha, h F σ H η y η1 Rl e1 _ fun F1 H1 w s1 r1 f1 => ?_⟩
    simp only at e
    split at e
    · rename_i m ds es q1 e2
      split at e
      · rename_i hc
        cases e
        obtain ⟨a', ea, ⟨xs, h1, h2, h3⟩, ow1⟩ := s1.rel.obj q1
        rw [ha] at ea
        cases ea
        obtain ⟨b, ys, rfl, p1, p2, p3⟩ := lstOf_ok s1.rel r1 e2
        have hl : xs.length + ys.length ≤ sizeLine := by rw [h3.length, p3.length]; exact hc.2
        refine he _ _ _ _ ⟨a, b, xs, ys, rfl, rfl, h1, p1, hl, ?_⟩
        have w := s1.rel.writeL ha q1 hc.1 (by rw [List.length_append]; exact hl) (h3.append p3)
        have e0 : σ.set i (some (V.ref a)) = σ := by
          refine List.ext_getElem? fun j => ?_
          by_cases n : i = j
          · subst n
            rw [List.getElem?_set_self (List.getElem?_eq_some_iff.mp ha).1, ha]
          · rw [List.getElem?_set_ne n]
        show D.nx (σ.set i (some (V.ref a))) _
        rw [e0]
        exact hD F1 σ _ (s1.trans w)
      · cases e
    · cases e
  · cases e
end
theorem opS_iAdd {K : Kf} : OpS K (rIAdd K) gIAdd := by
  intro F σ H η x y z v w Rl rv rw' e Q hQ
  unfold gIAdd at e
  split at e
  · rename_i z' q
    cases e
    exact .inl (opS_I0 (fun _ _ _ _ => .int _) F σ H η x y _ v w Rl rv rw' q Q hQ)
  · split at e
    · rename_i z' q
      cases e
      exact .inr (.inl (opS_strCat F σ H η x y _ v w Rl rv rw' q Q hQ))
    · exact .inr (.inr (.inl (opS_tupCat F σ H η x y _ v w Rl rv rw' e Q hQ)))
def rISub : R2 := fun x y H Q => rI0 (fun i j => .int (i - j)) x y H Q ∨ rExt2 x y H Q
theorem ip_mulA {X : Cx} : PIp X .Mult (rI CMulA fun i j => .int (i * j)) := opI fun _ _ _ _ _ _ _ hc q => imul_int q (hc.elim (fun h => h.ok) fun h => h.ok)
section
variable {X : Cx} {x : Str} {e : Expr} {te : TE} {fe : EF} {pos pos' : Pos}
theorem ss_augAdd (i : Nat) (hN : X.N.Nodup) (hi : X.N[i]? = some x) (hx : Loc X.env.scope x) (he : SE X e te fe) (hf : X.fn x = true ∨ X.env.scope.names.lookup x = some .local := by first | exact .inl rfl | exact .inr rfl | assumption) :
    SS X (.AugAssign (.Name x pos') .Add e pos) (tAug i te (rIAdd X.K)) (sAug i gIAdd fe) := ⟨ps_aug hN hi hx he.pe ip_addA hf, .aug i opS_iAdd (fun _ _ _ _ h => .inr (.inr (.inr h))) he.sd⟩
/-- x op= e, ints -/
@[simp] def sAugI (i : Nat) (C : Int → Int → Bool) (f : Int → Int → Int) (fe : EF) : SF := fun η => match η[i]? with
  | some (.val (.int a)) => (fe η).bind fun p => match p.1 with
    | .val (.int b) => if C a b = true then (storeB i (.val (.int (f a b))) p.2).map .nx else none
    | _ => none
  | _ => none
theorem SndS.augI {K : Kf} (i : Nat) {C : Int → Int → Prop} {Cb : Int → Int → Bool} (hC : ∀ i j, Cb i j = true → C i j) (f : Int → Int → Int) (h : Snd K te fe) : SndS K (tAug i te (rI C fun i j => .int (f i j))) (sAugI i Cb f fe) := by
  intro F σ H η o Rl e D hD
  unfold sAugI at e
  split at e
  · rename_i a q
    obtain ⟨v, hv, dn⟩ := Rl.val q
    cases int_dn dn
    obtain ⟨⟨y, η1⟩, e1, e⟩ := Option.bind_eq_some_iff.mp e
    refine ⟨_, hv, h F σ H η y η1 Rl e1 _ fun F1 H1 w s1 r1 f1 => ?_⟩
    simp only at e
    split at e
    · rename_i b
      split at e
      · rename_i c
        obtain ⟨η2, e3, e⟩ := Option.map_eq_some_iff.mp e
        cases e
        cases int_dn r1
        refine ⟨a, b, rfl, rfl, hC a b c, ?_⟩
        obtain ⟨F2, s3⟩ := store_ok (v := .int (f a b)) s1 (show RV K F1 σ H1 η1 _ (.val (.int (f a b))) from .int _) trivial e3
        exact hD F2 _ H1 s3
      · cases e
    · cases e
  · cases e
theorem ip_subA {X : Cx} : PIp X .Sub (rI (fun _ _ => True) fun i j => .int (i - j)) := opI fun _ _ _ _ _ _ _ hc q => isub_int q
theorem ss_augSub (i : Nat) (hN : X.N.Nodup) (hi : X.N[i]? = some x) (hx : Loc X.env.scope x) (he : SE X e te fe) (hf : X.fn x = true ∨ X.env.scope.names.lookup x = some .local := by first | exact .inl rfl | exact .inr rfl | assumption) :
    SS X (.AugAssign (.Name x pos') .Sub e pos) (tAug i te (rI (fun _ _ => True) fun i j => .int (i - j))) (sAugI i (fun _ _ => true) (· - ·) fe) := ⟨ps_aug hN hi hx he.pe ip_subA hf, .augI i (fun _ _ _ => trivial) _ he.sd⟩
theorem ss_augMul (i : Nat) (hN : X.N.Nodup) (hi : X.N[i]? = some x) (hx : Loc X.env.scope x) (he : SE X e te fe) (hf : X.fn x = true ∨ X.env.scope.names.lookup x = some .local := by first | exact .inl rfl | exact .inr rfl | assumption) :
    SS X (.AugAssign (.Name x pos') .Mult e pos) (tAug i te (rI CMulA fun i j => .int (i * j))) (sAugI i mulOk (· * ·) fe) := ⟨ps_aug hN hi hx he.pe ip_mulA hf, .augI i mulOk_ok _ he.sd⟩
end

/-! ### a, b = x, y -/
@[simp] def sPar (i j : Nat) (fa : AF) : SF := fun η => (fa η).bind fun p => match p.1 with
  | [.val c, .val d] => (storeB i (.val c) p.2).bind fun η1 => (storeB j (.val d) η1).map .nx
  | _ => none
theorem store_val {K : Kf} {F0 F : Addr → Prop} {σ0 σ : L2.St} {H0 H : Hp} {η0 η η2 : List B} {v : V} {d : D} {i : Nat} (s : Stp K F0 σ0 H0 η0 F σ H η) (rv : Dn K F H v d) (e : storeB i (.val d) η = some η2) : Stp K F0 σ0 H0 η0 F (σ.set i (some v)) H η2 := by
  unfold storeB at e
  split at e
  · cases e
  · rename_i hp
    cases e
    exact s.setSlot (by simpa using hp) ⟨v, rfl, rv⟩ fun m o z => by cases z
theorem SndS.par {K : Kf} (i j : Nat) {ta : TA} {fa : AF} (h : SndA K ta fa) : SndS K (tPar i j ta) (sPar i j fa) := by
  intro F σ H η o Rl e D hD
  unfold sPar at e
  obtain ⟨⟨rs, η1⟩, e1, e⟩ := Option.bind_eq_some_iff.mp e
  refine h F σ H η rs η1 Rl e1 _ fun F1 H1 vs s1 r1 => ?_
  simp only at e
  split at e
  · rename_i c d
    obtain ⟨v, w, rfl, r2, r3⟩ := r1.two
    obtain ⟨η2, e2, e⟩ := Option.bind_eq_some_iff.mp e
    obtain ⟨η3, e3, e⟩ := Option.map_eq_some_iff.mp e
    cases e
    exact ⟨v, w, rfl, hD F1 _ H1 (store_val (store_val s1 r2 e2) r3 e3)⟩
  · cases e
@[simp] def sPar3 (i j l : Nat) (fa : AF) : SF := fun η => (fa η).bind fun p => match p.1 with
  | [.val c, .val d, .val e] => (storeB i (.val c) p.2).bind fun η1 => (storeB j (.val d) η1).bind fun η2 => (storeB l (.val e) η2).map .nx
  | _ => none
theorem RVs.three {K : Kf} {F : Addr → Prop} {σ : L2.St} {H : Hp} {η : List B} {vs : List V} {r q p : PV.R} (h : RVs K F σ H η vs [r, q, p]) : ∃ u v w, vs = [u, v, w] ∧ RV K F σ H η u r ∧ RV K F σ H η v q ∧ RV K F σ H η w p := by
  cases h with
  | cons h1 h2 =>
    obtain ⟨v, w, rfl, h3, h4⟩ := h2.two
    exact ⟨_, v, w, rfl, h1, h3, h4⟩
theorem SndS.par3 {K : Kf} (i j l : Nat) {ta : TA} {fa : AF} (h : SndA K ta fa) : SndS K (tPar3 i j l ta) (sPar3 i j l fa) := by
  intro F σ H η o Rl e D hD
  unfold sPar3 at e
  obtain ⟨⟨rs, η1⟩, e1, e⟩ := Option.bind_eq_some_iff.mp e
  refine h F σ H η rs η1 Rl e1 _ fun F1 H1 vs s1 r1 => ?_
  simp only at e
  split at e
  · rename_i c d e'
    obtain ⟨u, v, w, rfl, r2, r3, r4⟩ := r1.three
    obtain ⟨η2, e2, e⟩ := Option.bind_eq_some_iff.mp e
    obtain ⟨η3, e3, e⟩ := Option.bind_eq_some_iff.mp e
    obtain ⟨η4, e4, e⟩ := Option.map_eq_some_iff.mp e
    cases e
    exact ⟨u, v, w, rfl, hD F1 _ H1 (store_val (store_val (store_val s1 r2 e2) r3 e3) r4 e4)⟩
  · cases e

/-! ### methods of lists that are written -/
def Wm (K : Kf) (r : V → List V → Hp → VK → Prop) (g : List D → List D → Option (D × List D)) : Prop := ∀ F H a xs ds vs es d ds', H a = some (.lst xs) → xs.length ≤ sizeLine → DnAll K F H xs ds → DnAll K F H vs es → g ds es = some (d, ds') → ∀ Q : VK,
  (∀ v ys, ys.length ≤ sizeLine → Dn K F H v d → DnAll K F H ys ds' → Q v (upd H a (.lst ys))) → r (.ref a) vs H Q
@[simp] def eMt0 (g : List D → List D → Option (D × List D)) (fo : EF) : EF := fun η => (fo η).bind fun p => (ownL p.2 p.1).bind fun w => (g w.2.2 []).map fun q => (.val q.1, p.2.set w.1 (.obj w.2.1 (.lst q.2)))
@[simp] def eMt (g : List D → List D → Option (D × List D)) (fo : EF) (fa : AF) : EF := fun η => (fo η).bind fun p => (ownL p.2 p.1).bind fun _ => (fa p.2).bind fun q => (valsOf q.1).bind fun es => (ownL q.2 p.1).bind fun w => (g w.2.2 es).map fun z => (.val z.1, q.2.set w.1 (.obj w.2.1 (.lst z.2)))
section
variable {K : Kf} {r : V → List V → Hp → VK → Prop} {g : List D → List D → Option (D × List D)} {to : TE} {fo : EF} {t : TA} {fa : AF}
theorem dn_upd {F : Addr → Prop} {H : Hp} {a : Addr} {xs : List V} {u : HO} (h : H a = some (.lst xs)) (nf : ¬ F a) : Kp F H (upd H a u) := fun b x e z => by
  rw [upd_ne]
  · exact e
  · rintro rfl
    rcases z with z | z
    · exact nf z
    · rw [h] at e; cases e; exact z
theorem Snd.mt0 (hr : Wm K r g) (ho : Snd K to fo) : Snd K (tBM0 K "list" r to) (eMt0 g fo) := by
  intro F σ H η z η' Rl e Q hQ
  unfold eMt0 at e
  obtain ⟨⟨x, η1⟩, e1, e⟩ := Option.bind_eq_some_iff.mp e
  obtain ⟨⟨i, m, ds⟩, e2, e⟩ := Option.bind_eq_some_iff.mp e
  obtain ⟨⟨d, ds'⟩, e3, e⟩ := Option.map_eq_some_iff.mp e
  cases e
  refine ho F σ H η x η1 Rl e1 _ fun F1 H1 v s1 r1 f1 => ?_
  obtain ⟨a, xs, rfl, hσ, q, hm, h1, h2, h3⟩ := ownL_ok s1.rel r1 e2
  have nf : ¬ F1 a := s1.rel.loose i a ⟨hσ, m, _, q⟩
  refine ⟨.inl ⟨rfl, xs, SqL.of h1⟩, hr F1 H1 a xs ds [] [] d ds' h1 h2 h3 .nil e3 Q fun v ys hl dv dys => ?_⟩
  have w := s1.rel.writeL hσ q hm hl dys
  exact hQ F1 _ v (s1.trans w) (Dn.mono (fun _ h => h) (dn_upd h1 nf) _ _ dv) trivial
theorem Snd.mt (hr : Wm K r g) (ho : Snd K to fo) (ha : SndA K t fa) : Snd K (tBM K "list" r to t) (eMt g fo fa) := by
  intro F σ H η z η' Rl e Q hQ
  unfold eMt at e
  obtain ⟨⟨x, η1⟩, e1, e⟩ := Option.bind_eq_some_iff.mp e
  obtain ⟨w0, e2, e⟩ := Option.bind_eq_some_iff.mp e
  obtain ⟨⟨rs, η2⟩, e3, e⟩ := Option.bind_eq_some_iff.mp e
  obtain ⟨es, e4, e⟩ := Option.bind_eq_some_iff.mp e
  obtain ⟨⟨i, m, ds⟩, e5, e⟩ := Option.bind_eq_some_iff.mp e
  obtain ⟨⟨d, ds'⟩, e6, e⟩ := Option.map_eq_some_iff.mp e
  cases e
  refine ho F σ H η x η1 Rl e1 _ fun F1 H1 v s1 r1 f1 => ?_
  obtain ⟨i0, m0, ds0⟩ := w0
  obtain ⟨a0, xs0, rfl, _, _, _, h0, _, _⟩ := ownL_ok s1.rel r1 e2
  refine ⟨.inl ⟨rfl, xs0, SqL.of h0⟩, ha F1 σ H1 η1 rs η2 s1.rel e3 _ fun F2 H2 vs s2 rv => ?_⟩
  obtain ⟨a, xs, ea, hσ, q, hm, h1, h2, h3⟩ := ownL_ok s2.rel (r1.step s1.rel s2) e5
  cases ea
  have nf : ¬ F2 a0 := s2.rel.loose i a0 ⟨hσ, m, _, q⟩
  refine hr F2 H2 a0 xs ds vs es d ds' h1 h2 h3 (valsOf_ok rv e4) e6 Q fun v ys hl dv dys => ?_
  have w := s2.rel.writeL hσ q hm hl dys
  exact hQ F2 _ v ((s1.trans s2).trans w) (Dn.mono (fun _ h => h) (dn_upd h1 nf) _ _ dv) trivial
@[simp] def mPop : List D → List D → Option (D × List D) := fun ds es => match es with
  | [] => ds.getLast?.map fun d => (d, ds.dropLast)
  | _ => none
theorem wm_pop : Wm K rPop mPop := by
  intro F H a xs ds vs es d ds' h hl hd hv e Q hQ
  unfold mPop at e
  split at e
  · cases hv
    obtain ⟨d', e1, e2⟩ := Option.map_eq_some_iff.mp e
    cases e2
    rw [List.getLast?_eq_getElem?, ← hd.length] at e1
    obtain ⟨v, hv, dv⟩ := hd.get' e1
    exact ⟨a, xs, v, rfl, rfl, h, hv, hQ v _ (by rw [List.length_dropLast]; omega) dv hd.dropLast⟩
  · cases e
@[simp] def mAppend : List D → List D → Option (D × List D) := fun ds es => match es with
  | [d] => if ds.length < sizeLine then some (.none, ds ++ [d]) else none
  | _ => none
theorem wm_append : Wm K rAppend mAppend := by
  intro F H a xs ds vs es d ds' h hl hd hv e Q hQ
  unfold mAppend at e
  split at e
  · split at e
    · rename_i c
      cases e
      cases hv with
      | cons h1 h2 =>
        cases h2
        have hx : xs.length < sizeLine := by rw [hd.length]; exact c
        exact ⟨a, xs, _, rfl, rfl, h, hx, hQ _ _ (by rw [List.length_append]; exact hx) .non (hd.append (.one h1))⟩
    · cases e
  · cases e
@[simp] def mReverse : List D → List D → Option (D × List D) := fun ds es => match es with
  | [] => some (.none, ds.reverse)
  | _ => none
theorem wm_reverse : Wm K rReverse mReverse := by
  intro F H a xs ds vs es d ds' h hl hd hv e Q hQ
  unfold mReverse at e
  split at e
  · cases e
    cases hv
    exact ⟨a, xs, rfl, rfl, h, hQ _ _ (by rw [List.length_reverse]; exact hl) .non hd.reverse⟩
  · cases e
def mPopAt : List D → List D → Option (D × List D) := fun ds es => match es with
  | [.int i] => if (decide (-(2 ^ 63) ≤ i) && decide (i < 2 ^ 63)) = true then (seqIndex? i ds.length).bind fun k => ds[k]?.map fun d => (d, ds.eraseIdx k) else none
  | _ => none
theorem wm_popAt : Wm K rPopAt mPopAt := by
  intro F H a xs ds vs es d ds' h hl hd hv e Q hQ
  unfold mPopAt at e
  split at e
  · split at e
    · rename_i i c
      simp only [Bool.and_eq_true, decide_eq_true_eq] at c
      obtain ⟨k, e1, e⟩ := Option.bind_eq_some_iff.mp e
      obtain ⟨d', e2, e⟩ := Option.map_eq_some_iff.mp e
      cases e
      cases hv with
      | cons h1 h2 =>
        cases h2
        cases int_dn h1
        obtain ⟨v, hv, dv⟩ := hd.get' e2
        exact ⟨a, xs, i, k, v, rfl, rfl, h, c.1, c.2, by rw [hd.length]; exact e1, hv, hQ v _ (Nat.le_trans (len_erase xs k) hl) dv (hd.eraseIdx k)⟩
    · cases e
  · cases e
def mRemove : List D → List D → Option (D × List D) := fun ds es => match es with
  | [.int k] => (intsOf ds).bind fun is => match is.idxOf? k with
    | some j => some (.none, ds.eraseIdx j)
    | none => none
  | _ => none
theorem erase_mapV : ∀ (is : List Int) (j : Nat), (is.map V.int).eraseIdx j = (is.eraseIdx j).map V.int
  | [], j => by simp
  | a :: r, 0 => by simp
  | a :: r, j + 1 => by
    have ih := erase_mapV r j
    simp [ih]
theorem idx_first {is : List Int} {k : Int} {j : Nat} (e : is.idxOf? k = some j) : is[j]? = some k ∧ ∀ m : Nat, m < j → is[m]? ≠ some k := by
  unfold List.idxOf? at e
  obtain ⟨h1, h2, h3⟩ := List.findIdx?_eq_some_iff_getElem.mp e
  refine ⟨by rw [List.getElem?_eq_getElem h1]; simpa using h2, fun m hm z => ?_⟩
  have := h3 m hm
  obtain ⟨q1, q2⟩ := List.getElem?_eq_some_iff.mp z
  simp [q2] at this
theorem wm_remove : Wm K rRemI mRemove := by
  intro F H a xs ds vs es d ds' h hl hd hv e Q hQ
  unfold mRemove at e
  split at e
  · rename_i k
    obtain ⟨is, e1, e⟩ := Option.bind_eq_some_iff.mp e
    split at e
    · rename_i j e2
      cases e
      cases hv with
      | cons h1 h2 =>
        cases h2
        cases int_dn h1
        have ex := intsOf_ok hd e1
        obtain ⟨i1, i2⟩ := idx_first e2
        refine ⟨a, is, k, j, rfl, rfl, by rw [h, ex], i1, i2, ?_⟩
        have e3 : (is.eraseIdx j).map V.int = xs.eraseIdx j := by rw [ex, erase_mapV]
        rw [e3]
        exact hQ .non _ (Nat.le_trans (len_erase xs j) hl) .non (hd.eraseIdx j)
    · cases e
  · cases e
end
section
variable {X : Cx} {o e : Expr} {es : List Expr} {to : TE} {fo : EF} {t : TA} {fa : AF} {name : Str} {apos cpos : Pos} {id : String} {r : V → List V → Hp → VK → Prop} {g : List D → List D → Option (D × List D)}
theorem se_mt0 (slot : Slot "list" name id) (hty : typeOf (.builtin id) = pure (.type "method_descriptor")) (hm : MtR X id r) (hw : Wm X.K r g) (ho : SE X o to fo)
    (hbase : attributeBase o name X.env (eval o X.env) = eval o X.env := by rfl) (hline : (apos.endLine == cpos.line) = true := by rfl) : SE X (.Call (.Attribute o name apos) [] [] cpos) (tBM0 X.K "list" r to) (eMt0 g fo) :=
  ⟨pe_bm0 PySem.F.plainAttrs_list slot hty hm ho.pe hbase hline, .mt0 hw ho.sd⟩
theorem se_mt (slot : Slot "list" name id) (hty : typeOf (.builtin id) = pure (.type "method_descriptor")) (hm : MtR X id r) (hw : Wm X.K r g) (ho : SE X o to fo) (ha : SA X (e :: es) t fa)
    (hbase : attributeBase o name X.env (eval o X.env) = eval o X.env := by rfl)
    (hfew : ((backTo cpos (starEach (e :: es) X.env)).all (fun x => !x.1) && (backToKw cpos (keywordEach [] X.env)).all (fun x => x.1.isSome)
      && decide ((e :: es).length + ([] : List Keyword).length + (if ([] : List Keyword).isEmpty then 0 else 1) < 30)) = true := by rfl)
    (hline : (apos.endLine == cpos.line) = true := by rfl) (hs : starEach (e :: es) X.env = (false, eval e X.env) :: starEach es X.env := by rfl) (hplain : (backTo cpos (starEach es X.env)).any (·.1) = false := by rfl) :
    SE X (.Call (.Attribute o name apos) (e :: es) [] cpos) (tBM X.K "list" r to t) (eMt g fo fa) :=
  ⟨pe_bm PySem.F.plainAttrs_list slot hty hm ho.pe ha.pa hbase hfew hline hs hplain, .mt hw ho.sd ha.sd⟩
theorem ss_par (i j : Nat) {x y : Str} {a b : Expr} {px py pt pos : Pos} {kt k2 pt2} (hc : X.calm = true) (hN : X.N.Nodup) (hi : X.N[i]? = some x) (hj : X.N[j]? = some y) (hij : i ≠ j)
    (hx : X.env.scope.names.lookup x = some .local) (hy : X.env.scope.names.lookup y = some .local) (ha : SA X [a, b] t fa)
    (hw : swappedStores [.Tuple [.Name x px, .Name y py] kt pt] (.Tuple [a, b] k2 pt2) X.env = pure (some [x, y]))
    (hs : swapsWithSole [.Tuple [.Name x px, .Name y py] kt pt] (.Tuple [a, b] k2 pt2) pos.line X.env = pure false := by rfl) :
    SS X (.Assign [.Tuple [.Name x px, .Name y py] kt pt] (.Tuple [a, b] k2 pt2) pos) (tPar i j t) (sPar i j fa) := ⟨ps_par hc hN hi hj hij hx hy ha.pa hw hs, .par i j ha.sd⟩
end

/-! ### types; isinstance -/
@[simp] def tnm (η : List B) : R → Option String
  | .val .none => some "NoneType"
  | .val (.bool _) => some "bool"
  | .val (.int _) => some "int"
  | .val (.str _) => some "str"
  | .val (.tuple _) => some "tuple"
  | .val (.list _) => some "list"
  | .fr (.lst _) => some "list"
  | .bor i => match η[i]? with
    | some (.obj _ (.lst _)) => some "list"
    | _ => none
  | _ => none
theorem tnm_ok {K : Kf} {F : Addr → Prop} {σ : L2.St} {H : Hp} {η : List B} {v : V} {r : R} {n : String} (Rl : Rel K F σ H η) (h : RV K F σ H η v r) (e : tnm η r = some n) : TyX K H v (.type n) := by
  unfold tnm at e
  split at e
  · cases e; cases none_dn h; exact .base .non
  · cases e; cases bool_dn h; exact .base (.bl _)
  · cases e; cases int_dn h; exact .base (.int _)
  · cases e; cases str_dn h; exact .base (.str _)
  · cases e
    obtain ⟨a, xs, rfl, h1, _, _⟩ := tup_dn h
    rcases h1 with (h1 | ⟨o, h1⟩) | ⟨o, its, n, h1, h2, _⟩
    · exact .base (.tup h1)
    · exact .fTuple h1
    · exact .kTuple h1 h2
  · cases e
    obtain ⟨a, xs, rfl, h1, _, _⟩ := lst_dn h
    exact .base (.lst h1)
  · cases e
    obtain ⟨p, rfl, _, _, xs, h1, _⟩ := h
    exact .base (.lst h1)
  · rename_i i
    have hv : σ[i]? = some (some v) := h
    split at e
    · rename_i q
      cases e
      obtain ⟨a, ea, ⟨xs, h1, _⟩, _⟩ := Rl.obj q
      rw [hv] at ea; cases ea
      exact .base (.lst h1)
    · cases e
  · cases e
@[simp] def gIsi : GA := fun rs η => match rs with
  | [r, .ty n] => (tnm η r).bind fun t => (kitB t n).map fun b => .val (.bool b)
  | _ => none
section
variable {X : Cx}
theorem bIsi : CallR X (.builtin "isinstance") (rIsi X.K) ∧ CallS X.K (rIsi X.K) gIsi := by
  refine ⟨call_isi, ?_⟩
  intro F σ H η rs z vs Rl rv e Q hQ
  unfold gIsi at e
  split at e
  · rename_i r n
    obtain ⟨v, w, rfl, r1, r2⟩ := rv.two
    have r2 : w = .ty n := r2
    subst r2
    obtain ⟨t, e1, e⟩ := Option.bind_eq_some_iff.mp e
    obtain ⟨b, e2, e⟩ := Option.map_eq_some_iff.mp e
    cases e
    exact ⟨v, .ty n, .type t, .type n, b, rfl, .ty n, tnm_ok Rl r1 e1, kit_ty e2, hQ H _ (.refl Rl) (.bl _) trivial⟩
  · cases e
theorem se_ty {x : Str} {n : String} {pos : Pos} (hg : Gl X x) (hm : X.mg x = none) (hv : bootBuiltins x = some (.type n)) (hn : x ≠ "__name__" := by decide) (hd : (x == ("__debug__" : Str)) = false := by decide) : SE X (.Name x pos) (tC (.ty n)) (eTy n) :=
  ⟨pe_bltn hg hm hv rfl hn hd, by
    intro F σ H η r η' Rl e Q hQ
    cases e
    exact hQ F H _ (.refl Rl) rfl trivial⟩
end
end PV

/-! PV8: defs by their names; min, max, sorted of data; ranges as lists. -/
namespace PV
open PySem PySem.Spec PyProof.Rows L2

structure CalG (P : Program) (w : World) (K : Kf) (mg : Str → Option Value) (base : Heap) (k : Nat) (x : Str) (n : Nat) (G : EF) : Prop where
  ex : ∃ (f : Addr) (fd : FuncData) (ps : List Str), FnOk P w K mg base CX0 k f fd ps (spOf K n G) ∧ mg x = some (.ref f) ∧ PySem.W.keepIn K (.ref f) = true ∧ Binds K fd ps []
section
variable {P : Program} {w : World} {K : Kf} {mg : Str → Option Value} {base : Heap}
theorem calG_of {x qual : Str} {st : Stmt} {f : Addr} {fd : FuncData} {N ps : List Str} {k : Nat} {body : SF} (Fn : Fun K x qual st f fd) (S : FnScope N ps (defScope st)) (m : mg x = some (.ref f))
    (hb : ∀ (kV doc pm : Value) (an : Option Addr) (cdv ct : Value) (us : List Value), us.length = ps.length → bindArgs (PySem.W.fnOf x qual (defArgs st) (defBody st) (defScope st) .none kV doc pm an cdv ct) ⟨us, []⟩ = pure (ps.zip us))
    (hbody : ∀ (cdv : Value) (A : Around) (outer : List Env) (s : Shared) (H : Hp) (E : XK), Room k (A.deeper (envOfC qual (defScope st) s.heap.objs.size f cdv)) →
      ∃ t, SB (cxOf CX0 P w K mg base N qual (defScope st) f cdv A outer s H E).nox (defBody st) t body) : CalG P w K mg base (k + 1) x ps.length (defF body (N.length - ps.length)) :=
  ⟨⟨f, fd, ps, def_ok Fn S hbody, m, Fn.kp, Fn.binds hb⟩⟩
/-- a promise of nothing: where a recursion begins -/
theorem calG_none {x qual : Str} {st : Stmt} {f : Addr} {fd : FuncData} {N ps : List Str} (Fn : Fun K x qual st f fd) (S : FnScope N ps (defScope st)) (m : mg x = some (.ref f))
    (hb : ∀ (kV doc pm : Value) (an : Option Addr) (cdv ct : Value) (us : List Value), us.length = ps.length → bindArgs (PySem.W.fnOf x qual (defArgs st) (defBody st) (defScope st) .none kV doc pm an cdv ct) ⟨us, []⟩ = pure (ps.zip us)) : CalG P w K mg base 0 x ps.length (fun _ => none) := by
  refine ⟨⟨f, fd, ps, ⟨fun vs H Q E h => h.1, fun A outer s H args us vs Q E hr he hbn hv hs => ?_⟩, m, Fn.kp, Fn.binds hb⟩⟩
  obtain ⟨_, F, η, r, η', R, ok, e, q⟩ := hs
  cases e
end
section
variable {X : Cx} {k j n : Nat} {x : Str} {p pos : Pos} {e : Expr} {es : List Expr} {t : TA} {fa : AF} {G : EF}
theorem se_callG (c : CalG X.prog X.w X.K X.mg X.base k x n G) (hr : Room j X.A) (hk : k ≤ j) (hg : Gl X x) (ha : SA X (e :: es) t fa) (hl : ALen fa n) (hdb : (x == ("__debug__" : Str)) = false := by decide)
    (he : starEach (e :: es) X.env = (false, eval e X.env) :: starEach es X.env := by rfl) (hpl : (backTo pos (starEach es X.env)).any (·.1) = false := by rfl) :
    SE X (.Call (.Name x p) (e :: es) [] pos) (tCall (spOf X.K n G) [] E0 t) (eCall G fa) := by
  obtain ⟨f, fd, ps, F, m, kp, b⟩ := c.ex
  exact se_call F hr hk hg m kp b ha hl hdb he hpl
end
theorem bt_sum : bootBuiltins "sum" = some (.builtin "sum") := by decide +kernel
theorem bt_any : bootBuiltins "any" = some (.builtin "any") := by decide +kernel
theorem bt_all : bootBuiltins "all" = some (.builtin "all") := by decide +kernel
theorem bt_abs : bootBuiltins "abs" = some (.builtin "abs") := by decide +kernel
theorem bt_min : bootBuiltins "min" = some (.builtin "min") := by decide +kernel
theorem bt_max : bootBuiltins "max" = some (.builtin "max") := by decide +kernel
theorem bt_sorted : bootBuiltins "sorted" = some (.builtin "sorted") := by decide +kernel
theorem bt_isinstance : bootBuiltins "isinstance" = some (.builtin "isinstance") := by decide +kernel
theorem bt_int : bootBuiltins "int" = some (.type "int") := by decide +kernel
theorem bt_bool : bootBuiltins "bool" = some (.type "bool") := by decide +kernel
theorem bt_str : bootBuiltins "str" = some (.type "str") := by decide +kernel
theorem bt_tuple : bootBuiltins "tuple" = some (.type "tuple") := by decide +kernel
theorem bt_list : bootBuiltins "list" = some (.type "list") := by decide +kernel
theorem bt_len : bootBuiltins "len" = some (.builtin "len") := by decide +kernel

/-! ### min, max of a list or tuple of data -/
def rBest (K : Kf) (best : D → List D → D) : List V → Hp → VK → Prop := fun vs H Q => ∃ (a : Addr) (xs : List V) (d : D) (ds : List D), vs = [.ref a] ∧ (SqL K H a xs ∨ SqT K H a xs) ∧ DpAll K H xs (d :: ds) ∧ PySem.W.AlikeAll (d :: ds) ∧ PyData.depthAll (d :: ds) ≤ 60 ∧
  ∀ (i : Nat) v, xs[i]? = some v → (d :: ds)[i]? = some (best d ds) → Q v H
theorem foldl_pick {α : Type} (f : α → α → Bool) : ∀ (xs : List α) (x : α), xs.foldl (fun a y => if f a y = true then y else a) x ∈ x :: xs
  | [], x => List.mem_cons_self
  | y :: ys, x => by
    rw [List.foldl_cons]
    have h := foldl_pick f ys (if f x y = true then y else x)
    rcases List.mem_cons.mp h with h | h
    · rw [h]
      split
      · exact List.mem_cons_of_mem _ List.mem_cons_self
      · exact List.mem_cons_self
    · exact List.mem_cons_of_mem _ (List.mem_cons_of_mem _ h)
theorem minD_mem (x : D) (xs : List D) : PySem.W.minD x xs ∈ x :: xs := foldl_pick (fun a y => PySem.W.dataLt y a) xs x
theorem maxD_mem (x : D) (xs : List D) : PySem.W.maxD x xs ∈ x :: xs := foldl_pick (fun a y => PySem.W.dataLt a y) xs x
theorem vals_back : ∀ {xs : List V} {us : List Value} {i : Nat} {u : Value}, Vals xs us → us[i]? = some u → ∃ x, xs[i]? = some x ∧ RelV x u
  | _, _, _, _, .nil, e => by simp at e
  | _, _, 0, _, .cons r _, e => by cases e; exact ⟨_, rfl, r⟩
  | _, _, i + 1, _, .cons _ h, e => vals_back (i := i) h (by simpa using e)
section
variable {X : Cx}
theorem best_end {pins : List (Addr × Obj)} {s : Shared} {σ : L2.St} {H : Hp} {Q : VK} {xs : List V} {its : List Value} {d : D} {ds : List D} {as : List Addr} {m : D} (I : Inv X pins σ H s) (rv : Vals xs its) (hr : ReadsAll s.heap its (d :: ds) as) (ha : PySem.W.AlikeAll (d :: ds)) (hm : m ∈ d :: ds)
    (q : ∀ (i : Nat) v, xs[i]? = some v → (d :: ds)[i]? = some m → Q v H) {i : Nat} {v : Value} {h' : Heap} {tk : Nat} {bs : List Addr} (hv : its[i]? = some v) (r : Reads h' v m bs) (hk : ∀ b o, s.heap.get? b = some o → h'.get? b = some o) :
    EP X pins σ Q v { s with heap := h', toks := tk } := by
  obtain ⟨x, hx, rx⟩ := vals_back rv hv
  have hr' : ReadsAll s.heap its.toArray.toList (d :: ds) as := by simpa using hr
  obtain ⟨cs, r2, hlt, hmem, _⟩ := PySem.W.readsAll_at hr' i v (by simpa using hv)
  have e : (d :: ds).getD i .none = m := PySem.W.alike_unique _ _ v _ _ (ha.1 _ hmem _ hm) (PySem.W.reads_keeps hk r2) r
  have e2 : (d :: ds)[i]? = some m := by
    rw [List.getElem?_eq_getElem hlt]
    rw [List.getD_eq_getElem?_getD, List.getElem?_eq_getElem hlt] at e
    exact congrArg some e
  exact ⟨x, H, I.kept hk, rx, q i x hx e2⟩
theorem cr_minA (hc : X.calm = true) (hu : X.A.units + 64 < cLine) : CallR X (.builtin "min") (rBest X.K PySem.W.minD) := by
  intro pins s σ H vs us Q I r h
  obtain ⟨a, xs, d, ds, rfl, hs, hd, ha, hz, q⟩ := h
  have ru := r.ref1
  subst ru
  rcases hs with hs | hs
  · obtain ⟨its, rv, pl, _⟩ := I.list hs
    obtain ⟨as, hr⟩ := Dp.readsAll I (d :: ds) xs its hd rv
    exact PySem.W.min_list_data (I.ok.hd hc) pl.isList (by simpa using hr) ha (by omega) fun i v h' tk bs hv r' hk => best_end I rv hr ha (minD_mem d ds) q (by simpa using hv) r' hk
  · obtain ⟨its, rv, pl, _⟩ := I.tuple hs
    obtain ⟨as, hr⟩ := Dp.readsAll I (d :: ds) xs its hd rv
    exact PySem.W.min_tuple_data (I.ok.hd hc) pl (by simpa using hr) ha (by omega) fun i v h' tk bs hv r' hk => best_end I rv hr ha (minD_mem d ds) q (by simpa using hv) r' hk
theorem cr_maxA (hc : X.calm = true) (hu : X.A.units + 64 < cLine) : CallR X (.builtin "max") (rBest X.K PySem.W.maxD) := by
  intro pins s σ H vs us Q I r h
  obtain ⟨a, xs, d, ds, rfl, hs, hd, ha, hz, q⟩ := h
  have ru := r.ref1
  subst ru
  rcases hs with hs | hs
  · obtain ⟨its, rv, pl, _⟩ := I.list hs
    obtain ⟨as, hr⟩ := Dp.readsAll I (d :: ds) xs its hd rv
    exact PySem.W.max_list_data (I.ok.hd hc) pl.isList (by simpa using hr) ha (by omega) fun i v h' tk bs hv r' hk => best_end I rv hr ha (maxD_mem d ds) q (by simpa using hv) r' hk
  · obtain ⟨its, rv, pl, _⟩ := I.tuple hs
    obtain ⟨as, hr⟩ := Dp.readsAll I (d :: ds) xs its hd rv
    exact PySem.W.max_tuple_data (I.ok.hd hc) pl (by simpa using hr) ha (by omega) fun i v h' tk bs hv r' hk => best_end I rv hr ha (maxD_mem d ds) q (by simpa using hv) r' hk
/-- data that are all alike, none None, not deep -/
def likeB (ds : List D) : Bool := (ds.all fun x => ds.all fun y => PySem.W.alike x y) && (ds.all fun x => !isNon x) && decide (PyData.depthAll ds ≤ 60)
theorem likeB_ok {ds : List D} (h : likeB ds = true) : PySem.W.AlikeAll ds ∧ PyData.depthAll ds ≤ 60 := by
  unfold likeB at h
  rw [Bool.and_eq_true, Bool.and_eq_true] at h
  refine ⟨⟨fun x hx y hy => List.all_eq_true.mp (List.all_eq_true.mp h.1.1 x hx) y hy, fun x hx z => ?_⟩, of_decide_eq_true h.2⟩
  have := List.all_eq_true.mp h.1.2 x hx
  subst z
  cases this
theorem alike_plain : ∀ d : D, PySem.W.alike d d = true → d.plain = true := by
  intro d
  exact alike_plainA d
where
  alike_plainA : ∀ d : D, PySem.W.alike d d = true → d.plain = true
    | .none, _ => rfl
    | .bool _, _ => rfl
    | .int _, _ => rfl
    | .str _, _ => rfl
    | .list xs, h => by
      have h' : PySem.W.alikeAll xs xs = true := by simpa [PySem.W.alike] using h
      simp only [PyData.plain]
      exact alike_plainL xs h'
    | .tuple xs, h => by
      have h' : PySem.W.alikeAll xs xs = true := by simpa [PySem.W.alike] using h
      simp only [PyData.plain]
      exact alike_plainL xs h'
    | .dict _, h => by simp [PySem.W.alike] at h
  alike_plainL : ∀ ds : List D, PySem.W.alikeAll ds ds = true → PyData.plainAll ds = true
    | [], _ => rfl
    | x :: xs, h => by
      have h' : PySem.W.alike x x = true ∧ PySem.W.alikeAll xs xs = true := by simpa [PySem.W.alikeAll] using h
      simp only [PyData.plainAll]
      rw [alike_plainA x h'.1, alike_plainL xs h'.2]
      rfl
theorem plainAll_like : ∀ {ds es : List D}, (∀ x ∈ ds, ∀ y ∈ es, PySem.W.alike x y = true) → (∀ x ∈ ds, x ∈ es) → PyData.plainAll ds = true
  | [], _, _, _ => rfl
  | x :: xs, es, h, hm => by
    simp only [PyData.plainAll]
    rw [alike_plain x (h x List.mem_cons_self x (hm x List.mem_cons_self)), plainAll_like (fun y hy => h y (List.mem_cons_of_mem _ hy)) fun y hy => hm y (List.mem_cons_of_mem _ hy)]
    rfl
def gBest (best : D → List D → D) : GA := fun rs η => match rs with
  | [r] => match seqOf η r with
    | some (d :: ds) => if likeB (d :: ds) = true then some (.val (best d ds)) else none
    | _ => none
  | _ => none
theorem callS_best {K : Kf} {best : D → List D → D} : CallS K (rBest K best) (gBest best) := by
  intro F σ H η rs z vs Rl rv e Q hQ
  unfold gBest at e
  split at e
  · obtain ⟨v, rfl, r1⟩ := rv.one
    split at e
    · rename_i d ds e1
      split at e
      · rename_i c
        cases e
        obtain ⟨ha, hz⟩ := likeB_ok c
        obtain ⟨a, xs, rfl, h1, l1, d1⟩ := seqOf_ok Rl r1 e1
        refine ⟨a, xs, d, ds, rfl, h1, DnAll.dp _ _ (plainAll_like ha.1 fun _ h => h) d1, ha, hz, fun i v hx hd => ?_⟩
        obtain ⟨d', e2, dn⟩ := d1.get hx
        rw [hd] at e2
        cases e2
        exact hQ H v (.refl Rl) dn trivial
      · cases e
    · cases e
  · cases e
abbrev gMin1 : GA := gBest PySem.W.minD
abbrev gMax1 : GA := gBest PySem.W.maxD
theorem bMin1 {k : Nat} (hc : X.calm = true) (hr : Room k X.A) : CallR X (.builtin "min") (rBest X.K PySem.W.minD) ∧ CallS X.K (rBest X.K PySem.W.minD) gMin1 := ⟨cr_minA hc hr.units, callS_best⟩
theorem bMax1 {k : Nat} (hc : X.calm = true) (hr : Room k X.A) : CallR X (.builtin "max") (rBest X.K PySem.W.maxD) ∧ CallS X.K (rBest X.K PySem.W.maxD) gMax1 := ⟨cr_maxA hc hr.units, callS_best⟩

/-! ### sorted of a list of data, of any length -/
def leD (a b : D) : Bool := !PySem.W.dataLt b a
theorem leD_eq {β : Type} (k : β → D) : PySem.W.dataLe false k = fun a b => leD (k a) (k b) := by
  rw [PySem.W.dataLe_eq]
  rfl
def rSortedA (K : Kf) : List V → Hp → VK → Prop := fun vs H Q => ∃ (a : Addr) (xs : List V) (ds : List D), vs = [.ref a] ∧ SqL K H a xs ∧ DpAll K H xs ds ∧ PySem.W.AllAlike ds ∧ PySem.W.Sortable ds ∧ PyData.depthAll ds ≤ 60 ∧
  ∀ p, H p = none → Q (.ref p) (upd H p (.lst (((xs.zip ds).mergeSort fun a b => leD a.2 b.2).map (·.1))))
theorem each_of : ∀ {xs : List V} {its : List Value} {ds : List D}, Vals xs its → xs.length = ds.length → PySem.W.EachIs (fun u (p : V × D) => RelV p.1 u) its (xs.zip ds)
  | _, _, [], .nil, _ => .nil
  | _, _, d :: ds, .cons r h, e => .cons r (each_of h (by simpa using e))
theorem each_vals : ∀ {us : List Value} {l : List (V × D)}, PySem.W.EachIs (fun u (p : V × D) => RelV p.1 u) us l → Vals (l.map (·.1)) us
  | _, _, .nil => .nil
  | _, _, .cons r h => .cons r (each_vals h)
theorem depth_mem : ∀ {ds : List D} {d : D}, d ∈ ds → d.depth ≤ PyData.depthAll ds
  | x :: xs, d, h => by
    simp only [PyData.depthAll]
    rcases List.mem_cons.mp h with rfl | h
    · exact Nat.le_max_left _ _
    · exact Nat.le_trans (depth_mem h) (Nat.le_max_right _ _)
theorem dpAll_len {K : Kf} {H : Hp} : ∀ {xs : List V} {ds : List D}, DpAll K H xs ds → xs.length = ds.length
  | _, _, .nil => rfl
  | _, _, .cons _ h => by rw [List.length_cons, List.length_cons, dpAll_len h]
theorem zip_snd {α β : Type} : ∀ {xs : List α} {ds : List β}, xs.length = ds.length → (xs.zip ds).map (·.2) = ds
  | [], [], _ => rfl
  | x :: xs, d :: ds, e => by rw [List.zip_cons_cons, List.map_cons, zip_snd (by simpa using e)]
theorem each_reads {s : Shared} {xs : List V} {its : List Value} {ds : List D} {as : List Addr} (hr : ReadsAll s.heap its ds as) (e : xs.length = ds.length) : PySem.W.EachIs (fun v (b : V × D) => ∃ as, Reads s.heap v b.2 as) its (xs.zip ds) :=
  PySem.W.readsAll_each (fun b : V × D => b.2) (as := as) (by rw [zip_snd e]; exact hr)
theorem cr_sortedA (hu : X.A.units + 64 < cLine) : CallR X (.builtin "sorted") (rSortedA X.K) := by
  intro pins s σ H vs us Q I r h
  obtain ⟨a, xs, ds, rfl, hs, hd, ha, hk, hz, q⟩ := h
  have ru := r.ref1
  subst ru
  obtain ⟨its, rv, pl, hlen⟩ := I.list hs
  obtain ⟨as, hr⟩ := Dp.readsAll I ds xs its hd rv
  have hl := dpAll_len hd
  have hzl : (xs.zip ds).length = xs.length := by rw [List.length_zip, ← hl, Nat.min_self]
  refine PySem.W.sorted_data (enc := fun b : V × D => b.2) pl.isList (each_of rv hl) (each_reads hr hl) (by rw [zip_snd hl]; exact ha) (by rw [zip_snd hl]; exact hk) (by rw [hzl]; exact hlen) (fun b hb => ?_) fun out hout ho => ?_
  · have : b.2 ∈ ds := by rw [← zip_snd hl]; exact List.mem_map.mpr ⟨b, hb, rfl⟩
    have h2 := depth_mem this
    omega
  · rw [leD_eq] at ho
    have hv := each_vals ho
    obtain ⟨n, hn⟩ := sortedAll_at s.heap its out.toArray
    refine ⟨.ref (s.heap.objs.size + 1), _, I.laid (t' := s.toks) (a := s.heap.objs.size + 1) (o := .lst (((xs.zip ds).mergeSort fun a b => leD a.2 b.2).map (·.1))) (fun b o e => sortedAll_old e) (Nat.le_succ _) ⟨?_, out, n, hv, hn⟩, rfl, q _ (I.hok.fresh (Nat.le_succ _))⟩
    rw [List.length_map, List.length_mergeSort, hzl]
    exact hlen
def sortB (ds : List D) : Bool := (ds.all fun d => match d with
  | .tuple (_ :: _) => true
  | _ => false) || ds.all fun d => match d with
  | .none => false
  | .tuple _ => false
  | _ => true
theorem sortB_ok {ds : List D} (h : sortB ds = true) : PySem.W.Sortable ds := by
  unfold sortB at h
  rw [Bool.or_eq_true] at h
  rcases h with h | h
  · refine .inl fun d hd => ?_
    have := List.all_eq_true.mp h d hd
    cases d with
    | tuple xs =>
      cases xs with
      | nil => cases this
      | cons x r => exact ⟨x, r, rfl⟩
    | _ => cases this
  · refine .inr fun d hd => ?_
    have := List.all_eq_true.mp h d hd
    cases d with
    | none => cases this
    | tuple xs => cases this
    | _ => exact ⟨(fun z => by cases z), (fun _ z => by cases z)⟩
def sortD (ds : List D) : List D := ds.mergeSort leD
def gSorted : GA := fun rs η => match rs with
  | [r] => (lsqOf η r).bind fun ds => if (likeB ds && sortB ds) = true then some (.fr (.lst (sortD ds))) else none
  | _ => none
theorem dn_pairs {K : Kf} {F : Addr → Prop} {H : Hp} : ∀ {l : List (V × D)}, (∀ p ∈ l, Dn K F H p.1 p.2) → DnAll K F H (l.map (·.1)) (l.map (·.2))
  | [], _ => .nil
  | p :: l, h => .cons (h p List.mem_cons_self) (dn_pairs fun q hq => h q (List.mem_cons_of_mem _ hq))
theorem dn_zip {K : Kf} {F : Addr → Prop} {H : Hp} : ∀ {xs : List V} {ds : List D}, DnAll K F H xs ds → ∀ p ∈ xs.zip ds, Dn K F H p.1 p.2
  | _, _, .nil, p, h => by simp at h
  | _, _, .cons h1 h2, p, h => by
    rw [List.zip_cons_cons] at h
    rcases List.mem_cons.mp h with rfl | h
    · exact h1
    · exact dn_zip h2 p h
theorem bSorted {k : Nat} (hc : X.calm = true) (hr : Room k X.A) : CallR X (.builtin "sorted") (rSortedA X.K) ∧ CallS X.K (rSortedA X.K) gSorted := by
  refine ⟨cr_sortedA hr.units, ?_⟩
  intro F σ H η rs z vs Rl rv e Q hQ
  unfold gSorted at e
  split at e
  · obtain ⟨v, rfl, r1⟩ := rv.one
    obtain ⟨ds, e1, e⟩ := Option.bind_eq_some_iff.mp e
    split at e
    · rename_i c
      cases e
      rw [Bool.and_eq_true] at c
      obtain ⟨ha, hz⟩ := likeB_ok c.1
      obtain ⟨a, xs, rfl, h1, l1, d1⟩ := lsqOf_ok Rl r1 e1
      refine ⟨a, xs, ds, rfl, h1, DnAll.dp _ _ (plainAll_like ha.1 fun _ h => h) d1, ha.1, sortB_ok c.2, hz, fun p hp => ?_⟩
      have hlen : (((xs.zip ds).mergeSort fun a b => leD a.2 b.2).map (·.1)).length = xs.length := by
        rw [List.length_map, List.length_mergeSort, List.length_zip, d1.length, Nat.min_self]
      have hd : DnAll X.K F H (((xs.zip ds).mergeSort fun a b => leD a.2 b.2).map (·.1)) (sortD ds) := by
        have e2 : ((xs.zip ds).mergeSort fun a b => leD a.2 b.2).map (·.2) = sortD ds := by
          unfold sortD
          rw [List.map_mergeSort (f := fun p : V × D => p.2) (s := leD) fun a _ b _ => rfl, zip_snd d1.length]
        rw [← e2]
        exact dn_pairs fun p hp => dn_zip d1 p ((List.mergeSort_perm _ _).mem_iff.mp hp)
      obtain ⟨n1, n2, n3⟩ := new_lst Rl (by rw [hlen]; exact l1) hd hp
      exact hQ _ _ n1 n2 n3
    · cases e
  · cases e
end

/-! ### list(range(..)), tuple(range(..)) -/
def rgOk (a b : Int) : Bool := big62 a && big62 b && decide ((b - a).toNat ≤ 2 ^ 24)
theorem rgOk_ok {a b : Int} (h : rgOk a b = true) : RgOk a b := by
  unfold rgOk at h
  rw [Bool.and_eq_true, Bool.and_eq_true] at h
  obtain ⟨h1, h2⟩ := big62_ok h.1.1
  obtain ⟨h3, h4⟩ := big62_ok h.1.2
  exact ⟨h1, h2, h3, h4, of_decide_eq_true h.2⟩
theorem rg_dn {K : Kf} {F : Addr → Prop} {H : Hp} (a : Int) : ∀ n : Nat, DnAll K F H ((List.range n).map fun i => V.int (a + (i : Nat))) ((List.range n).map fun i => PyData.int (a + (i : Nat)))
  | 0 => .nil
  | n + 1 => by
    rw [List.range_succ, List.map_append, List.map_append]
    exact (rg_dn a n).append (.one (.int _))
@[simp] def eRg1 (mk : List D → PV.R) (fa : AF) : EF := fun η => (fa η).bind fun p => match p.1 with
  | [.val (.int n)] => if rgOk 0 n = true then some (mk (rngD 0 n.toNat), p.2) else none
  | _ => none
@[simp] def eRg2 (mk : List D → PV.R) (fa : AF) : EF := fun η => (fa η).bind fun p => match p.1 with
  | [.val (.int i), .val (.int j)] => if rgOk i j = true then some (mk (rngD i (j - i).toNat), p.2) else none
  | _ => none
abbrev eListRg1 : AF → EF := eRg1 fun ds => .fr (.lst ds)
abbrev eTupleRg1 : AF → EF := eRg1 fun ds => .val (.tuple ds)
abbrev eListRg2 : AF → EF := eRg2 fun ds => .fr (.lst ds)
abbrev eTupleRg2 : AF → EF := eRg2 fun ds => .val (.tuple ds)
section
variable {X : Cx} {e b : Expr} {te tb : TE} {fe fb : EF} {p p2 pos pos2 : Pos}
theorem rg1_len {n : Int} (c : rgOk 0 n = true) : (rgV 0 n).length ≤ sizeLine ∧ ∀ (K : Kf) (F : Addr → Prop) (H : Hp), DnAll K F H (rgV 0 n) (rngD 0 n.toNat) := by
  have h := rgOk_ok c
  refine ⟨?_, fun K F H => ?_⟩
  · rw [rgV_length, sizeLine_eq]
    have := h.2.2.2.2
    omega
  · unfold rgV rngD
    rw [Int.sub_zero]
    exact rg_dn 0 n.toNat
theorem rg2_len {a b : Int} (c : rgOk a b = true) : (rgV a b).length ≤ sizeLine ∧ ∀ (K : Kf) (F : Addr → Prop) (H : Hp), DnAll K F H (rgV a b) (rngD a (b - a).toNat) := by
  have h := rgOk_ok c
  refine ⟨?_, fun K F H => ?_⟩
  · rw [rgV_length, sizeLine_eq]
    have := h.2.2.2.2
    omega
  · unfold rgV rngD
    exact rg_dn a _
theorem se_listRg1 (hc : X.calm = true) (hg : Gl X "list") (hm : X.mg "list" = none) (hg2 : Gl X "range") (hm2 : X.mg "range" = none) (h : SE X e te fe)
    (na : starEach [e] X.env = (false, eval e X.env) :: starEach [] X.env := by rfl) (nb : starEach [Expr.Call (.Name "range" p2) [e] [] pos2] X.env = (false, eval (Expr.Call (.Name "range" p2) [e] [] pos2) X.env) :: starEach [] X.env := by rfl) :
    SE X (.Call (.Name "list" p) [.Call (.Name "range" p2) [e] [] pos2] [] pos) (tLstRg (tRg1 te)) (eListRg1 (aCons fe aNil)) := by
  refine ⟨pe_listRg hc hg hm (prg_1 hg2 hm2 h.pe na) nb, ?_⟩
  intro F σ H η r η' Rl e Q hQ
  unfold eListRg1 eRg1 at e
  obtain ⟨⟨rs, η1⟩, e1, e⟩ := Option.bind_eq_some_iff.mp e
  unfold aCons aNil at e1
  obtain ⟨⟨x, η2⟩, e2, e1⟩ := Option.bind_eq_some_iff.mp e1
  cases e1
  refine h.sd F σ H η x _ Rl e2 _ fun F1 H1 v s1 r1 f1 => ?_
  simp only at e
  split at e
  · rename_i n q
    cases q
    split at e
    · rename_i c
      cases e
      obtain ⟨l1, l2⟩ := rg1_len c
      refine ⟨n, int_dn r1, rgOk_ok c, fun p hp => ?_⟩
      obtain ⟨n1, n2, n3⟩ := new_lst s1.rel l1 (l2 X.K F1 H1) hp
      exact hQ _ _ _ (s1.trans n1) n2 (n3.back s1)
    · cases e
  · cases e
theorem se_tupleRg1 (hc : X.calm = true) (hg : Gl X "tuple") (hm : X.mg "tuple" = none) (hg2 : Gl X "range") (hm2 : X.mg "range" = none) (h : SE X e te fe)
    (na : starEach [e] X.env = (false, eval e X.env) :: starEach [] X.env := by rfl) (nb : starEach [Expr.Call (.Name "range" p2) [e] [] pos2] X.env = (false, eval (Expr.Call (.Name "range" p2) [e] [] pos2) X.env) :: starEach [] X.env := by rfl) :
    SE X (.Call (.Name "tuple" p) [.Call (.Name "range" p2) [e] [] pos2] [] pos) (tTupRg (tRg1 te)) (eTupleRg1 (aCons fe aNil)) := by
  refine ⟨pe_tupRg hc hg hm (prg_1 hg2 hm2 h.pe na) nb, ?_⟩
  intro F σ H η r η' Rl e Q hQ
  unfold eTupleRg1 eRg1 at e
  obtain ⟨⟨rs, η1⟩, e1, e⟩ := Option.bind_eq_some_iff.mp e
  unfold aCons aNil at e1
  obtain ⟨⟨x, η2⟩, e2, e1⟩ := Option.bind_eq_some_iff.mp e1
  cases e1
  refine h.sd F σ H η x _ Rl e2 _ fun F1 H1 v s1 r1 f1 => ?_
  simp only at e
  split at e
  · rename_i n q
    cases q
    split at e
    · rename_i c
      cases e
      obtain ⟨l1, l2⟩ := rg1_len c
      refine ⟨n, int_dn r1, rgOk_ok c, fun p hp => ?_⟩
      obtain ⟨n1, n2, n3⟩ := new_tup s1.rel l1 (l2 X.K F1 H1) hp
      exact hQ _ _ _ (s1.trans n1) n2 trivial
    · cases e
  · cases e
end
end PV

/-! PV9: how a def's function of bindings is worked out: Ok, the rules for simp, loops by what they keep. -/
namespace PV
open PySem PySem.Spec PyProof.Rows L2

/-- what is asked of a value: kept out of simp's way, as an instance is -/
class Kont (α : Type) where
  run : α → Prop
/-- the value is there, and keeps what is asked -/
def OkI {α : Type} (x : Option α) [k : Kont α] : Prop := match x with
  | some a => k.run a
  | none => False
def Ok {α : Type} (x : Option α) (Q : α → Prop) : Prop := @OkI α x ⟨Q⟩
section
variable {α β : Type} {a : α} {x y : Option α} {Q Q' : α → Prop} {k : Kont α}
@[simp] theorem ok_def : Ok x Q ↔ @OkI α x ⟨Q⟩ := Iff.rfl
@[simp] theorem ok_some : @OkI α (some a) k ↔ k.run a := Iff.rfl
@[simp] theorem ok_none : @OkI α none k ↔ False := Iff.rfl
@[simp] theorem ok_bind {f : β → Option α} {x : Option β} : @OkI α (x.bind f) k ↔ @OkI β x ⟨fun b => @OkI α (f b) k⟩ := by cases x <;> exact Iff.rfl
@[simp] theorem ok_map {f : β → α} {x : Option β} : @OkI α (x.map f) k ↔ @OkI β x ⟨fun b => k.run (f b)⟩ := by cases x <;> exact Iff.rfl
@[simp high] theorem ok_guard {c : Prop} [Decidable c] : @OkI α (if c then x else none) k ↔ c ∧ @OkI α x k := by
  by_cases h : c <;> simp [h]
@[simp high] theorem ok_guard' {c : Prop} [Decidable c] : @OkI α (if c then none else x) k ↔ ¬ c ∧ @OkI α x k := by
  by_cases h : c <;> simp [h]
@[simp] theorem ok_ite {c : Prop} [Decidable c] : @OkI α (if c then x else y) k ↔ if c then @OkI α x k else @OkI α y k := by
  by_cases h : c <;> simp [h]
theorem Ok.mono (h : Ok x Q) (m : ∀ a, Q a → Q' a) : Ok x Q' := by
  cases x with
  | none => exact h
  | some a => exact m a h
theorem bind_ok {f : β → Option α} {x : Option β} {P : β → Prop} (h : Ok x P) (m : ∀ b, P b → Ok (f b) Q) : Ok (x.bind f) Q := by
  cases x with
  | none => exact h
  | some b => exact m b h
theorem ok_then (h : Ok x Q) (m : ∀ a, Q a → k.run a) : @OkI α x k := h.mono m
theorem Ok.eq (h : Ok x fun b => b = a) : x = some a := by
  cases x with
  | none => exact h.elim
  | some b => rw [show b = a from h]
theorem ok_of_eq (h : x = some a) (q : k.run a) : @OkI α x k := by rw [h]; exact q
theorem ok_ex : Ok x Q ↔ ∃ a, x = some a ∧ Q a := by
  cases x with
  | none => exact ⟨fun h => h.elim, fun ⟨_, h, _⟩ => by cases h⟩
  | some a => exact ⟨fun h => ⟨a, rfl, h⟩, fun ⟨_, h, q⟩ => by cases h; exact q⟩
end


@[simp] theorem isProt_val (d : D) : isProt (some (.val d)) = false := rfl
@[simp] theorem isProt_un : isProt (some .un) = false := rfl
@[simp] theorem isProt_zl (d : List D) : isProt (some (.zl d)) = false := rfl
@[simp] theorem isProt_obj (m : Nat) (o : OD) : isProt (some (.obj m o)) = decide (1 ≤ m) := rfl
@[simp] theorem isProt_none : isProt none = true := rfl
@[simp] theorem isRes_val (d : D) : isRes (.val d) = true := rfl
@[simp] theorem isRes_fr (d : OD) : isRes (.fr d) = true := rfl
@[simp] theorem isRes_bor (d : Nat) : isRes (.bor d) = false := rfl
@[simp] theorem gAdd_int (i j : Int) (η : List B) : gAdd (.val (.int i)) (.val (.int j)) η = some (.val (.int (i + j))) := rfl
@[simp] theorem gAdd_str (i j : Str) (η : List B) : gAdd (.val (.str i)) (.val (.str j)) η = if i.length + j.length ≤ sizeLine then some (.val (.str (i ++ j))) else none := by
  by_cases h : i.length + j.length ≤ sizeLine
  · simp only [gAdd, gI0, gStrCat, if_pos h]
  · simp only [gAdd, gI0, gStrCat, gTupCat, gLstCat, lstOf, if_neg h]
@[simp] theorem gAdd_tup (i j : List D) (η : List B) : gAdd (.val (.tuple i)) (.val (.tuple j)) η = if i.length + j.length ≤ sizeLine then some (.val (.tuple (i ++ j))) else none := by
  by_cases h : i.length + j.length ≤ sizeLine
  · simp only [gAdd, gI0, gStrCat, gTupCat, if_pos h]
  · simp only [gAdd, gI0, gStrCat, gTupCat, gLstCat, lstOf, if_neg h]
@[simp] theorem gAdd_fr (i j : List D) (η : List B) : gAdd (.fr (.lst i)) (.fr (.lst j)) η = if i.length + j.length ≤ sizeLine then some (.fr (.lst (i ++ j))) else none := by
  simp only [gAdd, gI0, gStrCat, gTupCat, gLstCat, lstOf]
@[simp] theorem gAdd_vl (i j : List D) (η : List B) : gAdd (.val (.list i)) (.val (.list j)) η = if i.length + j.length ≤ sizeLine then some (.fr (.lst (i ++ j))) else none := by
  simp only [gAdd, gI0, gStrCat, gTupCat, gLstCat, lstOf]
@[simp] theorem gAdd_vf (i j : List D) (η : List B) : gAdd (.val (.list i)) (.fr (.lst j)) η = if i.length + j.length ≤ sizeLine then some (.fr (.lst (i ++ j))) else none := by
  simp only [gAdd, gI0, gStrCat, gTupCat, gLstCat, lstOf]
@[simp] theorem gAdd_fv (i j : List D) (η : List B) : gAdd (.fr (.lst i)) (.val (.list j)) η = if i.length + j.length ≤ sizeLine then some (.fr (.lst (i ++ j))) else none := by
  simp only [gAdd, gI0, gStrCat, gTupCat, gLstCat, lstOf]
theorem gAdd_lst {x y : PV.R} {i j : List D} {η : List B} (hx : lstOf η x = some i) (hy : lstOf η y = some j) : gAdd x y η = if i.length + j.length ≤ sizeLine then some (.fr (.lst (i ++ j))) else none := by
  have h1 : gI0 (fun i j => PyData.int (i + j)) x y η = none := by
    unfold gI0
    split
    · simp [lstOf] at hx
    · rfl
  have h2 : gStrCat x y η = none := by
    unfold gStrCat
    split
    · simp [lstOf] at hx
    · rfl
  have h3 : gTupCat x y η = none := by
    unfold gTupCat
    split
    · simp [lstOf] at hx
    · rfl
  simp only [gAdd, h1, h2, h3, gLstCat, hx, hy]
@[simp] theorem gIAdd_int (i j : Int) (η : List B) : gIAdd (.val (.int i)) (.val (.int j)) η = some (.val (.int (i + j))) := rfl
@[simp] theorem gIAdd_str (i j : Str) (η : List B) : gIAdd (.val (.str i)) (.val (.str j)) η = if i.length + j.length ≤ sizeLine then some (.val (.str (i ++ j))) else none := by
  by_cases h : i.length + j.length ≤ sizeLine
  · simp only [gIAdd, gI0, gStrCat, if_pos h]
  · simp only [gIAdd, gI0, gStrCat, gTupCat, if_neg h]
@[simp] theorem gIAdd_tup (i j : List D) (η : List B) : gIAdd (.val (.tuple i)) (.val (.tuple j)) η = if i.length + j.length ≤ sizeLine then some (.val (.tuple (i ++ j))) else none := by
  simp only [gIAdd, gI0, gStrCat, gTupCat]
def absI (x : Int) : Int := if x < 0 then -x else x
@[simp] theorem gAbs_int (i : Int) (η : List B) : gAbs [.val (.int i)] η = some (.val (.int (absI i))) := rfl
@[simp] theorem gMul_int (i j : Int) (η : List B) : gMul (.val (.int i)) (.val (.int j)) η = if mulOk i j = true then some (.val (.int (i * j))) else none := by
  by_cases h : mulOk i j = true <;> simp [gMul, gMulI, gRep, h]
theorem mulOk_r {i j : Int} (h : -18446744073709551616 < j ∧ j < 18446744073709551616) : mulOk i j = true := by simp [mulOk, h]
theorem mulOk_l {i j : Int} (h : -18446744073709551616 < i ∧ i < 18446744073709551616) : mulOk i j = true := by simp [mulOk, h]
/-- a slot that holds nothing, or plain data: what a loop leaves in its names -/
def ob : Option D → B
  | none => .un
  | some d => .val d
@[simp] theorem isProt_ob (x : Option D) : isProt (some (ob x)) = false := by cases x <;> rfl
@[simp] theorem ex_ob (d : D) : (∃ x, B.val d = ob x) ↔ True := ⟨fun _ => trivial, fun _ => ⟨some d, rfl⟩⟩
@[simp] theorem ex_ob0 : (∃ x, B.un = ob x) ↔ True := ⟨fun _ => trivial, fun _ => ⟨none, rfl⟩⟩
@[simp] theorem ex_ob1 (y : Option D) : (∃ x, ob y = ob x) ↔ True := ⟨fun _ => trivial, fun _ => ⟨y, rfl⟩⟩
/-- a slot that holds nothing, or a list of its own -/
def obl : Option (List D) → B
  | none => .un
  | some l => .obj 0 (.lst l)
@[simp] theorem isProt_obl (x : Option (List D)) : isProt (some (obl x)) = false := by cases x <;> rfl
@[simp] theorem ex_obl (l : List D) : (∃ x, B.obj 0 (OD.lst l) = obl x) ↔ True := ⟨fun _ => trivial, fun _ => ⟨some l, rfl⟩⟩
@[simp] theorem ex_obl0 : (∃ x, B.un = obl x) ↔ True := ⟨fun _ => trivial, fun _ => ⟨none, rfl⟩⟩
@[simp] theorem ex_obl1 (y : Option (List D)) : (∃ x, obl y = obl x) ↔ True := ⟨fun _ => trivial, fun _ => ⟨y, rfl⟩⟩
@[simp] theorem noB_val (d : D) : noB (some (.val d)) = true := rfl
@[simp] theorem noB_un : noB (some .un) = true := rfl
@[simp] theorem noB_zl (d : List D) : noB (some (.zl d)) = true := rfl
@[simp] theorem noB_obj (m : Nat) (o : OD) : noB (some (.obj m o)) = false := rfl
@[simp] theorem noB_none : noB none = true := rfl
@[simp] theorem noB_ob (x : Option D) : noB (some (ob x)) = true := by cases x <;> rfl
theorem ob_none : ob none = .un := rfl
theorem ob_some (d : D) : ob (some d) = .val d := rfl

@[simp] theorem fmod_nat (a b : Nat) : Int.fmod (a : Int) (b : Int) = ((a % b : Nat) : Int) := by
  rw [Int.fmod_eq_emod_of_nonneg _ (Int.natCast_nonneg b)]
  rfl
@[simp] theorem fdiv_nat (a b : Nat) : Int.fdiv (a : Int) (b : Int) = ((a / b : Nat) : Int) := by
  rw [Int.fdiv_eq_ediv_of_nonneg _ (Int.natCast_nonneg b)]
  rfl
/-! ### lists of data -/
@[simp] theorem atI_nat {α : Type} (xs : List α) (i : Nat) : atI xs (i : Int) = xs[i]? := by
  unfold atI ixN
  rw [if_pos (by omega)]
  by_cases h : i < xs.length
  · rw [if_pos (by omega)]; simp
  · rw [if_neg (by omega)]; simp at h ⊢; exact h
@[simp] theorem atI_mod {α : Type} (xs : List α) (a b : Nat) : atI xs ((a : Int) % (b : Int)) = xs[a % b]? := atI_nat xs (a % b)
@[simp] theorem ixN_nat (n i : Nat) : ixN n (i : Int) = if i < n then some i else none := by
  unfold ixN
  rw [if_pos (by omega)]
  by_cases h : i < n
  · rw [if_pos (by omega), if_pos h]; rfl
  · rw [if_neg (by omega), if_neg h]
@[simp] theorem ixN_mod (n a b : Nat) : ixN n ((a : Int) % (b : Int)) = if a % b < n then some (a % b) else none := ixN_nat n (a % b)
@[simp] theorem atI_zero {α : Type} (xs : List α) : atI xs 0 = xs[0]? := atI_nat xs 0
@[simp] theorem atI_2 {α : Type} (xs : List α) : atI xs 2 = xs[2]? := atI_nat xs 2
@[simp] theorem atI_3 {α : Type} (xs : List α) : atI xs 3 = xs[3]? := atI_nat xs 3
@[simp] theorem atI_4 {α : Type} (xs : List α) : atI xs 4 = xs[4]? := atI_nat xs 4
@[simp] theorem atI_5 {α : Type} (xs : List α) : atI xs 5 = xs[5]? := atI_nat xs 5
@[simp] theorem atI_6 {α : Type} (xs : List α) : atI xs 6 = xs[6]? := atI_nat xs 6
@[simp] theorem atI_7 {α : Type} (xs : List α) : atI xs 7 = xs[7]? := atI_nat xs 7
@[simp] theorem atI_8 {α : Type} (xs : List α) : atI xs 8 = xs[8]? := atI_nat xs 8
@[simp] theorem atI_9 {α : Type} (xs : List α) : atI xs 9 = xs[9]? := atI_nat xs 9
@[simp] theorem atI_10 {α : Type} (xs : List α) : atI xs 10 = xs[10]? := atI_nat xs 10
@[simp] theorem atI_11 {α : Type} (xs : List α) : atI xs 11 = xs[11]? := atI_nat xs 11
@[simp] theorem atI_12 {α : Type} (xs : List α) : atI xs 12 = xs[12]? := atI_nat xs 12
@[simp] theorem atI_one {α : Type} (xs : List α) : atI xs 1 = xs[1]? := atI_nat xs 1
@[simp] theorem atI_last {α : Type} (xs : List α) : atI xs (-1) = xs.getLast? := by
  unfold atI ixN
  rw [if_neg (by omega)]
  cases xs with
  | nil => rfl
  | cons x xs =>
    rw [if_pos (by simp; omega), List.getLast?_eq_getElem?]
    have : (-1 + (((x :: xs).length : Nat) : Int)).toNat = (x :: xs).length - 1 := by omega
    simp only [Option.bind_some, this]
@[simp] theorem intsOf_map (is : List Int) : intsOf (is.map .int) = some is := by
  induction is with
  | nil => rfl
  | cons i is ih => simp [intsOf, ih]
@[simp] theorem boolsOf_map (is : List Bool) : boolsOf (is.map .bool) = some is := by
  induction is with
  | nil => rfl
  | cons i is ih => simp [boolsOf, ih]
@[simp] theorem intsOf_mapf {α : Type} (f : α → Int) (l : List α) : intsOf (l.map fun x => .int (f x)) = some (l.map f) := by
  have := intsOf_map (l.map f)
  rw [List.map_map] at this
  exact this
@[simp] theorem boolsOf_mapf {α : Type} (f : α → Bool) (l : List α) : boolsOf (l.map fun x => .bool (f x)) = some (l.map f) := by
  have := boolsOf_map (l.map f)
  rw [List.map_map] at this
  exact this
@[simp] theorem size_val : sizeLine = 16777216 := sizeLine_eq
@[simp] theorem rngD_length (a : Int) (n : Nat) : (rngD a n).length = n := by simp [rngD]
@[simp] theorem rngD_zero (n : Nat) : rngD 0 n = (List.range n).map fun i => .int (i : Nat) := by simp [rngD]
theorem rngD_nat (a n : Nat) : rngD (a : Int) n = (List.range n).map fun i => .int ((a + i : Nat) : Int) := by simp [rngD]

/-- the i-th of a list of ints -/
def gt (xs : List Int) (i : Nat) : Int := xs[i]?.getD 0
theorem gt_ok {xs : List Int} {i : Nat} (h : i < xs.length) : xs[i]? = some (gt xs i) := by
  unfold gt
  rw [List.getElem?_eq_getElem h]
  rfl
theorem gt_eq {xs : List Int} {i : Nat} (h : i < xs.length) : gt xs i = xs[i] := by
  unfold gt
  rw [List.getElem?_eq_getElem h]
  rfl
/-- a list of ints as data -/
def lI (xs : List Int) : List D := xs.map .int
abbrev tI (xs : List Int) : D := .tuple (lI xs)
theorem lI_def (xs : List Int) : lI xs = xs.map .int := rfl
theorem lI_nil : lI [] = [] := rfl
@[simp] theorem lI_len (xs : List Int) : (lI xs).length = xs.length := by simp [lI]
@[simp high] theorem lI_get (xs : List Int) (i : Nat) : (lI xs)[i]? = xs[i]?.map .int := by simp [lI]
@[simp] theorem lI_getE (xs : List Int) (i : Nat) (h : i < (lI xs).length) : (lI xs)[i] = .int (xs[i]'(by simpa using h)) := by simp [lI]
@[simp] theorem lI_app1 (xs : List Int) (x : Int) : lI xs ++ [.int x] = lI (xs ++ [x]) := by simp [lI]
@[simp] theorem lI_app (xs ys : List Int) : lI xs ++ lI ys = lI (xs ++ ys) := by simp [lI]
@[simp] theorem lI_cons (x : Int) (ys : List Int) : PyData.int x :: lI ys = lI (x :: ys) := by simp [lI]
@[simp] theorem lI_last (xs : List Int) : (lI xs).getLast? = xs.getLast?.map .int := by simp [lI]
@[simp] theorem lI_drop1 (xs : List Int) : (lI xs).dropLast = lI xs.dropLast := by simp [lI]
@[simp] theorem lI_rev (xs : List Int) : (lI xs).reverse = lI xs.reverse := by simp [lI]
@[simp] theorem lI_set (xs : List Int) (i : Nat) (x : Int) : (lI xs).set i (.int x) = lI (xs.set i x) := by simp [lI, List.map_set]
@[simp] theorem lI_erase (xs : List Int) (i : Nat) : (lI xs).eraseIdx i = lI (xs.eraseIdx i) := by
  unfold lI
  induction xs generalizing i with
  | nil => rfl
  | cons x xs ih => cases i with
    | zero => rfl
    | succ i => simp [ih]
@[simp] theorem lI_empty (xs : List Int) : (lI xs).isEmpty = xs.isEmpty := by cases xs <;> rfl
@[simp] theorem lI_eqnil (xs : List Int) : lI xs = [] ↔ xs = [] := by cases xs <;> simp [lI]
@[simp] theorem lI_inj (xs ys : List Int) : lI xs = lI ys ↔ xs = ys := by
  refine ⟨fun h => ?_, fun h => by rw [h]⟩
  have := congrArg intsOf h
  simpa [lI] using this
def cutI (xs : List Int) (lo hi : Option Int) : List Int := (xs.drop (HT.sIx xs.length 0 lo)).take (HT.sIx xs.length xs.length hi - HT.sIx xs.length 0 lo)
@[simp] theorem lI_cut (xs : List Int) (lo hi : Option Int) : cutD (lI xs) lo hi = lI (cutI xs lo hi) := by simp [lI, cutI, cutD]
@[simp] theorem intsOf_lI (is : List Int) : intsOf (lI is) = some is := intsOf_map is
@[simp] theorem kit_NoneType_bool : kitB "NoneType" "bool" = some false := by decide +kernel
@[simp] theorem kit_NoneType_int : kitB "NoneType" "int" = some false := by decide +kernel
@[simp] theorem kit_NoneType_str : kitB "NoneType" "str" = some false := by decide +kernel
@[simp] theorem kit_NoneType_tuple : kitB "NoneType" "tuple" = some false := by decide +kernel
@[simp] theorem kit_NoneType_list : kitB "NoneType" "list" = some false := by decide +kernel
@[simp] theorem kit_bool_bool : kitB "bool" "bool" = some true := by decide +kernel
@[simp] theorem kit_bool_int : kitB "bool" "int" = some true := by decide +kernel
@[simp] theorem kit_bool_str : kitB "bool" "str" = some false := by decide +kernel
@[simp] theorem kit_bool_tuple : kitB "bool" "tuple" = some false := by decide +kernel
@[simp] theorem kit_bool_list : kitB "bool" "list" = some false := by decide +kernel
@[simp] theorem kit_int_bool : kitB "int" "bool" = some false := by decide +kernel
@[simp] theorem kit_int_int : kitB "int" "int" = some true := by decide +kernel
@[simp] theorem kit_int_str : kitB "int" "str" = some false := by decide +kernel
@[simp] theorem kit_int_tuple : kitB "int" "tuple" = some false := by decide +kernel
@[simp] theorem kit_int_list : kitB "int" "list" = some false := by decide +kernel
@[simp] theorem kit_str_bool : kitB "str" "bool" = some false := by decide +kernel
@[simp] theorem kit_str_int : kitB "str" "int" = some false := by decide +kernel
@[simp] theorem kit_str_str : kitB "str" "str" = some true := by decide +kernel
@[simp] theorem kit_str_tuple : kitB "str" "tuple" = some false := by decide +kernel
@[simp] theorem kit_str_list : kitB "str" "list" = some false := by decide +kernel
@[simp] theorem kit_tuple_bool : kitB "tuple" "bool" = some false := by decide +kernel
@[simp] theorem kit_tuple_int : kitB "tuple" "int" = some false := by decide +kernel
@[simp] theorem kit_tuple_str : kitB "tuple" "str" = some false := by decide +kernel
@[simp] theorem kit_tuple_tuple : kitB "tuple" "tuple" = some true := by decide +kernel
@[simp] theorem kit_tuple_list : kitB "tuple" "list" = some false := by decide +kernel
@[simp] theorem kit_list_bool : kitB "list" "bool" = some false := by decide +kernel
@[simp] theorem kit_list_int : kitB "list" "int" = some false := by decide +kernel
@[simp] theorem kit_list_str : kitB "list" "str" = some false := by decide +kernel
@[simp] theorem kit_list_tuple : kitB "list" "tuple" = some false := by decide +kernel
@[simp] theorem kit_list_list : kitB "list" "list" = some true := by decide +kernel

theorem lI_one (x : Int) : [PyData.int x] = lI [x] := rfl
/-! ### plain data -/
@[simp] theorem okD_none : okD .none = true := by decide +kernel
@[simp] theorem okD_bool (b : Bool) : okD (.bool b) = true := by cases b <;> decide +kernel
@[simp] theorem okD_int (i : Int) : okD (.int i) = true := by simp [okD, PyData.plain, PyData.depth]
@[simp] theorem okD_str (s : Str) : okD (.str s) = true := by simp [okD, PyData.plain, PyData.depth]
theorem plainAll_iff : ∀ {ds : List D}, PyData.plainAll ds = true ↔ ∀ d ∈ ds, d.plain = true
  | [] => by simp [PyData.plainAll]
  | d :: ds => by simp [PyData.plainAll, plainAll_iff (ds := ds)]
theorem depthAll_iff {n : Nat} : ∀ {ds : List D}, PyData.depthAll ds ≤ n ↔ ∀ d ∈ ds, d.depth ≤ n
  | [] => by simp [PyData.depthAll]
  | d :: ds => by simp [PyData.depthAll, depthAll_iff (ds := ds), Nat.max_le]
/-- plain, of a depth of at most n -/
def dpt (n : Nat) (d : D) : Prop := d.plain = true ∧ d.depth ≤ n
theorem dpt_int {n : Nat} (i : Int) : dpt n (.int i) := ⟨by simp [PyData.plain], by simp [PyData.depth]⟩
theorem dpt_bool {n : Nat} (i : Bool) : dpt n (.bool i) := ⟨by simp [PyData.plain], by simp [PyData.depth]⟩
theorem dpt_str {n : Nat} (i : Str) : dpt n (.str i) := ⟨by simp [PyData.plain], by simp [PyData.depth]⟩
theorem dpt_none {n : Nat} : dpt n .none := ⟨by simp [PyData.plain], by simp [PyData.depth]⟩
theorem dpt_tuple {n : Nat} {ds : List D} (h : ∀ d ∈ ds, dpt n d) : dpt (n + 1) (.tuple ds) :=
  ⟨by simp only [PyData.plain]; exact plainAll_iff.mpr fun d hd => (h d hd).1, by simp only [PyData.depth]; exact Nat.succ_le_succ (depthAll_iff.mpr fun d hd => (h d hd).2)⟩
theorem dpt_list {n : Nat} {ds : List D} (h : ∀ d ∈ ds, dpt n d) : dpt (n + 1) (.list ds) :=
  ⟨by simp only [PyData.plain]; exact plainAll_iff.mpr fun d hd => (h d hd).1, by simp only [PyData.depth]; exact Nat.succ_le_succ (depthAll_iff.mpr fun d hd => (h d hd).2)⟩
theorem dpt.ok {n : Nat} {d : D} (h : dpt n d) (hn : n ≤ 60) : okD d = true := by
  unfold okD
  rw [h.1, Bool.true_and, decide_eq_true_eq]
  exact Nat.le_trans h.2 hn
theorem dpt_ints {n : Nat} (xs : List Int) : dpt (n + 1) (.tuple (xs.map .int)) := dpt_tuple fun d hd => by
  obtain ⟨i, _, rfl⟩ := List.mem_map.mp hd
  exact dpt_int i
theorem dpt_lints {n : Nat} (xs : List Int) : dpt (n + 1) (.list (xs.map .int)) := dpt_list fun d hd => by
  obtain ⟨i, _, rfl⟩ := List.mem_map.mp hd
  exact dpt_int i
@[simp] theorem okD_tI (xs : List Int) : okD (.tuple (lI xs)) = true := (dpt_ints (n := 0) xs).ok (by decide)
@[simp] theorem okD_lI (xs : List Int) : okD (.list (lI xs)) = true := (dpt_lints (n := 0) xs).ok (by decide)
@[simp] theorem okD_nil : okD (.tuple []) = true := okD_tI []
@[simp] theorem okD_lnil : okD (.list []) = true := okD_lI []
@[simp] theorem eqv_int (i j : Int) : PyData.eqv (.int i) (.int j) = decide (i = j) := by
  simp only [PyData.eqv]
  by_cases h : i = j <;> simp [h]
@[simp] theorem eqv_bool (i j : Bool) : PyData.eqv (.bool i) (.bool j) = decide (i = j) := by cases i <;> cases j <;> decide +kernel
@[simp] theorem eqv_none : PyData.eqv .none .none = true := by simp [PyData.eqv]
theorem eqv_self {d : D} (h : d.plain = true) : PyData.eqv d d = true := PySem.SeqAt.eqv_refl_plain d h
theorem eqvAll_ints : ∀ xs ys : List Int, PyData.eqvAll (xs.map .int) (ys.map .int) = decide (xs = ys)
  | [], [] => by simp [PyData.eqvAll]
  | [], _ :: _ => by simp [PyData.eqvAll]
  | _ :: _, [] => by simp [PyData.eqvAll]
  | x :: xs, y :: ys => by
    simp only [List.map_cons, PyData.eqvAll, eqv_int, eqvAll_ints xs ys, List.cons.injEq]
    by_cases h : x = y <;> simp [h]
@[simp] theorem eqv_tI (xs ys : List Int) : PyData.eqv (.tuple (lI xs)) (.tuple (lI ys)) = decide (xs = ys) := by rw [PyData.eqv]; exact eqvAll_ints xs ys
@[simp] theorem eqv_lI (xs ys : List Int) : PyData.eqv (.list (lI xs)) (.list (lI ys)) = decide (xs = ys) := by rw [PyData.eqv]; exact eqvAll_ints xs ys
@[simp] theorem any_eqv_ints (xs : List Int) (i : Int) : (lI xs).any (fun z => PyData.eqv z (.int i)) = decide (i ∈ xs) := by
  rw [lI_def, List.any_map]
  simp only [Function.comp_def, eqv_int]
  by_cases h : i ∈ xs
  · simp [h]
  · simp only [h, decide_false, List.any_eq_false, decide_eq_true_eq]
    intro x hx e
    exact h (e ▸ hx)
theorem big62_iff (j : Int) : big62 j = true ↔ (-(2 ^ 62) ≤ j ∧ j < 2 ^ 62) := by
  unfold big62
  rw [Bool.and_eq_true, decide_eq_true_eq, decide_eq_true_eq]
@[simp] theorem big62_nat (n : Nat) : big62 (n : Int) = true ↔ n < 4611686018427387904 := by
  rw [big62_iff]
  omega

@[simp] theorem big62_nat1 (n : Nat) : big62 ((n : Int) + 1) = true ↔ n + 1 < 4611686018427387904 := big62_nat (n + 1)
@[simp] theorem rngD_nat1 (a n : Nat) : rngD ((a : Int) + 1) n = (List.range n).map fun i => .int ((a + 1 + i : Nat) : Int) := rngD_nat (a + 1) n
/-! ### loops -/
section
variable {g : GTF} {b : SF} {c : TF} {fe : EF} {vs : List Nat}
theorem forG_inv {Q : Out → Prop} (I : Nat → List B → Prop) : ∀ {ds : List D} {n : Nat} {η : List B}, I n η →
    (∀ i d η, n ≤ i → ds[i - n]? = some d → I i η → Ok (g (.val d) η) fun η1 => Ok (b η1) fun o => match o with
      | .nx η2 => I (i + 1) η2
      | .ct η2 => I (i + 1) η2
      | .bk η2 => Q (.nx η2)
      | .rt r η2 => Q (.rt r η2)) → (∀ η, I (n + ds.length) η → Q (.nx η)) → Ok (forG g b ds η) Q
  | [], n, η, h0, _, he => he η h0
  | d :: ds, n, η, h0, hs, he => by
    have h1 := hs n d η (Nat.le_refl _) (by simp) h0
    unfold forG
    refine bind_ok h1 fun η1 h2 => bind_ok h2 fun o h3 => ?_
    cases o with
    | nx η2 => exact forG_inv I h3 (fun i d' η hi e => hs i d' η (by omega) (by rw [show i - n = (i - (n + 1)) + 1 from by omega]; simpa using e)) (fun η h => he η (by rw [List.length_cons]; rw [show n + (ds.length + 1) = n + 1 + ds.length from by omega]; exact h))
    | ct η2 => exact forG_inv I h3 (fun i d' η hi e => hs i d' η (by omega) (by rw [show i - n = (i - (n + 1)) + 1 from by omega]; simpa using e)) (fun η h => he η (by rw [List.length_cons]; rw [show n + (ds.length + 1) = n + 1 + ds.length from by omega]; exact h))
    | bk η2 => exact h3
    | rt r η2 => exact h3
/-- a loop over encoded things, by a state's list of what stands behind each -/
theorem forG_st {α S : Type} {Q : Out → Prop} (enc : α → D) (mk : S → List B) (I : List α → List α → S → Prop) : ∀ {don l : List α} {s : S}, I don l s →
    (∀ don x rest s, I don (x :: rest) s → Ok (g (.val (enc x)) (mk s)) fun η1 => Ok (b η1) fun o => match o with
      | .nx η2 => ∃ s', η2 = mk s' ∧ I (don ++ [x]) rest s'
      | .ct η2 => ∃ s', η2 = mk s' ∧ I (don ++ [x]) rest s'
      | .bk η2 => Q (.nx η2)
      | .rt r η2 => Q (.rt r η2)) → (∀ don s, I don [] s → Q (.nx (mk s))) → Ok (forG g b (l.map enc) (mk s)) Q
  | don, [], s, h0, _, he => he don s h0
  | don, x :: l, s, h0, hs, he => by
    have h1 := hs don x l s h0
    rw [List.map_cons]
    unfold forG
    refine bind_ok h1 fun η1 h2 => bind_ok h2 fun o h3 => ?_
    cases o with
    | nx η2 => obtain ⟨s', rfl, h4⟩ := h3; exact forG_st enc mk I h4 hs he
    | ct η2 => obtain ⟨s', rfl, h4⟩ := h3; exact forG_st enc mk I h4 hs he
    | bk η2 => exact h3
    | rt r η2 => exact h3
/-- a loop that folds -/
theorem forG_fold {α S : Type} (enc : α → D) (mk : S → List B) (f : S → α → S) {l : List α} {s : S}
    (hs : ∀ x ∈ l, ∀ s, Ok (g (.val (enc x)) (mk s)) fun η1 => Ok (b η1) fun o => o = .nx (mk (f s x)) ∨ o = .ct (mk (f s x))) : forG g b (l.map enc) (mk s) = some (.nx (mk (l.foldl f s))) := by
  refine Ok.eq (forG_st enc mk (fun _ r s' => (∀ x ∈ r, x ∈ l) ∧ r.foldl f s' = l.foldl f s) (don := []) ⟨fun _ h => h, rfl⟩ ?_ ?_)
  · intro don x rest s1 ⟨h1, h2⟩
    refine (hs x (h1 x List.mem_cons_self) s1).mono fun η1 h3 => h3.mono fun o h4 => ?_
    rcases h4 with rfl | rfl
    · exact ⟨_, rfl, fun y hy => h1 y (List.mem_cons_of_mem _ hy), h2⟩
    · exact ⟨_, rfl, fun y hy => h1 y (List.mem_cons_of_mem _ hy), h2⟩
  · intro don s1 h
    rw [← h.2]
    rfl
/-- a loop over range(n), by a state that keeps I -/
theorem forG_rng {S : Type} {Q : Out → Prop} (mk : S → List B) (I : Nat → S → Prop) {n : Nat} {s : S} (h0 : I 0 s)
    (hs : ∀ i s, i < n → I i s → Ok (g (.val (.int (i : Nat))) (mk s)) fun η1 => Ok (b η1) fun o => match o with
      | .nx η2 => ∃ s', η2 = mk s' ∧ I (i + 1) s'
      | .ct η2 => ∃ s', η2 = mk s' ∧ I (i + 1) s'
      | .bk η2 => Q (.nx η2)
      | .rt r η2 => Q (.rt r η2)) (he : ∀ s, I n s → Q (.nx (mk s))) : Ok (forG g b ((List.range n).map fun i => .int (i : Nat)) (mk s)) Q := by
  refine forG_st (fun i : Nat => .int (i : Nat)) mk (fun don r s => don ++ r = List.range n ∧ I don.length s) (don := []) ⟨rfl, h0⟩ ?_ ?_
  · intro don x r s ⟨e, hI⟩
    have hl := congrArg List.length e
    simp at hl
    have hx : x = don.length := by
      have h1 : (don ++ x :: r)[don.length]? = some x := by simp
      rw [e, List.getElem?_range (by omega)] at h1
      exact (Option.some.inj h1).symm
    subst hx
    refine (hs don.length s (by omega) hI).mono fun η1 h => h.mono fun o h => ?_
    cases o with
    | nx η2 => obtain ⟨s', e1, e2⟩ := h; exact ⟨s', e1, by simpa using e, by simpa using e2⟩
    | ct η2 => obtain ⟨s', e1, e2⟩ := h; exact ⟨s', e1, by simpa using e, by simpa using e2⟩
    | bk η2 => exact h
    | rt r η2 => exact h
  · intro don s ⟨e, hI⟩
    have hl := congrArg List.length e
    simp at hl
    exact he s (hl ▸ hI)
/-- as forG_rng, over what is told of each number -/
theorem forG_rngE {S : Type} {Q : Out → Prop} (enc : Nat → D) (mk : S → List B) (I : Nat → S → Prop) {n : Nat} {s : S} (h0 : I 0 s)
    (hs : ∀ i s, i < n → I i s → Ok (g (.val (enc i)) (mk s)) fun η1 => Ok (b η1) fun o => match o with
      | .nx η2 => ∃ s', η2 = mk s' ∧ I (i + 1) s'
      | .ct η2 => ∃ s', η2 = mk s' ∧ I (i + 1) s'
      | .bk η2 => Q (.nx η2)
      | .rt r η2 => Q (.rt r η2)) (he : ∀ s, I n s → Q (.nx (mk s))) : Ok (forG g b ((List.range n).map enc) (mk s)) Q := by
  refine forG_st enc mk (fun don r s => don ++ r = List.range n ∧ I don.length s) (don := []) ⟨rfl, h0⟩ ?_ ?_
  · intro don x r s ⟨e, hI⟩
    have hl := congrArg List.length e
    simp at hl
    have hx : x = don.length := by
      have h1 : (don ++ x :: r)[don.length]? = some x := by simp
      rw [e, List.getElem?_range (by omega)] at h1
      exact (Option.some.inj h1).symm
    subst hx
    refine (hs don.length s (by omega) hI).mono fun η1 h => h.mono fun o h => ?_
    cases o with
    | nx η2 => obtain ⟨s', e1, e2⟩ := h; exact ⟨s', e1, by simpa using e, by simpa using e2⟩
    | ct η2 => obtain ⟨s', e1, e2⟩ := h; exact ⟨s', e1, by simpa using e, by simpa using e2⟩
    | bk η2 => exact h
    | rt r η2 => exact h
  · intro don s ⟨e, hI⟩
    have hl := congrArg List.length e
    simp at hl
    exact he s (hl ▸ hI)
/-- a loop over things, by how many are done -/
theorem forG_each {α S : Type} {Q : Out → Prop} (enc : α → D) (mk : S → List B) (I : Nat → S → Prop) {l : List α} {s : S} (h0 : I 0 s)
    (hs : ∀ i x s, l[i]? = some x → I i s → Ok (g (.val (enc x)) (mk s)) fun η1 => Ok (b η1) fun o => match o with
      | .nx η2 => ∃ s', η2 = mk s' ∧ I (i + 1) s'
      | .ct η2 => ∃ s', η2 = mk s' ∧ I (i + 1) s'
      | .bk η2 => Q (.nx η2)
      | .rt r η2 => Q (.rt r η2)) (he : ∀ s, I l.length s → Q (.nx (mk s))) : Ok (forG g b (l.map enc) (mk s)) Q := by
  refine forG_st enc mk (fun don r s => don ++ r = l ∧ I don.length s) (don := []) ⟨rfl, h0⟩ ?_ ?_
  · intro don x r s ⟨e, hI⟩
    refine (hs don.length x s (by rw [← e]; simp) hI).mono fun η1 h => h.mono fun o h => ?_
    cases o with
    | nx η2 => obtain ⟨s', e1, e2⟩ := h; exact ⟨s', e1, by simpa using e, by simpa using e2⟩
    | ct η2 => obtain ⟨s', e1, e2⟩ := h; exact ⟨s', e1, by simpa using e, by simpa using e2⟩
    | bk η2 => exact h
    | rt r η2 => exact h
  · intro don s ⟨e, hI⟩
    rw [List.append_nil] at e
    exact he s (e ▸ hI)
theorem rngD_r (a n : Nat) : rngD (a : Int) n = (List.range' a n).map fun i => .int ((i : Nat) : Int) := by
  rw [rngD_nat, List.range'_eq_map_range, List.map_map]
  rfl
/-- a loop that ends with a value at the first that p -/
theorem forG_any {α S : Type} (enc : α → D) (p : α → Bool) (r : PV.R) (mk : S → List B) : ∀ {l : List α} {s : S},
    (∀ x ∈ l, ∀ s, Ok (g (.val (enc x)) (mk s)) fun η1 => Ok (b η1) fun o => if p x = true then (∃ s', o = .rt r (mk s')) else ∃ s', o = .nx (mk s') ∨ o = .ct (mk s')) →
    Ok (forG g b (l.map enc) (mk s)) fun o => if l.any p = true then (∃ s', o = .rt r (mk s')) else ∃ s', o = .nx (mk s')
  | [], s, _ => ⟨s, rfl⟩
  | x :: l, s, hs => by
    have h1 := hs x List.mem_cons_self s
    rw [List.map_cons]
    unfold forG
    refine bind_ok h1 fun η1 h2 => bind_ok h2 fun o h3 => ?_
    by_cases hp : p x = true
    · rw [if_pos hp] at h3
      obtain ⟨s', rfl⟩ := h3
      rw [List.any_cons, hp]
      exact ⟨s', rfl⟩
    · rw [if_neg hp] at h3
      rw [List.any_cons, Bool.eq_false_iff.mpr hp, Bool.false_or]
      obtain ⟨s', rfl | rfl⟩ := h3
      · exact forG_any enc p r mk fun y hy => hs y (List.mem_cons_of_mem _ hy)
      · exact forG_any enc p r mk fun y hy => hs y (List.mem_cons_of_mem _ hy)
/-- a comprehension that changes nothing -/
theorem comp_pure {α : Type} (enc : α → D) (p : α → Bool) (f : α → D) {η : List B} : ∀ {l : List α} {acc : List D},
    (∀ x ∈ l, Ok (g (.val (enc x)) η) fun η1 => Ok (c η1) fun q => q.1 = p x ∧ if p x = true then Ok (fe q.2) fun z => z.1 = .val (f x) ∧ wipeB z.2 vs = η else wipeB q.2 vs = η) →
    compG g c fe vs (l.map enc) acc η = some (acc ++ (l.filter p).map f, η)
  | [], acc, _ => by simp [compG]
  | x :: l, acc, hs => by
    have h1 := hs x List.mem_cons_self
    have ih := fun acc => comp_pure enc p f (l := l) (acc := acc) fun y hy => hs y (List.mem_cons_of_mem _ hy)
    rw [List.map_cons]
    unfold compG
    refine Ok.eq ?_
    refine bind_ok h1 fun η1 h2 => bind_ok h2 fun q h3 => ?_
    obtain ⟨e, h3⟩ := h3
    rw [e]
    by_cases hp : p x = true
    · rw [if_pos hp] at h3 ⊢
      refine bind_ok h3 fun z h4 => ?_
      rw [h4.1]
      simp only [h4.2, ih, hp, List.filter_cons_of_pos, List.map_cons, List.append_assoc, List.singleton_append]
      rfl
    · rw [if_neg hp] at h3 ⊢
      rw [h3, ih]
      simp [hp]
/-- as comp_pure, of ints -/
theorem comp_int {α : Type} (enc : α → D) (p : α → Bool) (f : α → Int) {η : List B} {l : List α}
    (hs : ∀ x ∈ l, Ok (g (.val (enc x)) η) fun η1 => Ok (c η1) fun q => q.1 = p x ∧ if p x = true then Ok (fe q.2) fun z => z.1 = .val (.int (f x)) ∧ wipeB z.2 vs = η else wipeB q.2 vs = η) :
    compG g c fe vs (l.map enc) [] η = some (lI ((l.filter p).map f), η) := by
  rw [comp_pure enc p (fun x => .int (f x)) hs, List.nil_append, lI_def, List.map_map]
  rfl
/-- as comp_pure, without a test -/
theorem comp_all {α : Type} (enc : α → D) (f : α → D) {η : List B} {l : List α}
    (hs : ∀ x ∈ l, Ok (g (.val (enc x)) η) fun η1 => Ok (c η1) fun q => q.1 = true ∧ Ok (fe q.2) fun z => z.1 = .val (f x) ∧ wipeB z.2 vs = η) :
    compG g c fe vs (l.map enc) [] η = some (l.map f, η) := by
  rw [comp_pure enc (fun _ => true) f (fun x hx => by simpa using hs x hx), List.nil_append, List.filter_eq_self.mpr (by simp)]
theorem comp_allI {α : Type} (enc : α → D) (f : α → Int) {η : List B} {l : List α}
    (hs : ∀ x ∈ l, Ok (g (.val (enc x)) η) fun η1 => Ok (c η1) fun q => q.1 = true ∧ Ok (fe q.2) fun z => z.1 = .val (.int (f x)) ∧ wipeB z.2 vs = η) :
    compG g c fe vs (l.map enc) [] η = some (lI (l.map f), η) := by
  rw [comp_all enc (fun x => .int (f x)) hs, lI_def, List.map_map]
  rfl
/-- as comp_int, over data that are shown to be what they are -/
theorem comp_intD {α : Type} (enc : α → D) (p : α → Bool) (f : α → Int) {η : List B} {l : List α} {ds : List D} (hd : ds = l.map enc)
    (hs : ∀ x ∈ l, Ok (g (.val (enc x)) η) fun η1 => Ok (c η1) fun q => q.1 = p x ∧ if p x = true then Ok (fe q.2) fun z => z.1 = .val (.int (f x)) ∧ wipeB z.2 vs = η else wipeB q.2 vs = η) :
    compG g c fe vs ds [] η = some (lI ((l.filter p).map f), η) := by
  rw [hd]
  exact comp_int enc p f hs
end
theorem lI_map {α : Type} (f : α → Int) (l : List α) : lI (l.map f) = l.map fun x => .int (f x) := by
  rw [lI_def, List.map_map]
  rfl
/-- a list of rows of ints as data -/
def lT (rs : List (List Int)) : List D := rs.map fun r => tI r
theorem lT_def (rs : List (List Int)) : lT rs = rs.map fun r => tI r := rfl
@[simp] theorem lT_len (rs : List (List Int)) : (lT rs).length = rs.length := by simp [lT]
@[simp] theorem lT_app1 (rs : List (List Int)) (r : List Int) : lT rs ++ [.tuple (lI r)] = lT (rs ++ [r]) := by simp [lT]
@[simp] theorem lT_app (rs qs : List (List Int)) : lT rs ++ lT qs = lT (rs ++ qs) := by simp [lT]
@[simp] theorem lT_get (rs : List (List Int)) (i : Nat) : (lT rs)[i]? = rs[i]?.map fun r => tI r := by simp [lT]
end PV

/-! PVT: a tuple some times: none, once, more often. -/
namespace PV
open PySem PySem.Spec PyProof.Rows L2
abbrev tupO (items : Array Value) (n : Nat) (dd : Option Addr) (sl : Array (Option Value)) : Obj := { cls := .type "tuple", dict := dd, data := .seq items n, slots := sl }
theorem mul_once (l : Addr) (items : Array Value) (n : Nat) (dd : Option Addr) (sl : Array (Option Value)) (u : Tok) :
    Meets (Builtin.«tuple.__mul__» ⟨[.ref l, .int 1 u], []⟩) (fun _ R s => s.heap.get? l = some (tupO items n dd sl) ∧ R (.ok (.ret (.ref l))) s) :=
  .of_wp fun prog w A R s h => by
    obtain ⟨hp, g, d, tk, os⟩ := s
    obtain ⟨hl, h⟩ := h
    have c0 : (decide ((1 : Int) < -(2 ^ 63)) || decide ((1 : Int) ≥ 2 ^ 63)) = false := by decide
    have f1 := AutoSeq1.idx_int
    wp_walk using wpAny_loadPart' hl
    repeat (first
      | (refine wpAny_ite_false (decide_eq_false (fun z => by rw [c0] at z; cases z)) ?_; wp_walk using wpAny_loadPart' hl)
      | (refine wpAny_ite_true (decide_eq_true (by simp)) ?_; wp_walk using wpAny_loadPart' hl))
    all_goals exact ⟨_, rfl, h⟩
theorem mul_none (l : Addr) (items : Array Value) (n : Nat) (dd : Option Addr) (sl : Array (Option Value)) (x : Int) (u : Tok) (hx : x ≤ 0) (h63 : -(2 ^ 63) ≤ x) (hi : items.isEmpty = false) :
    Meets (Builtin.«tuple.__mul__» ⟨[.ref l, .int x u], []⟩) (fun _ R s => s.heap.get? l = some (tupO items n dd sl) ∧ R (.ok (.ret (.ref s.heap.objs.size))) { s with heap := s.heap.push { cls := Value.type "tuple", data := Data.seq #[] }, toks := s.toks }) :=
  .of_wp fun prog w A R s h => by
    obtain ⟨hp, g, d, tk, os⟩ := s
    obtain ⟨hl, h⟩ := h
    have c0 : (decide (x < -(2 ^ 63)) || decide (x ≥ 2 ^ 63)) = false := by
      rw [decide_eq_false (by omega), decide_eq_false (by omega)]
      rfl
    have c1 : (items.isEmpty || x == 1) = false := by
      rw [hi, Bool.false_or]
      exact beq_eq_false_iff_ne.mpr (by omega)
    have c2 : (decide (x ≤ 0) || items.isEmpty) = true := by
      rw [decide_eq_true hx]
      rfl
    have f1 := AutoSeq1.idx_int
    wp_walk using wpAny_loadPart' hl
    repeat (first
      | (refine wpAny_ite_false (decide_eq_false (fun z => by rw [c0] at z; cases z)) ?_; wp_walk using wpAny_loadPart' hl)
      | (refine wpAny_ite_false (decide_eq_false (fun z => by rw [c1] at z; cases z)) ?_; wp_walk using wpAny_loadPart' hl)
      | (refine wpAny_ite_true (decide_eq_true c2) ?_; wp_walk using wpAny_loadPart' hl))
    all_goals exact ⟨_, rfl, h⟩
def rRepT0 (K : Kf) : R2 := fun x y H Q => ∃ l k xs, x = .ref l ∧ y = .int k ∧ SqT K H l xs ∧ xs ≠ [] ∧ ((k = 1 ∧ Q (.ref l) H) ∨ (k ≤ 0 ∧ -(2 ^ 63) ≤ k ∧ ∀ p, H p = none → Q (.ref p) (upd H p (.tup []))))
section
variable {X : Cx}
theorem op_repT0 : OpR X (binaryOp .Mult) (rRepT0 X.K) := by
  intro pins s σ H x y v u Q I rx ry h
  obtain ⟨l, k, xs, rfl, rfl, hT, hne, h⟩ := h
  cases rx
  obtain ⟨t, rfl⟩ := ry
  obtain ⟨its, r, ⟨⟨cls, dd, data, sl⟩, ho, hc, n, hd⟩, hs⟩ := I.tuple hT
  simp only at hc hd
  subst hc hd
  have hi : its.toArray.isEmpty = false := by
    cases its with
    | nil =>
      cases r
      exact absurd rfl hne
    | cons a b => rfl
  rcases h with ⟨rfl, q⟩ | ⟨hk, h63, q⟩
  · exact wpAny_binaryOp_repeat_ref (T := "tuple") (U := "int") (by decide) ⟨_, ho, rfl⟩ (fun s' => typeIs_int s' 1 t) noFill_tuple_mul F.fills_int_mul F.slot_int_rmul repeat_tuple F.slot_int_index.lookup
      (call_meets F.slot_int_rmul (typeIs_int s 1 t) F.entry_int_rmul (F.args_int_rmul_2 _ _) (int_rmul_tuple 1 t l its.toArray n dd sl) ⟨ho, rfl, ⟨_, ho, rfl⟩,
        call_meets F.slot_tuple_mul ⟨_, ho, rfl⟩ F.entry_tuple_mul (F.args_tuple_mul_2 _ _) (mul_once l its.toArray n dd sl t) ⟨ho, .ref l, H, I, rfl, q⟩⟩)
  · exact wpAny_binaryOp_repeat_ref (T := "tuple") (U := "int") (by decide) ⟨_, ho, rfl⟩ (fun s' => typeIs_int s' k t) noFill_tuple_mul F.fills_int_mul F.slot_int_rmul repeat_tuple F.slot_int_index.lookup
      (call_meets F.slot_int_rmul (typeIs_int s k t) F.entry_int_rmul (F.args_int_rmul_2 _ _) (int_rmul_tuple k t l its.toArray n dd sl) ⟨ho, rfl, ⟨_, ho, rfl⟩,
        call_meets F.slot_tuple_mul ⟨_, ho, rfl⟩ F.entry_tuple_mul (F.args_tuple_mul_2 _ _) (mul_none l its.toArray n dd sl k t hk h63 hi)
          ⟨ho, .ref s.heap.objs.size, upd H s.heap.objs.size (.tup []), I.laid (t' := s.toks) (o := .tup []) (fun b ob z => Heap.get?_push_of_some _ z) (Nat.le_refl _) ⟨Nat.zero_le _, [], .nil, IsTup.new _ _⟩, rfl, q _ (I.hok.fresh (Nat.le_refl _))⟩⟩)
/-- a tuple times an int: at most 1000 of each -/
def gRepT : G2 := fun x y _ => match tupOf x, y with
  | some s, .val (.int k) => if s ≠ [] ∧ -(2 ^ 63) ≤ k ∧ k ≤ 1000 ∧ s.length ≤ 1000 then some (.val (.tuple (List.replicate k.toNat s).flatten)) else none
  | _, _ => none
theorem opS_repT {K : Kf} : OpS K (fun x y H Q => rRepT K x y H Q ∨ rRepT0 K x y H Q) gRepT := by
  intro F σ H η x y z v w Rl rv rw' e Q hQ
  unfold gRepT at e
  split at e
  · rename_i s k e1
    split at e
    · rename_i c
      cases e
      obtain ⟨a, xs, rfl, h1, l1, d1⟩ := tupOf_ok rv e1
      have hx : xs ≠ [] := by
        rintro rfl
        cases d1
        exact c.1 rfl
      by_cases h2 : 2 ≤ k
      · refine .inl ⟨a, k, xs, rfl, int_dn rw', h1, hx, h2, c.2.2.1, by rw [d1.length]; exact c.2.2.2, fun p hp => ?_⟩
        have hl : (List.replicate k.toNat xs).flatten.length ≤ sizeLine := by
          rw [PyProof.Rows.lm_len_rep_flat, d1.length, sizeLine_eq]
          have := Nat.mul_le_mul (show k.toNat ≤ 1000 by omega) c.2.2.2
          omega
        obtain ⟨n1, n2, n3⟩ := new_tup Rl hl (d1.flatRep k.toNat) hp
        exact hQ _ _ n1 n2 n3
      · refine .inr ⟨a, k, xs, rfl, int_dn rw', h1, hx, ?_⟩
        by_cases h3 : k = 1
        · subst h3
          refine .inl ⟨rfl, hQ H _ (.refl Rl) ?_ trivial⟩
          have es : (List.replicate (Int.toNat 1) s).flatten = s := by simp
          rw [es]
          exact .tup h1 l1 d1
        · refine .inr ⟨by omega, c.2.1, fun p hp => ?_⟩
          have e0 : k.toNat = 0 := by omega
          obtain ⟨n1, n2, n3⟩ := new_tup (ds := []) Rl (Nat.zero_le _) .nil hp
          refine hQ _ _ n1 ?_ n3
          rw [e0]
          exact n2
    · cases e
  · cases e
end
def gMulT : G2 := fun x y η => match gMul x y η with
  | some z => some z
  | none => gRepT x y η
theorem oMulT {X : Cx} : OpR X (binaryOp .Mult) (fun x y H Q => rMulA x y H Q ∨ (fun x y H Q => rRepT X.K x y H Q ∨ rRepT0 X.K x y H Q) x y H Q) ∧
    OpS X.K (fun x y H Q => rMulA x y H Q ∨ (fun x y H Q => rRepT X.K x y H Q ∨ rRepT0 X.K x y H Q) x y H Q) gMulT := ⟨oMul.1.or (op_repT.or op_repT0), oMul.2.or opS_repT⟩
@[simp] theorem gMulT_tup (ds : List D) (k : Int) (η : List B) : gMulT (.val (.tuple ds)) (.val (.int k)) η = if ds ≠ [] ∧ -(2 ^ 63) ≤ k ∧ k ≤ 1000 ∧ ds.length ≤ 1000 then some (.val (.tuple (List.replicate k.toNat ds).flatten)) else none := by
  simp [gMulT, gMul, gMulI, gRep, gRepT]
end PV

/-! PVM: least and greatest of ints. -/
namespace PV
open PySem PySem.Spec PyProof.Rows L2
def maxL (x : Int) (xs : List Int) : Int := xs.foldl (fun a y => if a < y then y else a) x
def minL (x : Int) (xs : List Int) : Int := xs.foldl (fun a y => if y < a then y else a) x
def maxI : List Int → Int
  | [] => 0
  | x :: xs => maxL x xs
def minI : List Int → Int
  | [] => 0
  | x :: xs => minL x xs
theorem maxL_ge (x : Int) (xs : List Int) : x ≤ maxL x xs ∧ ∀ y ∈ xs, y ≤ maxL x xs := by
  unfold maxL
  induction xs generalizing x with
  | nil => simp
  | cons z xs ih =>
    rw [List.foldl_cons]
    have h := ih (if x < z then z else x)
    have h1 : x ≤ (if x < z then z else x) := by split <;> omega
    have h2 : z ≤ (if x < z then z else x) := by split <;> omega
    refine ⟨Int.le_trans h1 h.1, fun y hy => ?_⟩
    rcases List.mem_cons.mp hy with rfl | hy
    · exact Int.le_trans h2 h.1
    · exact h.2 y hy
theorem maxL_mem (x : Int) (xs : List Int) : maxL x xs ∈ x :: xs := by
  unfold maxL
  induction xs generalizing x with
  | nil => simp
  | cons z xs ih =>
    rw [List.foldl_cons]
    have h := ih (if x < z then z else x)
    rcases List.mem_cons.mp h with h | h
    · rw [h]
      split <;> simp
    · exact List.mem_cons_of_mem _ (List.mem_cons_of_mem _ h)
theorem minL_le (x : Int) (xs : List Int) : minL x xs ≤ x ∧ ∀ y ∈ xs, minL x xs ≤ y := by
  unfold minL
  induction xs generalizing x with
  | nil => simp
  | cons z xs ih =>
    rw [List.foldl_cons]
    have h := ih (if z < x then z else x)
    have h1 : (if z < x then z else x) ≤ x := by split <;> omega
    have h2 : (if z < x then z else x) ≤ z := by split <;> omega
    refine ⟨Int.le_trans h.1 h1, fun y hy => ?_⟩
    rcases List.mem_cons.mp hy with rfl | hy
    · exact Int.le_trans h.1 h2
    · exact h.2 y hy
theorem minL_mem (x : Int) (xs : List Int) : minL x xs ∈ x :: xs := by
  unfold minL
  induction xs generalizing x with
  | nil => simp
  | cons z xs ih =>
    rw [List.foldl_cons]
    have h := ih (if z < x then z else x)
    rcases List.mem_cons.mp h with h | h
    · rw [h]
      split <;> simp
    · exact List.mem_cons_of_mem _ (List.mem_cons_of_mem _ h)
theorem maxI_ge {xs : List Int} {y : Int} (h : y ∈ xs) : y ≤ maxI xs := by
  cases xs with
  | nil => cases h
  | cons x xs =>
    rcases List.mem_cons.mp h with rfl | h
    · exact (maxL_ge _ _).1
    · exact (maxL_ge _ _).2 y h
theorem maxI_mem {xs : List Int} (h : xs ≠ []) : maxI xs ∈ xs := by
  cases xs with
  | nil => exact absurd rfl h
  | cons x xs => exact maxL_mem x xs
theorem maxI_le {xs : List Int} {m : Int} (h : xs ≠ []) (hm : ∀ x ∈ xs, x ≤ m) : maxI xs ≤ m := hm _ (maxI_mem h)
theorem minI_le {xs : List Int} {y : Int} (h : y ∈ xs) : minI xs ≤ y := by
  cases xs with
  | nil => cases h
  | cons x xs =>
    rcases List.mem_cons.mp h with rfl | h
    · exact (minL_le _ _).1
    · exact (minL_le _ _).2 y h
theorem minI_mem {xs : List Int} (h : xs ≠ []) : minI xs ∈ xs := by
  cases xs with
  | nil => exact absurd rfl h
  | cons x xs => exact minL_mem x xs
theorem likeB_ints (xs : List Int) : likeB (lI xs) = true := by
  unfold likeB
  rw [Bool.and_eq_true, Bool.and_eq_true]
  refine ⟨⟨?_, ?_⟩, ?_⟩
  · rw [List.all_eq_true]
    intro x hx
    rw [List.all_eq_true]
    intro y hy
    obtain ⟨i, _, rfl⟩ := List.mem_map.mp hx
    obtain ⟨j, _, rfl⟩ := List.mem_map.mp hy
    simp [PySem.W.alike]
  · rw [List.all_eq_true]
    intro x hx
    obtain ⟨i, _, rfl⟩ := List.mem_map.mp hx
    rfl
  · rw [decide_eq_true_eq, depthAll_iff]
    intro x hx
    obtain ⟨i, _, rfl⟩ := List.mem_map.mp hx
    simp [PyData.depth]
theorem dataLt_int (i j : Int) : PySem.W.dataLt (.int i) (.int j) = decide (i < j) := PySem.W.dataLt_int i j
theorem maxD_ints (x : Int) (xs : List Int) : PySem.W.maxD (.int x) (lI xs) = .int (maxL x xs) := by
  unfold PySem.W.maxD maxL lI
  rw [List.foldl_map]
  induction xs generalizing x with
  | nil => rfl
  | cons z xs ih =>
    rw [List.foldl_cons, List.foldl_cons, ← ih]
    congr 1
    rw [dataLt_int]
    by_cases h : x < z <;> simp [h]
theorem minD_ints (x : Int) (xs : List Int) : PySem.W.minD (.int x) (lI xs) = .int (minL x xs) := by
  unfold PySem.W.minD minL lI
  rw [List.foldl_map]
  induction xs generalizing x with
  | nil => rfl
  | cons z xs ih =>
    rw [List.foldl_cons, List.foldl_cons, ← ih]
    congr 1
    rw [dataLt_int]
    by_cases h : z < x <;> simp [h]
theorem gMax1_ints {r : PV.R} {η : List B} {xs : List Int} (h : seqOf η r = some (lI xs)) (hx : xs ≠ []) : gMax1 [r] η = some (.val (.int (maxI xs))) := by
  cases xs with
  | nil => exact absurd rfl hx
  | cons x xs =>
    have h2 := likeB_ints (x :: xs)
    have h3 : lI (x :: xs) = .int x :: lI xs := rfl
    rw [h3] at h h2
    simp only [gMax1, gBest, h, h2, if_true, maxD_ints]
    rfl
theorem gMin1_ints {r : PV.R} {η : List B} {xs : List Int} (h : seqOf η r = some (lI xs)) (hx : xs ≠ []) : gMin1 [r] η = some (.val (.int (minI xs))) := by
  cases xs with
  | nil => exact absurd rfl hx
  | cons x xs =>
    have h2 := likeB_ints (x :: xs)
    have h3 : lI (x :: xs) = .int x :: lI xs := rfl
    rw [h3] at h h2
    simp only [gMin1, gBest, h, h2, if_true, minD_ints]
    rfl
@[simp] theorem gMax1_tI (xs : List Int) (η : List B) (h : xs ≠ []) : gBest PySem.W.maxD [.val (.tuple (lI xs))] η = some (.val (.int (maxI xs))) := gMax1_ints rfl h
@[simp] theorem gMax1_fI (xs : List Int) (η : List B) (h : xs ≠ []) : gBest PySem.W.maxD [.fr (.lst (lI xs))] η = some (.val (.int (maxI xs))) := gMax1_ints rfl h
@[simp] theorem gMin1_tI (xs : List Int) (η : List B) (h : xs ≠ []) : gBest PySem.W.minD [.val (.tuple (lI xs))] η = some (.val (.int (minI xs))) := gMin1_ints rfl h
@[simp] theorem gMin1_fI (xs : List Int) (η : List B) (h : xs ≠ []) : gBest PySem.W.minD [.fr (.lst (lI xs))] η = some (.val (.int (minI xs))) := gMin1_ints rfl h
/-! ### sorted rows of ints -/
theorem dataLt_tI (xs ys : List Int) : PySem.W.dataLt (tI xs) (tI ys) = decide (xs < ys) := by
  rw [PySem.W.dataLt_tuple]
  exact PySem.W.dataLt_ints xs ys
theorem sortD_id {ds : List D} (h : ds.Pairwise fun a b => leD a b = true) : sortD ds = ds := List.mergeSort_of_pairwise h
theorem gSorted_fr {ds : List D} {η : List B} (h1 : likeB ds = true) (h2 : sortB ds = true) : gSorted [.fr (.lst ds)] η = some (.fr (.lst (sortD ds))) := by
  simp [gSorted, h1, h2]
theorem gSorted_tup {r : PV.R} {ds : List D} {η : List B} (h : lsqOf η r = some ds) (h1 : likeB ds = true) (h2 : sortB ds = true) : gSorted [r] η = some (.fr (.lst (sortD ds))) := by
  unfold gSorted
  simp only [h, Option.bind_some, h1, h2, Bool.and_self, if_true]
theorem alikeAll_ints : ∀ xs ys : List Int, xs.length = ys.length → PySem.W.alikeAll (lI xs) (lI ys) = true
  | [], [], _ => by simp [lI, PySem.W.alikeAll]
  | [], _ :: _, h => by simp at h
  | _ :: _, [], h => by simp at h
  | x :: xs, y :: ys, h => by
    have ih := alikeAll_ints xs ys (by simpa using h)
    simp only [lI, List.map_cons, PySem.W.alikeAll, PySem.W.alike, Bool.true_and]
    exact ih
theorem likeB_rows {ds : List D} (n : Nat) (h : ∀ d ∈ ds, ∃ xs : List Int, d = tI xs ∧ xs.length = n) : likeB ds = true := by
  unfold likeB
  rw [Bool.and_eq_true, Bool.and_eq_true]
  refine ⟨⟨?_, ?_⟩, ?_⟩
  · rw [List.all_eq_true]
    intro x hx
    rw [List.all_eq_true]
    intro y hy
    obtain ⟨xs, rfl, e1⟩ := h x hx
    obtain ⟨ys, rfl, e2⟩ := h y hy
    simp only [PySem.W.alike]
    exact alikeAll_ints xs ys (by omega)
  · rw [List.all_eq_true]
    intro x hx
    obtain ⟨xs, rfl, e1⟩ := h x hx
    rfl
  · rw [decide_eq_true_eq, depthAll_iff]
    intro x hx
    obtain ⟨xs, rfl, e1⟩ := h x hx
    exact Nat.le_trans (dpt_ints (n := 0) xs).2 (by decide)
theorem sortB_rows {ds : List D} (h : ∀ d ∈ ds, ∃ (x : Int) (xs : List Int), d = tI (x :: xs)) : sortB ds = true := by
  unfold sortB
  rw [Bool.or_eq_true]
  refine .inl ?_
  rw [List.all_eq_true]
  intro d hd
  obtain ⟨x, xs, rfl⟩ := h d hd
  rfl
theorem sortB_ints (xs : List Int) : sortB (lI xs) = true := by
  unfold sortB
  rw [Bool.or_eq_true]
  refine .inr ?_
  rw [List.all_eq_true]
  intro d hd
  obtain ⟨i, _, rfl⟩ := List.mem_map.mp hd
  rfl
end PV

/-! M48: the mathematics of channels. -/
namespace PV
open PySem PySem.Spec PyProof.Rows L2
/-! ### the least number that is not taken -/
theorem pigeon : ∀ (n : Nat) (t : List Int), (∀ i : Nat, i < n → (i : Int) ∈ t) → n ≤ t.length
  | 0, _, _ => Nat.zero_le _
  | n + 1, t, h => by
    have hn := h n (Nat.lt_succ_self n)
    have ih := pigeon n (t.erase (n : Int)) fun i hi => (List.mem_erase_of_ne (by omega)).mpr (h i (by omega))
    rw [List.length_erase_of_mem hn] at ih
    have := List.length_pos_of_mem hn
    omega
def freeB (t : List Int) (i : Nat) : Bool := !decide ((i : Int) ∈ t)
def mex (t : List Int) : Nat := ((List.range (t.length + 1)).find? (freeB t)).getD 0
theorem mex_some (t : List Int) : (List.range (t.length + 1)).find? (freeB t) = some (mex t) := by
  unfold mex
  cases h : (List.range (t.length + 1)).find? (freeB t) with
  | some i => rfl
  | none =>
    have h2 := List.find?_eq_none.mp h
    have := pigeon (t.length + 1) t fun i hi => by
      have := h2 i (List.mem_range.mpr hi)
      simpa [freeB] using this
    omega
theorem mex_spec (t : List Int) : (mex t : Int) ∉ t ∧ (∀ i : Nat, i < mex t → (i : Int) ∈ t) ∧ mex t ≤ t.length := by
  have h := mex_some t
  have h1 := List.find?_some h
  refine ⟨by simpa [freeB] using h1, fun i hi => ?_, ?_⟩
  · rw [List.find?_range_eq_some] at h
    have := h.2.2 i hi
    simpa [freeB] using this
  · have := List.mem_range.mp (List.mem_of_find?_eq_some h)
    omega
theorem mex_filter (t : List Int) : ((List.range (t.length + 1)).filter (freeB t))[0]? = some (mex t) := by
  rw [← List.head?_eq_getElem?, List.head?_filter, mex_some]
/-! ### who is near ahead; the told channels -/
def nearAhead (ms : List Int) (near : Int) (a : Nat) : List Nat := (List.range a).filter fun o => decide (gt ms a - gt ms o < near)
def toldN (ms : List Int) (near : Int) : Nat → List Int
  | 0 => []
  | a + 1 => toldN ms near a ++ [((mex ((nearAhead ms near a).map fun o => gt (toldN ms near a) o) : Nat) : Int)]
abbrev told (ms : List Int) (near : Int) : List Int := toldN ms near ms.length
@[simp] theorem toldN_len (ms : List Int) (near : Int) (a : Nat) : (toldN ms near a).length = a := by
  induction a with
  | zero => rfl
  | succ a ih => simp [toldN, ih]
def clearB (ms : List Int) (near gap : Int) (cs : List Int) : Bool := decide (cs.length = ms.length) && !(cs.any fun c => decide (c < 0)) && !((List.range ms.length).any fun a => (nearAhead ms near a).any fun o => decide (absI (gt cs a - gt cs o) < gap))
abbrev toI (l : List Nat) : List Int := l.map fun i : Nat => (i : Int)
def crowdAt (ms : List Int) (near : Int) (k : Nat) : List Nat := (List.range' k (ms.length - k)).filter fun o => decide (gt ms o - gt ms k < near)
def crowdN (ms : List Int) (near : Int) : Nat → List Nat
  | 0 => []
  | k + 1 => if (crowdN ms near k).length < (crowdAt ms near k).length then crowdAt ms near k else crowdN ms near k
def fewest (ms : List Int) (near : Int) : Int := maxI (told ms near ++ [-1]) + 1
def spanI (ms : List Int) (near gap : Int) : Int := gap * if fewest ms near - 1 < 0 then 0 else fewest ms near - 1
theorem spanI_eq (ms : List Int) (near gap : Int) : spanI ms near gap = gap * max (fewest ms near - 1) 0 := by
  unfold spanI
  congr 1
  omega
def addedT (ms : List Int) (near at_ : Int) : List Int := ((List.range ms.length).filter fun o => decide (absI (gt ms o - at_) < near)).map fun o => gt (told ms near) o
/-! ### masts as stretches, as bookings -/
def stretch (near : Int) (ms : List Int) : List D := ms.map fun m => tI [m, m + near - 1]
def booking (low near : Int) (ms : List Int) : List D := ms.map fun m => tI [m - low, m - low + near]
def reach (near : Int) (found : List Int) (m : Int) : List Int := if found = [] ∨ found.getLast?.getD 0 < m then found ++ [m + near - 1] else found
def standing (near : Int) (ms : List Int) (m : Int) : Nat := (ms.filter fun x => decide (x ≤ m ∧ m < x + near)).length
def seatsI (near : Int) (ms : List Int) : Int := maxI (ms.map (fun m => (standing near ms m : Int)) ++ [0])
theorem lt3 {a b c x y z : Int} (h1 : a ≤ x) (h2 : b ≤ y) (h3 : c ≤ z) : ¬ ([x, y, z] : List Int) < [a, b, c] := by
  intro h
  rcases List.cons_lt_cons_iff.mp h with h | ⟨_, h⟩
  · omega
  · rcases List.cons_lt_cons_iff.mp h with h | ⟨_, h⟩
    · omega
    · rcases List.cons_lt_cons_iff.mp h with h | ⟨_, h⟩
      · omega
      · simp at h
def bad2 (ms : List Int) (near gap : Int) (cs : List Int) (a o : Nat) : Bool := decide (gt ms a - gt ms o < near) && decide (absI (gt cs a - gt cs o) < gap)
def badAt (ms : List Int) (near gap : Int) (cs : List Int) (a : Nat) : Bool := (List.range a).any (bad2 ms near gap cs a)
theorem clearB_eq (ms : List Int) (near gap : Int) (cs : List Int) : clearB ms near gap cs = (decide (cs.length = ms.length) && !(cs.any fun c => decide (c < 0)) && !((List.range ms.length).any (badAt ms near gap cs))) := by
  unfold clearB
  congr 2
  congr 1
  funext a
  unfold nearAhead badAt
  rw [List.any_filter]
  rfl
/-! ### all rows of channels -/
def okOne (ms : List Int) (near gap : Int) (row : List Int) (k : Nat) (one : Int) : Bool := (List.range k).all fun j => !(decide (gt ms k - gt ms j < near) && decide (absI (one - gt row j) < gap))
def rowsN (ms : List Int) (near gap : Int) (most : Nat) : Nat → List (List Int)
  | 0 => [[]]
  | k + 1 => (rowsN ms near gap most k).flatMap fun row => ((List.range (most + 1)).filter fun one : Nat => okOne ms near gap row k one).map fun one : Nat => row ++ [(one : Int)]
/-! ### the law's own crowd is the program's, for masts in order -/
def crowdTo (ms : List Int) (near : Int) (k j : Nat) : List Nat := (List.range' k j).filter fun o => decide (gt ms o - gt ms k < near)
theorem crowdTo_all (ms : List Int) (near : Int) (k : Nat) : crowdTo ms near k (ms.length - k) = crowdAt ms near k := rfl
theorem crowdTo_succ (ms : List Int) (near : Int) (k j : Nat) : crowdTo ms near k (j + 1) = if gt ms (k + j) - gt ms k < near then crowdTo ms near k j ++ [k + j] else crowdTo ms near k j := by
  unfold crowdTo
  rw [List.range'_concat, List.filter_append, Nat.one_mul]
  by_cases h : gt ms (k + j) - gt ms k < near
  · simp [h]
  · simp [h]
theorem crowdTo_one {ms : List Int} {near : Int} (k : Nat) (h : 0 < near) : crowdTo ms near k 1 = [k] := by
  simp [crowdTo, h]
theorem crowdTo_ge {ms : List Int} {near : Int} {k j o : Nat} (h : o ∈ crowdTo ms near k j) : k ≤ o ∧ o < k + j := by
  have := List.mem_range'_1.mp (List.mem_filter.mp h).1
  omega
theorem crowdTo_head {ms : List Int} {near : Int} {k j : Nat} (h : 0 < near) (hj : 0 < j) : k ∈ crowdTo ms near k j := by
  refine List.mem_filter.mpr ⟨List.mem_range'_1.mpr ⟨Nat.le_refl _, by omega⟩, by simpa using h⟩
theorem gt_le {ms : List Int} (hs : ms.Pairwise (· ≤ ·)) {i j : Nat} (h : i ≤ j) (hj : j < ms.length) : gt ms i ≤ gt ms j := by
  rcases Nat.lt_or_ge i j with h2 | h2
  · rw [gt_eq hj, gt_eq (show i < ms.length by omega)]
    exact List.pairwise_iff_getElem.mp hs i j (by omega) hj h2
  · rw [show i = j by omega]
    exact Int.le_refl _
/-- nobody of the crowd is far from j: just if its first isn't -/
theorem crowd_far {ms : List Int} {near : Int} {k j : Nat} (hs : ms.Pairwise (· ≤ ·)) (hn : 0 < near) (hj : 0 < j) (hl : k + j < ms.length) :
    ((crowdTo ms near k j).filter fun o => decide (near ≤ gt ms (k + j) - gt ms o)) = [] ↔ gt ms (k + j) - gt ms k < near := by
  rw [List.filter_eq_nil_iff]
  refine ⟨fun h => ?_, fun h o ho => ?_⟩
  · have := h k (crowdTo_head hn hj)
    simpa using this
  · obtain ⟨h1, h2⟩ := crowdTo_ge ho
    have := gt_le hs h1 (by omega)
    simp only [decide_eq_true_eq]
    omega
theorem flat_len {α β : Type} (f : α → List β) (c : Nat) : ∀ l : List α, (∀ x, (f x).length ≤ c) → (l.flatMap f).length ≤ l.length * c
  | [], _ => by simp
  | x :: l, h => by
    rw [List.flatMap_cons, List.length_append, List.length_cons, Nat.add_mul, Nat.one_mul]
    have := flat_len f c l h
    have := h x
    omega
def grow (ms : List Int) (near gap : Int) (most k : Nat) (row : List Int) : List (List Int) := ((List.range (most + 1)).filter fun one : Nat => okOne ms near gap row k one).map fun one : Nat => row ++ [(one : Int)]
theorem grow_len (ms : List Int) (near gap : Int) (most k : Nat) (row : List Int) : (grow ms near gap most k row).length ≤ most + 1 := by
  unfold grow
  rw [List.length_map]
  have := List.length_filter_le (fun one : Nat => okOne ms near gap row k one) (List.range (most + 1))
  simpa using this
theorem rowsN_succ (ms : List Int) (near gap : Int) (most k : Nat) : rowsN ms near gap most (k + 1) = (rowsN ms near gap most k).flatMap (grow ms near gap most k) := rfl
theorem rowsN_len (ms : List Int) (near gap : Int) (most : Nat) : ∀ k, (rowsN ms near gap most k).length ≤ (most + 1) ^ k
  | 0 => by simp [rowsN]
  | k + 1 => by
    rw [rowsN_succ]
    have h1 := flat_len (grow ms near gap most k) (most + 1) (rowsN ms near gap most k) (grow_len ms near gap most k)
    have h2 := Nat.mul_le_mul_right (most + 1) (rowsN_len ms near gap most k)
    rw [Nat.pow_succ]
    omega
theorem rowsN_row (ms : List Int) (near gap : Int) (most : Nat) : ∀ k row, row ∈ rowsN ms near gap most k → row.length = k
  | 0, row, h => by
    have : row = [] := by simpa [rowsN] using h
    subst this
    rfl
  | k + 1, row, h => by
    rw [rowsN_succ] at h
    obtain ⟨r, hr, h⟩ := List.mem_flatMap.mp h
    obtain ⟨one, _, rfl⟩ := List.mem_map.mp h
    have := rowsN_row ms near gap most k r hr
    simp [this]
def fbOf : Bool → List D → B
  | true, l => .obj 0 (.lst l)
  | false, l => .val (.list l)
end PV

/-! N48: the laws of channels. -/
namespace PV
open PySem PySem.Spec PyProof.Rows L2
theorem nodup_le {α : Type} [DecidableEq α] : ∀ {l m : List α}, l.Nodup → (∀ x ∈ l, x ∈ m) → l.length ≤ m.length
  | [], _, _, _ => Nat.zero_le _
  | x :: l, m, h, hs => by
    have hx := hs x List.mem_cons_self
    obtain ⟨h1, h2⟩ := List.nodup_cons.mp h
    have ih := nodup_le (m := m.erase x) h2 fun y hy => (List.mem_erase_of_ne (fun e : y = x => h1 (by rw [← e]; exact hy))).mpr (hs y (List.mem_cons_of_mem _ hy))
    rw [List.length_erase_of_mem hx] at ih
    have := List.length_pos_of_mem hx
    rw [List.length_cons]
    omega
theorem nodup_int {l : List Int} {N : Nat} (h : l.Nodup) (hb : ∀ x ∈ l, 0 ≤ x ∧ x < N) : l.length ≤ N := by
  have := nodup_le (m := (List.range N).map fun i : Nat => (i : Int)) h fun x hx => by
    have := hb x hx
    exact List.mem_map.mpr ⟨x.toNat, List.mem_range.mpr (by omega), by omega⟩
  simpa using this
section
variable {ms : List Int} {near : Int}
theorem gt_app {xs : List Int} {y : Int} {i : Nat} (h : i < xs.length) : gt (xs ++ [y]) i = gt xs i := by
  unfold gt
  rw [List.getElem?_append_left h]
theorem gt_app_at {xs : List Int} {y : Int} : gt (xs ++ [y]) xs.length = y := by
  unfold gt
  simp
theorem toldN_pre {o a b : Nat} (ho : o < a) (hb : a ≤ b) : gt (toldN ms near b) o = gt (toldN ms near a) o := by
  induction b with
  | zero => omega
  | succ b ih =>
    rcases Nat.lt_or_ge a (b + 1) with h | h
    · rw [toldN, gt_app (by simp; omega)]
      exact ih (by omega)
    · rw [show a = b + 1 by omega]
theorem mem_near {a o : Nat} : o ∈ nearAhead ms near a ↔ o < a ∧ gt ms a - gt ms o < near := by
  simp [nearAhead]
theorem told_at {a : Nat} (h : a < ms.length) : gt (told ms near) a = (mex ((nearAhead ms near a).map fun o => gt (told ms near) o) : Nat) := by
  rw [toldN_pre (a := a + 1) (by omega) (by omega), toldN]
  have e := gt_app_at (xs := toldN ms near a) (y := ((mex ((nearAhead ms near a).map fun o => gt (toldN ms near a) o) : Nat) : Int))
  rw [toldN_len] at e
  rw [e]
  congr 2
  refine List.map_congr_left fun o ho => ?_
  exact (toldN_pre (mem_near.mp ho).1 (by omega)).symm
theorem told_nonneg {a : Nat} (h : a < ms.length) : 0 ≤ gt (told ms near) a := by
  rw [told_at h]
  omega
theorem told_le {a : Nat} (h : a < ms.length) : gt (told ms near) a ≤ a := by
  rw [told_at h]
  have h1 := (mex_spec ((nearAhead ms near a).map fun o => gt (told ms near) o)).2.2
  have h2 : (nearAhead ms near a).length ≤ a := by
    have := List.length_filter_le (fun o => decide (gt ms a - gt ms o < near)) (List.range a)
    simpa [nearAhead] using this
  rw [List.length_map] at h1
  omega
theorem told_ne {a o : Nat} (h : a < ms.length) (ho : o ∈ nearAhead ms near a) : gt (told ms near) o ≠ gt (told ms near) a := by
  intro e
  rw [told_at h] at e
  refine (mex_spec ((nearAhead ms near a).map fun o => gt (told ms near) o)).1 ?_
  rw [← e]
  exact List.mem_map.mpr ⟨o, ho, rfl⟩
theorem told_full {a : Nat} (h : a < ms.length) : gt (told ms near) a ≤ ((nearAhead ms near a).length : Nat) := by
  rw [told_at h]
  have := (mex_spec ((nearAhead ms near a).map fun o => gt (told ms near) o)).2.2
  rw [List.length_map] at this
  omega
theorem mem_told {x : Int} (h : x ∈ told ms near) : ∃ a, a < ms.length ∧ x = gt (told ms near) a := by
  obtain ⟨a, ha, e⟩ := List.mem_iff_getElem.mp h
  exact ⟨a, by simpa using ha, by rw [gt_eq ha, e]⟩
theorem told_mem {a : Nat} (h : a < ms.length) : gt (told ms near) a ∈ told ms near := by
  rw [gt_eq (show a < (told ms near).length by simpa using h)]
  exact List.getElem_mem _
theorem told_lt_fewest {a : Nat} (h : a < ms.length) : gt (told ms near) a < fewest ms near := by
  unfold fewest
  have := maxI_ge (List.mem_append_left [-1] (told_mem (near := near) h))
  omega
theorem fewest_nonneg : 0 ≤ fewest ms near := by
  unfold fewest
  have := maxI_ge (xs := told ms near ++ [-1]) (y := -1) (by simp)
  omega
theorem fewest_le : fewest ms near ≤ ms.length := by
  unfold fewest
  have := maxI_le (xs := told ms near ++ [-1]) (m := (ms.length : Int) - 1) (by simp) fun x hx => by
    rcases List.mem_append.mp hx with hx | hx
    · obtain ⟨a, ha, rfl⟩ := mem_told hx
      have := told_le (near := near) ha
      omega
    · rw [List.mem_singleton.mp hx]
      omega
  omega
theorem fewest_top (h : 0 < ms.length) : ∃ a, a < ms.length ∧ gt (told ms near) a = fewest ms near - 1 := by
  have h1 : maxI (told ms near ++ [-1]) ∈ told ms near ++ [-1] := maxI_mem (by simp)
  have h2 := told_nonneg (near := near) h
  have h3 := maxI_ge (List.mem_append_left [-1] (told_mem (near := near) h))
  rcases List.mem_append.mp h1 with h1 | h1
  · obtain ⟨a, ha, e⟩ := mem_told h1
    exact ⟨a, ha, by unfold fewest; omega⟩
  · have := List.mem_singleton.mp h1
    omega
theorem maxI_same {xs ys : List Int} (hx : xs ≠ []) (hy : ys ≠ []) (h1 : ∀ x ∈ xs, x ∈ ys) (h2 : ∀ y ∈ ys, y ∈ xs) : maxI xs = maxI ys := by
  have a := maxI_ge (h1 _ (maxI_mem hx))
  have b := maxI_ge (h2 _ (maxI_mem hy))
  omega
theorem fewest_law : maxI (-1 :: told ms near) + 1 = fewest ms near := by
  unfold fewest
  rw [maxI_same (xs := -1 :: told ms near) (ys := told ms near ++ [-1]) (by simp) (by simp) (by simp; exact fun x hx => .inl hx) (by simp; exact fun x hx => hx.symm)]
/-- places each two of which are near have channels of their own -/
theorem clique_le {l : List Nat} (hn : l.Nodup) (hl : ∀ o ∈ l, o < ms.length) (hc : ∀ o ∈ l, ∀ p ∈ l, o < p → gt ms p - gt ms o < near) : (l.length : Int) ≤ fewest ms near := by
  have hne : ∀ o ∈ l, ∀ p ∈ l, gt (told ms near) o = gt (told ms near) p → o = p := by
    intro o ho p hp e
    rcases Nat.lt_trichotomy o p with h | h | h
    · exact absurd e (told_ne (hl p hp) (mem_near.mpr ⟨h, hc o ho p hp h⟩))
    · exact h
    · exact absurd e.symm (told_ne (hl o ho) (mem_near.mpr ⟨h, hc p hp o ho h⟩))
  have h1 : (l.map fun o => gt (told ms near) o).Nodup := by
    unfold List.Nodup
    rw [List.pairwise_map]
    exact List.Pairwise.imp_of_mem (fun {a b} ha hb hab e => hab (hne a ha b hb e)) hn
  have h2 := nodup_int (N := (fewest ms near).toNat) h1 fun x hx => by
    obtain ⟨o, ho, rfl⟩ := List.mem_map.mp hx
    have a := told_nonneg (near := near) (hl o ho)
    have b := told_lt_fewest (near := near) (hl o ho)
    have := fewest_nonneg (ms := ms) (near := near)
    omega
  rw [List.length_map] at h2
  have := fewest_nonneg (ms := ms) (near := near)
  omega
/-- some place, and those near ahead of it, are as many as channels are needed -/
theorem clique_top (h : 0 < ms.length) : ∃ a, a < ms.length ∧ fewest ms near ≤ ((nearAhead ms near a ++ [a]).length : Nat) ∧ (nearAhead ms near a ++ [a]).Pairwise (· < ·) ∧ ∀ o ∈ nearAhead ms near a ++ [a], o ≤ a := by
  obtain ⟨a, ha, e⟩ := fewest_top (near := near) h
  have := told_full (near := near) ha
  refine ⟨a, ha, by simp; omega, ?_, ?_⟩
  · rw [List.pairwise_append]
    refine ⟨List.Pairwise.filter _ List.pairwise_lt_range, List.pairwise_singleton _ _, fun o ho p hp => ?_⟩
    rw [List.mem_singleton.mp hp]
    exact (mem_near.mp ho).1
  · intro o ho
    rcases List.mem_append.mp ho with ho | ho
    · exact Nat.le_of_lt (mem_near.mp ho).1
    · rw [List.mem_singleton.mp ho]
      exact Nat.le_refl _
theorem crowd_mem {k o : Nat} (hk : k ≤ ms.length) : o ∈ crowdAt ms near k ↔ k ≤ o ∧ o < ms.length ∧ gt ms o - gt ms k < near := by
  unfold crowdAt
  rw [List.mem_filter, List.mem_range'_1]
  simp
  omega
theorem crowd_nodup (k : Nat) : (crowdAt ms near k).Nodup := List.Pairwise.filter _ (List.nodup_range')
theorem crowd_le (hs : ms.Pairwise (· ≤ ·)) {k : Nat} (hk : k < ms.length) : ((crowdAt ms near k).length : Int) ≤ fewest ms near := by
  refine clique_le (crowd_nodup k) (fun o ho => ((crowd_mem (by omega)).mp ho).2.1) fun o ho p hp h => ?_
  have a := (crowd_mem (by omega)).mp ho
  have b := (crowd_mem (by omega)).mp hp
  have := gt_le hs a.1 a.2.1
  omega
theorem crowd_top (hs : ms.Pairwise (· ≤ ·)) (hn : 0 < near) (h : 0 < ms.length) : ∃ k, k < ms.length ∧ fewest ms near ≤ ((crowdAt ms near k).length : Nat) := by
  obtain ⟨a, ha, h1, h2, h3⟩ := clique_top (near := near) h
  cases e : nearAhead ms near a ++ [a] with
  | nil => simp at e
  | cons k r =>
    rw [e] at h1 h2 h3
    have hk : k ≤ a := h3 k List.mem_cons_self
    have hka : gt ms a - gt ms k < near := by
      have : k ∈ nearAhead ms near a ++ [a] := by rw [e]; exact List.mem_cons_self
      rcases List.mem_append.mp this with h | h
      · exact (mem_near.mp h).2
      · rw [List.mem_singleton.mp h]
        omega
    refine ⟨k, by omega, Int.le_trans h1 (Int.ofNat_le.mpr (nodup_le (List.Pairwise.imp (fun h => Nat.ne_of_lt h) h2) fun o ho => ?_))⟩
    have hko : k ≤ o := by
      rcases List.mem_cons.mp ho with rfl | ho
      · exact Nat.le_refl _
      · exact Nat.le_of_lt ((List.pairwise_cons.mp h2).1 o ho)
    have hoa := h3 o ho
    have := gt_le hs hoa ha
    exact (crowd_mem (by omega)).mpr ⟨hko, by omega, by omega⟩
theorem crowdN_max : ∀ n : Nat, (∀ k, k < n → (crowdAt ms near k).length ≤ (crowdN ms near n).length) ∧ (crowdN ms near n = [] ∨ ∃ k, k < n ∧ crowdN ms near n = crowdAt ms near k)
  | 0 => ⟨fun k h => by omega, .inl rfl⟩
  | n + 1 => by
    obtain ⟨h1, h2⟩ := crowdN_max n
    by_cases h : (crowdN ms near n).length < (crowdAt ms near n).length
    · rw [show crowdN ms near (n + 1) = crowdAt ms near n by simp [crowdN, h]]
      refine ⟨fun k hk => ?_, .inr ⟨n, by omega, rfl⟩⟩
      rcases Nat.lt_or_ge k n with hk2 | hk2
      · have := h1 k hk2
        omega
      · rw [show k = n by omega]
        exact Nat.le_refl _
    · rw [show crowdN ms near (n + 1) = crowdN ms near n by simp [crowdN, h]]
      refine ⟨fun k hk => ?_, h2.imp id fun ⟨k, hk, e⟩ => ⟨k, by omega, e⟩⟩
      rcases Nat.lt_or_ge k n with hk2 | hk2
      · exact h1 k hk2
      · rw [show k = n by omega]
        omega
theorem crowd_fewest (hs : ms.Pairwise (· ≤ ·)) (hn : 0 < near) : ((crowdN ms near ms.length).length : Int) = fewest ms near := by
  obtain ⟨h1, h2⟩ := crowdN_max (ms := ms) (near := near) ms.length
  rcases Nat.eq_zero_or_pos ms.length with h | h
  · have a := fewest_le (ms := ms) (near := near)
    have b := fewest_nonneg (ms := ms) (near := near)
    have : crowdN ms near ms.length = [] := by rw [h]; rfl
    rw [this]
    simp
    omega
  · obtain ⟨k, hk, e⟩ := crowd_top hs hn h
    have a := h1 k hk
    have c := fewest_nonneg (ms := ms) (near := near)
    rcases h2 with h2 | ⟨j, hj, h2⟩
    · rw [h2] at a ⊢
      simp only [List.length_nil] at a ⊢
      omega
    · have b := crowd_le (near := near) hs hj
      rw [h2] at a ⊢
      omega
theorem gt_map {xs : List Int} {f : Int → Int} {i : Nat} (h : i < xs.length) : gt (xs.map f) i = f (gt xs i) := by
  unfold gt
  rw [List.getElem?_map, List.getElem?_eq_getElem h]
  rfl
theorem absI_ge {x g : Int} (h : g ≤ x ∨ g ≤ -x) (hg : 0 ≤ g) : g ≤ absI x := by
  unfold absI
  split <;> omega
theorem absI_cases {x g : Int} (h : g ≤ absI x) : g ≤ x ∨ g ≤ -x := by
  unfold absI at h
  split at h <;> omega
theorem mul_far {g x y : Int} (hg : 1 ≤ g) (h : x ≠ y) : g ≤ absI (g * x - g * y) := by
  rw [← Int.mul_sub]
  refine absI_ge ?_ (by omega)
  rcases Int.lt_or_gt_of_ne h with h | h
  · refine .inr ?_
    rw [← Int.mul_neg]
    have := Int.mul_le_mul_of_nonneg_left (show 1 ≤ -(x - y) by omega) (show 0 ≤ g by omega)
    omega
  · refine .inl ?_
    have := Int.mul_le_mul_of_nonneg_left (show 1 ≤ x - y by omega) (show 0 ≤ g by omega)
    omega
def wide (ms : List Int) (near gap : Int) : List Int := (told ms near).map fun t => gap * t
theorem wide_len (gap : Int) : (wide ms near gap).length = ms.length := by simp [wide]
theorem wide_gt {gap : Int} {a : Nat} (h : a < ms.length) : gt (wide ms near gap) a = gap * gt (told ms near) a := gt_map (by simpa using h)
theorem wide_clear {gap : Int} (hg : 1 ≤ gap) : clearB ms near gap (wide ms near gap) = true := by
  unfold clearB
  rw [Bool.and_eq_true, Bool.and_eq_true]
  refine ⟨⟨by rw [wide_len]; simp, ?_⟩, ?_⟩
  · rw [Bool.not_eq_true', List.any_eq_false]
    intro x hx
    obtain ⟨t, ht, rfl⟩ := List.mem_map.mp hx
    obtain ⟨a, ha, rfl⟩ := mem_told ht
    have := Int.mul_nonneg (show 0 ≤ gap by omega) (told_nonneg (near := near) ha)
    simp only [decide_eq_true_eq]
    omega
  · rw [Bool.not_eq_true', List.any_eq_false]
    intro a ha
    rw [List.any_eq_true]
    rintro ⟨o, ho, h⟩
    have ha' : a < ms.length := by simpa using ha
    have h2 := mem_near.mp ho
    rw [wide_gt ha', wide_gt (show o < ms.length by omega)] at h
    have := mul_far hg (told_ne ha' ho).symm
    simp only [decide_eq_true_eq] at h
    omega
theorem rowsN_ok {gap : Int} {most : Nat} : ∀ {k : Nat} {row : List Int}, row ∈ rowsN ms near gap most k → ∀ a, a < k → 0 ≤ gt row a ∧ gt row a ≤ most ∧ ∀ j, j < a → gt ms a - gt ms j < near → gap ≤ absI (gt row a - gt row j)
  | 0, _, _, a, ha => by omega
  | k + 1, row, h, a, ha => by
    rw [rowsN_succ] at h
    obtain ⟨r, hr, h⟩ := List.mem_flatMap.mp h
    obtain ⟨one, ho, rfl⟩ := List.mem_map.mp h
    have hl := rowsN_row ms near gap most k r hr
    rcases Nat.lt_or_ge a k with h2 | h2
    · have ih := rowsN_ok hr a h2
      rw [gt_app (by omega)]
      refine ⟨ih.1, ih.2.1, fun j hj hn => ?_⟩
      rw [gt_app (by omega)]
      exact ih.2.2 j hj hn
    · obtain rfl : a = r.length := by omega
      obtain ⟨h3, h4⟩ := List.mem_filter.mp ho
      have h3 := List.mem_range.mp h3
      rw [gt_app_at]
      refine ⟨by omega, by omega, fun j hj hn => ?_⟩
      rw [gt_app hj]
      unfold okOne at h4
      have := List.all_eq_true.mp h4 j (List.mem_range.mpr (by omega))
      rw [← hl] at this
      simp only [hn, decide_true, Bool.true_and, Bool.not_eq_true', decide_eq_false_iff_not] at this
      omega
theorem rowsN_in {gap : Int} {most : Nat} (w : List Int) (hb : ∀ a, a < w.length → 0 ≤ gt w a ∧ gt w a ≤ most) (hc : ∀ a, a < w.length → ∀ j, j < a → gt ms a - gt ms j < near → gap ≤ absI (gt w a - gt w j)) : ∀ k, k ≤ w.length → w.take k ∈ rowsN ms near gap most k
  | 0, _ => by simp [rowsN]
  | k + 1, h => by
    have ih := rowsN_in w hb hc k (by omega)
    have hk : k < w.length := by omega
    obtain ⟨h1, h2⟩ := hb k hk
    rw [rowsN_succ, List.mem_flatMap]
    refine ⟨w.take k, ih, List.mem_map.mpr ⟨(gt w k).toNat, List.mem_filter.mpr ⟨List.mem_range.mpr (by omega), ?_⟩, ?_⟩⟩
    · unfold okOne
      rw [List.all_eq_true]
      intro j hj
      have hj' : j < k := by simpa using hj
      have e : gt (w.take k) j = gt w j := by
        unfold gt
        rw [List.getElem?_take_of_lt hj']
      rw [show (((gt w k).toNat : Nat) : Int) = gt w k by omega, e]
      by_cases hn : gt ms k - gt ms j < near
      · have := hc k hk j hj' hn
        simp only [hn, decide_true, Bool.true_and, Bool.not_eq_true', decide_eq_false_iff_not]
        omega
      · simp [hn]
    · rw [show (((gt w k).toNat : Nat) : Int) = gt w k by omega, List.take_add_one, gt_ok hk]
      rfl
theorem span_rows {gap : Int} (hg : 1 ≤ gap) {most : Nat} (hm : (most : Int) = gap * max (fewest ms near - 1) 0) : 0 < (rowsN ms near gap most ms.length).length := by
  have h := rowsN_in (ms := ms) (near := near) (gap := gap) (most := most) (wide ms near gap) (fun a ha => ?_) (fun a ha j hj hn => ?_) ms.length (by rw [wide_len]; exact Nat.le_refl _)
  · exact List.length_pos_of_mem h
  · rw [wide_len] at ha
    have h1 := told_nonneg (near := near) ha
    have h2 := told_lt_fewest (near := near) ha
    rw [wide_gt ha]
    refine ⟨Int.mul_nonneg (by omega) h1, ?_⟩
    rw [hm]
    exact Int.mul_le_mul_of_nonneg_left (by omega) (by omega)
  · rw [wide_len] at ha
    rw [wide_gt ha, wide_gt (show j < ms.length by omega)]
    exact mul_far hg (told_ne ha (mem_near.mpr ⟨hj, hn⟩)).symm
theorem span_less (hs : ms.Pairwise (· ≤ ·)) (hn : 0 < near) {gap : Int} (hg : 1 ≤ gap) {most : Nat} (hm : (most : Int) + 1 = gap * max (fewest ms near - 1) 0) : (rowsN ms near gap most ms.length).length = 0 := by
  rcases Nat.eq_zero_or_pos (rowsN ms near gap most ms.length).length with h | h
  · exact h
  · exfalso
    obtain ⟨row, hr⟩ := List.exists_mem_of_length_pos h
    have hok := rowsN_ok hr
    have hF : 1 < fewest ms near := by
      rcases Int.lt_or_le 1 (fewest ms near) with h | h
      · exact h
      · rw [Int.max_eq_right (by omega), Int.mul_zero] at hm
        omega
    rw [Int.max_eq_left (by omega)] at hm
    have hpos : 0 < ms.length := by
      have := fewest_le (ms := ms) (near := near)
      omega
    obtain ⟨k, hk, hk2⟩ := crowd_top hs hn hpos
    have hcm : ∀ {o}, o ∈ crowdAt ms near k → k ≤ o ∧ o < ms.length ∧ gt ms o - gt ms k < near := fun ho => (crowd_mem (by omega)).mp ho
    have far : ∀ o ∈ crowdAt ms near k, ∀ p ∈ crowdAt ms near k, o < p → gt row o / gap ≠ gt row p / gap := by
      intro o ho p hp hop e
      have a := hcm ho
      have b := hcm hp
      have := gt_le hs a.1 a.2.1
      have d := absI_cases ((hok p b.2.1).2.2 o hop (by omega))
      have q1 := Int.mul_ediv_add_emod (gt row o) gap
      have q2 := Int.mul_ediv_add_emod (gt row p) gap
      have r1 := Int.emod_nonneg (gt row o) (show gap ≠ 0 by omega)
      have r2 := Int.emod_nonneg (gt row p) (show gap ≠ 0 by omega)
      have r3 := Int.emod_lt_of_pos (gt row o) (show 0 < gap by omega)
      have r4 := Int.emod_lt_of_pos (gt row p) (show 0 < gap by omega)
      rw [e] at q1
      omega
    have h1 : ((crowdAt ms near k).map fun o => gt row o / gap).Nodup := by
      unfold List.Nodup
      rw [List.pairwise_map]
      refine List.Pairwise.imp_of_mem (fun {a b} ha hb hab e => ?_) (crowd_nodup (ms := ms) (near := near) k)
      rcases Nat.lt_trichotomy a b with h | h | h
      · exact far a ha b hb h e
      · exact hab h
      · exact far b hb a ha h e.symm
    have h2 := nodup_int (N := (fewest ms near - 1).toNat) h1 fun x hx => by
      obtain ⟨o, ho, rfl⟩ := List.mem_map.mp hx
      have a := hcm ho
      have b := hok o a.2.1
      refine ⟨Int.ediv_nonneg b.1 (by omega), ?_⟩
      have c : gt row o / gap < fewest ms near - 1 := Int.ediv_lt_of_lt_mul (by omega) (by
        have := b.2.1
        rw [Int.mul_comm]
        omega)
      omega
    rw [List.length_map] at h2
    omega
theorem all_eq_map (ms : List Int) : (List.range ms.length).map (gt ms) = ms := by
  refine List.ext_getElem (by simp) fun i h1 h2 => ?_
  rw [List.getElem_map, List.getElem_range, gt_eq h2]
theorem standing_eq (m : Int) : standing near ms m = ((List.range ms.length).filter fun i => decide (gt ms i ≤ m ∧ m < gt ms i + near)).length := by
  unfold standing
  conv => lhs; rw [← all_eq_map ms]
  rw [List.filter_map, List.length_map]
  rfl
theorem seats_fewest (hs : ms.Pairwise (· ≤ ·)) (hn : 0 < near) : seatsI near ms = fewest ms near := by
  have h0 := fewest_nonneg (ms := ms) (near := near)
  have hle : ∀ m, ((standing near ms m : Nat) : Int) ≤ fewest ms near := fun m => by
    rw [standing_eq]
    refine clique_le (List.Pairwise.filter _ List.nodup_range) (fun o ho => ?_) fun o ho p hp h => ?_
    · simpa using (List.mem_filter.mp ho).1
    · have a := (List.mem_filter.mp ho).2
      have b := (List.mem_filter.mp hp).2
      simp only [decide_eq_true_eq] at a b
      omega
  have h1 : seatsI near ms ≤ fewest ms near := maxI_le (by simp) fun x hx => by
    rcases List.mem_append.mp hx with hx | hx
    · obtain ⟨m, _, rfl⟩ := List.mem_map.mp hx
      exact hle m
    · rw [List.mem_singleton.mp hx]
      exact h0
  have h2 : fewest ms near ≤ seatsI near ms := by
    rcases Nat.eq_zero_or_pos ms.length with h | h
    · have a := fewest_le (ms := ms) (near := near)
      have b := maxI_ge (xs := ms.map (fun m => (standing near ms m : Int)) ++ [0]) (y := 0) (by simp)
      unfold seatsI
      omega
    · obtain ⟨a, ha, h1, h2, h3⟩ := clique_top (near := near) h
      have hm : gt ms a ∈ ms := by
        rw [gt_eq ha]
        exact List.getElem_mem _
      have b := maxI_ge (xs := ms.map (fun m => (standing near ms m : Int)) ++ [0]) (List.mem_append_left _ (List.mem_map.mpr ⟨_, hm, rfl⟩))
      unfold seatsI
      refine Int.le_trans h1 (Int.le_trans (Int.ofNat_le.mpr ?_) b)
      rw [standing_eq]
      refine nodup_le (List.Pairwise.imp (fun h => Nat.ne_of_lt h) h2) fun o ho => ?_
      have q := h3 o ho
      have q2 := gt_le hs q ha
      refine List.mem_filter.mpr ⟨List.mem_range.mpr (by omega), ?_⟩
      simp only [decide_eq_true_eq]
      rcases List.mem_append.mp ho with h | h
      · have := (mem_near.mp h).2
        omega
      · rw [List.mem_singleton.mp h]
        omega
  omega
/-- masts that are far apart, as the law counts them -/
def apartF (near : Int) (s : Nat × Option Int) (m : Int) : Nat × Option Int := match s.2 with
  | none => (s.1 + 1, some m)
  | some l => if near ≤ m - l then (s.1 + 1, some m) else s
theorem apart_eq (near : Int) : ∀ (l : List Int) (s : Nat × Option Int) (f : List Int), f.length = s.1 → (s.2 = none ↔ f = []) → (∀ x, s.2 = some x → f.getLast? = some (x + near - 1)) → (l.foldl (reach near) f).length = (l.foldl (apartF near) s).1
  | [], _, _, h, _, _ => h
  | m :: l, (n, o), f, h1, h2, h3 => by
    rw [List.foldl_cons, List.foldl_cons]
    cases o with
    | none =>
      obtain rfl := h2.mp rfl
      exact apart_eq near l _ _ (by simp [reach, apartF]; exact h1.symm) (by simp [reach, apartF]) (by simp [reach, apartF])
    | some x =>
      have hf : f ≠ [] := fun z => by cases h2.mpr z
      have hx := h3 x rfl
      by_cases hc : near ≤ m - x
      · have e : reach near f m = f ++ [m + near - 1] := by
          unfold reach
          rw [if_pos (.inr (by rw [hx]; simp; omega))]
        have e2 : apartF near (n, some x) m = (n + 1, some m) := by simp [apartF, hc]
        rw [e, e2]
        exact apart_eq near l _ _ (by simpa using h1) (by simp) (by simp)
      · have e : reach near f m = f := by
          unfold reach
          rw [if_neg]
          rintro (z | z)
          · exact hf z
          · rw [hx] at z
            simp at z
            omega
        have e2 : apartF near (n, some x) m = (n, some x) := by simp [apartF, hc]
        rw [e, e2]
        exact apart_eq near l _ _ h1 h2 h3
end
end PV

namespace PV
open PySem PySem.Spec PyProof.Rows L2
def topS (i : Nat) : Stmt := PySem.Challenge.pw_roundline_k48_whole_channels_of_masts.main.body.getD i (.Pass ⟨0, 0, 0, 0⟩)
structure Nb (mg : Str → Option Value) : Prop where
  «abs» : mg "abs" = none
  «any» : mg "any" = none
  «bool» : mg "bool" = none
  «int» : mg "int" = none
  «isinstance» : mg "isinstance" = none
  «len» : mg "len" = none
  «list» : mg "list" = none
  «max» : mg "max" = none
  «min» : mg "min" = none
  «range» : mg "range" = none
  «sorted» : mg "sorted" = none
  «str» : mg "str" = none
  «tuple» : mg "tuple" = none
section
variable {P : Program} {w : World} {K : PySem.W.Frag} {mg : Str → Option Value} {base : Heap} {f : Addr} {fd : FuncData}
/-! ### near_ahead -/
abbrev s_near_ahead : Stmt := topS 1
theorem sc_near_ahead : FnScope ["masts", "near", "at", "other"] ["masts", "near", "at"] (defScope s_near_ahead) := ⟨rfl, rfl, rfl, by decide +kernel, rfl, by decide +kernel, by decide +kernel⟩
def b_near_ahead : SF := (sRet (eComp (iRange1 (aCons (eVar 2) aNil)) (gNm 3) (tfOf (eOp gLt (eOp (gI0 fun i j => .int (i - j)) (eOp gIx (eVar 0) (eVar 2)) (eOp gIx (eVar 0) (eVar 3))) (eVar 1))) (frz (eVar 3)) [3]))
@[irreducible] def g_near_ahead : EF := defF b_near_ahead 1
theorem ok_near_ahead (nb : Nb mg) (F : Fun K "near_ahead" "near_ahead" s_near_ahead f fd) (m : mg "near_ahead" = some (.ref f)) : CalG P w K mg base 1 "near_ahead" 3 g_near_ahead := by
  unfold g_near_ahead
  refine calG_of F sc_near_ahead m (fun _ _ _ _ _ _ us hl => match us, hl with | [_, _, _], _ => rfl) (k := 0) (body := b_near_ahead) ?_
  intro cdv A outer s H E hr
  have nd := (sc_near_ahead).nd
  exact ⟨_, (sb_one (ss_ret (se_lc (own := [("other", 3)]) rfl nd (si_range1 (by exact rfl) nb.range (sa_cons (se_var 2) sa_nil)) (blkOk_by (by kernel_rfl)) (fun _ _ _ _ _ => ⟨_, (sg_name 3 nd rfl (by first | exact Or.inl rfl | exact Or.inr rfl))⟩) (fun _ _ _ _ _ => ⟨_, (sts_one (st_cmp (oLt hr.units) (se_op oSub (se_ix (se_var 0) (se_var 2)) (se_ix (se_var 0) (se_var 3))) (se_var 1) (nomark _)))⟩) (fun _ _ _ _ _ => ⟨_, ((se_var 3)).frz⟩) (by decide))))⟩
/-! ### are_clear -/
abbrev s_are_clear : Stmt := topS 2
theorem sc_are_clear : FnScope ["masts", "near", "gap", "channels", "at", "channel", "other"] ["masts", "near", "gap", "channels"] (defScope s_are_clear) := ⟨rfl, rfl, rfl, by decide +kernel, rfl, by decide +kernel, by decide +kernel⟩
def l1_are_clear : SF := (sIf (tfTru (eCB gAny (aCons (eComp (iSeq (eCall g_near_ahead (aCons (eVar 0) (aCons (eVar 1) (aCons (eVar 4) aNil))))) (gNm 6) tfYes (frz (eOp gLt (eCB gAbs (aCons (eOp (gI0 fun i j => .int (i - j)) (eOp gIx (eVar 3) (eVar 4)) (eOp gIx (eVar 3) (eVar 6))) aNil)) (eVar 2))) [6]) aNil))) (sRet (eC (.bool false))) sNext)
def b_are_clear : SF := (sSeq (sIf ((tfOr (tfOf (eOp gNe (eCB gLen (aCons (eVar 3) aNil)) (eCB gLen (aCons (eVar 0) aNil)))) (tfTru (eCB gAny (aCons (eComp (iSeq (eVar 3)) (gNm 5) tfYes (frz (eOp gLt (eVar 5) (eC (.int 0)))) [5]) aNil))))) (sRet (eC (.bool false))) sNext)
  (sSeq (sFor (iRange1 (aCons (eCB gLen (aCons (eVar 0) aNil)) aNil)) (gNm 4) l1_are_clear)
  (sRet (eC (.bool true)))))
@[irreducible] def g_are_clear : EF := defF b_are_clear 3
theorem ok_are_clear (nb : Nb mg) (c_near_ahead : CalG P w K mg base 1 "near_ahead" 3 g_near_ahead) (F : Fun K "are_clear" "are_clear" s_are_clear f fd) (m : mg "are_clear" = some (.ref f)) : CalG P w K mg base 2 "are_clear" 4 g_are_clear := by
  unfold g_are_clear
  refine calG_of F sc_are_clear m (fun _ _ _ _ _ _ us hl => match us, hl with | [_, _, _, _], _ => rfl) (k := 1) (body := b_are_clear) ?_
  intro cdv A outer s H E hr
  have nd := (sc_are_clear).nd
  exact ⟨_, (sb_cons (ss_if (SW.st (sw_or (st_cmp (oNe hr.units) (se_cb bLen (by exact rfl) nb.len boot_len (sa_cons (se_var 3) sa_nil)) (se_cb bLen (by exact rfl) nb.len boot_len (sa_cons (se_var 0) sa_nil)) (nomark _)) (sw_or1 (st_truth (se_cb (bAny rfl) (by exact rfl) nb.any bt_any (sa_cons (se_lc (own := [("channel", 5)]) rfl nd (si_seq (se_var 3)) (blkOk_by (by kernel_rfl)) (fun _ _ _ _ _ => ⟨_, (sg_name 5 nd rfl (by first | exact Or.inl rfl | exact Or.inr rfl))⟩) (fun _ _ _ _ _ => ⟨_, sts_nil⟩) (fun _ _ _ _ _ => ⟨_, ((se_cmp (oLt hr.units) (se_var 5) se_int (nomark _))).frz⟩) (by decide)) sa_nil)))))) (sb_one (ss_ret se_bl)) sb_nil)
      (sb_cons (ss_for PassesOwn.never rfl (si_range1 (by exact rfl) nb.range (sa_cons (se_cb bLen (by exact rfl) nb.len boot_len (sa_cons (se_var 0) sa_nil)) sa_nil)) (sg_name 4 nd rfl (by first | exact Or.inl rfl | exact Or.inr rfl)) (sb_one (ss_if (st_truth (se_cb (bAny rfl) (by exact rfl) nb.any bt_any (sa_cons (se_lc (own := [("other", 6)]) rfl nd (si_seq (se_callG c_near_ahead hr (by decide) (by exact rfl) (sa_cons (se_var 0) (sa_cons (se_var 1) (sa_cons (se_var 4) sa_nil))) (alen_cons (alen_cons (alen_cons alen_nil))))) (blkOk_by (by kernel_rfl)) (fun _ _ _ _ _ => ⟨_, (sg_name 6 nd rfl (by first | exact Or.inl rfl | exact Or.inr rfl))⟩) (fun _ _ _ _ _ => ⟨_, sts_nil⟩) (fun _ _ _ _ _ => ⟨_, ((se_cmp (oLt hr.units) (se_cb bAbs (by exact rfl) nb.abs bt_abs (sa_cons (se_op oSub (se_ix (se_var 3) (se_var 4)) (se_ix (se_var 3) (se_var 6))) sa_nil)) (se_var 2) (nomark _))).frz⟩) (by decide)) sa_nil))) (sb_one (ss_ret se_bl)) sb_nil)))
      (sb_one (ss_ret se_bl))))⟩
/-! ### least_free -/
abbrev s_least_free : Stmt := topS 3
theorem sc_least_free : FnScope ["taken", "found"] ["taken"] (defScope s_least_free) := ⟨rfl, rfl, rfl, by decide +kernel, rfl, by decide +kernel, by decide +kernel⟩
def l1_least_free : SF := (sAug 1 gIAdd (eC (.int 1)))
def b_least_free : SF := (sSeq (sAsg (eC (.int 0)) (gNm 1))
  (sSeq (sWhile 100000000 (tfOf (eOp (gIn false) (eVar 1) (eVar 0))) l1_least_free)
  (sRet (eVar 1))))
@[irreducible] def g_least_free : EF := defF b_least_free 1
theorem ok_least_free (nb : Nb mg) (F : Fun K "least_free" "least_free" s_least_free f fd) (m : mg "least_free" = some (.ref f)) : CalG P w K mg base 1 "least_free" 1 g_least_free := by
  unfold g_least_free
  refine calG_of F sc_least_free m (fun _ _ _ _ _ _ us hl => match us, hl with | [_], _ => rfl) (k := 0) (body := b_least_free) ?_
  intro cdv A outer s H E hr
  have nd := (sc_least_free).nd
  exact ⟨_, (sb_cons (ss_set 1 nd rfl (by first | exact Or.inl rfl | exact Or.inr rfl) se_int)
      (sb_cons (ss_while 100000000 PassesOwn.never (st_cmp (oIn hr.units) (se_var 1) (se_var 0) (by rfl)) (sb_one (ss_augAdd 1 nd rfl (by first | exact Or.inl rfl | exact Or.inr rfl) se_int)))
      (sb_one (ss_ret (se_var 1)))))⟩
/-! ### told_channels -/
abbrev s_told_channels : Stmt := topS 4
theorem sc_told_channels : FnScope ["masts", "near", "found", "at", "other"] ["masts", "near"] (defScope s_told_channels) := ⟨rfl, rfl, rfl, by decide +kernel, rfl, by decide +kernel, by decide +kernel⟩
def l1_told_channels : SF := (sExpr (eMt mAppend (eVar 2) (aCons (frz (eCall g_least_free (aCons (frz (eComp (iSeq (eCall g_near_ahead (aCons (eVar 0) (aCons (eVar 1) (aCons (eVar 3) aNil))))) (gNm 4) tfYes (frz (eOp gIx (eVar 2) (eVar 4))) [4])) aNil))) aNil)))
def b_told_channels : SF := (sSeq (sAsg (eLst aNil) (gNm 2))
  (sSeq (sFor (iRange1 (aCons (eCB gLen (aCons (eVar 0) aNil)) aNil)) (gNm 3) l1_told_channels)
  (sRet (eCB gTuple (aCons (eVar 2) aNil)))))
@[irreducible] def g_told_channels : EF := defF b_told_channels 3
theorem ok_told_channels (nb : Nb mg) (c_least_free : CalG P w K mg base 1 "least_free" 1 g_least_free) (c_near_ahead : CalG P w K mg base 1 "near_ahead" 3 g_near_ahead) (F : Fun K "told_channels" "told_channels" s_told_channels f fd) (m : mg "told_channels" = some (.ref f)) : CalG P w K mg base 2 "told_channels" 2 g_told_channels := by
  unfold g_told_channels
  refine calG_of F sc_told_channels m (fun _ _ _ _ _ _ us hl => match us, hl with | [_, _], _ => rfl) (k := 1) (body := b_told_channels) ?_
  intro cdv A outer s H E hr
  have nd := (sc_told_channels).nd
  exact ⟨_, (sb_cons (ss_set 2 nd rfl (by first | exact Or.inl rfl | exact Or.inr rfl) (se_lst sa_nil))
      (sb_cons (ss_for PassesOwn.never rfl (si_range1 (by exact rfl) nb.range (sa_cons (se_cb bLen (by exact rfl) nb.len boot_len (sa_cons (se_var 0) sa_nil)) sa_nil)) (sg_name 3 nd rfl (by first | exact Or.inl rfl | exact Or.inr rfl)) (sb_one (ss_expr (se_mt PySem.F.slot_list_append PySem.F.type_list_append (mt_append) wm_append (se_var 2) (sa_cons ((se_callG c_least_free hr (by decide) (by exact rfl) (sa_cons ((se_lc (own := [("other", 4)]) rfl nd (si_seq (se_callG c_near_ahead hr (by decide) (by exact rfl) (sa_cons (se_var 0) (sa_cons (se_var 1) (sa_cons (se_var 3) sa_nil))) (alen_cons (alen_cons (alen_cons alen_nil))))) (blkOk_by (by kernel_rfl)) (fun _ _ _ _ _ => ⟨_, (sg_name 4 nd rfl (by first | exact Or.inl rfl | exact Or.inr rfl))⟩) (fun _ _ _ _ _ => ⟨_, sts_nil⟩) (fun _ _ _ _ _ => ⟨_, ((se_ix (se_var 2) (se_var 4))).frz⟩) (by decide))).frz sa_nil) (alen_cons alen_nil))).frz sa_nil)))))
      (sb_one (ss_ret (se_ct bTuple (by exact rfl) nb.tuple bt_tuple (sa_cons (se_var 2) sa_nil))))))⟩
/-! ### fewest_channels -/
abbrev s_fewest_channels : Stmt := topS 5
theorem sc_fewest_channels : FnScope ["masts", "near"] ["masts", "near"] (defScope s_fewest_channels) := ⟨rfl, rfl, rfl, by decide +kernel, rfl, by decide +kernel, by decide +kernel⟩
def b_fewest_channels : SF := (sRet (eOp gAdd (eCB gMax1 (aCons (eOp gAdd (eCall g_told_channels (aCons (eVar 0) (aCons (eVar 1) aNil))) (eTup (aCons (frz (eUn gNeg (eC (.int 1)))) aNil))) aNil)) (eC (.int 1))))
@[irreducible] def g_fewest_channels : EF := defF b_fewest_channels 0
theorem ok_fewest_channels (nb : Nb mg) (c_told_channels : CalG P w K mg base 2 "told_channels" 2 g_told_channels) (F : Fun K "fewest_channels" "fewest_channels" s_fewest_channels f fd) (m : mg "fewest_channels" = some (.ref f)) : CalG P w K mg base 3 "fewest_channels" 2 g_fewest_channels := by
  unfold g_fewest_channels
  refine calG_of F sc_fewest_channels m (fun _ _ _ _ _ _ us hl => match us, hl with | [_, _], _ => rfl) (k := 2) (body := b_fewest_channels) ?_
  intro cdv A outer s H E hr
  have nd := (sc_fewest_channels).nd
  exact ⟨_, (sb_one (ss_ret (se_op oAdd (se_cb (bMax1 rfl hr) (by exact rfl) nb.max bt_max (sa_cons (se_op oAdd (se_callG c_told_channels hr (by decide) (by exact rfl) (sa_cons (se_var 0) (sa_cons (se_var 1) sa_nil)) (alen_cons (alen_cons alen_nil))) (se_tup (sa_cons ((se_un oNeg se_int)).frz sa_nil))) sa_nil)) se_int)))⟩
/-! ### least_span -/
abbrev s_least_span : Stmt := topS 6
theorem sc_least_span : FnScope ["masts", "near", "gap"] ["masts", "near", "gap"] (defScope s_least_span) := ⟨rfl, rfl, rfl, by decide +kernel, rfl, by decide +kernel, by decide +kernel⟩
def b_least_span : SF := (sRet (eOp gMul (eVar 2) (eCB gMax2 (aCons (eOp (gI0 fun i j => .int (i - j)) (eCall g_fewest_channels (aCons (eVar 0) (aCons (eVar 1) aNil))) (eC (.int 1))) (aCons (eC (.int 0)) aNil)))))
@[irreducible] def g_least_span : EF := defF b_least_span 0
theorem ok_least_span (nb : Nb mg) (c_fewest_channels : CalG P w K mg base 3 "fewest_channels" 2 g_fewest_channels) (F : Fun K "least_span" "least_span" s_least_span f fd) (m : mg "least_span" = some (.ref f)) : CalG P w K mg base 4 "least_span" 3 g_least_span := by
  unfold g_least_span
  refine calG_of F sc_least_span m (fun _ _ _ _ _ _ us hl => match us, hl with | [_, _, _], _ => rfl) (k := 3) (body := b_least_span) ?_
  intro cdv A outer s H E hr
  have nd := (sc_least_span).nd
  exact ⟨_, (sb_one (ss_ret (se_op oMul (se_var 2) (se_cb (bMax2 rfl) (by exact rfl) nb.max bt_max (sa_cons (se_op oSub (se_callG c_fewest_channels hr (by decide) (by exact rfl) (sa_cons (se_var 0) (sa_cons (se_var 1) sa_nil)) (alen_cons (alen_cons alen_nil))) se_int) (sa_cons se_int sa_nil))))))⟩
/-! ### crowded_masts -/
abbrev s_crowded_masts : Stmt := topS 7
theorem sc_crowded_masts : FnScope ["masts", "near", "best", "at", "there", "other"] ["masts", "near"] (defScope s_crowded_masts) := ⟨rfl, rfl, rfl, by decide +kernel, rfl, by decide +kernel, by decide +kernel⟩
def l1_crowded_masts : SF := (sSeq (sAsg (eCB gTuple (aCons (eComp (iRange2 (aCons (eVar 3) (aCons (eCB gLen (aCons (eVar 0) aNil)) aNil))) (gNm 5) (tfOf (eOp gLt (eOp (gI0 fun i j => .int (i - j)) (eOp gIx (eVar 0) (eVar 5)) (eOp gIx (eVar 0) (eVar 3))) (eVar 1))) (frz (eVar 5)) [5]) aNil)) (gNm 4))
  (sIf (tfOf (eOp gGt (eCB gLen (aCons (eVar 4) aNil)) (eCB gLen (aCons (eVar 2) aNil)))) (sAsg (eVar 4) (gNm 2)) sNext))
def b_crowded_masts : SF := (sSeq (sAsg (eTup aNil) (gNm 2))
  (sSeq (sFor (iRange1 (aCons (eCB gLen (aCons (eVar 0) aNil)) aNil)) (gNm 3) l1_crowded_masts)
  (sRet (eVar 2))))
@[irreducible] def g_crowded_masts : EF := defF b_crowded_masts 4
theorem ok_crowded_masts (nb : Nb mg) (F : Fun K "crowded_masts" "crowded_masts" s_crowded_masts f fd) (m : mg "crowded_masts" = some (.ref f)) : CalG P w K mg base 1 "crowded_masts" 2 g_crowded_masts := by
  unfold g_crowded_masts
  refine calG_of F sc_crowded_masts m (fun _ _ _ _ _ _ us hl => match us, hl with | [_, _], _ => rfl) (k := 0) (body := b_crowded_masts) ?_
  intro cdv A outer s H E hr
  have nd := (sc_crowded_masts).nd
  exact ⟨_, (sb_cons (ss_set 2 nd rfl (by first | exact Or.inl rfl | exact Or.inr rfl) (se_tup sa_nil))
      (sb_cons (ss_for PassesOwn.never rfl (si_range1 (by exact rfl) nb.range (sa_cons (se_cb bLen (by exact rfl) nb.len boot_len (sa_cons (se_var 0) sa_nil)) sa_nil)) (sg_name 3 nd rfl (by first | exact Or.inl rfl | exact Or.inr rfl)) (sb_cons (ss_set 4 nd rfl (by first | exact Or.inl rfl | exact Or.inr rfl) (se_ct bTuple (by exact rfl) nb.tuple bt_tuple (sa_cons (se_lc (own := [("other", 5)]) rfl nd (si_range2 (by exact rfl) nb.range (sa_cons (se_var 3) (sa_cons (se_cb bLen (by exact rfl) nb.len boot_len (sa_cons (se_var 0) sa_nil)) sa_nil))) (blkOk_by (by kernel_rfl)) (fun _ _ _ _ _ => ⟨_, (sg_name 5 nd rfl (by first | exact Or.inl rfl | exact Or.inr rfl))⟩) (fun _ _ _ _ _ => ⟨_, (sts_one (st_cmp (oLt hr.units) (se_op oSub (se_ix (se_var 0) (se_var 5)) (se_ix (se_var 0) (se_var 3))) (se_var 1) (nomark _)))⟩) (fun _ _ _ _ _ => ⟨_, ((se_var 5)).frz⟩) (by decide)) sa_nil)))
      (sb_one (ss_if (st_cmp (oGt hr.units) (se_cb bLen (by exact rfl) nb.len boot_len (sa_cons (se_var 4) sa_nil)) (se_cb bLen (by exact rfl) nb.len boot_len (sa_cons (se_var 2) sa_nil)) (nomark _)) (sb_one (ss_set 2 nd rfl (by first | exact Or.inl rfl | exact Or.inr rfl) (se_var 4))) sb_nil))))
      (sb_one (ss_ret (se_var 2)))))⟩
/-! ### added_mast -/
abbrev s_added_mast : Stmt := topS 8
theorem sc_added_mast : FnScope ["masts", "near", "at", "channels", "other"] ["masts", "near", "at"] (defScope s_added_mast) := ⟨rfl, rfl, rfl, by decide +kernel, rfl, by decide +kernel, by decide +kernel⟩
def b_added_mast : SF := (sSeq (sAsg (eCall g_told_channels (aCons (eVar 0) (aCons (eVar 1) aNil))) (gNm 3))
  (sRet (eCall g_least_free (aCons (frz (eComp (iRange1 (aCons (eCB gLen (aCons (eVar 0) aNil)) aNil)) (gNm 4) (tfOf (eOp gLt (eCB gAbs (aCons (eOp (gI0 fun i j => .int (i - j)) (eOp gIx (eVar 0) (eVar 4)) (eVar 2)) aNil)) (eVar 1))) (frz (eOp gIx (eVar 3) (eVar 4))) [4])) aNil))))
@[irreducible] def g_added_mast : EF := defF b_added_mast 2
theorem ok_added_mast (nb : Nb mg) (c_told_channels : CalG P w K mg base 2 "told_channels" 2 g_told_channels) (c_least_free : CalG P w K mg base 1 "least_free" 1 g_least_free) (F : Fun K "added_mast" "added_mast" s_added_mast f fd) (m : mg "added_mast" = some (.ref f)) : CalG P w K mg base 3 "added_mast" 3 g_added_mast := by
  unfold g_added_mast
  refine calG_of F sc_added_mast m (fun _ _ _ _ _ _ us hl => match us, hl with | [_, _, _], _ => rfl) (k := 2) (body := b_added_mast) ?_
  intro cdv A outer s H E hr
  have nd := (sc_added_mast).nd
  exact ⟨_, (sb_cons (ss_set 3 nd rfl (by first | exact Or.inl rfl | exact Or.inr rfl) (se_callG c_told_channels hr (by decide) (by exact rfl) (sa_cons (se_var 0) (sa_cons (se_var 1) sa_nil)) (alen_cons (alen_cons alen_nil))))
      (sb_one (ss_ret (se_callG c_least_free hr (by decide) (by exact rfl) (sa_cons ((se_lc (own := [("other", 4)]) rfl nd (si_range1 (by exact rfl) nb.range (sa_cons (se_cb bLen (by exact rfl) nb.len boot_len (sa_cons (se_var 0) sa_nil)) sa_nil)) (blkOk_by (by kernel_rfl)) (fun _ _ _ _ _ => ⟨_, (sg_name 4 nd rfl (by first | exact Or.inl rfl | exact Or.inr rfl))⟩) (fun _ _ _ _ _ => ⟨_, (sts_one (st_cmp (oLt hr.units) (se_cb bAbs (by exact rfl) nb.abs bt_abs (sa_cons (se_op oSub (se_ix (se_var 0) (se_var 4)) (se_var 2)) sa_nil)) (se_var 1) (nomark _)))⟩) (fun _ _ _ _ _ => ⟨_, ((se_ix (se_var 3) (se_var 4))).frz⟩) (by decide))).frz sa_nil) (alen_cons alen_nil)))))⟩
/-! ### by_until -/
abbrev s_by_until : Stmt := topS 10
theorem sc_by_until : FnScope ["stretches", "order", "at", "until", "begin", "number"] ["stretches"] (defScope s_by_until) := ⟨rfl, rfl, rfl, by decide +kernel, rfl, by decide +kernel, by decide +kernel⟩
def b_by_until : SF := (sSeq (sAsg (eCB gSorted (aCons (eComp (iRange1 (aCons (eCB gLen (aCons (eVar 0) aNil)) aNil)) (gNm 2) tfYes (frz (eTup (aCons (frz (eOp gIx (eOp gIx (eVar 0) (eVar 2)) (eC (.int 1)))) (aCons (frz (eOp gIx (eOp gIx (eVar 0) (eVar 2)) (eC (.int 0)))) (aCons (frz (eVar 2)) aNil))))) [2]) aNil)) (gNm 1))
  (sRet (eComp (iSeq (eVar 1)) (gTp 3 (gsCons (gNm 3) (gsCons (gNm 4) (gsCons (gNm 5) gsNil)))) tfYes (frz (eVar 5)) [3, 4, 5])))
@[irreducible] def g_by_until : EF := defF b_by_until 5
theorem ok_by_until (nb : Nb mg) (F : Fun K "by_until" "by_until" s_by_until f fd) (m : mg "by_until" = some (.ref f)) : CalG P w K mg base 1 "by_until" 1 g_by_until := by
  unfold g_by_until
  refine calG_of F sc_by_until m (fun _ _ _ _ _ _ us hl => match us, hl with | [_], _ => rfl) (k := 0) (body := b_by_until) ?_
  intro cdv A outer s H E hr
  have nd := (sc_by_until).nd
  exact ⟨_, (sb_cons (ss_set 1 nd rfl (by first | exact Or.inl rfl | exact Or.inr rfl) (se_cb (bSorted rfl hr) (by exact rfl) nb.sorted bt_sorted (sa_cons (se_lc (own := [("at", 2)]) rfl nd (si_range1 (by exact rfl) nb.range (sa_cons (se_cb bLen (by exact rfl) nb.len boot_len (sa_cons (se_var 0) sa_nil)) sa_nil)) (blkOk_by (by kernel_rfl)) (fun _ _ _ _ _ => ⟨_, (sg_name 2 nd rfl (by first | exact Or.inl rfl | exact Or.inr rfl))⟩) (fun _ _ _ _ _ => ⟨_, sts_nil⟩) (fun _ _ _ _ _ => ⟨_, ((se_tup (sa_cons ((se_ix (se_ix (se_var 0) (se_var 2)) se_int)).frz (sa_cons ((se_ix (se_ix (se_var 0) (se_var 2)) se_int)).frz (sa_cons ((se_var 2)).frz sa_nil))))).frz⟩) (by decide)) sa_nil)))
      (sb_one (ss_ret (se_lc (own := [("until", 3), ("begin", 4), ("number", 5)]) rfl nd (si_seq (se_var 1)) (blkOk_by (by kernel_rfl)) (fun _ _ _ _ _ => ⟨_, (sg_tup rfl (sgs_cons (sg_name 3 nd rfl (by first | exact Or.inl rfl | exact Or.inr rfl)) (sgs_cons (sg_name 4 nd rfl (by first | exact Or.inl rfl | exact Or.inr rfl)) (sgs_cons (sg_name 5 nd rfl (by first | exact Or.inl rfl | exact Or.inr rfl)) sgs_nil))))⟩) (fun _ _ _ _ _ => ⟨_, sts_nil⟩) (fun _ _ _ _ _ => ⟨_, ((se_var 5)).frz⟩) (by decide)))))⟩
/-! ### told_masts -/
abbrev s_told_masts : Stmt := topS 11
theorem sc_told_masts : FnScope ["stretches", "found", "number", "begin", "until"] ["stretches"] (defScope s_told_masts) := ⟨rfl, rfl, rfl, by decide +kernel, rfl, by decide +kernel, by decide +kernel⟩
def l1_told_masts : SF := (sSeq (sAsg (frz (eOp gIx (eVar 0) (eVar 2))) (gTp 2 (gsCons (gNm 3) (gsCons (gNm 4) gsNil))))
  (sIf ((tfOr (tfOf (eOp gEq (eCB gLen (aCons (eVar 1) aNil)) (eC (.int 0)))) (tfOf (eOp gLt (eOp gIx (eVar 1) (eUn gNeg (eC (.int 1)))) (eVar 3))))) (sAug 1 gIAdd (eTup (aCons (frz (eVar 4)) aNil))) sNext))
def b_told_masts : SF := (sSeq (sAsg (eTup aNil) (gNm 1))
  (sSeq (sFor (iSeq (eCall g_by_until (aCons (eVar 0) aNil))) (gNm 2) l1_told_masts)
  (sRet (eVar 1))))
@[irreducible] def g_told_masts : EF := defF b_told_masts 4
theorem ok_told_masts (nb : Nb mg) (c_by_until : CalG P w K mg base 1 "by_until" 1 g_by_until) (F : Fun K "told_masts" "told_masts" s_told_masts f fd) (m : mg "told_masts" = some (.ref f)) : CalG P w K mg base 2 "told_masts" 1 g_told_masts := by
  unfold g_told_masts
  refine calG_of F sc_told_masts m (fun _ _ _ _ _ _ us hl => match us, hl with | [_], _ => rfl) (k := 1) (body := b_told_masts) ?_
  intro cdv A outer s H E hr
  have nd := (sc_told_masts).nd
  exact ⟨_, (sb_cons (ss_set 1 nd rfl (by first | exact Or.inl rfl | exact Or.inr rfl) (se_tup sa_nil))
      (sb_cons (ss_for PassesOwn.never rfl (si_seq (se_callG c_by_until hr (by decide) (by exact rfl) (sa_cons (se_var 0) sa_nil) (alen_cons alen_nil))) (sg_name 2 nd rfl (by first | exact Or.inl rfl | exact Or.inr rfl)) (sb_cons (ss_asg ((se_ix (se_var 0) (se_var 2))).frz (sg_tup rfl (sgs_cons (sg_name 3 nd rfl (by first | exact Or.inl rfl | exact Or.inr rfl)) (sgs_cons (sg_name 4 nd rfl (by first | exact Or.inl rfl | exact Or.inr rfl)) sgs_nil))))
      (sb_one (ss_if (SW.st (sw_or (st_cmp (oEq hr.units) (se_cb bLen (by exact rfl) nb.len boot_len (sa_cons (se_var 1) sa_nil)) se_int (nomark _)) (sw_or1 (st_cmp (oLt hr.units) (se_ix (se_var 1) (se_un oNeg se_int)) (se_var 3) (nomark _))))) (sb_one (ss_augAdd 1 nd rfl (by first | exact Or.inl rfl | exact Or.inr rfl) (se_tup (sa_cons ((se_var 4)).frz sa_nil)))) sb_nil))))
      (sb_one (ss_ret (se_var 1)))))⟩
/-! ### fewest_masts -/
abbrev s_fewest_masts : Stmt := topS 12
theorem sc_fewest_masts : FnScope ["stretches"] ["stretches"] (defScope s_fewest_masts) := ⟨rfl, rfl, rfl, by decide +kernel, rfl, by decide +kernel, by decide +kernel⟩
def b_fewest_masts : SF := (sRet (eCB gLen (aCons (eCall g_told_masts (aCons (eVar 0) aNil)) aNil)))
@[irreducible] def g_fewest_masts : EF := defF b_fewest_masts 0
theorem ok_fewest_masts (nb : Nb mg) (c_told_masts : CalG P w K mg base 2 "told_masts" 1 g_told_masts) (F : Fun K "fewest_masts" "fewest_masts" s_fewest_masts f fd) (m : mg "fewest_masts" = some (.ref f)) : CalG P w K mg base 3 "fewest_masts" 1 g_fewest_masts := by
  unfold g_fewest_masts
  refine calG_of F sc_fewest_masts m (fun _ _ _ _ _ _ us hl => match us, hl with | [_], _ => rfl) (k := 2) (body := b_fewest_masts) ?_
  intro cdv A outer s H E hr
  have nd := (sc_fewest_masts).nd
  exact ⟨_, (sb_one (ss_ret (se_cb bLen (by exact rfl) nb.len boot_len (sa_cons (se_callG c_told_masts hr (by decide) (by exact rfl) (sa_cons (se_var 0) sa_nil) (alen_cons alen_nil)) sa_nil))))⟩
/-! ### fewest_seats -/
abbrev s_fewest_seats : Stmt := topS 14
theorem sc_fewest_seats : FnScope ["bookings", "first", "end", "begin", "until"] ["bookings"] (defScope s_fewest_seats) := ⟨rfl, rfl, rfl, by decide +kernel, rfl, by decide +kernel, by decide +kernel⟩
def b_fewest_seats : SF := (sRet (eCB gMax1 (aCons (eOp gAdd (eComp (iSeq (eVar 0)) (gTp 2 (gsCons (gNm 1) (gsCons (gNm 2) gsNil))) tfYes (frz (eCB gLen (aCons (eComp (iSeq (eVar 0)) (gTp 2 (gsCons (gNm 3) (gsCons (gNm 4) gsNil))) (tfOf (eChain gLe gLt (eVar 3) (eVar 1) (eVar 4))) (eC (.int 1)) [3, 4]) aNil))) [1, 2]) (eLst (aCons (eC (.int 0)) aNil))) aNil)))
@[irreducible] def g_fewest_seats : EF := defF b_fewest_seats 4
theorem ok_fewest_seats (nb : Nb mg) (F : Fun K "fewest_seats" "fewest_seats" s_fewest_seats f fd) (m : mg "fewest_seats" = some (.ref f)) : CalG P w K mg base 1 "fewest_seats" 1 g_fewest_seats := by
  unfold g_fewest_seats
  refine calG_of F sc_fewest_seats m (fun _ _ _ _ _ _ us hl => match us, hl with | [_], _ => rfl) (k := 0) (body := b_fewest_seats) ?_
  intro cdv A outer s H E hr
  have nd := (sc_fewest_seats).nd
  exact ⟨_, (sb_one (ss_ret (se_cb (bMax1 rfl hr) (by exact rfl) nb.max bt_max (sa_cons (se_op oAdd (se_lc (own := [("first", 1), ("end", 2)]) rfl nd (si_seq (se_var 0)) (blkOk_by (by kernel_rfl)) (fun _ _ _ _ _ => ⟨_, (sg_tup rfl (sgs_cons (sg_name 1 nd rfl (by first | exact Or.inl rfl | exact Or.inr rfl)) (sgs_cons (sg_name 2 nd rfl (by first | exact Or.inl rfl | exact Or.inr rfl)) sgs_nil)))⟩) (fun _ _ _ _ _ => ⟨_, sts_nil⟩) (fun _ _ _ _ _ => ⟨_, ((se_cb bLen (by exact rfl) nb.len boot_len (sa_cons (se_lc (own := [("begin", 3), ("until", 4)]) rfl nd (si_seq (se_var 0)) (blkOk_by (by kernel_rfl)) (fun _ _ _ _ _ => ⟨_, (sg_tup rfl (sgs_cons (sg_name 3 nd rfl (by first | exact Or.inl rfl | exact Or.inr rfl)) (sgs_cons (sg_name 4 nd rfl (by first | exact Or.inl rfl | exact Or.inr rfl)) sgs_nil)))⟩) (fun _ _ _ _ _ => ⟨_, (sts_one (st_chain (oLe hr.units) (oLt hr.units) (se_var 3) (se_var 1) (se_var 4)))⟩) (fun _ _ _ _ _ => ⟨_, se_int⟩) (by decide)) sa_nil))).frz⟩) (by decide)) (se_lst (sa_cons se_int sa_nil))) sa_nil))))⟩
/-! ### _law_draws -/
abbrev s__law_draws : Stmt := topS 16
theorem sc__law_draws : FnScope ["script", "many", "cells", "rest", "draws", "k", "at", "cell", "mingled"] ["script", "many"] (defScope s__law_draws) := ⟨rfl, rfl, rfl, by decide +kernel, rfl, by decide +kernel, by decide +kernel⟩
def l1__law_draws : SF := (sSeq (sAsg (eOp (gI (fun _ j => decide (j ≠ 0)) fun i j => .int (i.fmod j)) (eVar 5) (eCB gLen (aCons (eVar 2) aNil))) (gNm 6))
  (sIf ((tfAnd (tfOf (eOp gGe (eOp gIx (eVar 2) (eVar 6)) (eOp (gI powOk fun i j => .int (i ^ j.toNat)) (eC (.int 10)) (eC (.int 18))))) (tfOf (eOp gGt (eOp gIx (eVar 3) (eVar 6)) (eC (.int 0)))))) (sSeq (sExpr (eMt mAppend (eVar 4) (aCons (frz (eOp (gI (fun _ j => decide (j ≠ 0)) fun i j => .int (i.fmod j)) (eCB gInt (aCons (eOp gIx (eVar 3) (eVar 6)) aNil)) (eC (.int 1000)))) aNil)))
  (sAsg (frz (eOp (gI divOk fun i j => .int (i.fdiv j)) (eOp gIx (eVar 3) (eVar 6)) (eC (.int 1000)))) (gSubL (eVar 3) (eVar 6)))) (sSeq (sAsg (eOp (gI (fun _ j => decide (j ≠ 0)) fun i j => .int (i.fmod j)) (eCB gInt (aCons (eOp gAdd (eOp gAdd (eOp gMul (eOp gIx (eVar 2) (eVar 6)) (eC (.int 48271))) (eOp gMul (eVar 5) (eC (.int 69621)))) (eC (.int 11))) aNil)) (eC (.int 2147483647))) (gNm 8))
  (sExpr (eMt mAppend (eVar 4) (aCons (frz (eOp (gI (fun _ j => decide (j ≠ 0)) fun i j => .int (i.fmod j)) (eCB gInt (aCons (eOp gAdd (eOp gAdd (eOp gMul (eVar 8) (eVar 8)) (eOp gMul (eC (.int 3)) (eVar 8))) (eVar 5)) aNil)) (eC (.int 1000003)))) aNil))))))
def b__law_draws : SF := (sSeq (sAsg (eComp (iSeq (eVar 0)) (gNm 7) tfYes (frz (eCB gInt (aCons (eVar 7) aNil))) [7]) (gNm 2))
  (sSeq (sIf (tfOf (eOp gEq (eCB gLen (aCons (eVar 2) aNil)) (eC (.int 0)))) (sExpr (eMt mAppend (eVar 2) (aCons (eC (.int 0)) aNil))) sNext)
  (sSeq (sAsg (eCB gList (aCons (eVar 2) aNil)) (gNm 3))
  (sSeq (sAsg (eLst aNil) (gNm 4))
  (sSeq (sFor (iRange1 (aCons (eVar 1) aNil)) (gNm 5) l1__law_draws)
  (sSeq (sExpr (eMt0 mReverse (eVar 4)))
  (sRet (eVar 4))))))))
@[irreducible] def g__law_draws : EF := defF b__law_draws 7
theorem ok__law_draws (nb : Nb mg) (F : Fun K "_law_draws" "_law_draws" s__law_draws f fd) (m : mg "_law_draws" = some (.ref f)) : CalG P w K mg base 1 "_law_draws" 2 g__law_draws := by
  unfold g__law_draws
  refine calG_of F sc__law_draws m (fun _ _ _ _ _ _ us hl => match us, hl with | [_, _], _ => rfl) (k := 0) (body := b__law_draws) ?_
  intro cdv A outer s H E hr
  have nd := (sc__law_draws).nd
  exact ⟨_, (sb_cons (ss_setLc (own := [("cell", 7)]) rfl nd (si_seq (se_var 0)) (blkOk_by (by kernel_rfl)) (fun _ _ _ _ _ => ⟨_, (sg_name 7 nd rfl (by first | exact Or.inl rfl | exact Or.inr rfl))⟩) (fun _ _ _ _ _ => ⟨_, sts_nil⟩) (fun _ _ _ _ _ => ⟨_, ((se_ct bInt (by exact rfl) nb.int bt_int (sa_cons (se_var 7) sa_nil))).frz⟩) 2 rfl rfl (sw_true rfl rfl rfl (by decide +kernel)) (by decide))
      (sb_cons (ss_if (st_cmp (oEq hr.units) (se_cb bLen (by exact rfl) nb.len boot_len (sa_cons (se_var 2) sa_nil)) se_int (nomark _)) (sb_one (ss_expr (se_mt PySem.F.slot_list_append PySem.F.type_list_append (mt_append) wm_append (se_var 2) (sa_cons se_int sa_nil)))) sb_nil)
      (sb_cons (ss_set 3 nd rfl (by first | exact Or.inl rfl | exact Or.inr rfl) (se_ct bList (by exact rfl) nb.list bt_list (sa_cons (se_var 2) sa_nil)))
      (sb_cons (ss_set 4 nd rfl (by first | exact Or.inl rfl | exact Or.inr rfl) (se_lst sa_nil))
      (sb_cons (ss_for PassesOwn.never rfl (si_range1 (by exact rfl) nb.range (sa_cons (se_var 1) sa_nil)) (sg_name 5 nd rfl (by first | exact Or.inl rfl | exact Or.inr rfl)) (sb_cons (ss_set 6 nd rfl (by first | exact Or.inl rfl | exact Or.inr rfl) (se_op oMod (se_var 5) (se_cb bLen (by exact rfl) nb.len boot_len (sa_cons (se_var 2) sa_nil))))
      (sb_one (ss_if (SW.st (sw_and (st_cmp (oGe hr.units) (se_ix (se_var 2) (se_var 6)) (se_op oPow se_int se_int) (nomark _)) (sw_and1 (st_cmp (oGt hr.units) (se_ix (se_var 3) (se_var 6)) se_int (nomark _))))) (sb_cons (ss_expr (se_mt PySem.F.slot_list_append PySem.F.type_list_append (mt_append) wm_append (se_var 4) (sa_cons ((se_op oMod (se_ct bInt (by exact rfl) nb.int bt_int (sa_cons (se_ix (se_var 3) (se_var 6)) sa_nil)) se_int)).frz sa_nil)))
      (sb_one (ss_asg ((se_op oDiv (se_ix (se_var 3) (se_var 6)) se_int)).frz (sg_sub (se_var 3) (se_var 6))))) (sb_cons (ss_set 8 nd rfl (by first | exact Or.inl rfl | exact Or.inr rfl) (se_op oMod (se_ct bInt (by exact rfl) nb.int bt_int (sa_cons (se_op oAdd (se_op oAdd (se_op oMul (se_ix (se_var 2) (se_var 6)) se_int) (se_op oMul (se_var 5) se_int)) se_int) sa_nil)) se_int))
      (sb_one (ss_expr (se_mt PySem.F.slot_list_append PySem.F.type_list_append (mt_append) wm_append (se_var 4) (sa_cons ((se_op oMod (se_ct bInt (by exact rfl) nb.int bt_int (sa_cons (se_op oAdd (se_op oAdd (se_op oMul (se_var 8) (se_var 8)) (se_op oMul se_int (se_var 8))) (se_var 5)) sa_nil)) se_int)).frz sa_nil)))))))))
      (sb_cons (ss_expr (se_mt0 PySem.F.slot_list_reverse PySem.F.type_list_reverse (mt_reverse) wm_reverse (se_var 4)))
      (sb_one (ss_ret (se_var 4)))))))))⟩
/-! ### _law_take -/
abbrev s__law_take : Stmt := topS 17
theorem sc__law_take : FnScope ["draws", "many"] ["draws", "many"] (defScope s__law_take) := ⟨rfl, rfl, rfl, by decide +kernel, rfl, by decide +kernel, by decide +kernel⟩
def b__law_take : SF := (sSeq (sIf (tfOf (eOp gEq (eCB gLen (aCons (eVar 0) aNil)) (eC (.int 0)))) (sRet (eC (.int 0))) sNext)
  (sRet (eOp (gI (fun _ j => decide (j ≠ 0)) fun i j => .int (i.fmod j)) (eCB gInt (aCons (eMt0 mPop (eVar 0)) aNil)) (eVar 1))))
@[irreducible] def g__law_take : EF := defF b__law_take 0
theorem ok__law_take (nb : Nb mg) (F : Fun K "_law_take" "_law_take" s__law_take f fd) (m : mg "_law_take" = some (.ref f)) : CalG P w K mg base 1 "_law_take" 2 g__law_take := by
  unfold g__law_take
  refine calG_of F sc__law_take m (fun _ _ _ _ _ _ us hl => match us, hl with | [_, _], _ => rfl) (k := 0) (body := b__law_take) ?_
  intro cdv A outer s H E hr
  have nd := (sc__law_take).nd
  exact ⟨_, (sb_cons (ss_if (st_cmp (oEq hr.units) (se_cb bLen (by exact rfl) nb.len boot_len (sa_cons (se_var 0) sa_nil)) se_int (nomark _)) (sb_one (ss_ret se_int)) sb_nil)
      (sb_one (ss_ret (se_op oMod (se_ct bInt (by exact rfl) nb.int bt_int (sa_cons (se_mt0 PySem.F.slot_list_pop PySem.F.type_list_pop (mt_pop) wm_pop (se_var 0)) sa_nil)) (se_var 1)))))⟩
/-! ### _law_cell -/
abbrev s__law_cell : Stmt := topS 18
theorem sc__law_cell : FnScope ["script", "draws", "cell"] ["script", "draws"] (defScope s__law_cell) := ⟨rfl, rfl, rfl, by decide +kernel, rfl, by decide +kernel, by decide +kernel⟩
def b__law_cell : SF := (sSeq (sIf (tfOf (eOp gEq (eCB gLen (aCons (eVar 0) aNil)) (eC (.int 0)))) (sRet (eC (.int 0))) sNext)
  (sSeq (sAsg (eCB gInt (aCons (eOp gIx (eVar 0) (eCall g__law_take (aCons (eVar 1) (aCons (frz (eCB gLen (aCons (eVar 0) aNil))) aNil)))) aNil)) (gNm 2))
  (sRet (eOp gMul (eOp (gI (fun _ j => decide (j ≠ 0)) fun i j => .int (i.fmod j)) (eCB gAbs (aCons (eVar 2) aNil)) (eOp (gI powOk fun i j => .int (i ^ j.toNat)) (eC (.int 10)) (eC (.int 60)))) (eOp gIx (eLst (aCons (eC (.int 1)) (aCons (frz (eUn gNeg (eC (.int 1)))) aNil))) (eCB gInt (aCons (eOp gLt (eVar 2) (eC (.int 0))) aNil)))))))
@[irreducible] def g__law_cell : EF := defF b__law_cell 1
theorem ok__law_cell (nb : Nb mg) (c__law_take : CalG P w K mg base 1 "_law_take" 2 g__law_take) (F : Fun K "_law_cell" "_law_cell" s__law_cell f fd) (m : mg "_law_cell" = some (.ref f)) : CalG P w K mg base 2 "_law_cell" 2 g__law_cell := by
  unfold g__law_cell
  refine calG_of F sc__law_cell m (fun _ _ _ _ _ _ us hl => match us, hl with | [_, _], _ => rfl) (k := 1) (body := b__law_cell) ?_
  intro cdv A outer s H E hr
  have nd := (sc__law_cell).nd
  exact ⟨_, (sb_cons (ss_if (st_cmp (oEq hr.units) (se_cb bLen (by exact rfl) nb.len boot_len (sa_cons (se_var 0) sa_nil)) se_int (nomark _)) (sb_one (ss_ret se_int)) sb_nil)
      (sb_cons (ss_set 2 nd rfl (by first | exact Or.inl rfl | exact Or.inr rfl) (se_ct bInt (by exact rfl) nb.int bt_int (sa_cons (se_ix (se_var 0) (se_callG c__law_take hr (by decide) (by exact rfl) (sa_cons (se_var 1) (sa_cons ((se_cb bLen (by exact rfl) nb.len boot_len (sa_cons (se_var 0) sa_nil))).frz sa_nil)) (alen_cons (alen_cons alen_nil)))) sa_nil)))
      (sb_one (ss_ret (se_op oMul (se_op oMod (se_cb bAbs (by exact rfl) nb.abs bt_abs (sa_cons (se_var 2) sa_nil)) (se_op oPow se_int se_int)) (se_ix (se_lst (sa_cons se_int (sa_cons ((se_un oNeg se_int)).frz sa_nil))) (se_ct bInt (by exact rfl) nb.int bt_int (sa_cons (se_cmp (oLt hr.units) (se_var 2) se_int (nomark _)) sa_nil))))))))⟩
/-! ### _law_same -/
abbrev s__law_same : Stmt := topS 19
theorem sc__law_same : FnScope ["actual", "due", "k"] ["actual", "due"] (defScope s__law_same) := ⟨rfl, rfl, rfl, by decide +kernel, rfl, by decide +kernel, by decide +kernel⟩
def l1__law_same (g__law_same : EF) : SF := (sIf (tfNot (tfTru (eCall g__law_same (aCons (frz (eOp gIx (eVar 0) (eVar 2))) (aCons (frz (eOp gIx (eVar 1) (eVar 2))) aNil))))) (sRet (eC (.bool false))) sNext)
def b__law_same (g__law_same : EF) : SF := (sSeq (sIf (tfTru (eCB gIsi (aCons (eVar 1) (aCons (eTy "bool") aNil)))) (sRet (eAnd (eCB gIsi (aCons (eVar 0) (aCons (eTy "bool") aNil))) (eOp gEq (eVar 0) (eVar 1)))) sNext)
  (sSeq (sIf (tfTru (eCB gIsi (aCons (eVar 1) (aCons (eTy "int") aNil)))) (sRet (eAnd (eCB gIsi (aCons (eVar 0) (aCons (eTy "int") aNil))) (eAnd (eNot (eCB gIsi (aCons (eVar 0) (aCons (eTy "bool") aNil)))) (eOp gEq (eVar 0) (eVar 1))))) sNext)
  (sSeq (sIf (tfTru (eCB gIsi (aCons (eVar 1) (aCons (eTy "str") aNil)))) (sRet (eAnd (eCB gIsi (aCons (eVar 0) (aCons (eTy "str") aNil))) (eOp gEq (eVar 0) (eVar 1)))) sNext)
  (sSeq (sIf (tfOf (eOp gIs (eVar 1) (eC .none))) (sRet (eOp gIs (eVar 0) (eC .none))) sNext)
  (sSeq (sIf ((tfOr (tfNot (tfTru (eCB gIsi (aCons (eVar 0) (aCons (eTy "tuple") aNil))))) (tfOf (eOp gNe (eCB gLen (aCons (eVar 0) aNil)) (eCB gLen (aCons (eVar 1) aNil)))))) (sRet (eC (.bool false))) sNext)
  (sSeq (sFor (iRange1 (aCons (eCB gLen (aCons (eVar 1) aNil)) aNil)) (gNm 2) (l1__law_same g__law_same))
  (sRet (eC (.bool true)))))))))
def G__law_same : Nat → EF
  | 0 => fun _ => none
  | n + 1 => defF (b__law_same (G__law_same n)) 1
@[irreducible] def g__law_same : EF := G__law_same 6
theorem ok1__law_same {k : Nat} {g : EF} (nb : Nb mg) (c__law_same : CalG P w K mg base k "_law_same" 2 g) (F : Fun K "_law_same" "_law_same" s__law_same f fd) (m : mg "_law_same" = some (.ref f)) : CalG P w K mg base (k + 1) "_law_same" 2 (defF (b__law_same g) 1) := by
  refine calG_of F sc__law_same m (fun _ _ _ _ _ _ us hl => match us, hl with | [_, _], _ => rfl) (k := k) (body := b__law_same g) ?_
  intro cdv A outer s H E hr
  have nd := (sc__law_same).nd
  exact ⟨_, (sb_cons (ss_if (st_truth (se_cb bIsi (by exact rfl) nb.isinstance bt_isinstance (sa_cons (se_var 1) (sa_cons (se_ty (by exact rfl) nb.bool bt_bool) sa_nil)))) (sb_one (ss_ret (se_and (se_cb bIsi (by exact rfl) nb.isinstance bt_isinstance (sa_cons (se_var 0) (sa_cons (se_ty (by exact rfl) nb.bool bt_bool) sa_nil))) (se_one (se_cmp (oEq hr.units) (se_var 0) (se_var 1) (nomark _)))))) sb_nil)
      (sb_cons (ss_if (st_truth (se_cb bIsi (by exact rfl) nb.isinstance bt_isinstance (sa_cons (se_var 1) (sa_cons (se_ty (by exact rfl) nb.int bt_int) sa_nil)))) (sb_one (ss_ret (se_and (se_cb bIsi (by exact rfl) nb.isinstance bt_isinstance (sa_cons (se_var 0) (sa_cons (se_ty (by exact rfl) nb.int bt_int) sa_nil))) (se_and (se_not (se_cb bIsi (by exact rfl) nb.isinstance bt_isinstance (sa_cons (se_var 0) (sa_cons (se_ty (by exact rfl) nb.bool bt_bool) sa_nil)))) (se_one (se_cmp (oEq hr.units) (se_var 0) (se_var 1) (nomark _))))))) sb_nil)
      (sb_cons (ss_if (st_truth (se_cb bIsi (by exact rfl) nb.isinstance bt_isinstance (sa_cons (se_var 1) (sa_cons (se_ty (by exact rfl) nb.str bt_str) sa_nil)))) (sb_one (ss_ret (se_and (se_cb bIsi (by exact rfl) nb.isinstance bt_isinstance (sa_cons (se_var 0) (sa_cons (se_ty (by exact rfl) nb.str bt_str) sa_nil))) (se_one (se_cmp (oEq hr.units) (se_var 0) (se_var 1) (nomark _)))))) sb_nil)
      (sb_cons (ss_if (st_cmp oIs (se_var 1) se_non (nomark _)) (sb_one (ss_ret (se_cmp oIs (se_var 0) se_non (nomark _)))) sb_nil)
      (sb_cons (ss_if (SW.st (sw_or (st_not (st_truth (se_cb bIsi (by exact rfl) nb.isinstance bt_isinstance (sa_cons (se_var 0) (sa_cons (se_ty (by exact rfl) nb.tuple bt_tuple) sa_nil))))) (sw_or1 (st_cmp (oNe hr.units) (se_cb bLen (by exact rfl) nb.len boot_len (sa_cons (se_var 0) sa_nil)) (se_cb bLen (by exact rfl) nb.len boot_len (sa_cons (se_var 1) sa_nil)) (nomark _))))) (sb_one (ss_ret se_bl)) sb_nil)
      (sb_cons (ss_for PassesOwn.never rfl (si_range1 (by exact rfl) nb.range (sa_cons (se_cb bLen (by exact rfl) nb.len boot_len (sa_cons (se_var 1) sa_nil)) sa_nil)) (sg_name 2 nd rfl (by first | exact Or.inl rfl | exact Or.inr rfl)) (sb_one (ss_if (st_not (st_truth (se_callG c__law_same hr (Nat.le_refl _) (by exact rfl) (sa_cons ((se_ix (se_var 0) (se_var 2))).frz (sa_cons ((se_ix (se_var 1) (se_var 2))).frz sa_nil)) (alen_cons (alen_cons alen_nil))))) (sb_one (ss_ret se_bl)) sb_nil)))
      (sb_one (ss_ret se_bl))))))))⟩
theorem ok__law_same (nb : Nb mg) (F : Fun K "_law_same" "_law_same" s__law_same f fd) (m : mg "_law_same" = some (.ref f)) : CalG P w K mg base 6 "_law_same" 2 g__law_same := by
  have h : ∀ n, CalG P w K mg base n "_law_same" 2 (G__law_same n) := fun n => by
    induction n with
    | zero => exact calG_none F sc__law_same m (fun _ _ _ _ _ _ us hl => match us, hl with | [_, _], _ => rfl)
    | succ n ih => exact ok1__law_same nb ih F m
  unfold g__law_same
  exact h 6
/-! ### _law_masts -/
abbrev s__law_masts : Stmt := topS 20
theorem sc__law_masts : FnScope ["script", "draws", "many", "wide", "found", "at", "k"] ["script", "draws", "many", "wide"] (defScope s__law_masts) := ⟨rfl, rfl, rfl, by decide +kernel, rfl, by decide +kernel, by decide +kernel⟩
def l1__law_masts : SF := (sSeq (sExpr (eMt mAppend (eVar 4) (aCons (frz (eVar 5)) aNil)))
  (sAsg (eOp gAdd (eVar 5) (eOp gIx (eLst (aCons (eC (.int 0)) (aCons (frz (eCall g__law_take (aCons (eVar 1) (aCons (eC (.int 3)) aNil)))) (aCons (frz (eCall g__law_take (aCons (eVar 1) (aCons (eVar 3) aNil)))) (aCons (frz (eCall g__law_take (aCons (eVar 1) (aCons (eVar 3) aNil)))) aNil))))) (eCall g__law_take (aCons (eVar 1) (aCons (eC (.int 4)) aNil))))) (gNm 5)))
def b__law_masts : SF := (sSeq (sAsg (eLst aNil) (gNm 4))
  (sSeq (sAsg (eOp gIx (eLst (aCons (eC (.int 0)) (aCons (frz (eCall g__law_cell (aCons (eVar 0) (aCons (eVar 1) aNil)))) aNil))) (eCall g__law_take (aCons (eVar 1) (aCons (eC (.int 2)) aNil)))) (gNm 5))
  (sSeq (sFor (iRange1 (aCons (eVar 2) aNil)) (gNm 6) l1__law_masts)
  (sRet (eCB gTuple (aCons (eVar 4) aNil))))))
@[irreducible] def g__law_masts : EF := defF b__law_masts 3
theorem ok__law_masts (nb : Nb mg) (c__law_cell : CalG P w K mg base 2 "_law_cell" 2 g__law_cell) (c__law_take : CalG P w K mg base 1 "_law_take" 2 g__law_take) (F : Fun K "_law_masts" "_law_masts" s__law_masts f fd) (m : mg "_law_masts" = some (.ref f)) : CalG P w K mg base 3 "_law_masts" 4 g__law_masts := by
  unfold g__law_masts
  refine calG_of F sc__law_masts m (fun _ _ _ _ _ _ us hl => match us, hl with | [_, _, _, _], _ => rfl) (k := 2) (body := b__law_masts) ?_
  intro cdv A outer s H E hr
  have nd := (sc__law_masts).nd
  exact ⟨_, (sb_cons (ss_set 4 nd rfl (by first | exact Or.inl rfl | exact Or.inr rfl) (se_lst sa_nil))
      (sb_cons (ss_set 5 nd rfl (by first | exact Or.inl rfl | exact Or.inr rfl) (se_ix (se_lst (sa_cons se_int (sa_cons ((se_callG c__law_cell hr (by decide) (by exact rfl) (sa_cons (se_var 0) (sa_cons (se_var 1) sa_nil)) (alen_cons (alen_cons alen_nil)))).frz sa_nil))) (se_callG c__law_take hr (by decide) (by exact rfl) (sa_cons (se_var 1) (sa_cons se_int sa_nil)) (alen_cons (alen_cons alen_nil)))))
      (sb_cons (ss_for PassesOwn.never rfl (si_range1 (by exact rfl) nb.range (sa_cons (se_var 2) sa_nil)) (sg_name 6 nd rfl (by first | exact Or.inl rfl | exact Or.inr rfl)) (sb_cons (ss_expr (se_mt PySem.F.slot_list_append PySem.F.type_list_append (mt_append) wm_append (se_var 4) (sa_cons ((se_var 5)).frz sa_nil)))
      (sb_one (ss_set 5 nd rfl (by first | exact Or.inl rfl | exact Or.inr rfl) (se_op oAdd (se_var 5) (se_ix (se_lst (sa_cons se_int (sa_cons ((se_callG c__law_take hr (by decide) (by exact rfl) (sa_cons (se_var 1) (sa_cons se_int sa_nil)) (alen_cons (alen_cons alen_nil)))).frz (sa_cons ((se_callG c__law_take hr (by decide) (by exact rfl) (sa_cons (se_var 1) (sa_cons (se_var 3) sa_nil)) (alen_cons (alen_cons alen_nil)))).frz (sa_cons ((se_callG c__law_take hr (by decide) (by exact rfl) (sa_cons (se_var 1) (sa_cons (se_var 3) sa_nil)) (alen_cons (alen_cons alen_nil)))).frz sa_nil))))) (se_callG c__law_take hr (by decide) (by exact rfl) (sa_cons (se_var 1) (sa_cons se_int sa_nil)) (alen_cons (alen_cons alen_nil)))))))))
      (sb_one (ss_ret (se_ct bTuple (by exact rfl) nb.tuple bt_tuple (sa_cons (se_var 4) sa_nil)))))))⟩
/-! ### _law_clear -/
abbrev s__law_clear : Stmt := topS 21
theorem sc__law_clear : FnScope ["masts", "near", "gap", "channels", "k", "j", "one"] ["masts", "near", "gap", "channels"] (defScope s__law_clear) := ⟨rfl, rfl, rfl, by decide +kernel, rfl, by decide +kernel, by decide +kernel⟩
def l1__law_clear : SF := (sIf ((tfAnd (tfOf (eOp gLt (eOp (gI0 fun i j => .int (i - j)) (eOp gIx (eVar 0) (eVar 4)) (eOp gIx (eVar 0) (eVar 5))) (eVar 1))) (tfOf (eOp gLt (eCB gAbs (aCons (eOp (gI0 fun i j => .int (i - j)) (eOp gIx (eVar 3) (eVar 4)) (eOp gIx (eVar 3) (eVar 5))) aNil)) (eVar 2))))) (sRet (eC (.bool false))) sNext)
def l2__law_clear : SF := (sFor (iRange1 (aCons (eVar 4) aNil)) (gNm 5) l1__law_clear)
def b__law_clear : SF := (sSeq (sIf ((tfOr (tfOf (eOp gNe (eCB gLen (aCons (eVar 3) aNil)) (eCB gLen (aCons (eVar 0) aNil)))) (tfOf (eOp gGt (eCB gLen (aCons (eComp (iSeq (eVar 3)) (gNm 6) (tfOf (eOp gLt (eVar 6) (eC (.int 0)))) (frz (eVar 6)) [6]) aNil)) (eC (.int 0)))))) (sRet (eC (.bool false))) sNext)
  (sSeq (sFor (iRange1 (aCons (eCB gLen (aCons (eVar 0) aNil)) aNil)) (gNm 4) l2__law_clear)
  (sRet (eC (.bool true)))))
@[irreducible] def g__law_clear : EF := defF b__law_clear 3
theorem ok__law_clear (nb : Nb mg) (F : Fun K "_law_clear" "_law_clear" s__law_clear f fd) (m : mg "_law_clear" = some (.ref f)) : CalG P w K mg base 1 "_law_clear" 4 g__law_clear := by
  unfold g__law_clear
  refine calG_of F sc__law_clear m (fun _ _ _ _ _ _ us hl => match us, hl with | [_, _, _, _], _ => rfl) (k := 0) (body := b__law_clear) ?_
  intro cdv A outer s H E hr
  have nd := (sc__law_clear).nd
  exact ⟨_, (sb_cons (ss_if (SW.st (sw_or (st_cmp (oNe hr.units) (se_cb bLen (by exact rfl) nb.len boot_len (sa_cons (se_var 3) sa_nil)) (se_cb bLen (by exact rfl) nb.len boot_len (sa_cons (se_var 0) sa_nil)) (nomark _)) (sw_or1 (st_cmp (oGt hr.units) (se_cb bLen (by exact rfl) nb.len boot_len (sa_cons (se_lc (own := [("one", 6)]) rfl nd (si_seq (se_var 3)) (blkOk_by (by kernel_rfl)) (fun _ _ _ _ _ => ⟨_, (sg_name 6 nd rfl (by first | exact Or.inl rfl | exact Or.inr rfl))⟩) (fun _ _ _ _ _ => ⟨_, (sts_one (st_cmp (oLt hr.units) (se_var 6) se_int (nomark _)))⟩) (fun _ _ _ _ _ => ⟨_, ((se_var 6)).frz⟩) (by decide)) sa_nil)) se_int (nomark _))))) (sb_one (ss_ret se_bl)) sb_nil)
      (sb_cons (ss_for PassesOwn.never rfl (si_range1 (by exact rfl) nb.range (sa_cons (se_cb bLen (by exact rfl) nb.len boot_len (sa_cons (se_var 0) sa_nil)) sa_nil)) (sg_name 4 nd rfl (by first | exact Or.inl rfl | exact Or.inr rfl)) (sb_one (ss_for PassesOwn.never rfl (si_range1 (by exact rfl) nb.range (sa_cons (se_var 4) sa_nil)) (sg_name 5 nd rfl (by first | exact Or.inl rfl | exact Or.inr rfl)) (sb_one (ss_if (SW.st (sw_and (st_cmp (oLt hr.units) (se_op oSub (se_ix (se_var 0) (se_var 4)) (se_ix (se_var 0) (se_var 5))) (se_var 1) (nomark _)) (sw_and1 (st_cmp (oLt hr.units) (se_cb bAbs (by exact rfl) nb.abs bt_abs (sa_cons (se_op oSub (se_ix (se_var 3) (se_var 4)) (se_ix (se_var 3) (se_var 5))) sa_nil)) (se_var 2) (nomark _))))) (sb_one (ss_ret se_bl)) sb_nil)))))
      (sb_one (ss_ret se_bl))))⟩
/-! ### _law_told -/
abbrev s__law_told : Stmt := topS 22
theorem sc__law_told : FnScope ["masts", "near", "found", "k", "taken", "j", "one"] ["masts", "near"] (defScope s__law_told) := ⟨rfl, rfl, rfl, by decide +kernel, rfl, by decide +kernel, by decide +kernel⟩
def l1__law_told : SF := (sSeq (sAsg (eComp (iRange1 (aCons (eVar 3) aNil)) (gNm 5) (tfOf (eOp gLt (eOp (gI0 fun i j => .int (i - j)) (eOp gIx (eVar 0) (eVar 3)) (eOp gIx (eVar 0) (eVar 5))) (eVar 1))) (frz (eOp gIx (eVar 2) (eVar 5))) [5]) (gNm 4))
  (sExpr (eMt mAppend (eVar 2) (aCons (frz (eOp gIx (eComp (iRange1 (aCons (eOp gAdd (eCB gLen (aCons (eVar 4) aNil)) (eC (.int 1))) aNil)) (gNm 6) (tfOf (eOp (gIn true) (eVar 6) (eVar 4))) (frz (eVar 6)) [6]) (eC (.int 0)))) aNil))))
def b__law_told : SF := (sSeq (sAsg (eLst aNil) (gNm 2))
  (sSeq (sFor (iRange1 (aCons (eCB gLen (aCons (eVar 0) aNil)) aNil)) (gNm 3) l1__law_told)
  (sRet (eCB gTuple (aCons (eVar 2) aNil)))))
@[irreducible] def g__law_told : EF := defF b__law_told 5
theorem ok__law_told (nb : Nb mg) (F : Fun K "_law_told" "_law_told" s__law_told f fd) (m : mg "_law_told" = some (.ref f)) : CalG P w K mg base 1 "_law_told" 2 g__law_told := by
  unfold g__law_told
  refine calG_of F sc__law_told m (fun _ _ _ _ _ _ us hl => match us, hl with | [_, _], _ => rfl) (k := 0) (body := b__law_told) ?_
  intro cdv A outer s H E hr
  have nd := (sc__law_told).nd
  exact ⟨_, (sb_cons (ss_set 2 nd rfl (by first | exact Or.inl rfl | exact Or.inr rfl) (se_lst sa_nil))
      (sb_cons (ss_for PassesOwn.never rfl (si_range1 (by exact rfl) nb.range (sa_cons (se_cb bLen (by exact rfl) nb.len boot_len (sa_cons (se_var 0) sa_nil)) sa_nil)) (sg_name 3 nd rfl (by first | exact Or.inl rfl | exact Or.inr rfl)) (sb_cons (ss_set 4 nd rfl (by first | exact Or.inl rfl | exact Or.inr rfl) (se_lc (own := [("j", 5)]) rfl nd (si_range1 (by exact rfl) nb.range (sa_cons (se_var 3) sa_nil)) (blkOk_by (by kernel_rfl)) (fun _ _ _ _ _ => ⟨_, (sg_name 5 nd rfl (by first | exact Or.inl rfl | exact Or.inr rfl))⟩) (fun _ _ _ _ _ => ⟨_, (sts_one (st_cmp (oLt hr.units) (se_op oSub (se_ix (se_var 0) (se_var 3)) (se_ix (se_var 0) (se_var 5))) (se_var 1) (nomark _)))⟩) (fun _ _ _ _ _ => ⟨_, ((se_ix (se_var 2) (se_var 5))).frz⟩) (by decide)))
      (sb_one (ss_expr (se_mt PySem.F.slot_list_append PySem.F.type_list_append (mt_append) wm_append (se_var 2) (sa_cons ((se_ix (se_lc (own := [("one", 6)]) rfl nd (si_range1 (by exact rfl) nb.range (sa_cons (se_op oAdd (se_cb bLen (by exact rfl) nb.len boot_len (sa_cons (se_var 4) sa_nil)) se_int) sa_nil)) (blkOk_by (by kernel_rfl)) (fun _ _ _ _ _ => ⟨_, (sg_name 6 nd rfl (by first | exact Or.inl rfl | exact Or.inr rfl))⟩) (fun _ _ _ _ _ => ⟨_, (sts_one (st_cmp (oNotIn hr.units) (se_var 6) (se_var 4) (by rfl)))⟩) (fun _ _ _ _ _ => ⟨_, ((se_var 6)).frz⟩) (by decide)) se_int)).frz sa_nil))))))
      (sb_one (ss_ret (se_ct bTuple (by exact rfl) nb.tuple bt_tuple (sa_cons (se_var 2) sa_nil))))))⟩
/-! ### _law_crowd -/
abbrev s__law_crowd : Stmt := topS 23
theorem sc__law_crowd : FnScope ["masts", "near", "best", "k", "there", "j", "one"] ["masts", "near"] (defScope s__law_crowd) := ⟨rfl, rfl, rfl, by decide +kernel, rfl, by decide +kernel, by decide +kernel⟩
def l1__law_crowd : SF := (sIf (tfOf (eOp gEq (eCB gLen (aCons (eComp (iSeq (eVar 4)) (gNm 6) (tfOf (eOp gGe (eOp (gI0 fun i j => .int (i - j)) (eOp gIx (eVar 0) (eVar 5)) (eOp gIx (eVar 0) (eVar 6))) (eVar 1))) (frz (eVar 6)) [6]) aNil)) (eC (.int 0)))) (sAsg (eOp gAdd (eVar 4) (eTup (aCons (frz (eVar 5)) aNil))) (gNm 4)) sNext)
def l2__law_crowd : SF := (sSeq (sAsg (eTup (aCons (frz (eVar 3)) aNil)) (gNm 4))
  (sSeq (sFor (iRange2 (aCons (eOp gAdd (eVar 3) (eC (.int 1))) (aCons (eCB gLen (aCons (eVar 0) aNil)) aNil))) (gNm 5) l1__law_crowd)
  (sIf ((tfAnd (tfOf (eOp gGt (eVar 1) (eC (.int 0)))) (tfOf (eOp gGt (eCB gLen (aCons (eVar 4) aNil)) (eCB gLen (aCons (eVar 2) aNil)))))) (sAsg (eVar 4) (gNm 2)) sNext)))
def b__law_crowd : SF := (sSeq (sAsg (eTup aNil) (gNm 2))
  (sSeq (sFor (iRange1 (aCons (eCB gLen (aCons (eVar 0) aNil)) aNil)) (gNm 3) l2__law_crowd)
  (sRet (eVar 2))))
@[irreducible] def g__law_crowd : EF := defF b__law_crowd 5
theorem ok__law_crowd (nb : Nb mg) (F : Fun K "_law_crowd" "_law_crowd" s__law_crowd f fd) (m : mg "_law_crowd" = some (.ref f)) : CalG P w K mg base 1 "_law_crowd" 2 g__law_crowd := by
  unfold g__law_crowd
  refine calG_of F sc__law_crowd m (fun _ _ _ _ _ _ us hl => match us, hl with | [_, _], _ => rfl) (k := 0) (body := b__law_crowd) ?_
  intro cdv A outer s H E hr
  have nd := (sc__law_crowd).nd
  exact ⟨_, (sb_cons (ss_set 2 nd rfl (by first | exact Or.inl rfl | exact Or.inr rfl) (se_tup sa_nil))
      (sb_cons (ss_for PassesOwn.never rfl (si_range1 (by exact rfl) nb.range (sa_cons (se_cb bLen (by exact rfl) nb.len boot_len (sa_cons (se_var 0) sa_nil)) sa_nil)) (sg_name 3 nd rfl (by first | exact Or.inl rfl | exact Or.inr rfl)) (sb_cons (ss_set 4 nd rfl (by first | exact Or.inl rfl | exact Or.inr rfl) (se_tup (sa_cons ((se_var 3)).frz sa_nil)))
      (sb_cons (ss_for PassesOwn.never rfl (si_range2 (by exact rfl) nb.range (sa_cons (se_op oAdd (se_var 3) se_int) (sa_cons (se_cb bLen (by exact rfl) nb.len boot_len (sa_cons (se_var 0) sa_nil)) sa_nil))) (sg_name 5 nd rfl (by first | exact Or.inl rfl | exact Or.inr rfl)) (sb_one (ss_if (st_cmp (oEq hr.units) (se_cb bLen (by exact rfl) nb.len boot_len (sa_cons (se_lc (own := [("one", 6)]) rfl nd (si_seq (se_var 4)) (blkOk_by (by kernel_rfl)) (fun _ _ _ _ _ => ⟨_, (sg_name 6 nd rfl (by first | exact Or.inl rfl | exact Or.inr rfl))⟩) (fun _ _ _ _ _ => ⟨_, (sts_one (st_cmp (oGe hr.units) (se_op oSub (se_ix (se_var 0) (se_var 5)) (se_ix (se_var 0) (se_var 6))) (se_var 1) (nomark _)))⟩) (fun _ _ _ _ _ => ⟨_, ((se_var 6)).frz⟩) (by decide)) sa_nil)) se_int (nomark _)) (sb_one (ss_set 4 nd rfl (by first | exact Or.inl rfl | exact Or.inr rfl) (se_op oAdd (se_var 4) (se_tup (sa_cons ((se_var 5)).frz sa_nil))))) sb_nil)))
      (sb_one (ss_if (SW.st (sw_and (st_cmp (oGt hr.units) (se_var 1) se_int (nomark _)) (sw_and1 (st_cmp (oGt hr.units) (se_cb bLen (by exact rfl) nb.len boot_len (sa_cons (se_var 4) sa_nil)) (se_cb bLen (by exact rfl) nb.len boot_len (sa_cons (se_var 2) sa_nil)) (nomark _))))) (sb_one (ss_set 2 nd rfl (by first | exact Or.inl rfl | exact Or.inr rfl) (se_var 4))) sb_nil)))))
      (sb_one (ss_ret (se_var 2)))))⟩
/-! ### _law_all_clear -/
abbrev s__law_all_clear : Stmt := topS 24
theorem sc__law_all_clear : FnScope ["masts", "near", "gap", "most", "found", "k", "longer", "row", "one", "j"] ["masts", "near", "gap", "most"] (defScope s__law_all_clear) := ⟨rfl, rfl, rfl, by decide +kernel, rfl, by decide +kernel, by decide +kernel⟩
def l1__law_all_clear : SF := (sIf (tfOf (eOp gEq (eCB gLen (aCons (eComp (iRange1 (aCons (eVar 5) aNil)) (gNm 9) ((tfAnd (tfOf (eOp gLt (eOp (gI0 fun i j => .int (i - j)) (eOp gIx (eVar 0) (eVar 5)) (eOp gIx (eVar 0) (eVar 9))) (eVar 1))) (tfOf (eOp gLt (eCB gAbs (aCons (eOp (gI0 fun i j => .int (i - j)) (eVar 8) (eOp gIx (eVar 7) (eVar 9))) aNil)) (eVar 2))))) (frz (eVar 9)) [9]) aNil)) (eC (.int 0)))) (sExpr (eMt mAppend (eVar 6) (aCons (frz (eOp gAdd (eVar 7) (eTup (aCons (frz (eVar 8)) aNil)))) aNil))) sNext)
def l2__law_all_clear : SF := (sFor (iRange1 (aCons (eOp gAdd (eVar 3) (eC (.int 1))) aNil)) (gNm 8) l1__law_all_clear)
def l3__law_all_clear : SF := (sSeq (sAsg (eLst aNil) (gNm 6))
  (sSeq (sFor (iSeq (eVar 4)) (gNm 7) l2__law_all_clear)
  (sAsg (eVar 6) (gNm 4))))
def b__law_all_clear : SF := (sSeq (sAsg (eLst (aCons (frz (eTup aNil)) aNil)) (gNm 4))
  (sSeq (sFor (iRange1 (aCons (eCB gLen (aCons (eVar 0) aNil)) aNil)) (gNm 5) l3__law_all_clear)
  (sRet (eOp gGt (eCB gLen (aCons (eVar 4) aNil)) (eC (.int 0))))))
@[irreducible] def g__law_all_clear : EF := defF b__law_all_clear 6
theorem ok__law_all_clear (nb : Nb mg) (F : Fun K "_law_all_clear" "_law_all_clear" s__law_all_clear f fd) (m : mg "_law_all_clear" = some (.ref f)) : CalG P w K mg base 1 "_law_all_clear" 4 g__law_all_clear := by
  unfold g__law_all_clear
  refine calG_of F sc__law_all_clear m (fun _ _ _ _ _ _ us hl => match us, hl with | [_, _, _, _], _ => rfl) (k := 0) (body := b__law_all_clear) ?_
  intro cdv A outer s H E hr
  have nd := (sc__law_all_clear).nd
  exact ⟨_, (sb_cons (ss_set 4 nd rfl (by first | exact Or.inl rfl | exact Or.inr rfl) (se_lst (sa_cons ((se_tup sa_nil)).frz sa_nil)))
      (sb_cons (ss_for PassesOwn.never rfl (si_range1 (by exact rfl) nb.range (sa_cons (se_cb bLen (by exact rfl) nb.len boot_len (sa_cons (se_var 0) sa_nil)) sa_nil)) (sg_name 5 nd rfl (by first | exact Or.inl rfl | exact Or.inr rfl)) (sb_cons (ss_set 6 nd rfl (by first | exact Or.inl rfl | exact Or.inr rfl) (se_lst sa_nil))
      (sb_cons (ss_for PassesOwn.never rfl (si_seq (se_var 4)) (sg_name 7 nd rfl (by first | exact Or.inl rfl | exact Or.inr rfl)) (sb_one (ss_for PassesOwn.never rfl (si_range1 (by exact rfl) nb.range (sa_cons (se_op oAdd (se_var 3) se_int) sa_nil)) (sg_name 8 nd rfl (by first | exact Or.inl rfl | exact Or.inr rfl)) (sb_one (ss_if (st_cmp (oEq hr.units) (se_cb bLen (by exact rfl) nb.len boot_len (sa_cons (se_lc (own := [("j", 9)]) rfl nd (si_range1 (by exact rfl) nb.range (sa_cons (se_var 5) sa_nil)) (blkOk_by (by kernel_rfl)) (fun _ _ _ _ _ => ⟨_, (sg_name 9 nd rfl (by first | exact Or.inl rfl | exact Or.inr rfl))⟩) (fun _ _ _ _ _ => ⟨_, (sts_one (SW.st (sw_and (st_cmp (oLt hr.units) (se_op oSub (se_ix (se_var 0) (se_var 5)) (se_ix (se_var 0) (se_var 9))) (se_var 1) (nomark _)) (sw_and1 (st_cmp (oLt hr.units) (se_cb bAbs (by exact rfl) nb.abs bt_abs (sa_cons (se_op oSub (se_var 8) (se_ix (se_var 7) (se_var 9))) sa_nil)) (se_var 2) (nomark _))))))⟩) (fun _ _ _ _ _ => ⟨_, ((se_var 9)).frz⟩) (by decide)) sa_nil)) se_int (nomark _)) (sb_one (ss_expr (se_mt PySem.F.slot_list_append PySem.F.type_list_append (mt_append) wm_append (se_var 6) (sa_cons ((se_op oAdd (se_var 7) (se_tup (sa_cons ((se_var 8)).frz sa_nil)))).frz sa_nil)))) sb_nil)))))
      (sb_one (ss_set 4 nd rfl (by first | exact Or.inl rfl | exact Or.inr rfl) (se_var 6))))))
      (sb_one (ss_ret (se_cmp (oGt hr.units) (se_cb bLen (by exact rfl) nb.len boot_len (sa_cons (se_var 4) sa_nil)) se_int (nomark _))))))⟩
/-! ### _law_bent -/
abbrev s__law_bent : Stmt := topS 25
theorem sc__law_bent : FnScope ["draws", "cell", "row", "at", "new", "style"] ["draws", "cell", "row"] (defScope s__law_bent) := ⟨rfl, rfl, rfl, by decide +kernel, rfl, by decide +kernel, by decide +kernel⟩
def b__law_bent : SF := (sSeq (sAsg (eCall g__law_take (aCons (eVar 0) (aCons (frz (eOp gAdd (eCB gLen (aCons (eVar 2) aNil)) (eC (.int 1)))) aNil))) (gNm 3))
  (sSeq (sAsg (eOp gIx (eLst (aCons (frz (eCall g__law_take (aCons (eVar 0) (aCons (eC (.int 5)) aNil)))) (aCons (frz (eUn gNeg (eC (.int 1)))) (aCons (frz (eVar 1)) (aCons (eC (.int 0)) aNil))))) (eCall g__law_take (aCons (eVar 0) (aCons (eC (.int 4)) aNil)))) (gNm 4))
  (sSeq (sAsg (eCall g__law_take (aCons (eVar 0) (aCons (eC (.int 5)) aNil))) (gNm 5))
  (sSeq (sIf (tfOf (eOp gEq (eVar 5) (eC (.int 0)))) (sRet (eOp gAdd (eSl (eVar 2) oNo (oSome (eVar 3))) (eSl (eVar 2) (oSome (eOp gAdd (eVar 3) (eC (.int 1)))) oNo))) sNext)
  (sSeq (sIf (tfOf (eOp gEq (eVar 5) (eC (.int 1)))) (sRet (eOp gAdd (eOp gAdd (eSl (eVar 2) oNo (oSome (eVar 3))) (eTup (aCons (frz (eVar 4)) aNil))) (eSl (eVar 2) (oSome (eVar 3)) oNo))) sNext)
  (sRet (eOp gAdd (eOp gAdd (eSl (eVar 2) oNo (oSome (eVar 3))) (eTup (aCons (frz (eVar 4)) aNil))) (eSl (eVar 2) (oSome (eOp gAdd (eVar 3) (eC (.int 1)))) oNo))))))))
@[irreducible] def g__law_bent : EF := defF b__law_bent 3
theorem ok__law_bent (nb : Nb mg) (c__law_take : CalG P w K mg base 1 "_law_take" 2 g__law_take) (F : Fun K "_law_bent" "_law_bent" s__law_bent f fd) (m : mg "_law_bent" = some (.ref f)) : CalG P w K mg base 2 "_law_bent" 3 g__law_bent := by
  unfold g__law_bent
  refine calG_of F sc__law_bent m (fun _ _ _ _ _ _ us hl => match us, hl with | [_, _, _], _ => rfl) (k := 1) (body := b__law_bent) ?_
  intro cdv A outer s H E hr
  have nd := (sc__law_bent).nd
  exact ⟨_, (sb_cons (ss_set 3 nd rfl (by first | exact Or.inl rfl | exact Or.inr rfl) (se_callG c__law_take hr (by decide) (by exact rfl) (sa_cons (se_var 0) (sa_cons ((se_op oAdd (se_cb bLen (by exact rfl) nb.len boot_len (sa_cons (se_var 2) sa_nil)) se_int)).frz sa_nil)) (alen_cons (alen_cons alen_nil))))
      (sb_cons (ss_set 4 nd rfl (by first | exact Or.inl rfl | exact Or.inr rfl) (se_ix (se_lst (sa_cons ((se_callG c__law_take hr (by decide) (by exact rfl) (sa_cons (se_var 0) (sa_cons se_int sa_nil)) (alen_cons (alen_cons alen_nil)))).frz (sa_cons ((se_un oNeg se_int)).frz (sa_cons ((se_var 1)).frz (sa_cons se_int sa_nil))))) (se_callG c__law_take hr (by decide) (by exact rfl) (sa_cons (se_var 0) (sa_cons se_int sa_nil)) (alen_cons (alen_cons alen_nil)))))
      (sb_cons (ss_set 5 nd rfl (by first | exact Or.inl rfl | exact Or.inr rfl) (se_callG c__law_take hr (by decide) (by exact rfl) (sa_cons (se_var 0) (sa_cons se_int sa_nil)) (alen_cons (alen_cons alen_nil))))
      (sb_cons (ss_if (st_cmp (oEq hr.units) (se_var 5) se_int (nomark _)) (sb_one (ss_ret (se_op oAdd (se_sl (se_var 2) so_none (so_some (se_var 3))) (se_sl (se_var 2) (so_some (se_op oAdd (se_var 3) se_int)) so_none)))) sb_nil)
      (sb_cons (ss_if (st_cmp (oEq hr.units) (se_var 5) se_int (nomark _)) (sb_one (ss_ret (se_op oAdd (se_op oAdd (se_sl (se_var 2) so_none (so_some (se_var 3))) (se_tup (sa_cons ((se_var 4)).frz sa_nil))) (se_sl (se_var 2) (so_some (se_var 3)) so_none)))) sb_nil)
      (sb_one (ss_ret (se_op oAdd (se_op oAdd (se_sl (se_var 2) so_none (so_some (se_var 3))) (se_tup (sa_cons ((se_var 4)).frz sa_nil))) (se_sl (se_var 2) (so_some (se_op oAdd (se_var 3) se_int)) so_none)))))))))⟩
/-! ### _law_is_right -/
abbrev s__law_is_right : Stmt := topS 26
theorem sc__law_is_right : FnScope ["draws", "cell", "masts", "near", "gap", "told", "crowd", "fewest", "wide", "papers", "k", "paper", "at", "taken", "due", "one", "j"] ["draws", "cell", "masts", "near", "gap"] (defScope s__law_is_right) := ⟨rfl, rfl, rfl, by decide +kernel, rfl, by decide +kernel, by decide +kernel⟩
def l1__law_is_right : SF := (sExpr (eMt mAppend (eVar 9) (aCons (frz (eCall g__law_bent (aCons (eVar 0) (aCons (eVar 1) (aCons (frz (eOp gIx (eLst (aCons (frz (eVar 8)) (aCons (frz (eVar 5)) aNil))) (eCB gInt (aCons (eOp (gI (fun _ j => decide (j ≠ 0)) fun i j => .int (i.fmod j)) (eVar 10) (eC (.int 2))) aNil)))) aNil))))) aNil)))
def l2__law_is_right : SF := (sIf (tfNot (tfTru (eCall g__law_same (aCons (frz (eCall g_are_clear (aCons (eVar 2) (aCons (eVar 3) (aCons (eVar 4) (aCons (eVar 11) aNil)))))) (aCons (frz (eCall g__law_clear (aCons (eVar 2) (aCons (eVar 3) (aCons (eVar 4) (aCons (eVar 11) aNil)))))) aNil))))) (sRet (eC (.bool false))) sNext)
def l3__law_is_right : SF := (sSeq (sAsg (eOp gIx (eLst (aCons (frz (eVar 1)) (aCons (frz (eCall g__law_take (aCons (eVar 0) (aCons (eC (.int 30)) aNil)))) (aCons (frz (eOp (gI0 fun i j => .int (i - j)) (eOp gAdd (eOp gIx (eOp gAdd (eVar 2) (eTup (aCons (eC (.int 0)) aNil))) (eCall g__law_take (aCons (eVar 0) (aCons (frz (eOp gAdd (eCB gLen (aCons (eVar 2) aNil)) (eC (.int 1)))) aNil)))) (eCall g__law_take (aCons (eVar 0) (aCons (eC (.int 5)) aNil)))) (eC (.int 2)))) aNil)))) (eCall g__law_take (aCons (eVar 0) (aCons (eC (.int 3)) aNil)))) (gNm 12))
  (sSeq (sAsg (eComp (iRange1 (aCons (eCB gLen (aCons (eVar 2) aNil)) aNil)) (gNm 16) (tfOf (eOp gLt (eCB gAbs (aCons (eOp (gI0 fun i j => .int (i - j)) (eOp gIx (eVar 2) (eVar 16)) (eVar 12)) aNil)) (eVar 3))) (frz (eOp gIx (eVar 5) (eVar 16))) [16]) (gNm 13))
  (sSeq (sAsg (eOp gIx (eComp (iRange1 (aCons (eOp gAdd (eCB gLen (aCons (eVar 13) aNil)) (eC (.int 1))) aNil)) (gNm 15) (tfOf (eOp (gIn true) (eVar 15) (eVar 13))) (frz (eVar 15)) [15]) (eC (.int 0))) (gNm 14))
  (sIf (tfNot (tfTru (eCall g__law_same (aCons (frz (eCall g_added_mast (aCons (eVar 2) (aCons (eVar 3) (aCons (eVar 12) aNil))))) (aCons (eVar 14) aNil))))) (sRet (eC (.bool false))) sNext))))
def b__law_is_right : SF := (sSeq (sAsg (eCall g__law_told (aCons (eVar 2) (aCons (eVar 3) aNil))) (gNm 5))
  (sSeq (sAsg (eCall g__law_crowd (aCons (eVar 2) (aCons (eVar 3) aNil))) (gNm 6))
  (sSeq (sAsg (eOp gAdd (eCB gMax1 (aCons (eOp gAdd (eTup (aCons (frz (eUn gNeg (eC (.int 1)))) aNil)) (eVar 5)) aNil)) (eC (.int 1))) (gNm 7))
  (sSeq (sIf ((tfOr (tfNot (tfTru (eCall g__law_same (aCons (frz (eCall g_told_channels (aCons (eVar 2) (aCons (eVar 3) aNil)))) (aCons (eVar 5) aNil))))) (tfNot (tfTru (eCall g__law_same (aCons (frz (eCall g_fewest_channels (aCons (eVar 2) (aCons (eVar 3) aNil)))) (aCons (eVar 7) aNil))))))) (sRet (eC (.bool false))) sNext)
  (sSeq (sIf ((tfAnd (tfOf (eOp gGt (eVar 3) (eC (.int 0)))) ((tfOr (tfNot (tfTru (eCall g__law_same (aCons (frz (eCall g_crowded_masts (aCons (eVar 2) (aCons (eVar 3) aNil)))) (aCons (eVar 6) aNil))))) (tfOf (eOp gNe (eCB gLen (aCons (eVar 6) aNil)) (eVar 7))))))) (sRet (eC (.bool false))) sNext)
  (sSeq (sIf (tfNot (tfTru (eCall g__law_same (aCons (frz (eCall g_least_span (aCons (eVar 2) (aCons (eVar 3) (aCons (eVar 4) aNil))))) (aCons (frz (eOp gMul (eVar 4) (eCB gMax2 (aCons (eOp (gI0 fun i j => .int (i - j)) (eVar 7) (eC (.int 1))) (aCons (eC (.int 0)) aNil))))) aNil))))) (sRet (eC (.bool false))) sNext)
  (sSeq (sAsg (eCB gTuple (aCons (eComp (iSeq (eVar 5)) (gNm 15) tfYes (frz (eOp gMul (eVar 4) (eVar 15))) [15]) aNil)) (gNm 8))
  (sSeq (sAsg (eLst (aCons (frz (eVar 5)) (aCons (frz (eVar 8)) (aCons (frz (eOp gMulT (eTup (aCons (eC (.int 0)) aNil)) (eCB gLen (aCons (eVar 2) aNil)))) (aCons (frz (eTupleRg1 (aCons (eCB gLen (aCons (eVar 2) aNil)) aNil))) aNil))))) (gNm 9))
  (sSeq (sFor (iRange1 (aCons (eC (.int 5)) aNil)) (gNm 10) l1__law_is_right)
  (sSeq (sFor (iSeq (eVar 9)) (gNm 11) l2__law_is_right)
  (sSeq (sIf (tfNot (tfTru (eCall g__law_clear (aCons (eVar 2) (aCons (eVar 3) (aCons (eVar 4) (aCons (eVar 8) aNil))))))) (sRet (eC (.bool false))) sNext)
  (sSeq (sFor (iRange1 (aCons (eC (.int 3)) aNil)) (gNm 10) l3__law_is_right)
  (sRet (eC (.bool true)))))))))))))))
@[irreducible] def g__law_is_right : EF := defF b__law_is_right 12
theorem ok__law_is_right (nb : Nb mg) (c__law_told : CalG P w K mg base 1 "_law_told" 2 g__law_told) (c__law_crowd : CalG P w K mg base 1 "_law_crowd" 2 g__law_crowd) (c__law_same : CalG P w K mg base 6 "_law_same" 2 g__law_same) (c_fewest_channels : CalG P w K mg base 3 "fewest_channels" 2 g_fewest_channels) (c_told_channels : CalG P w K mg base 2 "told_channels" 2 g_told_channels) (c_crowded_masts : CalG P w K mg base 1 "crowded_masts" 2 g_crowded_masts) (c_least_span : CalG P w K mg base 4 "least_span" 3 g_least_span) (c__law_bent : CalG P w K mg base 2 "_law_bent" 3 g__law_bent) (c__law_clear : CalG P w K mg base 1 "_law_clear" 4 g__law_clear) (c_are_clear : CalG P w K mg base 2 "are_clear" 4 g_are_clear) (c__law_take : CalG P w K mg base 1 "_law_take" 2 g__law_take) (c_added_mast : CalG P w K mg base 3 "added_mast" 3 g_added_mast) (F : Fun K "_law_is_right" "_law_is_right" s__law_is_right f fd) (m : mg "_law_is_right" = some (.ref f)) : CalG P w K mg base 7 "_law_is_right" 5 g__law_is_right := by
  unfold g__law_is_right
  refine calG_of F sc__law_is_right m (fun _ _ _ _ _ _ us hl => match us, hl with | [_, _, _, _, _], _ => rfl) (k := 6) (body := b__law_is_right) ?_
  intro cdv A outer s H E hr
  have nd := (sc__law_is_right).nd
  exact ⟨_, (sb_cons (ss_set 5 nd rfl (by first | exact Or.inl rfl | exact Or.inr rfl) (se_callG c__law_told hr (by decide) (by exact rfl) (sa_cons (se_var 2) (sa_cons (se_var 3) sa_nil)) (alen_cons (alen_cons alen_nil))))
      (sb_cons (ss_set 6 nd rfl (by first | exact Or.inl rfl | exact Or.inr rfl) (se_callG c__law_crowd hr (by decide) (by exact rfl) (sa_cons (se_var 2) (sa_cons (se_var 3) sa_nil)) (alen_cons (alen_cons alen_nil))))
      (sb_cons (ss_set 7 nd rfl (by first | exact Or.inl rfl | exact Or.inr rfl) (se_op oAdd (se_cb (bMax1 rfl hr) (by exact rfl) nb.max bt_max (sa_cons (se_op oAdd (se_tup (sa_cons ((se_un oNeg se_int)).frz sa_nil)) (se_var 5)) sa_nil)) se_int))
      (sb_cons (ss_if (SW.st (sw_or (st_not (st_truth (se_callG c__law_same hr (by decide) (by exact rfl) (sa_cons ((se_callG c_told_channels hr (by decide) (by exact rfl) (sa_cons (se_var 2) (sa_cons (se_var 3) sa_nil)) (alen_cons (alen_cons alen_nil)))).frz (sa_cons (se_var 5) sa_nil)) (alen_cons (alen_cons alen_nil))))) (sw_or1 (st_not (st_truth (se_callG c__law_same hr (by decide) (by exact rfl) (sa_cons ((se_callG c_fewest_channels hr (by decide) (by exact rfl) (sa_cons (se_var 2) (sa_cons (se_var 3) sa_nil)) (alen_cons (alen_cons alen_nil)))).frz (sa_cons (se_var 7) sa_nil)) (alen_cons (alen_cons alen_nil)))))))) (sb_one (ss_ret se_bl)) sb_nil)
      (sb_cons (ss_if (SW.st (sw_and (st_cmp (oGt hr.units) (se_var 3) se_int (nomark _)) (sw_and1 (SW.st (sw_or (st_not (st_truth (se_callG c__law_same hr (by decide) (by exact rfl) (sa_cons ((se_callG c_crowded_masts hr (by decide) (by exact rfl) (sa_cons (se_var 2) (sa_cons (se_var 3) sa_nil)) (alen_cons (alen_cons alen_nil)))).frz (sa_cons (se_var 6) sa_nil)) (alen_cons (alen_cons alen_nil))))) (sw_or1 (st_cmp (oNe hr.units) (se_cb bLen (by exact rfl) nb.len boot_len (sa_cons (se_var 6) sa_nil)) (se_var 7) (nomark _)))))))) (sb_one (ss_ret se_bl)) sb_nil)
      (sb_cons (ss_if (st_not (st_truth (se_callG c__law_same hr (by decide) (by exact rfl) (sa_cons ((se_callG c_least_span hr (by decide) (by exact rfl) (sa_cons (se_var 2) (sa_cons (se_var 3) (sa_cons (se_var 4) sa_nil))) (alen_cons (alen_cons (alen_cons alen_nil))))).frz (sa_cons ((se_op oMul (se_var 4) (se_cb (bMax2 rfl) (by exact rfl) nb.max bt_max (sa_cons (se_op oSub (se_var 7) se_int) (sa_cons se_int sa_nil))))).frz sa_nil)) (alen_cons (alen_cons alen_nil))))) (sb_one (ss_ret se_bl)) sb_nil)
      (sb_cons (ss_set 8 nd rfl (by first | exact Or.inl rfl | exact Or.inr rfl) (se_ct bTuple (by exact rfl) nb.tuple bt_tuple (sa_cons (se_lc (own := [("one", 15)]) rfl nd (si_seq (se_var 5)) (blkOk_by (by kernel_rfl)) (fun _ _ _ _ _ => ⟨_, (sg_name 15 nd rfl (by first | exact Or.inl rfl | exact Or.inr rfl))⟩) (fun _ _ _ _ _ => ⟨_, sts_nil⟩) (fun _ _ _ _ _ => ⟨_, ((se_op oMul (se_var 4) (se_var 15))).frz⟩) (by decide)) sa_nil)))
      (sb_cons (ss_set 9 nd rfl (by first | exact Or.inl rfl | exact Or.inr rfl) (se_lst (sa_cons ((se_var 5)).frz (sa_cons ((se_var 8)).frz (sa_cons ((se_op oMulT (se_tup (sa_cons se_int sa_nil)) (se_cb bLen (by exact rfl) nb.len boot_len (sa_cons (se_var 2) sa_nil)))).frz (sa_cons ((se_tupleRg1 rfl (by exact rfl) nb.tuple (by exact rfl) nb.range (se_cb bLen (by exact rfl) nb.len boot_len (sa_cons (se_var 2) sa_nil)))).frz sa_nil))))))
      (sb_cons (ss_for PassesOwn.never rfl (si_range1 (by exact rfl) nb.range (sa_cons se_int sa_nil)) (sg_name 10 nd rfl (by first | exact Or.inl rfl | exact Or.inr rfl)) (sb_one (ss_expr (se_mt PySem.F.slot_list_append PySem.F.type_list_append (mt_append) wm_append (se_var 9) (sa_cons ((se_callG c__law_bent hr (by decide) (by exact rfl) (sa_cons (se_var 0) (sa_cons (se_var 1) (sa_cons ((se_ix (se_lst (sa_cons ((se_var 8)).frz (sa_cons ((se_var 5)).frz sa_nil))) (se_ct bInt (by exact rfl) nb.int bt_int (sa_cons (se_op oMod (se_var 10) se_int) sa_nil)))).frz sa_nil))) (alen_cons (alen_cons (alen_cons alen_nil))))).frz sa_nil)))))
      (sb_cons (ss_for PassesOwn.never rfl (si_seq (se_var 9)) (sg_name 11 nd rfl (by first | exact Or.inl rfl | exact Or.inr rfl)) (sb_one (ss_if (st_not (st_truth (se_callG c__law_same hr (by decide) (by exact rfl) (sa_cons ((se_callG c_are_clear hr (by decide) (by exact rfl) (sa_cons (se_var 2) (sa_cons (se_var 3) (sa_cons (se_var 4) (sa_cons (se_var 11) sa_nil)))) (alen_cons (alen_cons (alen_cons (alen_cons alen_nil)))))).frz (sa_cons ((se_callG c__law_clear hr (by decide) (by exact rfl) (sa_cons (se_var 2) (sa_cons (se_var 3) (sa_cons (se_var 4) (sa_cons (se_var 11) sa_nil)))) (alen_cons (alen_cons (alen_cons (alen_cons alen_nil)))))).frz sa_nil)) (alen_cons (alen_cons alen_nil))))) (sb_one (ss_ret se_bl)) sb_nil)))
      (sb_cons (ss_if (st_not (st_truth (se_callG c__law_clear hr (by decide) (by exact rfl) (sa_cons (se_var 2) (sa_cons (se_var 3) (sa_cons (se_var 4) (sa_cons (se_var 8) sa_nil)))) (alen_cons (alen_cons (alen_cons (alen_cons alen_nil))))))) (sb_one (ss_ret se_bl)) sb_nil)
      (sb_cons (ss_for PassesOwn.never rfl (si_range1 (by exact rfl) nb.range (sa_cons se_int sa_nil)) (sg_name 10 nd rfl (by first | exact Or.inl rfl | exact Or.inr rfl)) (sb_cons (ss_set 12 nd rfl (by first | exact Or.inl rfl | exact Or.inr rfl) (se_ix (se_lst (sa_cons ((se_var 1)).frz (sa_cons ((se_callG c__law_take hr (by decide) (by exact rfl) (sa_cons (se_var 0) (sa_cons se_int sa_nil)) (alen_cons (alen_cons alen_nil)))).frz (sa_cons ((se_op oSub (se_op oAdd (se_ix (se_op oAdd (se_var 2) (se_tup (sa_cons se_int sa_nil))) (se_callG c__law_take hr (by decide) (by exact rfl) (sa_cons (se_var 0) (sa_cons ((se_op oAdd (se_cb bLen (by exact rfl) nb.len boot_len (sa_cons (se_var 2) sa_nil)) se_int)).frz sa_nil)) (alen_cons (alen_cons alen_nil)))) (se_callG c__law_take hr (by decide) (by exact rfl) (sa_cons (se_var 0) (sa_cons se_int sa_nil)) (alen_cons (alen_cons alen_nil)))) se_int)).frz sa_nil)))) (se_callG c__law_take hr (by decide) (by exact rfl) (sa_cons (se_var 0) (sa_cons se_int sa_nil)) (alen_cons (alen_cons alen_nil)))))
      (sb_cons (ss_set 13 nd rfl (by first | exact Or.inl rfl | exact Or.inr rfl) (se_lc (own := [("j", 16)]) rfl nd (si_range1 (by exact rfl) nb.range (sa_cons (se_cb bLen (by exact rfl) nb.len boot_len (sa_cons (se_var 2) sa_nil)) sa_nil)) (blkOk_by (by kernel_rfl)) (fun _ _ _ _ _ => ⟨_, (sg_name 16 nd rfl (by first | exact Or.inl rfl | exact Or.inr rfl))⟩) (fun _ _ _ _ _ => ⟨_, (sts_one (st_cmp (oLt hr.units) (se_cb bAbs (by exact rfl) nb.abs bt_abs (sa_cons (se_op oSub (se_ix (se_var 2) (se_var 16)) (se_var 12)) sa_nil)) (se_var 3) (nomark _)))⟩) (fun _ _ _ _ _ => ⟨_, ((se_ix (se_var 5) (se_var 16))).frz⟩) (by decide)))
      (sb_cons (ss_set 14 nd rfl (by first | exact Or.inl rfl | exact Or.inr rfl) (se_ix (se_lc (own := [("one", 15)]) rfl nd (si_range1 (by exact rfl) nb.range (sa_cons (se_op oAdd (se_cb bLen (by exact rfl) nb.len boot_len (sa_cons (se_var 13) sa_nil)) se_int) sa_nil)) (blkOk_by (by kernel_rfl)) (fun _ _ _ _ _ => ⟨_, (sg_name 15 nd rfl (by first | exact Or.inl rfl | exact Or.inr rfl))⟩) (fun _ _ _ _ _ => ⟨_, (sts_one (st_cmp (oNotIn hr.units) (se_var 15) (se_var 13) (by rfl)))⟩) (fun _ _ _ _ _ => ⟨_, ((se_var 15)).frz⟩) (by decide)) se_int))
      (sb_one (ss_if (st_not (st_truth (se_callG c__law_same hr (by decide) (by exact rfl) (sa_cons ((se_callG c_added_mast hr (by decide) (by exact rfl) (sa_cons (se_var 2) (sa_cons (se_var 3) (sa_cons (se_var 12) sa_nil))) (alen_cons (alen_cons (alen_cons alen_nil))))).frz (sa_cons (se_var 14) sa_nil)) (alen_cons (alen_cons alen_nil))))) (sb_one (ss_ret se_bl)) sb_nil))))))
      (sb_one (ss_ret se_bl))))))))))))))⟩
/-! ### _law_are_seats_right -/
abbrev s__law_are_seats_right : Stmt := topS 27
theorem sc__law_are_seats_right : FnScope ["masts", "near", "low", "bookings", "apart", "last", "one"] ["masts", "near"] (defScope s__law_are_seats_right) := ⟨rfl, rfl, rfl, by decide +kernel, rfl, by decide +kernel, by decide +kernel⟩
def l1__law_are_seats_right : SF := (sIf ((tfOr (tfOf (eOp gIs (eVar 5) (eC .none))) (tfOf (eOp gGe (eOp (gI0 fun i j => .int (i - j)) (eVar 6) (eVar 5)) (eVar 1))))) (sSeq (sAsg (eOp gAdd (eVar 4) (eC (.int 1))) (gNm 4))
  (sAsg (eVar 6) (gNm 5))) sNext)
def b__law_are_seats_right : SF := (sSeq (sAsg (eCB gMin1 (aCons (eOp gAdd (eTup (aCons (eC (.int 0)) aNil)) (eVar 0)) aNil)) (gNm 2))
  (sSeq (sAsg (eCB gTuple (aCons (eComp (iSeq (eVar 0)) (gNm 6) tfYes (frz (eTup (aCons (frz (eOp (gI0 fun i j => .int (i - j)) (eVar 6) (eVar 2))) (aCons (frz (eOp gAdd (eOp (gI0 fun i j => .int (i - j)) (eVar 6) (eVar 2)) (eVar 1))) aNil)))) [6]) aNil)) (gNm 3))
  (sSeq (sIf (tfNot (tfTru (eCall g__law_same (aCons (frz (eCall g_fewest_seats (aCons (eVar 3) aNil))) (aCons (frz (eCall g_fewest_channels (aCons (eVar 0) (aCons (eVar 1) aNil)))) aNil))))) (sRet (eC (.bool false))) sNext)
  (sSeq (sAsg (eC (.int 0)) (gNm 4))
  (sSeq (sAsg (eC .none) (gNm 5))
  (sSeq (sFor (iSeq (eVar 0)) (gNm 6) l1__law_are_seats_right)
  (sRet (eCall g__law_same (aCons (frz (eCall g_fewest_masts (aCons (frz (eCB gTuple (aCons (eComp (iSeq (eVar 0)) (gNm 6) tfYes (frz (eTup (aCons (frz (eVar 6)) (aCons (frz (eOp (gI0 fun i j => .int (i - j)) (eOp gAdd (eVar 6) (eVar 1)) (eC (.int 1)))) aNil)))) [6]) aNil))) aNil))) (aCons (eVar 4) aNil))))))))))
@[irreducible] def g__law_are_seats_right : EF := defF b__law_are_seats_right 5
theorem ok__law_are_seats_right (nb : Nb mg) (c__law_same : CalG P w K mg base 6 "_law_same" 2 g__law_same) (c_fewest_channels : CalG P w K mg base 3 "fewest_channels" 2 g_fewest_channels) (c_fewest_seats : CalG P w K mg base 1 "fewest_seats" 1 g_fewest_seats) (c_fewest_masts : CalG P w K mg base 3 "fewest_masts" 1 g_fewest_masts) (F : Fun K "_law_are_seats_right" "_law_are_seats_right" s__law_are_seats_right f fd) (m : mg "_law_are_seats_right" = some (.ref f)) : CalG P w K mg base 7 "_law_are_seats_right" 2 g__law_are_seats_right := by
  unfold g__law_are_seats_right
  refine calG_of F sc__law_are_seats_right m (fun _ _ _ _ _ _ us hl => match us, hl with | [_, _], _ => rfl) (k := 6) (body := b__law_are_seats_right) ?_
  intro cdv A outer s H E hr
  have nd := (sc__law_are_seats_right).nd
  exact ⟨_, (sb_cons (ss_set 2 nd rfl (by first | exact Or.inl rfl | exact Or.inr rfl) (se_cb (bMin1 rfl hr) (by exact rfl) nb.min bt_min (sa_cons (se_op oAdd (se_tup (sa_cons se_int sa_nil)) (se_var 0)) sa_nil)))
      (sb_cons (ss_set 3 nd rfl (by first | exact Or.inl rfl | exact Or.inr rfl) (se_ct bTuple (by exact rfl) nb.tuple bt_tuple (sa_cons (se_lc (own := [("one", 6)]) rfl nd (si_seq (se_var 0)) (blkOk_by (by kernel_rfl)) (fun _ _ _ _ _ => ⟨_, (sg_name 6 nd rfl (by first | exact Or.inl rfl | exact Or.inr rfl))⟩) (fun _ _ _ _ _ => ⟨_, sts_nil⟩) (fun _ _ _ _ _ => ⟨_, ((se_tup (sa_cons ((se_op oSub (se_var 6) (se_var 2))).frz (sa_cons ((se_op oAdd (se_op oSub (se_var 6) (se_var 2)) (se_var 1))).frz sa_nil)))).frz⟩) (by decide)) sa_nil)))
      (sb_cons (ss_if (st_not (st_truth (se_callG c__law_same hr (by decide) (by exact rfl) (sa_cons ((se_callG c_fewest_seats hr (by decide) (by exact rfl) (sa_cons (se_var 3) sa_nil) (alen_cons alen_nil))).frz (sa_cons ((se_callG c_fewest_channels hr (by decide) (by exact rfl) (sa_cons (se_var 0) (sa_cons (se_var 1) sa_nil)) (alen_cons (alen_cons alen_nil)))).frz sa_nil)) (alen_cons (alen_cons alen_nil))))) (sb_one (ss_ret se_bl)) sb_nil)
      (sb_cons (ss_set 4 nd rfl (by first | exact Or.inl rfl | exact Or.inr rfl) se_int)
      (sb_cons (ss_set 5 nd rfl (by first | exact Or.inl rfl | exact Or.inr rfl) se_non)
      (sb_cons (ss_for PassesOwn.never rfl (si_seq (se_var 0)) (sg_name 6 nd rfl (by first | exact Or.inl rfl | exact Or.inr rfl)) (sb_one (ss_if (SW.st (sw_or (st_cmp oIs (se_var 5) se_non (nomark _)) (sw_or1 (st_cmp (oGe hr.units) (se_op oSub (se_var 6) (se_var 5)) (se_var 1) (nomark _))))) (sb_cons (ss_set 4 nd rfl (by first | exact Or.inl rfl | exact Or.inr rfl) (se_op oAdd (se_var 4) se_int))
      (sb_one (ss_set 5 nd rfl (by first | exact Or.inl rfl | exact Or.inr rfl) (se_var 6)))) sb_nil)))
      (sb_one (ss_ret (se_callG c__law_same hr (by decide) (by exact rfl) (sa_cons ((se_callG c_fewest_masts hr (by decide) (by exact rfl) (sa_cons ((se_ct bTuple (by exact rfl) nb.tuple bt_tuple (sa_cons (se_lc (own := [("one", 6)]) rfl nd (si_seq (se_var 0)) (blkOk_by (by kernel_rfl)) (fun _ _ _ _ _ => ⟨_, (sg_name 6 nd rfl (by first | exact Or.inl rfl | exact Or.inr rfl))⟩) (fun _ _ _ _ _ => ⟨_, sts_nil⟩) (fun _ _ _ _ _ => ⟨_, ((se_tup (sa_cons ((se_var 6)).frz (sa_cons ((se_op oSub (se_op oAdd (se_var 6) (se_var 1)) se_int)).frz sa_nil)))).frz⟩) (by decide)) sa_nil))).frz sa_nil) (alen_cons alen_nil))).frz (sa_cons (se_var 4) sa_nil)) (alen_cons (alen_cons alen_nil)))))))))))⟩
/-! ### law -/
abbrev s_law : Stmt := topS 28
theorem sc_law : FnScope ["script", "draws", "cell", "few", "near", "gap", "span", "many", "wide", "some"] ["script"] (defScope s_law) := ⟨rfl, rfl, rfl, by decide +kernel, rfl, by decide +kernel, by decide +kernel⟩
def b_law : SF := (sSeq (sAsg (eCall g__law_draws (aCons (eVar 0) (aCons (eC (.int 320)) aNil))) (gNm 1))
  (sSeq (sAsg (eCall g__law_cell (aCons (eVar 0) (aCons (eVar 1) aNil))) (gNm 2))
  (sSeq (sAsg (eCall g__law_masts (aCons (eVar 0) (aCons (eVar 1) (aCons (frz (eCall g__law_take (aCons (eVar 1) (aCons (eC (.int 7)) aNil)))) (aCons (eC (.int 6)) aNil))))) (gNm 3))
  (sSeq (sAsg (eOp gAdd (eC (.int 1)) (eCall g__law_take (aCons (eVar 1) (aCons (eC (.int 8)) aNil)))) (gNm 4))
  (sSeq (sAsg (eOp gAdd (eC (.int 1)) (eCall g__law_take (aCons (eVar 1) (aCons (eC (.int 3)) aNil)))) (gNm 5))
  (sSeq (sIf (tfNot (tfTru (eCall g__law_is_right (aCons (eVar 1) (aCons (eVar 2) (aCons (eVar 3) (aCons (eVar 4) (aCons (eVar 5) aNil)))))))) (sRet (eC (.bool false))) sNext)
  (sSeq (sAsg (eCall g_least_span (aCons (eVar 3) (aCons (eVar 4) (aCons (eVar 5) aNil)))) (gNm 6))
  (sSeq (sIf ((tfOr (tfNot (tfTru (eCB gIsi (aCons (eVar 6) (aCons (eTy "int") aNil))))) (tfOr (tfTru (eCB gIsi (aCons (eVar 6) (aCons (eTy "bool") aNil)))) (tfOr (tfNot (tfTru (eCall g__law_all_clear (aCons (eVar 3) (aCons (eVar 4) (aCons (eVar 5) (aCons (eVar 6) aNil))))))) ((tfAnd (tfOf (eOp gGt (eVar 6) (eC (.int 0)))) (tfTru (eCall g__law_all_clear (aCons (eVar 3) (aCons (eVar 4) (aCons (eVar 5) (aCons (frz (eOp (gI0 fun i j => .int (i - j)) (eVar 6) (eC (.int 1)))) aNil)))))))))))) (sRet (eC (.bool false))) sNext)
  (sSeq (sAsg (eCall g__law_masts (aCons (eVar 0) (aCons (eVar 1) (aCons (frz (eOp gIx (eLst (aCons (frz (eCall g__law_take (aCons (eVar 1) (aCons (eC (.int 16)) aNil)))) (aCons (frz (eCall g__law_take (aCons (eVar 1) (aCons (eC (.int 41)) aNil)))) aNil))) (eCall g__law_take (aCons (eVar 1) (aCons (eC (.int 2)) aNil))))) (aCons (eC (.int 9)) aNil))))) (gNm 7))
  (sSeq (sAsg (eOp gIx (eLst (aCons (frz (eOp gAdd (eC (.int 1)) (eCall g__law_take (aCons (eVar 1) (aCons (eC (.int 30)) aNil))))) (aCons (frz (eOp gAdd (eC (.int 1)) (eCall g__law_take (aCons (eVar 1) (aCons (eC (.int 6)) aNil))))) (aCons (frz (eOp gAdd (eC (.int 1)) (eCB gAbs (aCons (eVar 2) aNil)))) aNil)))) (eCall g__law_take (aCons (eVar 1) (aCons (eC (.int 3)) aNil)))) (gNm 8))
  (sSeq (sIf ((tfOr (tfNot (tfTru (eCall g__law_is_right (aCons (eVar 1) (aCons (eVar 2) (aCons (eVar 7) (aCons (eVar 8) (aCons (frz (eOp gIx (eLst (aCons (frz (eVar 5)) (aCons (frz (eOp gAdd (eC (.int 1)) (eCB gAbs (aCons (eVar 2) aNil)))) aNil))) (eCall g__law_take (aCons (eVar 1) (aCons (eC (.int 2)) aNil))))) aNil)))))))) (tfNot (tfTru (eCall g__law_are_seats_right (aCons (eVar 7) (aCons (eVar 8) aNil))))))) (sRet (eC (.bool false))) sNext)
  (sSeq (sIf (tfNot (tfTru (eCall g__law_are_seats_right (aCons (eVar 3) (aCons (eVar 4) aNil))))) (sRet (eC (.bool false))) sNext)
  (sSeq (sAsg (eTup (aCons (eC (.int 0)) (aCons (eC (.int 2)) (aCons (eC (.int 3)) (aCons (eC (.int 3)) (aCons (eC (.int 9)) (aCons (eC (.int 10)) aNil))))))) (gNm 9))
  (sSeq (sIf ((tfOr (tfNot (tfTru (eCall g__law_same (aCons (frz (eCall g_told_channels (aCons (eVar 9) (aCons (eC (.int 4)) aNil)))) (aCons (frz (eTup (aCons (eC (.int 0)) (aCons (eC (.int 1)) (aCons (eC (.int 2)) (aCons (eC (.int 3)) (aCons (eC (.int 0)) (aCons (eC (.int 1)) aNil)))))))) aNil))))) (tfOr (tfNot (tfTru (eCall g__law_same (aCons (frz (eCall g_crowded_masts (aCons (eVar 9) (aCons (eC (.int 4)) aNil)))) (aCons (frz (eTup (aCons (eC (.int 0)) (aCons (eC (.int 1)) (aCons (eC (.int 2)) (aCons (eC (.int 3)) aNil)))))) aNil))))) (tfNot (tfTru (eCall g__law_same (aCons (frz (eCall g_least_span (aCons (eVar 9) (aCons (eC (.int 4)) (aCons (eC (.int 2)) aNil))))) (aCons (eC (.int 6)) aNil)))))))) (sRet (eC (.bool false))) sNext)
  (sSeq (sIf ((tfOr (tfNot (tfTru (eCall g__law_same (aCons (frz (eCall g_told_channels (aCons (eVar 9) (aCons (eC (.int 2)) aNil)))) (aCons (frz (eTup (aCons (eC (.int 0)) (aCons (eC (.int 0)) (aCons (eC (.int 1)) (aCons (eC (.int 2)) (aCons (eC (.int 0)) (aCons (eC (.int 1)) aNil)))))))) aNil))))) (tfOr (tfNot (tfTru (eCall g__law_same (aCons (frz (eCall g_added_mast (aCons (eVar 9) (aCons (eC (.int 4)) (aCons (eC (.int 6)) aNil))))) (aCons (eC (.int 1)) aNil))))) (tfNot (tfTru (eCall g__law_same (aCons (frz (eCall g_added_mast (aCons (eVar 9) (aCons (eC (.int 4)) (aCons (eC (.int 5)) aNil))))) (aCons (eC (.int 0)) aNil)))))))) (sRet (eC (.bool false))) sNext)
  (sRet (eAnd (eCall g__law_same (aCons (frz (eCall g_fewest_channels (aCons (frz (eTup aNil)) (aCons (eC (.int 3)) aNil)))) (aCons (eC (.int 0)) aNil))) (eAnd (eCall g__law_same (aCons (frz (eCall g_crowded_masts (aCons (frz (eTup aNil)) (aCons (eC (.int 3)) aNil)))) (aCons (frz (eTup aNil)) aNil))) (eCall g__law_is_right (aCons (eVar 1) (aCons (eVar 2) (aCons (eVar 3) (aCons (eVar 4) (aCons (eVar 5) aNil))))))))))))))))))))))))
@[irreducible] def g_law : EF := defF b_law 9
def lvLaw : Nat := 8
theorem okF_law (nb : Nb mg) (c__law_draws : CalG P w K mg base 1 "_law_draws" 2 g__law_draws) (c__law_cell : CalG P w K mg base 2 "_law_cell" 2 g__law_cell) (c__law_masts : CalG P w K mg base 3 "_law_masts" 4 g__law_masts) (c__law_take : CalG P w K mg base 1 "_law_take" 2 g__law_take) (c__law_is_right : CalG P w K mg base 7 "_law_is_right" 5 g__law_is_right) (c_least_span : CalG P w K mg base 4 "least_span" 3 g_least_span) (c__law_all_clear : CalG P w K mg base 1 "_law_all_clear" 4 g__law_all_clear) (c__law_are_seats_right : CalG P w K mg base 7 "_law_are_seats_right" 2 g__law_are_seats_right) (c__law_same : CalG P w K mg base 6 "_law_same" 2 g__law_same) (c_crowded_masts : CalG P w K mg base 1 "crowded_masts" 2 g_crowded_masts) (c_told_channels : CalG P w K mg base 2 "told_channels" 2 g_told_channels) (c_added_mast : CalG P w K mg base 3 "added_mast" 3 g_added_mast) (c_fewest_channels : CalG P w K mg base 3 "fewest_channels" 2 g_fewest_channels) (F : Fun K "law" "law" s_law f fd) : FnOk P w K mg base CX0 8 f fd ["script"] (spOf K 1 g_law) := by
  unfold g_law
  refine def_ok F sc_law (k := 7) (body := b_law) ?_
  intro cdv A outer s H E hr
  have nd := (sc_law).nd
  exact ⟨_, (sb_cons (ss_set 1 nd rfl (by first | exact Or.inl rfl | exact Or.inr rfl) (se_callG c__law_draws hr (by decide) (by exact rfl) (sa_cons (se_var 0) (sa_cons se_int sa_nil)) (alen_cons (alen_cons alen_nil))))
      (sb_cons (ss_set 2 nd rfl (by first | exact Or.inl rfl | exact Or.inr rfl) (se_callG c__law_cell hr (by decide) (by exact rfl) (sa_cons (se_var 0) (sa_cons (se_var 1) sa_nil)) (alen_cons (alen_cons alen_nil))))
      (sb_cons (ss_set 3 nd rfl (by first | exact Or.inl rfl | exact Or.inr rfl) (se_callG c__law_masts hr (by decide) (by exact rfl) (sa_cons (se_var 0) (sa_cons (se_var 1) (sa_cons ((se_callG c__law_take hr (by decide) (by exact rfl) (sa_cons (se_var 1) (sa_cons se_int sa_nil)) (alen_cons (alen_cons alen_nil)))).frz (sa_cons se_int sa_nil)))) (alen_cons (alen_cons (alen_cons (alen_cons alen_nil))))))
      (sb_cons (ss_set 4 nd rfl (by first | exact Or.inl rfl | exact Or.inr rfl) (se_op oAdd se_int (se_callG c__law_take hr (by decide) (by exact rfl) (sa_cons (se_var 1) (sa_cons se_int sa_nil)) (alen_cons (alen_cons alen_nil)))))
      (sb_cons (ss_set 5 nd rfl (by first | exact Or.inl rfl | exact Or.inr rfl) (se_op oAdd se_int (se_callG c__law_take hr (by decide) (by exact rfl) (sa_cons (se_var 1) (sa_cons se_int sa_nil)) (alen_cons (alen_cons alen_nil)))))
      (sb_cons (ss_if (st_not (st_truth (se_callG c__law_is_right hr (by decide) (by exact rfl) (sa_cons (se_var 1) (sa_cons (se_var 2) (sa_cons (se_var 3) (sa_cons (se_var 4) (sa_cons (se_var 5) sa_nil))))) (alen_cons (alen_cons (alen_cons (alen_cons (alen_cons alen_nil)))))))) (sb_one (ss_ret se_bl)) sb_nil)
      (sb_cons (ss_set 6 nd rfl (by first | exact Or.inl rfl | exact Or.inr rfl) (se_callG c_least_span hr (by decide) (by exact rfl) (sa_cons (se_var 3) (sa_cons (se_var 4) (sa_cons (se_var 5) sa_nil))) (alen_cons (alen_cons (alen_cons alen_nil)))))
      (sb_cons (ss_if (SW.st (sw_or (st_not (st_truth (se_cb bIsi (by exact rfl) nb.isinstance bt_isinstance (sa_cons (se_var 6) (sa_cons (se_ty (by exact rfl) nb.int bt_int) sa_nil))))) (sw_or (st_truth (se_cb bIsi (by exact rfl) nb.isinstance bt_isinstance (sa_cons (se_var 6) (sa_cons (se_ty (by exact rfl) nb.bool bt_bool) sa_nil)))) (sw_or (st_not (st_truth (se_callG c__law_all_clear hr (by decide) (by exact rfl) (sa_cons (se_var 3) (sa_cons (se_var 4) (sa_cons (se_var 5) (sa_cons (se_var 6) sa_nil)))) (alen_cons (alen_cons (alen_cons (alen_cons alen_nil))))))) (sw_or1 (SW.st (sw_and (st_cmp (oGt hr.units) (se_var 6) se_int (nomark _)) (sw_and1 (st_truth (se_callG c__law_all_clear hr (by decide) (by exact rfl) (sa_cons (se_var 3) (sa_cons (se_var 4) (sa_cons (se_var 5) (sa_cons ((se_op oSub (se_var 6) se_int)).frz sa_nil)))) (alen_cons (alen_cons (alen_cons (alen_cons alen_nil)))))))))))))) (sb_one (ss_ret se_bl)) sb_nil)
      (sb_cons (ss_set 7 nd rfl (by first | exact Or.inl rfl | exact Or.inr rfl) (se_callG c__law_masts hr (by decide) (by exact rfl) (sa_cons (se_var 0) (sa_cons (se_var 1) (sa_cons ((se_ix (se_lst (sa_cons ((se_callG c__law_take hr (by decide) (by exact rfl) (sa_cons (se_var 1) (sa_cons se_int sa_nil)) (alen_cons (alen_cons alen_nil)))).frz (sa_cons ((se_callG c__law_take hr (by decide) (by exact rfl) (sa_cons (se_var 1) (sa_cons se_int sa_nil)) (alen_cons (alen_cons alen_nil)))).frz sa_nil))) (se_callG c__law_take hr (by decide) (by exact rfl) (sa_cons (se_var 1) (sa_cons se_int sa_nil)) (alen_cons (alen_cons alen_nil))))).frz (sa_cons se_int sa_nil)))) (alen_cons (alen_cons (alen_cons (alen_cons alen_nil))))))
      (sb_cons (ss_set 8 nd rfl (by first | exact Or.inl rfl | exact Or.inr rfl) (se_ix (se_lst (sa_cons ((se_op oAdd se_int (se_callG c__law_take hr (by decide) (by exact rfl) (sa_cons (se_var 1) (sa_cons se_int sa_nil)) (alen_cons (alen_cons alen_nil))))).frz (sa_cons ((se_op oAdd se_int (se_callG c__law_take hr (by decide) (by exact rfl) (sa_cons (se_var 1) (sa_cons se_int sa_nil)) (alen_cons (alen_cons alen_nil))))).frz (sa_cons ((se_op oAdd se_int (se_cb bAbs (by exact rfl) nb.abs bt_abs (sa_cons (se_var 2) sa_nil)))).frz sa_nil)))) (se_callG c__law_take hr (by decide) (by exact rfl) (sa_cons (se_var 1) (sa_cons se_int sa_nil)) (alen_cons (alen_cons alen_nil)))))
      (sb_cons (ss_if (SW.st (sw_or (st_not (st_truth (se_callG c__law_is_right hr (by decide) (by exact rfl) (sa_cons (se_var 1) (sa_cons (se_var 2) (sa_cons (se_var 7) (sa_cons (se_var 8) (sa_cons ((se_ix (se_lst (sa_cons ((se_var 5)).frz (sa_cons ((se_op oAdd se_int (se_cb bAbs (by exact rfl) nb.abs bt_abs (sa_cons (se_var 2) sa_nil)))).frz sa_nil))) (se_callG c__law_take hr (by decide) (by exact rfl) (sa_cons (se_var 1) (sa_cons se_int sa_nil)) (alen_cons (alen_cons alen_nil))))).frz sa_nil))))) (alen_cons (alen_cons (alen_cons (alen_cons (alen_cons alen_nil)))))))) (sw_or1 (st_not (st_truth (se_callG c__law_are_seats_right hr (by decide) (by exact rfl) (sa_cons (se_var 7) (sa_cons (se_var 8) sa_nil)) (alen_cons (alen_cons alen_nil)))))))) (sb_one (ss_ret se_bl)) sb_nil)
      (sb_cons (ss_if (st_not (st_truth (se_callG c__law_are_seats_right hr (by decide) (by exact rfl) (sa_cons (se_var 3) (sa_cons (se_var 4) sa_nil)) (alen_cons (alen_cons alen_nil))))) (sb_one (ss_ret se_bl)) sb_nil)
      (sb_cons (ss_set 9 nd rfl (by first | exact Or.inl rfl | exact Or.inr rfl) (se_tup (sa_cons se_int (sa_cons se_int (sa_cons se_int (sa_cons se_int (sa_cons se_int (sa_cons se_int sa_nil))))))))
      (sb_cons (ss_if (SW.st (sw_or (st_not (st_truth (se_callG c__law_same hr (by decide) (by exact rfl) (sa_cons ((se_callG c_told_channels hr (by decide) (by exact rfl) (sa_cons (se_var 9) (sa_cons se_int sa_nil)) (alen_cons (alen_cons alen_nil)))).frz (sa_cons ((se_tup (sa_cons se_int (sa_cons se_int (sa_cons se_int (sa_cons se_int (sa_cons se_int (sa_cons se_int sa_nil)))))))).frz sa_nil)) (alen_cons (alen_cons alen_nil))))) (sw_or (st_not (st_truth (se_callG c__law_same hr (by decide) (by exact rfl) (sa_cons ((se_callG c_crowded_masts hr (by decide) (by exact rfl) (sa_cons (se_var 9) (sa_cons se_int sa_nil)) (alen_cons (alen_cons alen_nil)))).frz (sa_cons ((se_tup (sa_cons se_int (sa_cons se_int (sa_cons se_int (sa_cons se_int sa_nil)))))).frz sa_nil)) (alen_cons (alen_cons alen_nil))))) (sw_or1 (st_not (st_truth (se_callG c__law_same hr (by decide) (by exact rfl) (sa_cons ((se_callG c_least_span hr (by decide) (by exact rfl) (sa_cons (se_var 9) (sa_cons se_int (sa_cons se_int sa_nil))) (alen_cons (alen_cons (alen_cons alen_nil))))).frz (sa_cons se_int sa_nil)) (alen_cons (alen_cons alen_nil))))))))) (sb_one (ss_ret se_bl)) sb_nil)
      (sb_cons (ss_if (SW.st (sw_or (st_not (st_truth (se_callG c__law_same hr (by decide) (by exact rfl) (sa_cons ((se_callG c_told_channels hr (by decide) (by exact rfl) (sa_cons (se_var 9) (sa_cons se_int sa_nil)) (alen_cons (alen_cons alen_nil)))).frz (sa_cons ((se_tup (sa_cons se_int (sa_cons se_int (sa_cons se_int (sa_cons se_int (sa_cons se_int (sa_cons se_int sa_nil)))))))).frz sa_nil)) (alen_cons (alen_cons alen_nil))))) (sw_or (st_not (st_truth (se_callG c__law_same hr (by decide) (by exact rfl) (sa_cons ((se_callG c_added_mast hr (by decide) (by exact rfl) (sa_cons (se_var 9) (sa_cons se_int (sa_cons se_int sa_nil))) (alen_cons (alen_cons (alen_cons alen_nil))))).frz (sa_cons se_int sa_nil)) (alen_cons (alen_cons alen_nil))))) (sw_or1 (st_not (st_truth (se_callG c__law_same hr (by decide) (by exact rfl) (sa_cons ((se_callG c_added_mast hr (by decide) (by exact rfl) (sa_cons (se_var 9) (sa_cons se_int (sa_cons se_int sa_nil))) (alen_cons (alen_cons (alen_cons alen_nil))))).frz (sa_cons se_int sa_nil)) (alen_cons (alen_cons alen_nil))))))))) (sb_one (ss_ret se_bl)) sb_nil)
      (sb_one (ss_ret (se_and (se_callG c__law_same hr (by decide) (by exact rfl) (sa_cons ((se_callG c_fewest_channels hr (by decide) (by exact rfl) (sa_cons ((se_tup sa_nil)).frz (sa_cons se_int sa_nil)) (alen_cons (alen_cons alen_nil)))).frz (sa_cons se_int sa_nil)) (alen_cons (alen_cons alen_nil))) (se_and (se_callG c__law_same hr (by decide) (by exact rfl) (sa_cons ((se_callG c_crowded_masts hr (by decide) (by exact rfl) (sa_cons ((se_tup sa_nil)).frz (sa_cons se_int sa_nil)) (alen_cons (alen_cons alen_nil)))).frz (sa_cons ((se_tup sa_nil)).frz sa_nil)) (alen_cons (alen_cons alen_nil))) (se_one (se_callG c__law_is_right hr (by decide) (by exact rfl) (sa_cons (se_var 1) (sa_cons (se_var 2) (sa_cons (se_var 3) (sa_cons (se_var 4) (sa_cons (se_var 5) sa_nil))))) (alen_cons (alen_cons (alen_cons (alen_cons (alen_cons alen_nil))))))))))))))))))))))))))⟩
end
end PV

namespace PV
open PySem PySem.Spec PyProof.Rows L2
/-! ### the helpers that laws share -/
def takeV (ds : List Int) (m : Int) : Int := match ds.getLast? with
  | none => 0
  | some d => d.fmod m
theorem takeV_lt {ds : List Int} {m : Int} (h : 0 < m) : 0 ≤ takeV ds m ∧ takeV ds m < m := by
  unfold takeV
  cases ds.getLast? with
  | none => exact ⟨Int.le_refl _, h⟩
  | some d => exact ⟨Int.fmod_nonneg_of_pos d h, Int.fmod_lt_of_pos d h⟩
theorem take_eq (ds : List Int) {m : Int} (h : 0 < m) : g__law_take [.obj 1 (.lst (lI ds)), .val (.int m)] = some (.val (.int (takeV ds m)), [.obj 1 (.lst (lI ds.dropLast)), .val (.int m)]) := by
  refine Ok.eq ?_
  have hm : ¬ m = 0 := by omega
  rcases List.eq_nil_or_concat ds with rfl | ⟨r, x, rfl⟩
  · simp -implicitDefEqProofs [g__law_take, b__law_take, takeV]
  · simp -implicitDefEqProofs [g__law_take, b__law_take, takeV, hm, show ¬ ((r.length : Int) + 1 = 0) by omega]
theorem take_ok {ds : List Int} {m : Int} {Q : PV.R × List B → Prop} (h : 0 < m) (q : ∀ v : Nat, takeV ds m = (v : Int) → (v : Int) < m → Q (.val (.int v), [.obj 1 (.lst (lI ds.dropLast)), .val (.int m)])) : Ok (g__law_take [.obj 1 (.lst (lI ds)), .val (.int m)]) Q := by
  obtain ⟨h1, h2⟩ := takeV_lt (ds := ds) h
  obtain ⟨k, hk⟩ : ∃ k : Nat, takeV ds m = (k : Int) := ⟨_, (Int.toNat_of_nonneg h1).symm⟩
  refine ok_of_eq (take_eq ds h) ?_
  rw [hk]
  exact q k hk (by omega)
theorem cell_ok (ns ds : List Int) : Ok (g__law_cell [.zl (lI ns), .obj 1 (.lst (lI ds))]) fun p => ∃ (c : Int) (ds' : List Int), p = (.val (.int c), [.zl (lI ns), .obj 1 (.lst (lI ds'))]) := by
  by_cases h : ns = []
  · subst h
    simp -implicitDefEqProofs [g__law_cell, b__law_cell]
  · have hp : 0 < ns.length := List.length_pos_iff.mpr h
    simp -implicitDefEqProofs [g__law_cell, b__law_cell, h]
    refine take_ok (by omega) fun v _ hv => ?_
    simp -implicitDefEqProofs [gt_ok (show v < ns.length by omega), powOk, mulOk]
    generalize gt ns v = c
    generalize absI c = a
    by_cases hc : c < 0 <;> simp -implicitDefEqProofs [hc, mulOk]
theorem draws_loop (ns cs rest : List Int) (many : Nat) (hm : many ≤ 1000) (h0 : 0 < cs.length) (h1 : cs.length = rest.length) (h2 : cs.length ≤ 1000) : Ok (forG (gNm 5) l1__law_draws ((List.range many).map fun i => .int (i : Nat))
      [.zl (lI ns), .val (.int many), .obj 0 (.lst (lI cs)), .obj 0 (.lst (lI rest)), .obj 0 (.lst []), .un, .un, .un, .un])
    fun o => ∃ (rest dr : List Int) (b5 b6 b8 : Option D), o = .nx [.zl (lI ns), .val (.int many), .obj 0 (.lst (lI cs)), .obj 0 (.lst (lI rest)), .obj 0 (.lst (lI dr)), ob b5, ob b6, .un, ob b8] := by
  refine forG_st (S := List Int × List Int × Option D × Option D × Option D) (fun i : Nat => .int (i : Nat)) (fun s => [.zl (lI ns), .val (.int many), .obj 0 (.lst (lI cs)), .obj 0 (.lst (lI s.1)), .obj 0 (.lst (lI s.2.1)), ob s.2.2.1, ob s.2.2.2.1, .un, ob s.2.2.2.2])
    (fun don r s => don ++ r = List.range many ∧ s.1.length = cs.length ∧ s.2.1.length = don.length) (don := []) (s := (rest, [], none, none, none)) ⟨rfl, h1.symm, rfl⟩ ?_ ?_
  · rintro don x r ⟨rs, dr, b5, b6, b8⟩ ⟨e1, e2, e3⟩
    have hx : don.length < 1000 := by
      have := congrArg List.length e1
      simp at this
      omega
    simp only at e2 e3
    have hx2 : x < many := by
      have : x ∈ List.range many := by rw [← e1]; simp
      simpa using this
    have hne : ¬ cs = [] := by intro z; rw [z] at h0; cases h0
    have ha : x % cs.length < cs.length := Nat.mod_lt _ h0
    have ha2 : x % cs.length < rs.length := by omega
    generalize hA : x % cs.length = a at ha ha2
    simp -implicitDefEqProofs [l1__law_draws, hne, powOk, hA, gt_ok ha, gt_ok ha2]
    generalize gt cs a = c
    generalize gt rs a = q
    have hdr : dr.length < 16777216 := by omega
    have hd2 : don.length + 1 = (don ++ [x]).length := by simp
    have hf := And.intro (Int.fmod_nonneg_of_pos (c * 48271 + (x : Nat) * 69621 + 11) (show (0 : Int) < 2147483647 by decide)) (Int.fmod_lt_of_pos (c * 48271 + (x : Nat) * 69621 + 11) (show (0 : Int) < 2147483647 by decide))
    by_cases hc : 1000000000000000000 ≤ c
    · by_cases hq : 0 < q
      · simp -implicitDefEqProofs [hc, hq, hdr, ha2, divOk, e1, e2, e3]
        exact ⟨by omega, by decide, ha, _, _, ⟨rfl, rfl⟩, by simp [e2], by simp [e3]⟩
      · simp -implicitDefEqProofs [hc, hq, hdr, e1, e2, e3]
        generalize (c * 48271 + (x : Nat) * 69621 + 11).fmod 2147483647 = z at hf ⊢
        exact ⟨mulOk_r (by omega), mulOk_r (by omega), mulOk_r (by omega), mulOk_r (by omega), by omega, _, _, ⟨rfl, rfl⟩, by simp [e2], by simp [e3]⟩
    · simp -implicitDefEqProofs [hc, hdr, e1, e2, e3]
      generalize (c * 48271 + (x : Nat) * 69621 + 11).fmod 2147483647 = z at hf ⊢
      exact ⟨mulOk_r (by omega), mulOk_r (by omega), mulOk_r (by omega), mulOk_r (by omega), by omega, _, _, ⟨rfl, rfl⟩, by simp [e2], by simp [e3]⟩
  · rintro don ⟨rs, dr, b5, b6, b8⟩ _
    exact ⟨rs, dr, b5, b6, b8, rfl⟩
theorem draws_ok (ns : List Int) (many : Nat) (hm : many ≤ 1000) (hn : ns.length ≤ 1000) : Ok (g__law_draws [.zl (lI ns), .val (.int many)]) fun p => ∃ ds : List Int, p = (.fr (.lst (lI ds)), [.zl (lI ns), .val (.int many)]) := by
  simp -implicitDefEqProofs [g__law_draws, b__law_draws]
  refine ⟨by omega, ok_of_eq (comp_allI (fun i : Int => .int i) id (l := ns) (fun o ho => by simp -implicitDefEqProofs)) ?_⟩
  by_cases h : ns = []
  · subst h
    simp -implicitDefEqProofs
    refine ⟨by omega, ok_then (draws_loop [] [0] [0] many hm (by decide) rfl (by decide)) ?_⟩
    rintro _ ⟨rest, dr, b5, b6, b8, rfl⟩
    simp -implicitDefEqProofs
  · simp -implicitDefEqProofs [h]
    refine ⟨by omega, ok_then (draws_loop ns ns ns many hm (List.length_pos_iff.mpr h) rfl hn) ?_⟩
    rintro _ ⟨rest, dr, b5, b6, b8, rfl⟩
    simp -implicitDefEqProofs
/-- what the law's own comparison takes: none, flags, ints, texts, tuples of those, n deep -/
def sm : Nat → D → Prop
  | _, .none => True
  | _, .bool _ => True
  | _, .int _ => True
  | _, .str _ => True
  | n + 1, .tuple ds => ds.length ≤ 16777216 ∧ ∀ d ∈ ds, sm n d
  | _, _ => False
theorem same_refl : ∀ (n : Nat) (d : D), sm n d → G__law_same (n + 1) [.val d, .val d] = some (.val (.bool true), [.val d, .val d])
  | n, .none, _ => Ok.eq (by simp -implicitDefEqProofs [G__law_same, b__law_same])
  | n, .bool b, _ => Ok.eq (by simp -implicitDefEqProofs [G__law_same, b__law_same])
  | n, .int i, _ => Ok.eq (by simp -implicitDefEqProofs [G__law_same, b__law_same])
  | n, .str s, _ => Ok.eq (by
    have h : PyData.eqv (.str s) (.str s) = true := eqv_self (by simp [PyData.plain])
    simp -implicitDefEqProofs [G__law_same, b__law_same, h])
  | 0, .tuple ds, h => by simp [sm] at h
  | 0, .list ds, h => by simp [sm] at h
  | n + 1, .list ds, h => by simp [sm] at h
  | 0, .dict ds, h => by simp [sm] at h
  | n + 1, .dict ds, h => by simp [sm] at h
  | n + 1, .tuple ds, h => by
    obtain ⟨h1, h2⟩ : ds.length ≤ 16777216 ∧ ∀ d ∈ ds, sm n d := by simpa [sm] using h
    refine Ok.eq ?_
    rw [G__law_same]
    simp -implicitDefEqProofs [b__law_same]
    refine ⟨by omega, ok_then (forG_st (S := Option D) (Q := fun o => ∃ b, o = .nx [.val (.tuple ds), .val (.tuple ds), ob b]) (fun i : Nat => .int (i : Nat)) (fun b => [.val (.tuple ds), .val (.tuple ds), ob b])
      (fun don r _ => don ++ r = List.range ds.length) (don := []) (s := none) rfl ?_ ?_) ?_⟩
    · intro don x r b e
      have hx : x < ds.length := by
        have : x ∈ List.range ds.length := by rw [← e]; simp
        simpa using this
      have hs := same_refl n ds[x] (h2 _ (List.getElem_mem hx))
      simp -implicitDefEqProofs [l1__law_same, hx, hs]
      exact e
    · intro don b _
      exact ⟨b, rfl⟩
    · rintro _ ⟨b, rfl⟩
      simp -implicitDefEqProofs
theorem same_ok {d : D} (h : sm 5 d) : g__law_same [.val d, .val d] = some (.val (.bool true), [.val d, .val d]) := by
  unfold g__law_same
  exact same_refl 5 d h
theorem sm_ints {n : Nat} {xs : List Int} (h : xs.length ≤ 16777216) : sm (n + 1) (.tuple (lI xs)) := by
  refine ⟨by simpa using h, fun d hd => ?_⟩
  obtain ⟨i, _, rfl⟩ := List.mem_map.mp hd
  cases n <;> trivial

end PV
namespace PV
open PySem PySem.Spec PyProof.Rows L2
/-! ### the program's defs -/
theorem near_ahead_eq {ms : List Int} (near : Int) {a : Nat} (h : a < ms.length) (hl : ms.length ≤ 1000) : g_near_ahead [.val (tI ms), .val (.int near), .val (.int a)] = some (.fr (.lst ((nearAhead ms near a).map fun i => .int (i : Nat))), [.val (tI ms), .val (.int near), .val (.int a)]) := by
  refine Ok.eq ?_
  simp -implicitDefEqProofs [g_near_ahead, b_near_ahead]
  refine ⟨by omega, by omega, ok_of_eq (comp_pure (fun i : Nat => .int (i : Nat)) (fun o => decide (gt ms a - gt ms o < near)) (fun i => .int (i : Nat)) fun o ho => ?_) ?_⟩
  · have ho' : o < a := by simpa using ho
    simp -implicitDefEqProofs [gt_ok h, gt_ok (show o < ms.length by omega)]
  · simp -implicitDefEqProofs [nearAhead]
theorem nearAhead_lt {ms : List Int} {near : Int} {a o : Nat} (h : o ∈ nearAhead ms near a) : o < a := by
  have := (List.mem_filter.mp h).1
  simpa using this
theorem nearAhead_len (ms : List Int) (near : Int) (a : Nat) : (nearAhead ms near a).length ≤ a := by
  have := List.length_filter_le (fun o => decide (gt ms a - gt ms o < near)) (List.range a)
  simpa [nearAhead] using this
theorem are_clear_eq (ms : List Int) (near gap : Int) (cs : List Int) (hl : ms.length ≤ 1000) (hc : cs.length ≤ 16777216) : g_are_clear [.val (tI ms), .val (.int near), .val (.int gap), .val (tI cs)] = some (.val (.bool (clearB ms near gap cs)), [.val (tI ms), .val (.int near), .val (.int gap), .val (tI cs)]) := by
  refine Ok.eq ?_
  simp -implicitDefEqProofs [g_are_clear, b_are_clear]
  by_cases h : cs.length = ms.length
  · simp -implicitDefEqProofs [h]
    refine ⟨by omega, ok_of_eq (comp_all (fun i : Int => .int i) (fun c => .bool (decide (c < 0))) (l := cs) fun c _ => by simp -implicitDefEqProofs) ?_⟩
    simp -implicitDefEqProofs
    by_cases hn : ∃ x, x ∈ cs ∧ x < 0
    · have e : clearB ms near gap cs = false := by
        obtain ⟨x, hx, hx0⟩ := hn
        have : cs.any (fun c => decide (c < 0)) = true := List.any_eq_true.mpr ⟨x, hx, by simpa using hx0⟩
        simp only [clearB, this, Bool.not_true, Bool.and_false, Bool.false_and]
      simp -implicitDefEqProofs [hn, e]
    · have e0 : cs.any (fun c => decide (c < 0)) = false := by
        rw [List.any_eq_false]
        intro x hx hx0
        exact hn ⟨x, hx, by simpa using hx0⟩
      simp -implicitDefEqProofs [hn]
      refine ⟨by omega, ok_then (forG_any (S := Option D) (fun i : Nat => .int (i : Nat)) (fun a => (nearAhead ms near a).any fun o => decide (absI (gt cs a - gt cs o) < gap)) (.val (.bool false))
        (fun b => [.val (tI ms), .val (.int near), .val (.int gap), .val (tI cs), ob b, .un, .un]) (s := none) fun a ha s => ?_) ?_⟩
      · have ha' : a < ms.length := by simpa using ha
        simp -implicitDefEqProofs [l1_are_clear, near_ahead_eq near ha' hl]
        have hlen := nearAhead_len ms near a
        refine ⟨by omega, ok_of_eq (comp_all (fun i : Nat => .int (i : Nat)) (fun o => .bool (decide (absI (gt cs a - gt cs o) < gap))) fun o ho => ?_) ?_⟩
        · have ho' := nearAhead_lt ho
          simp -implicitDefEqProofs [gt_ok (show a < cs.length by omega), gt_ok (show o < cs.length by omega)]
        · simp -implicitDefEqProofs
      · intro o ho
        by_cases hx : ((List.range ms.length).any fun a => (nearAhead ms near a).any fun o => decide (absI (gt cs a - gt cs o) < gap)) = true
        · rw [if_pos hx] at ho
          obtain ⟨s', rfl⟩ := ho
          simp -implicitDefEqProofs [clearB, hx]
        · rw [if_neg hx] at ho
          obtain ⟨s', rfl⟩ := ho
          simp only [Bool.not_eq_true] at hx
          simp -implicitDefEqProofs [clearB, hx, e0, h]
  · have e : clearB ms near gap cs = false := by simp [clearB, h]
    simp -implicitDefEqProofs [show ¬ ((cs.length : Int) = ms.length) by omega, e]
theorem least_free_eq (t : List Int) (ht : t.length ≤ 10000) : g_least_free [.val (.list (lI t))] = some (.val (.int (mex t)), [.val (.list (lI t))]) := by
  obtain ⟨h1, h2, h3⟩ := mex_spec t
  have key : ∀ (d n fuel : Nat), n + d = mex t → d < fuel → whileN (tfOf (eOp (gIn false) (eVar 1) (eVar 0))) l1_least_free fuel [.val (.list (lI t)), .val (.int n)] = some (.nx [.val (.list (lI t)), .val (.int (mex t))]) := by
    intro d
    induction d with
    | zero =>
      intro n fuel e hf
      obtain ⟨f, rfl⟩ : ∃ f, fuel = f + 1 := ⟨fuel - 1, by omega⟩
      obtain rfl : n = mex t := by omega
      refine Ok.eq ?_
      unfold whileN
      simp -implicitDefEqProofs [h1]
    | succ d ih =>
      intro n fuel e hf
      obtain ⟨f, rfl⟩ : ∃ f, fuel = f + 1 := ⟨fuel - 1, by omega⟩
      have hn := h2 n (by omega)
      refine Ok.eq ?_
      unfold whileN
      simp -implicitDefEqProofs [hn, l1_least_free]
      exact ok_of_eq (ih (n + 1) f (by omega) (by omega)) rfl
  refine Ok.eq ?_
  simp -implicitDefEqProofs [g_least_free, b_least_free, sWhile]
  refine ok_of_eq (key (mex t) 0 100000000 (by omega) (by omega)) ?_
  simp -implicitDefEqProofs
theorem told_channels_eq {ms : List Int} (near : Int) (hl : ms.length ≤ 1000) : g_told_channels [.val (tI ms), .val (.int near)] = some (.val (tI (told ms near)), [.val (tI ms), .val (.int near)]) := by
  refine Ok.eq ?_
  simp -implicitDefEqProofs [g_told_channels, b_told_channels]
  refine ⟨by omega, ok_then (forG_rng (S := List Int × Option D) (Q := fun o => ∃ b, o = .nx [.val (tI ms), .val (.int near), .obj 0 (.lst (lI (told ms near))), ob b, .un]) (fun s => [.val (tI ms), .val (.int near), .obj 0 (.lst (lI s.1)), ob s.2, .un])
    (fun i s => s.1 = toldN ms near i) (s := ([], none)) rfl ?_ ?_) ?_⟩
  · rintro i ⟨f, b⟩ hi rfl
    have hlen := nearAhead_len ms near i
    simp -implicitDefEqProofs [l1_told_channels, near_ahead_eq near hi hl]
    refine ⟨by omega, ok_of_eq (comp_allI (fun i : Nat => .int (i : Nat)) (fun o => gt (toldN ms near i) o) fun o ho => ?_) ?_⟩
    · have ho' := nearAhead_lt ho
      simp -implicitDefEqProofs [gt_ok (show o < (toldN ms near i).length by simpa using ho')]
    · simp -implicitDefEqProofs
      refine ok_of_eq (least_free_eq _ (by simp; omega)) ?_
      simp -implicitDefEqProofs
      exact ⟨by omega, rfl⟩
  · rintro ⟨f, b⟩ rfl
    exact ⟨b, rfl⟩
  · rintro _ ⟨b, rfl⟩
    simp -implicitDefEqProofs
theorem fewest_channels_eq {ms : List Int} (near : Int) (hl : ms.length ≤ 1000) : g_fewest_channels [.val (tI ms), .val (.int near)] = some (.val (.int (fewest ms near)), [.val (tI ms), .val (.int near)]) := by
  refine Ok.eq ?_
  simp -implicitDefEqProofs [g_fewest_channels, b_fewest_channels, told_channels_eq near hl, lI_one]
  simp -implicitDefEqProofs [fewest]
  omega
theorem least_span_eq {ms : List Int} (near gap : Int) (hl : ms.length ≤ 1000) (hf : fewest ms near ≤ 10000) : g_least_span [.val (tI ms), .val (.int near), .val (.int gap)] = some (.val (.int (spanI ms near gap)), [.val (tI ms), .val (.int near), .val (.int gap)]) := by
  refine Ok.eq ?_
  simp -implicitDefEqProofs [g_least_span, b_least_span, fewest_channels_eq near hl]
  exact ⟨mulOk_r (by split <;> omega), rfl⟩
theorem crowded_masts_eq {ms : List Int} (near : Int) (hl : ms.length ≤ 1000) : g_crowded_masts [.val (tI ms), .val (.int near)] = some (.val (tI (toI (crowdN ms near ms.length))), [.val (tI ms), .val (.int near)]) := by
  refine Ok.eq ?_
  simp -implicitDefEqProofs [g_crowded_masts, b_crowded_masts]
  refine ⟨by omega, ok_then (forG_rng (S := List Nat × Option D × Option D) (Q := fun o => ∃ b c, o = .nx [.val (tI ms), .val (.int near), .val (tI (toI (crowdN ms near ms.length))), ob b, ob c, .un]) (fun s => [.val (tI ms), .val (.int near), .val (tI (toI s.1)), ob s.2.1, ob s.2.2, .un])
    (fun i s => s.1 = crowdN ms near i) (s := ([], none, none)) rfl ?_ ?_) ?_⟩
  · rintro i ⟨f, b, c⟩ hi rfl
    simp -implicitDefEqProofs [l1_crowded_masts]
    rw [rngD_r]
    refine ⟨⟨by omega, by omega⟩, by omega, ok_of_eq (comp_int (fun i : Nat => .int (i : Nat)) (fun o => decide (gt ms o - gt ms i < near)) (fun o => (o : Int)) fun o ho => ?_) ?_⟩
    · have ho' : o < ms.length := by
        have := List.mem_range'_1.mp ho
        omega
      simp -implicitDefEqProofs [gt_ok ho', gt_ok hi]
    · have e2 : ((List.range' i (ms.length - i)).filter fun o => decide (gt ms o - gt ms i < near)) = crowdAt ms near i := rfl
      rw [e2]
      simp -implicitDefEqProofs
      by_cases hc : (crowdN ms near i).length < (crowdAt ms near i).length
      · simp -implicitDefEqProofs [hc, crowdN]
        done
      · simp -implicitDefEqProofs [hc, crowdN]
        done
  · rintro ⟨f, b, c⟩ rfl
    exact ⟨b, c, rfl⟩
  · rintro _ ⟨b, c, rfl⟩
    simp -implicitDefEqProofs
theorem added_mast_eq {ms : List Int} (near at_ : Int) (hl : ms.length ≤ 1000) : g_added_mast [.val (tI ms), .val (.int near), .val (.int at_)] = some (.val (.int (mex (addedT ms near at_))), [.val (tI ms), .val (.int near), .val (.int at_)]) := by
  refine Ok.eq ?_
  simp -implicitDefEqProofs [g_added_mast, b_added_mast, told_channels_eq near hl]
  refine ⟨by omega, by omega, ok_of_eq (comp_int (fun i : Nat => .int (i : Nat)) (fun o => decide (absI (gt ms o - at_) < near)) (fun o => gt (told ms near) o) fun o ho => ?_) ?_⟩
  · have ho' : o < ms.length := by simpa using ho
    simp -implicitDefEqProofs [gt_ok ho', gt_ok (show o < (told ms near).length by simpa using ho')]
  · simp -implicitDefEqProofs
    refine ok_of_eq (least_free_eq _ ?_) ?_
    · have := List.length_filter_le (fun o => decide (absI (gt ms o - at_) < near)) (List.range ms.length)
      simp at this ⊢
      omega
    · simp -implicitDefEqProofs [addedT]

end PV
namespace PV
open PySem PySem.Spec PyProof.Rows L2
theorem by_until_eq {ms : List Int} (near : Int) (hl : ms.length ≤ 1000) (hs : ms.Pairwise (· ≤ ·)) : g_by_until [.val (.tuple (stretch near ms))] = some (.fr (.lst (lI (toI (List.range ms.length)))), [.val (.tuple (stretch near ms))]) := by
  have hlen : (stretch near ms).length = ms.length := by simp [stretch]
  have hget : ∀ i : Nat, (stretch near ms)[i]? = ms[i]?.map fun m => tI [m, m + near - 1] := fun i => by simp [stretch]
  refine Ok.eq ?_
  simp -implicitDefEqProofs [g_by_until, b_by_until, hlen]
  refine ⟨by omega, by omega, ok_of_eq (comp_all (fun i : Nat => .int (i : Nat)) (fun i => tI [gt ms i + near - 1, gt ms i, (i : Int)]) fun o ho => ?_) ?_⟩
  · have ho' : o < ms.length := by simpa using ho
    simp -implicitDefEqProofs [hget, gt_ok ho', lI_one]
  · have hp : ((List.range ms.length).map fun i : Nat => tI [gt ms i + near - 1, gt ms i, (i : Int)]).Pairwise fun a b => leD a b = true := by
      rw [List.pairwise_map]
      refine List.Pairwise.imp_of_mem ?_ (List.pairwise_lt_range)
      intro i j hi hj hij
      have hj' : j < ms.length := by simpa using hj
      have hle : gt ms i ≤ gt ms j := by
        rw [gt_eq hj', gt_eq (show i < ms.length by omega)]
        exact List.pairwise_iff_getElem.mp hs i j (by omega) hj' hij
      unfold leD
      rw [dataLt_tI]
      simp only [Bool.not_eq_true', decide_eq_false_iff_not]
      exact lt3 (by omega) hle (by omega)
    have q1 : likeB ((List.range ms.length).map fun i : Nat => tI [gt ms i + near - 1, gt ms i, (i : Int)]) = true := likeB_rows 3 fun d hd => by
      obtain ⟨i, _, rfl⟩ := List.mem_map.mp hd
      exact ⟨[gt ms i + near - 1, gt ms i, (i : Int)], rfl, rfl⟩
    have q2 : sortB ((List.range ms.length).map fun i : Nat => tI [gt ms i + near - 1, gt ms i, (i : Int)]) = true := sortB_rows fun d hd => by
      obtain ⟨i, _, rfl⟩ := List.mem_map.mp hd
      exact ⟨_, _, rfl⟩
    simp -implicitDefEqProofs [gSorted_fr q1 q2, sortD_id hp]
    refine ⟨by omega, ok_of_eq (comp_allI (fun i : Nat => tI [gt ms i + near - 1, gt ms i, (i : Int)]) (fun i => (i : Int)) fun o ho => ?_) ?_⟩
    · simp -implicitDefEqProofs [lI_def]
    · simp -implicitDefEqProofs
theorem told_masts_eq {ms : List Int} (near : Int) (hl : ms.length ≤ 1000) (hs : ms.Pairwise (· ≤ ·)) : ∃ fs : List Int, fs = ms.foldl (reach near) [] ∧ g_told_masts [.val (.tuple (stretch near ms))] = some (.val (tI fs), [.val (.tuple (stretch near ms))]) := by
  refine ⟨_, rfl, ?_⟩
  have hget : ∀ i : Nat, (stretch near ms)[i]? = ms[i]?.map fun m => tI [m, m + near - 1] := fun i => by simp [stretch]
  refine Ok.eq ?_
  simp -implicitDefEqProofs [g_told_masts, b_told_masts, by_until_eq near hl hs, lI_def (toI (List.range ms.length))]
  refine ok_then (forG_rng (S := List Int × Option D × Option D × Option D) (Q := fun o => ∃ a b c, o = .nx [.val (.tuple (stretch near ms)), .val (tI (ms.foldl (reach near) [])), ob a, ob b, ob c]) (fun s => [.val (.tuple (stretch near ms)), .val (tI s.1), ob s.2.1, ob s.2.2.1, ob s.2.2.2])
    (fun i s => s.1 = (ms.take i).foldl (reach near) [] ∧ s.1.length ≤ i) (n := ms.length) (s := ([], none, none, none)) ⟨rfl, Nat.le_refl _⟩ ?_ ?_) ?_
  · rintro i ⟨f, a, b, c⟩ hi ⟨h1, h2⟩
    simp only at h1 h2
    have hst : (ms.take (i + 1)).foldl (reach near) [] = reach near f (gt ms i) := by
      rw [List.take_add_one, gt_ok hi, List.foldl_append, ← h1]
      rfl
    simp -implicitDefEqProofs [l1_told_masts, hget, gt_ok hi, lI_def [gt ms i, gt ms i + near - 1]]
    by_cases hf : f = []
    · subst hf
      simp -implicitDefEqProofs [lI_one, hst, reach]
    · obtain ⟨z, hz⟩ : ∃ z, f.getLast? = some z := ⟨_, List.getLast?_eq_some_getLast hf⟩
      by_cases hlt : z < gt ms i
      · simp -implicitDefEqProofs [hf, lI_one, hst, reach, hz, hlt]
        omega
      · simp -implicitDefEqProofs [hf, lI_one, hst, reach, hz, hlt]
        omega
  · rintro ⟨f, a, b, c⟩ ⟨h1, h2⟩
    simp only [List.take_length] at h1
    subst h1
    exact ⟨a, b, c, rfl⟩
  · rintro _ ⟨a, b, c, rfl⟩
    simp -implicitDefEqProofs
theorem fewest_masts_eq {ms : List Int} (near : Int) (hl : ms.length ≤ 1000) (hs : ms.Pairwise (· ≤ ·)) : g_fewest_masts [.val (.tuple (stretch near ms))] = some (.val (.int ((ms.foldl (reach near) []).length : Nat)), [.val (.tuple (stretch near ms))]) := by
  obtain ⟨fs, rfl, e⟩ := told_masts_eq near hl hs
  refine Ok.eq ?_
  simp -implicitDefEqProofs [g_fewest_masts, b_fewest_masts, e]
theorem fewest_seats_eq {ms : List Int} (low near : Int) (hl : ms.length ≤ 1000) : g_fewest_seats [.val (.tuple (booking low near ms))] = some (.val (.int (seatsI near ms)), [.val (.tuple (booking low near ms))]) := by
  have hlen : (booking low near ms).length = ms.length := by simp [booking]
  refine Ok.eq ?_
  simp -implicitDefEqProofs [g_fewest_seats, b_fewest_seats, hlen]
  refine ⟨by omega, ok_of_eq (comp_allI (fun m => tI [m - low, m - low + near]) (fun m => (standing near ms m : Int)) (l := ms) fun m hm => ?_) ?_⟩
  · simp -implicitDefEqProofs [hlen, lI_def [m - low, m - low + near]]
    refine ⟨by omega, ok_of_eq (comp_int (fun m => tI [m - low, m - low + near]) (fun x => decide (x ≤ m ∧ m < x + near)) (fun _ => 1) (l := ms) fun x hx => ?_) ?_⟩
    · by_cases h1 : x ≤ m
      · by_cases h2 : m < x + near
        · simp -implicitDefEqProofs [lI_def [x - low, x - low + near], show x - low ≤ m - low by omega, show m - low < x - low + near by omega, h1, h2]
        · simp -implicitDefEqProofs [lI_def [x - low, x - low + near], show x - low ≤ m - low by omega, show ¬ m - low < x - low + near by omega, h1, h2]
      · simp -implicitDefEqProofs [lI_def [x - low, x - low + near], show ¬ x - low ≤ m - low by omega, h1]
    · simp -implicitDefEqProofs [standing]
  · simp -implicitDefEqProofs [lI_one, seatsI]
    omega

end PV
namespace PV
open PySem PySem.Spec PyProof.Rows L2
theorem law_masts_ok (ns ds : List Int) (many : Nat) (wide : Int) (hm : many ≤ 1000) (hw : 0 < wide) : Ok (g__law_masts [.zl (lI ns), .obj 1 (.lst (lI ds)), .val (.int many), .val (.int wide)]) fun p => ∃ ms ds' : List Int, ms.Pairwise (· ≤ ·) ∧ ms.length = many ∧ p = (.val (tI ms), [.zl (lI ns), .obj 1 (.lst (lI ds')), .val (.int many), .val (.int wide)]) := by
  simp -implicitDefEqProofs [g__law_masts, b__law_masts]
  refine ok_then (cell_ok ns ds) ?_
  rintro _ ⟨c, ds1, rfl⟩
  simp -implicitDefEqProofs
  refine take_ok (by decide) fun v _ hv => ?_
  have key : ∀ at_ : Int, Ok (forG (gNm 6) l1__law_masts ((List.range many).map fun i => .int (i : Nat)) [.zl (lI ns), .obj 1 (.lst (lI ds1.dropLast)), .val (.int many), .val (.int wide), .obj 0 (.lst []), .val (.int at_), .un])
      fun o => ∃ (ms ds' : List Int) (a : Int) (b : Option D), ms.Pairwise (· ≤ ·) ∧ ms.length = many ∧ o = .nx [.zl (lI ns), .obj 1 (.lst (lI ds')), .val (.int many), .val (.int wide), .obj 0 (.lst (lI ms)), .val (.int a), ob b] := by
    intro at_
    refine forG_rng (S := List Int × List Int × Int × Option D) (fun s => [.zl (lI ns), .obj 1 (.lst (lI s.1)), .val (.int many), .val (.int wide), .obj 0 (.lst (lI s.2.1)), .val (.int s.2.2.1), ob s.2.2.2])
      (fun i s => s.2.1.length = i ∧ s.2.1.Pairwise (· ≤ ·) ∧ ∀ x ∈ s.2.1, x ≤ s.2.2.1) (s := (ds1.dropLast, [], at_, none)) ⟨rfl, .nil, by simp⟩ ?_ ?_
    · rintro i ⟨d, f, a, b⟩ hi ⟨h1, h2, h3⟩
      simp only at h1 h2 h3
      have fin_ : ∀ y : Int, a ≤ y → (f ++ [a]).length = i + 1 ∧ (f ++ [a]).Pairwise (· ≤ ·) ∧ ∀ x ∈ f ++ [a], x ≤ y := by
        intro z hz
        refine ⟨by simp [h1], ?_, ?_⟩
        · rw [List.pairwise_append]
          exact ⟨h2, List.pairwise_singleton _ _, fun y hy z hz => by rw [List.mem_singleton.mp hz]; exact h3 y hy⟩
        · intro y hy
          rcases List.mem_append.mp hy with hy | hy
          · have := h3 y hy
            omega
          · rw [List.mem_singleton.mp hy]
            omega
      simp -implicitDefEqProofs [l1__law_masts, h1]
      refine ⟨by omega, take_ok (by decide) fun v1 _ w1 => ?_⟩
      simp -implicitDefEqProofs
      refine take_ok hw fun v2 _ w2 => ?_
      simp -implicitDefEqProofs
      refine take_ok hw fun v3 _ w3 => ?_
      simp -implicitDefEqProofs
      refine take_ok (by decide) fun v4 _ w4 => ?_
      have h4 : v4 < 4 := by omega
      simp -implicitDefEqProofs
      match v4, h4 with
      | 0, _ => simp -implicitDefEqProofs; exact ⟨_, _, _, ⟨rfl, rfl, rfl⟩, fin_ _ (by omega)⟩
      | 1, _ => simp -implicitDefEqProofs; exact ⟨_, _, _, ⟨rfl, rfl, rfl⟩, fin_ _ (by omega)⟩
      | 2, _ => simp -implicitDefEqProofs; exact ⟨_, _, _, ⟨rfl, rfl, rfl⟩, fin_ _ (by omega)⟩
      | 3, _ => simp -implicitDefEqProofs; exact ⟨_, _, _, ⟨rfl, rfl, rfl⟩, fin_ _ (by omega)⟩
    · rintro ⟨d, f, a, b⟩ ⟨h1, h2, h3⟩
      exact ⟨f, d, a, b, h2, h1, rfl⟩
  have h2 : v < 2 := by omega
  match v, h2 with
  | 0, _ =>
    simp -implicitDefEqProofs
    refine ⟨by omega, ok_then (key 0) ?_⟩
    rintro _ ⟨ms, ds', a, b, h3, h4, rfl⟩
    simp -implicitDefEqProofs
    exact ⟨h3, h4⟩
  | 1, _ =>
    simp -implicitDefEqProofs
    refine ⟨by omega, ok_then (key c) ?_⟩
    rintro _ ⟨ms, ds', a, b, h3, h4, rfl⟩
    simp -implicitDefEqProofs
    exact ⟨h3, h4⟩
theorem law_clear_eq (ms : List Int) (near gap : Int) (cs : List Int) (hl : ms.length ≤ 1000) (hc : cs.length ≤ 16777216) : g__law_clear [.val (tI ms), .val (.int near), .val (.int gap), .val (tI cs)] = some (.val (.bool (clearB ms near gap cs)), [.val (tI ms), .val (.int near), .val (.int gap), .val (tI cs)]) := by
  refine Ok.eq ?_
  simp -implicitDefEqProofs [g__law_clear, b__law_clear]
  by_cases h : cs.length = ms.length
  · simp -implicitDefEqProofs [h]
    refine ⟨by omega, ok_of_eq (comp_int (fun i : Int => .int i) (fun c => decide (c < 0)) (fun c => c) (l := cs) fun c _ => by simp -implicitDefEqProofs) ?_⟩
    simp -implicitDefEqProofs
    by_cases hn : ∃ x, x ∈ cs ∧ x < 0
    · have e : clearB ms near gap cs = false := by
        obtain ⟨x, hx, hx0⟩ := hn
        have : cs.any (fun c => decide (c < 0)) = true := List.any_eq_true.mpr ⟨x, hx, by simpa using hx0⟩
        simp only [clearB, this, Bool.not_true, Bool.and_false, Bool.false_and]
      have e2 : 0 < (cs.filter fun c => decide (c < 0)).length := by
        obtain ⟨x, hx, hx0⟩ := hn
        exact List.length_pos_of_mem (List.mem_filter.mpr ⟨hx, by simpa using hx0⟩)
      simp -implicitDefEqProofs [e]
      intro z
      obtain ⟨x, hx, hx0⟩ := hn
      have := z x hx
      omega
    · have e0 : cs.any (fun c => decide (c < 0)) = false := by
        rw [List.any_eq_false]
        intro x hx hx0
        exact hn ⟨x, hx, by simpa using hx0⟩
      have e2 : ¬ 0 < (cs.filter fun c => decide (c < 0)).length := by
        intro z
        obtain ⟨x, hx⟩ := List.exists_mem_of_length_pos z
        have := List.mem_filter.mp hx
        exact hn ⟨x, this.1, by simpa using this.2⟩
      rw [if_neg hn]
      refine ⟨by omega, ok_then (forG_any (S := Option D × Option D) (fun i : Nat => .int (i : Nat)) (badAt ms near gap cs) (.val (.bool false))
        (fun b => [.val (tI ms), .val (.int near), .val (.int gap), .val (tI cs), ob b.1, ob b.2, .un]) (s := (none, none)) fun a ha s => ?_) ?_⟩
      · have ha' : a < ms.length := by simpa using ha
        simp -implicitDefEqProofs [l2__law_clear]
        refine ⟨by omega, ok_then (forG_any (S := Option D) (fun i : Nat => .int (i : Nat)) (bad2 ms near gap cs a) (.val (.bool false))
          (fun b => [.val (tI ms), .val (.int near), .val (.int gap), .val (tI cs), .val (.int (a : Nat)), ob b, .un]) (s := s.2) fun o ho s => ?_) ?_⟩
        · have ho' : o < a := by simpa using ho
          simp -implicitDefEqProofs [l1__law_clear, gt_ok ha', gt_ok (show o < ms.length by omega), gt_ok (show a < cs.length by omega), gt_ok (show o < cs.length by omega)]
          by_cases q1 : gt ms a - gt ms o < near
          · by_cases q2 : absI (gt cs a - gt cs o) < gap
            · simp -implicitDefEqProofs [bad2, q1, q2]
            · simp -implicitDefEqProofs [bad2, q1, q2]
          · simp -implicitDefEqProofs [bad2, q1]
        · intro o ho
          have e4 : badAt ms near gap cs a = (List.range a).any (bad2 ms near gap cs a) := rfl
          rw [← e4] at ho
          by_cases hx : badAt ms near gap cs a = true
          · rw [if_pos hx] at ho
            obtain ⟨s', rfl⟩ := ho
            simp -implicitDefEqProofs [hx]
          · rw [if_neg hx] at ho
            obtain ⟨s', rfl⟩ := ho
            simp -implicitDefEqProofs [hx]
      · intro o ho
        by_cases hx : (List.range ms.length).any (badAt ms near gap cs) = true
        · rw [if_pos hx] at ho
          obtain ⟨s', rfl⟩ := ho
          have e5 : clearB ms near gap cs = false := by rw [clearB_eq, hx]; simp
          simp -implicitDefEqProofs [e5]
        · rw [if_neg hx] at ho
          obtain ⟨s', rfl⟩ := ho
          have e5 : clearB ms near gap cs = true := by rw [clearB_eq, Bool.eq_false_iff.mpr hx, e0, decide_eq_true h]; rfl
          simp -implicitDefEqProofs [e5]
  · have e : clearB ms near gap cs = false := by simp [clearB, h]
    simp -implicitDefEqProofs [show ¬ ((cs.length : Int) = ms.length) by omega, e]
theorem law_told_eq {ms : List Int} (near : Int) (hl : ms.length ≤ 1000) : g__law_told [.val (tI ms), .val (.int near)] = some (.val (tI (told ms near)), [.val (tI ms), .val (.int near)]) := by
  refine Ok.eq ?_
  simp -implicitDefEqProofs [g__law_told, b__law_told]
  refine ⟨by omega, ok_then (forG_rng (S := List Int × Option D × Option (List D)) (Q := fun o => ∃ b c, o = .nx [.val (tI ms), .val (.int near), .obj 0 (.lst (lI (told ms near))), ob b, c, .un, .un]) (fun s => [.val (tI ms), .val (.int near), .obj 0 (.lst (lI s.1)), ob s.2.1, obl s.2.2, .un, .un])
    (fun i s => s.1 = toldN ms near i) (s := ([], none, none)) rfl ?_ ?_) ?_⟩
  · rintro i ⟨f, b, c⟩ hi rfl
    have hlen := nearAhead_len ms near i
    simp -implicitDefEqProofs [l1__law_told]
    refine ⟨by omega, by omega, ok_of_eq (comp_int (fun i : Nat => .int (i : Nat)) (fun o => decide (gt ms i - gt ms o < near)) (fun o => gt (toldN ms near i) o) fun o ho => ?_) ?_⟩
    · have ho' : o < i := by simpa using ho
      simp -implicitDefEqProofs [gt_ok hi, gt_ok (show o < ms.length by omega), gt_ok (show o < (toldN ms near i).length by simpa using ho')]
    · have e2 : ((List.range i).filter fun o => decide (gt ms i - gt ms o < near)) = nearAhead ms near i := rfl
      rw [e2]
      simp -implicitDefEqProofs
      refine ⟨by omega, by omega, ok_of_eq (comp_int (fun i : Nat => .int (i : Nat)) (freeB ((nearAhead ms near i).map fun o => gt (toldN ms near i) o)) (fun o => (o : Int)) fun o ho => ?_) ?_⟩
      · simp -implicitDefEqProofs [freeB]
      · have e3 := mex_filter ((nearAhead ms near i).map fun o => gt (toldN ms near i) o)
        rw [List.length_map] at e3
        simp -implicitDefEqProofs [e3]
        exact ⟨by omega, rfl⟩
  · rintro ⟨f, b, c⟩ rfl
    exact ⟨b, obl c, rfl⟩
  · rintro _ ⟨b, c, rfl⟩
    simp -implicitDefEqProofs

end PV
namespace PV
open PySem PySem.Spec PyProof.Rows L2
theorem law_crowd_eq {ms : List Int} {near : Int} (hl : ms.length ≤ 1000) (hs : ms.Pairwise (· ≤ ·)) (hn : 0 < near) : g__law_crowd [.val (tI ms), .val (.int near)] = some (.val (tI (toI (crowdN ms near ms.length))), [.val (tI ms), .val (.int near)]) := by
  refine Ok.eq ?_
  simp -implicitDefEqProofs [g__law_crowd, b__law_crowd]
  refine ⟨by omega, ok_then (forG_rng (S := List Nat × Option D × Option D × Option D) (Q := fun o => ∃ b c d, o = .nx [.val (tI ms), .val (.int near), .val (tI (toI (crowdN ms near ms.length))), ob b, ob c, ob d, .un]) (fun s => [.val (tI ms), .val (.int near), .val (tI (toI s.1)), ob s.2.1, ob s.2.2.1, ob s.2.2.2, .un])
    (fun i s => s.1 = crowdN ms near i) (s := ([], none, none, none)) rfl ?_ ?_) ?_⟩
  · rintro i ⟨f, b, c, d⟩ hi rfl
    simp -implicitDefEqProofs [l2__law_crowd]
    have e1 : ((ms.length : Int) - ((i : Int) + 1)).toNat = ms.length - (i + 1) := by omega
    rw [e1]
    refine ⟨by omega, ok_then (forG_rngE (fun j : Nat => .int ((i + 1 + j : Nat) : Int)) (Q := fun o => ∃ d, o = .nx [.val (tI ms), .val (.int near), .val (tI (toI (crowdN ms near i))), .val (.int (i : Nat)), .val (tI (toI (crowdAt ms near i))), ob d, .un])
      (S := List Nat × Option D) (fun s => [.val (tI ms), .val (.int near), .val (tI (toI (crowdN ms near i))), .val (.int (i : Nat)), .val (tI (toI s.1)), ob s.2, .un]) (fun j s => s.1 = crowdTo ms near i (j + 1)) (s := ([i], d)) ?_ ?_ ?_) ?_⟩
    · exact (crowdTo_one i hn).symm
    · rintro j ⟨t, d⟩ hj rfl
      have hj2 : i + 1 + j < ms.length := by omega
      have hfar := crowd_far hs hn (show 0 < j + 1 by omega) (show i + (j + 1) < ms.length by omega)
      have hsucc := crowdTo_succ ms near i (j + 1)
      have e2 : i + (j + 1) = i + 1 + j := by omega
      rw [e2] at hfar hsucc
      have hlen : (crowdTo ms near i (j + 1)).length ≤ j + 1 := by
        have := List.length_filter_le (fun o => decide (gt ms o - gt ms i < near)) (List.range' i (j + 1))
        simpa [crowdTo] using this
      simp -implicitDefEqProofs [l1__law_crowd]
      refine ⟨by omega, ok_of_eq (comp_intD (fun i : Nat => .int (i : Nat)) (fun o => decide (near ≤ gt ms (i + 1 + j) - gt ms o)) (fun o => (o : Int)) (lI_map _ _) fun o ho => ?_) ?_⟩
      · obtain ⟨q1, q2⟩ := crowdTo_ge ho
        have hat : atI (lI ms) ((i : Int) + 1 + (j : Int)) = some (.int (gt ms (i + 1 + j))) := by
          have := atI_nat (lI ms) (i + 1 + j)
          rw [lI_get, gt_ok hj2] at this
          exact this
        simp -implicitDefEqProofs [hat, gt_ok (show o < ms.length by omega)]
      · by_cases hf : gt ms (i + 1 + j) - gt ms i < near
        · rw [hfar.mpr hf]
          simp -implicitDefEqProofs [lI_one, hsucc, hf]
          omega
        · have hne : ¬ ((crowdTo ms near i (j + 1)).filter fun o => decide (near ≤ gt ms (i + 1 + j) - gt ms o)) = [] := fun z => hf (hfar.mp z)
          generalize ((crowdTo ms near i (j + 1)).filter fun o => decide (near ≤ gt ms (i + 1 + j) - gt ms o)) = fl at hne ⊢
          simp -implicitDefEqProofs [hsucc, hf, hne]
    · rintro ⟨t, d⟩ h
      have e3 : ms.length - (i + 1) + 1 = ms.length - i := by omega
      rw [e3, crowdTo_all] at h
      simp only at h
      subst h
      exact ⟨d, rfl⟩
    · rintro _ ⟨d, rfl⟩
      by_cases hc : (crowdN ms near i).length < (crowdAt ms near i).length
      · simp -implicitDefEqProofs [hc, crowdN, hn]
      · simp -implicitDefEqProofs [hc, crowdN, hn]
  · rintro ⟨f, b, c, d⟩ rfl
    exact ⟨b, c, d, rfl⟩
  · rintro _ ⟨b, c, d, rfl⟩
    simp -implicitDefEqProofs
theorem law_bent_ok (ds : List Int) (cell : Int) (row : List Int) (hr : row.length ≤ 1000) : Ok (g__law_bent [.obj 1 (.lst (lI ds)), .val (.int cell), .val (tI row)]) fun p => ∃ (ds' cs : List Int), cs.length ≤ 2001 ∧ p = (.val (tI cs), [.obj 1 (.lst (lI ds')), .val (.int cell), .val (tI row)]) := by
  have hcut : ∀ lo hi, (cutI row lo hi).length ≤ row.length := fun lo hi => by
    unfold cutI
    rw [List.length_take, List.length_drop]
    omega
  simp -implicitDefEqProofs [g__law_bent, b__law_bent]
  refine take_ok (by omega) fun v1 _ w1 => ?_
  simp -implicitDefEqProofs
  refine take_ok (by decide) fun v2 _ w2 => ?_
  simp -implicitDefEqProofs
  refine take_ok (by decide) fun v3 _ w3 => ?_
  have h3 : v3 < 4 := by omega
  have c1 := hcut none (some (v1 : Int))
  have c2 := hcut (some ((v1 : Int) + 1)) none
  have c3 := hcut (some (v1 : Int)) none
  obtain rfl | rfl | rfl | rfl : v3 = 0 ∨ v3 = 1 ∨ v3 = 2 ∨ v3 = 3 := by omega
  all_goals
    simp -implicitDefEqProofs
    refine take_ok (by decide) fun v4 _ w4 => ?_
    by_cases q0 : v4 = 0
    · simp -implicitDefEqProofs [q0, lI_one]
      exact ⟨by omega, _, _, by rw [List.length_append]; omega, rfl, rfl⟩
    · by_cases q1 : v4 = 1
      · simp -implicitDefEqProofs [q0, q1, lI_one]
        exact ⟨by omega, by omega, _, _, by rw [List.length_append, List.length_cons]; omega, rfl, rfl⟩
      · simp -implicitDefEqProofs [q0, show ¬ ((v4 : Int) = 1) by omega, lI_one]
        exact ⟨by omega, by omega, _, _, by rw [List.length_append, List.length_cons]; omega, rfl, rfl⟩

end PV
namespace PV
open PySem PySem.Spec PyProof.Rows L2
theorem ac_inner {ms : List Int} (near gap : Int) (most : Nat) (hl : ms.length ≤ 1000) {k : Nat} (hk : k < ms.length) (F : B) (L : List (List Int)) (row : List Int) (hrow : row.length = k) (b : Option D) (hb : L.length + (most + 1) ≤ 16777216) :
    Ok (forG (gNm 8) l1__law_all_clear ((List.range (most + 1)).map fun i => .int (i : Nat)) [.val (tI ms), .val (.int near), .val (.int gap), .val (.int most), F, .val (.int (k : Nat)), .obj 0 (.lst (lT L)), .val (tI row), ob b, .un])
      fun o => ∃ b, o = .nx [.val (tI ms), .val (.int near), .val (.int gap), .val (.int most), F, .val (.int (k : Nat)), .obj 0 (.lst (lT (L ++ grow ms near gap most k row))), .val (tI row), ob b, .un] := by
  refine forG_rng (S := List (List Int) × Option D) (fun s => [.val (tI ms), .val (.int near), .val (.int gap), .val (.int most), F, .val (.int (k : Nat)), .obj 0 (.lst (lT s.1)), .val (tI row), ob s.2, .un])
    (fun i s => s.1 = L ++ ((List.range i).filter fun one : Nat => okOne ms near gap row k one).map fun one : Nat => row ++ [(one : Int)]) (s := (L, b)) (by simp) ?_ ?_
  · rintro i ⟨L1, b⟩ hi h
    simp only at h
    have hlen : L1.length ≤ L.length + i := by
      rw [h, List.length_append, List.length_map]
      have := List.length_filter_le (fun one : Nat => okOne ms near gap row k one) (List.range i)
      simp only [List.length_range] at this
      omega
    have hst : ∀ r : Bool, okOne ms near gap row k i = r → (L ++ ((List.range (i + 1)).filter fun one : Nat => okOne ms near gap row k one).map fun one : Nat => row ++ [(one : Int)]) = if r = true then L1 ++ [row ++ [(i : Int)]] else L1 := by
      intro r hr
      rw [List.range_succ, List.filter_append, List.map_append, ← List.append_assoc, ← h]
      cases r <;> simp [hr]
    simp -implicitDefEqProofs [l1__law_all_clear]
    refine ⟨by omega, by omega, ok_of_eq (comp_int (fun i : Nat => .int (i : Nat)) (fun j => decide (gt ms k - gt ms j < near) && decide (absI ((i : Int) - gt row j) < gap)) (fun o => (o : Int)) fun o ho => ?_) ?_⟩
    · have ho' : o < k := by simpa using ho
      simp -implicitDefEqProofs [gt_ok hk, gt_ok (show o < ms.length by omega), gt_ok (show o < row.length by omega)]
      by_cases q1 : gt ms k - gt ms o < near
      · by_cases q2 : absI ((i : Int) - gt row o) < gap
        · simp -implicitDefEqProofs [q1, q2]
        · simp -implicitDefEqProofs [q1, q2]
      · simp -implicitDefEqProofs [q1]
    · have hk2 : (((List.range k).filter fun j => decide (gt ms k - gt ms j < near) && decide (absI ((i : Int) - gt row j) < gap)) = []) ↔ okOne ms near gap row k i = true := by
        rw [List.filter_eq_nil_iff]
        unfold okOne
        rw [List.all_eq_true]
        simp
        constructor
        · intro h a ha
          have := h a ha
          omega
        · intro h a ha
          have := h a ha
          omega
      cases hr : okOne ms near gap row k i with
      | true =>
        rw [hk2.mpr hr]
        have := hst true hr
        simp -implicitDefEqProofs [lI_one]
        rw [if_pos rfl] at this
        exact ⟨by omega, by omega, congrArg lT this.symm⟩
      | false =>
        have hne : ¬ ((List.range k).filter fun j => decide (gt ms k - gt ms j < near) && decide (absI ((i : Int) - gt row j) < gap)) = [] := fun z => by
          rw [hk2.mp z] at hr
          cases hr
        generalize ((List.range k).filter fun j => decide (gt ms k - gt ms j < near) && decide (absI ((i : Int) - gt row j) < gap)) = fl at hne ⊢
        have := hst false hr
        simp -implicitDefEqProofs [hne]
        simp only [Bool.false_eq_true, if_false] at this
        exact congrArg lT this.symm
  · rintro ⟨L1, b⟩ h
    simp only at h
    subst h
    exact ⟨b, rfl⟩
theorem ac_middle {ms : List Int} (near gap : Int) (most : Nat) (hl : ms.length ≤ 1000) {k : Nat} (hk : k < ms.length) (F : B) (R : List (List Int)) (hR : ∀ r ∈ R, r.length = k) (b c : Option D) (hb : R.length * (most + 1) ≤ 16777216) (hm : most ≤ 1000) :
    Ok (forG (gNm 7) l2__law_all_clear (R.map fun r => tI r) [.val (tI ms), .val (.int near), .val (.int gap), .val (.int most), F, .val (.int (k : Nat)), .obj 0 (.lst []), ob b, ob c, .un])
      fun o => ∃ b c, o = .nx [.val (tI ms), .val (.int near), .val (.int gap), .val (.int most), F, .val (.int (k : Nat)), .obj 0 (.lst (lT (R.flatMap (grow ms near gap most k)))), ob b, ob c, .un] := by
  refine forG_each (S := List (List Int) × Option D × Option D) (fun r => tI r) (fun s => [.val (tI ms), .val (.int near), .val (.int gap), .val (.int most), F, .val (.int (k : Nat)), .obj 0 (.lst (lT s.1)), ob s.2.1, ob s.2.2, .un])
    (fun i s => s.1 = (R.take i).flatMap (grow ms near gap most k)) (s := ([], b, c)) (by simp) ?_ ?_
  · rintro i row ⟨L, b, c⟩ hi h
    simp only at h
    subst h
    have hiR : i < R.length := by
      rw [List.getElem?_eq_some_iff] at hi
      exact hi.1
    have hlen : ((R.take i).flatMap (grow ms near gap most k)).length ≤ i * (most + 1) := by
      have := flat_len (grow ms near gap most k) (most + 1) (R.take i) (grow_len ms near gap most k)
      rw [List.length_take, Nat.min_eq_left (by omega)] at this
      exact this
    have hb2 : i * (most + 1) + (most + 1) ≤ 16777216 := by
      have := Nat.mul_le_mul_right (most + 1) (show i + 1 ≤ R.length by omega)
      rw [Nat.add_mul, Nat.one_mul] at this
      omega
    simp -implicitDefEqProofs [l2__law_all_clear]
    refine ⟨by omega, ok_then (ac_inner near gap most hl hk F _ row (hR row (List.mem_of_getElem? hi)) c (by omega)) ?_⟩
    rintro _ ⟨c, rfl⟩
    have e : (R.take (i + 1)).flatMap (grow ms near gap most k) = (R.take i).flatMap (grow ms near gap most k) ++ grow ms near gap most k row := by
      rw [List.take_add_one, hi, List.flatMap_append]
      simp
    simp -implicitDefEqProofs [e]
  · rintro ⟨L, b, c⟩ h
    simp only [List.take_length] at h
    subst h
    exact ⟨b, c, rfl⟩
theorem law_all_clear_eq {ms : List Int} (near gap : Int) (most : Nat) (hl : ms.length ≤ 6) (hm : (most + 1) ^ 6 ≤ 16777216) (hm2 : most ≤ 1000) : g__law_all_clear [.val (tI ms), .val (.int near), .val (.int gap), .val (.int most)] =
    some (.val (.bool (decide (0 < (rowsN ms near gap most ms.length).length))), [.val (tI ms), .val (.int near), .val (.int gap), .val (.int most)]) := by
  refine Ok.eq ?_
  simp -implicitDefEqProofs [g__law_all_clear, b__law_all_clear]
  refine ⟨by omega, ok_then (forG_rng (S := Bool × List (List Int) × Option D × Option D × Option D × Option D) (Q := fun o => ∃ f a b c d, o = .nx [.val (tI ms), .val (.int near), .val (.int gap), .val (.int most), fbOf f (lT (rowsN ms near gap most ms.length)), ob a, ob b, ob c, ob d, .un])
    (fun s => [.val (tI ms), .val (.int near), .val (.int gap), .val (.int most), fbOf s.1 (lT s.2.1), ob s.2.2.1, ob s.2.2.2.1, ob s.2.2.2.2.1, ob s.2.2.2.2.2, .un])
    (fun i s => s.2.1 = rowsN ms near gap most i) (s := (true, [[]], none, none, none, none)) rfl ?_ ?_) ?_⟩
  · rintro i ⟨f, R, a, b, c, d⟩ hi h
    simp only at h
    subst h
    have hR := rowsN_row ms near gap most i
    have hlen : (rowsN ms near gap most i).length * (most + 1) ≤ 16777216 := by
      have h1 := Nat.mul_le_mul_right (most + 1) (rowsN_len ms near gap most i)
      rw [← Nat.pow_succ] at h1
      exact Nat.le_trans h1 (Nat.le_trans (Nat.pow_le_pow_right (by omega) (by omega)) hm)
    cases f with
    | true =>
      simp -implicitDefEqProofs [l3__law_all_clear, fbOf]
      refine ok_then (ac_middle near gap most (by omega) hi _ _ hR c d hlen hm2) ?_
      rintro _ ⟨c, d, rfl⟩
      simp -implicitDefEqProofs
      exact congrArg lT (rowsN_succ ms near gap most i).symm
    | false =>
      simp -implicitDefEqProofs [l3__law_all_clear, fbOf]
      refine ok_then (ac_middle near gap most (by omega) hi _ _ hR c d hlen hm2) ?_
      rintro _ ⟨c, d, rfl⟩
      simp -implicitDefEqProofs
      exact congrArg lT (rowsN_succ ms near gap most i).symm
  · rintro ⟨f, R, a, b, c, d⟩ h
    simp only at h
    subst h
    exact ⟨f, a, b, c, d, rfl⟩
  · rintro _ ⟨f, a, b, c, d, rfl⟩
    cases f <;> simp -implicitDefEqProofs [fbOf]

end PV
namespace PV
open PySem PySem.Spec PyProof.Rows L2
@[irreducible] def t3 : SF := (sSeq (sAsg (eComp (iRange1 (aCons (eCB gLen (aCons (eVar 2) aNil)) aNil)) (gNm 16) (tfOf (eOp gLt (eCB gAbs (aCons (eOp (gI0 fun i j => .int (i - j)) (eOp gIx (eVar 2) (eVar 16)) (eVar 12)) aNil)) (eVar 3))) (frz (eOp gIx (eVar 5) (eVar 16))) [16]) (gNm 13))
  (sSeq (sAsg (eOp gIx (eComp (iRange1 (aCons (eOp gAdd (eCB gLen (aCons (eVar 13) aNil)) (eC (.int 1))) aNil)) (gNm 15) (tfOf (eOp (gIn true) (eVar 15) (eVar 13))) (frz (eVar 15)) [15]) (eC (.int 0))) (gNm 14))
  (sIf (tfNot (tfTru (eCall g__law_same (aCons (frz (eCall g_added_mast (aCons (eVar 2) (aCons (eVar 3) (aCons (eVar 12) aNil))))) (aCons (eVar 14) aNil))))) (sRet (eC (.bool false))) sNext)))
theorem l3_eq : l3__law_is_right = sSeq (sAsg (eOp gIx (eLst (aCons (frz (eVar 1)) (aCons (frz (eCall g__law_take (aCons (eVar 0) (aCons (eC (.int 30)) aNil)))) (aCons (frz (eOp (gI0 fun i j => .int (i - j)) (eOp gAdd (eOp gIx (eOp gAdd (eVar 2) (eTup (aCons (eC (.int 0)) aNil))) (eCall g__law_take (aCons (eVar 0) (aCons (frz (eOp gAdd (eCB gLen (aCons (eVar 2) aNil)) (eC (.int 1)))) aNil)))) (eCall g__law_take (aCons (eVar 0) (aCons (eC (.int 5)) aNil)))) (eC (.int 2)))) aNil)))) (eCall g__law_take (aCons (eVar 0) (aCons (eC (.int 3)) aNil)))) (gNm 12)) t3 := by
  unfold t3
  rfl
theorem same_int (i : Int) : g__law_same [.val (.int i), .val (.int i)] = some (.val (.bool true), [.val (.int i), .val (.int i)]) := same_ok (by simp [sm])
theorem same_bool (i : Bool) : g__law_same [.val (.bool i), .val (.bool i)] = some (.val (.bool true), [.val (.bool i), .val (.bool i)]) := same_ok (by simp [sm])
theorem same_ints {xs : List Int} (h : xs.length ≤ 16777216) : g__law_same [.val (tI xs), .val (tI xs)] = some (.val (.bool true), [.val (tI xs), .val (tI xs)]) := same_ok (sm_ints (n := 4) h)
theorem t3_ok {ms : List Int} (near at_ : Int) (hl : ms.length ≤ 100) (ds : List Int) (e1 e4 e6 e7 e8 e9 e10 e11 : B) (tk : Option (List D)) (du : Option D) :
    Ok (t3 [.obj 1 (.lst (lI ds)), e1, .val (tI ms), .val (.int near), e4, .val (tI (told ms near)), e6, e7, e8, e9, e10, e11, .val (.int at_), obl tk, ob du, .un, .un])
      fun o => ∃ tk du, o = .nx [.obj 1 (.lst (lI ds)), e1, .val (tI ms), .val (.int near), e4, .val (tI (told ms near)), e6, e7, e8, e9, e10, e11, .val (.int at_), obl tk, ob du, .un, .un] := by
  simp -implicitDefEqProofs [t3]
  refine ⟨by omega, by omega, ok_of_eq (comp_int (fun i : Nat => .int (i : Nat)) (fun o => decide (absI (gt ms o - at_) < near)) (fun o => gt (told ms near) o) fun o ho => ?_) ?_⟩
  · have ho' : o < ms.length := by simpa using ho
    simp -implicitDefEqProofs [gt_ok ho', gt_ok (show o < (told ms near).length by simpa using ho')]
  · have e : (((List.range ms.length).filter fun o => decide (absI (gt ms o - at_) < near)).map fun o => gt (told ms near) o) = addedT ms near at_ := rfl
    rw [e]
    have hlen : (addedT ms near at_).length ≤ ms.length := by
      have := List.length_filter_le (fun o => decide (absI (gt ms o - at_) < near)) (List.range ms.length)
      simp at this
      simpa [addedT] using this
    simp -implicitDefEqProofs
    refine ⟨by omega, by omega, ok_of_eq (comp_int (fun i : Nat => .int (i : Nat)) (freeB (addedT ms near at_)) (fun o => (o : Int)) fun o ho => ?_) ?_⟩
    · simp -implicitDefEqProofs [freeB]
    · have e3 := mex_filter (addedT ms near at_)
      simp -implicitDefEqProofs [e3, added_mast_eq near at_ (show ms.length ≤ 1000 by omega), same_int]
theorem flat_rep {α : Type} (x : α) : ∀ n : Nat, (List.replicate n [x]).flatten = List.replicate n x
  | 0 => rfl
  | n + 1 => by rw [List.replicate_succ, List.flatten_cons, flat_rep x n]; rfl
theorem law_is_right_ok {ms : List Int} {near gap : Int} (ds : List Int) (cell : Int) (hl : ms.length ≤ 100) (hs : ms.Pairwise (· ≤ ·)) (hn : 0 < near) (hg : 1 ≤ gap) :
    Ok (g__law_is_right [.obj 1 (.lst (lI ds)), .val (.int cell), .val (tI ms), .val (.int near), .val (.int gap)]) fun p => ∃ ds', p = (.val (.bool true), [.obj 1 (.lst (lI ds')), .val (.int cell), .val (tI ms), .val (.int near), .val (.int gap)]) := by
  have f0 := fewest_nonneg (ms := ms) (near := near)
  have f1 := fewest_le (ms := ms) (near := near)
  have hc := crowd_fewest hs hn
  have hl2 : ms.length ≤ 1000 := by omega
  have s1 := same_ints (xs := told ms near) (by simp; omega)
  have s2 := same_ints (xs := toI (crowdN ms near ms.length)) (by simp; omega)
  have hsp : (gap * if fewest ms near - 1 < 0 then 0 else fewest ms near - 1) = spanI ms near gap := rfl
  have hmul : mulOk gap (if fewest ms near - 1 < 0 then 0 else fewest ms near - 1) = true := mulOk_r (by split <;> omega)
  simp -implicitDefEqProofs [g__law_is_right, b__law_is_right, law_told_eq near hl2, law_crowd_eq hl2 hs hn, lI_one, told_channels_eq near hl2, s1, fewest_channels_eq near hl2, fewest_law, same_int, hn, crowded_masts_eq near hl2, s2, hc, least_span_eq near gap hl2 (show fewest ms near ≤ 10000 by omega), hmul, hsp]
  refine ⟨by omega, by omega, ok_of_eq (comp_allI (fun i : Int => .int i) (fun t => gap * t) (l := told ms near) fun t ht => ?_) ?_⟩
  · obtain ⟨a, ha, rfl⟩ := mem_told ht
    have h1 := told_nonneg (near := near) ha
    have h2 := told_le (near := near) ha
    simp -implicitDefEqProofs
    exact mulOk_r (by omega)
  · have e1 : ((told ms near).map fun t => gap * t) = wide ms near gap := rfl
    rw [e1]
    simp -implicitDefEqProofs [flat_rep, rgOk, big62_iff]
    have hz : (List.replicate ms.length (lI [0])).flatten = lI (List.replicate ms.length 0) := by
      show (List.replicate ms.length [PyData.int 0]).flatten = _
      rw [flat_rep, lI_def, List.map_replicate]
    have e2 : [tI (told ms near), PyData.tuple (lI (wide ms near gap)), PyData.tuple (List.replicate ms.length (lI [0])).flatten, PyData.tuple ((List.range ms.length).map fun i => PyData.int (i : Nat))] =
        lT [told ms near, wide ms near gap, List.replicate ms.length 0, toI (List.range ms.length)] := by
      rw [hz, ← lI_map]
      rfl
    rw [e2]
    have hw := wide_len (ms := ms) (near := near) gap
    refine ⟨by omega, by omega, ok_then (forG_rng (S := List Int × List (List Int) × Option D) (Q := fun o => ∃ ds' P b, (∀ r ∈ P, r.length ≤ 2001) ∧ o = .nx [.obj 1 (.lst (lI ds')), .val (.int cell), .val (tI ms), .val (.int near), .val (.int gap), .val (tI (told ms near)), .val (tI (toI (crowdN ms near ms.length))), .val (.int (fewest ms near)), .val (tI (wide ms near gap)), .obj 0 (.lst (lT P)), ob b, .un, .un, .un, .un, .un, .un])
      (fun s => [.obj 1 (.lst (lI s.1)), .val (.int cell), .val (tI ms), .val (.int near), .val (.int gap), .val (tI (told ms near)), .val (tI (toI (crowdN ms near ms.length))), .val (.int (fewest ms near)), .val (tI (wide ms near gap)), .obj 0 (.lst (lT s.2.1)), ob s.2.2, .un, .un, .un, .un, .un, .un])
      (fun i s => s.2.1.length = 4 + i ∧ ∀ r ∈ s.2.1, r.length ≤ 2001) (s := (ds, [told ms near, wide ms near gap, List.replicate ms.length 0, toI (List.range ms.length)], none)) ?_ ?_ ?_) ?_⟩
    · refine ⟨rfl, ?_⟩
      intro r hr
      simp only [List.mem_cons, List.not_mem_nil, or_false] at hr
      rcases hr with rfl | rfl | rfl | rfl
      · simp; omega
      · omega
      · simp; omega
      · simp; omega
    · rintro i ⟨d, P, b⟩ hi ⟨h1, h2⟩
      simp only at h1 h2
      have hm : Int.fmod (i : Int) 2 = ((i % 2 : Nat) : Int) := fmod_nat i 2
      obtain h0 | h0 : i % 2 = 0 ∨ i % 2 = 1 := by omega
      · simp -implicitDefEqProofs [l1__law_is_right, hm, h0]
        refine ok_then (law_bent_ok d cell (wide ms near gap) (by omega)) ?_
        rintro _ ⟨ds', cs, h3, rfl⟩
        simp -implicitDefEqProofs [h1]
        refine ⟨by omega, _, _, ⟨rfl, rfl⟩, by simp [h1]; omega, fun r hr => ?_⟩
        rcases List.mem_append.mp hr with hr | hr
        · exact h2 r hr
        · rw [List.mem_singleton.mp hr]
          exact h3
      · simp -implicitDefEqProofs [l1__law_is_right, hm, h0]
        refine ok_then (law_bent_ok d cell (told ms near) (by simp; omega)) ?_
        rintro _ ⟨ds', cs, h3, rfl⟩
        simp -implicitDefEqProofs [h1]
        refine ⟨by omega, _, _, ⟨rfl, rfl⟩, by simp [h1]; omega, fun r hr => ?_⟩
        rcases List.mem_append.mp hr with hr | hr
        · exact h2 r hr
        · rw [List.mem_singleton.mp hr]
          exact h3
    · rintro ⟨d, P, b⟩ ⟨h1, h2⟩
      exact ⟨d, P, b, h2, rfl⟩
    · rintro _ ⟨ds', P, b, hP, rfl⟩
      have hcl := law_clear_eq ms near gap (wide ms near gap) hl2 (by omega)
      rw [wide_clear hg] at hcl
      simp -implicitDefEqProofs
      refine ok_then (forG_each (S := Option D) (Q := fun o => ∃ c, o = .nx [.obj 1 (.lst (lI ds')), .val (.int cell), .val (tI ms), .val (.int near), .val (.int gap), .val (tI (told ms near)), .val (tI (toI (crowdN ms near ms.length))), .val (.int (fewest ms near)), .val (tI (wide ms near gap)), .obj 2 (.lst (lT P)), ob b, ob c, .un, .un, .un, .un, .un]) (fun r => tI r)
        (fun s => [.obj 1 (.lst (lI ds')), .val (.int cell), .val (tI ms), .val (.int near), .val (.int gap), .val (tI (told ms near)), .val (tI (toI (crowdN ms near ms.length))), .val (.int (fewest ms near)), .val (tI (wide ms near gap)), .obj 2 (.lst (lT P)), ob b, ob s, .un, .un, .un, .un, .un])
        (fun _ _ => True) (s := none) trivial ?_ ?_) ?_
      · rintro i r c hi -
        have hr := hP r (List.mem_of_getElem? hi)
        simp -implicitDefEqProofs [l2__law_is_right, are_clear_eq ms near gap r hl2 (by omega), law_clear_eq ms near gap r hl2 (by omega), same_bool]
      · rintro c -
        exact ⟨c, rfl⟩
      · rintro _ ⟨c, rfl⟩
        simp -implicitDefEqProofs [hcl]
        refine ok_then (forG_rng (S := List Int × Option D × Option D × Option (List D) × Option D) (Q := fun o => ∃ ds' η', o = .nx ([.obj 1 (.lst (lI ds')), .val (.int cell), .val (tI ms), .val (.int near), .val (.int gap)] ++ η') ∧ η'.length = 12)
          (fun s => [.obj 1 (.lst (lI s.1)), .val (.int cell), .val (tI ms), .val (.int near), .val (.int gap), .val (tI (told ms near)), .val (tI (toI (crowdN ms near ms.length))), .val (.int (fewest ms near)), .val (tI (wide ms near gap)), .obj 0 (.lst (lT P)), ob s.2.1, ob c, ob s.2.2.1, obl s.2.2.2.1, ob s.2.2.2.2, .un, .un])
          (fun _ _ => True) (s := (ds', b, none, none, none)) trivial ?_ ?_) ?_
        · rintro i ⟨d, b, at_, tk, du⟩ hi -
          have fin_ : ∀ (d2 : List Int) (x : Int), Ok (t3 [.obj 1 (.lst (lI d2)), .val (.int cell), .val (tI ms), .val (.int near), .val (.int gap), .val (tI (told ms near)), .val (tI (toI (crowdN ms near ms.length))), .val (.int (fewest ms near)), .val (tI (wide ms near gap)), .obj 0 (.lst (lT P)), .val (.int (i : Nat)), ob c, .val (.int x), obl tk, ob du, .un, .un])
              fun o => ∃ tk du, o = .nx [.obj 1 (.lst (lI d2)), .val (.int cell), .val (tI ms), .val (.int near), .val (.int gap), .val (tI (told ms near)), .val (tI (toI (crowdN ms near ms.length))), .val (.int (fewest ms near)), .val (tI (wide ms near gap)), .obj 0 (.lst (lT P)), .val (.int (i : Nat)), ob c, .val (.int x), obl tk, ob du, .un, .un] := by
            intro d2 x
            have h := t3_ok near x hl d2 (.val (.int cell)) (.val (.int gap)) (.val (tI (toI (crowdN ms near ms.length)))) (.val (.int (fewest ms near))) (.val (tI (wide ms near gap))) (.obj 0 (.lst (lT P))) (.val (.int (i : Nat))) (ob c) tk du
            exact h
          simp -implicitDefEqProofs [l3_eq]
          refine take_ok (by decide) fun v1 _ w1 => ?_
          simp -implicitDefEqProofs [lI_one]
          refine ⟨by omega, take_ok (by omega) fun v2 _ w2 => ?_⟩
          have hv2 : v2 < (ms ++ [0]).length := by simp; omega
          simp -implicitDefEqProofs [gt_ok hv2]
          refine take_ok (by decide) fun v3 _ w3 => ?_
          simp -implicitDefEqProofs
          refine take_ok (by decide) fun v4 _ w4 => ?_
          obtain rfl | rfl | rfl : v4 = 0 ∨ v4 = 1 ∨ v4 = 2 := by omega
          all_goals
            simp -implicitDefEqProofs
            refine ok_then (fin_ _ _) ?_
            rintro _ ⟨tk, du, rfl⟩
            simp -implicitDefEqProofs
        · rintro ⟨d, b, at_, tk, du⟩ -
          exact ⟨d, _, rfl, rfl⟩
        · rintro _ ⟨d, η', rfl, hη⟩
          simp -implicitDefEqProofs [backArgs]

end PV
namespace PV
open PySem PySem.Spec PyProof.Rows L2
def oI : Option Int → D
  | none => .none
  | some l => .int l
theorem seats_right_ok {ms : List Int} {near : Int} (hl : ms.length ≤ 100) (hs : ms.Pairwise (· ≤ ·)) (hn : 0 < near) :
    g__law_are_seats_right [.val (tI ms), .val (.int near)] = some (.val (.bool true), [.val (tI ms), .val (.int near)]) := by
  have hl2 : ms.length ≤ 1000 := by omega
  have hap := apart_eq near ms (0, none) [] rfl (by simp) (by simp)
  refine Ok.eq ?_
  simp -implicitDefEqProofs [g__law_are_seats_right, b__law_are_seats_right, lI_one]
  refine ⟨by omega, by omega, ok_of_eq (comp_all (fun i : Int => .int i) (fun m => tI [m - minI (0 :: ms), m - minI (0 :: ms) + near]) (l := ms) fun m hm => ?_) ?_⟩
  · simp -implicitDefEqProofs [lI_one]
  · have e : (ms.map fun m => tI [m - minI (0 :: ms), m - minI (0 :: ms) + near]) = booking (minI (0 :: ms)) near ms := rfl
    rw [e]
    simp -implicitDefEqProofs [fewest_seats_eq (minI (0 :: ms)) near hl2, seats_fewest hs hn, fewest_channels_eq near hl2, same_int]
    refine ok_then (forG_each (S := (Nat × Option Int) × Option D) (Q := fun o => ∃ l b, o = .nx [.val (tI ms), .val (.int near), .val (.int (minI (0 :: ms))), .val (.tuple (booking (minI (0 :: ms)) near ms)), .val (.int ((ms.foldl (apartF near) (0, none)).1 : Nat)), .val l, ob b]) (fun m : Int => .int m)
      (fun s => [.val (tI ms), .val (.int near), .val (.int (minI (0 :: ms))), .val (.tuple (booking (minI (0 :: ms)) near ms)), .val (.int (s.1.1 : Nat)), .val (oI s.1.2), ob s.2])
      (fun i s => s.1 = (ms.take i).foldl (apartF near) (0, none)) (s := ((0, none), none)) rfl ?_ ?_) ?_
    · rintro i m ⟨⟨n, o⟩, b⟩ hi h
      simp only at h
      have hst : (ms.take (i + 1)).foldl (apartF near) (0, none) = apartF near (n, o) m := by
        rw [List.take_add_one, hi, List.foldl_append, ← h]
        rfl
      cases o with
      | none =>
        simp -implicitDefEqProofs [l1__law_are_seats_right, oI, hst, apartF]
      | some x =>
        by_cases hc : near ≤ m - x
        · simp -implicitDefEqProofs [l1__law_are_seats_right, oI, hst, apartF, hc]
        · simp -implicitDefEqProofs [l1__law_are_seats_right, oI, hst, apartF, hc]
    · rintro ⟨⟨n, o⟩, b⟩ h
      simp only [List.take_length] at h
      refine ⟨oI o, b, ?_⟩
      rw [← h]
    · rintro _ ⟨l, b, rfl⟩
      simp -implicitDefEqProofs

      refine ⟨by omega, ok_of_eq (comp_all (fun i : Int => .int i) (fun m => tI [m, m + near - 1]) (l := ms) fun m hm => ?_) ?_⟩
      · simp -implicitDefEqProofs [lI_one]
      · have e : (ms.map fun m => tI [m, m + near - 1]) = stretch near ms := rfl
        rw [e]
        simp -implicitDefEqProofs [fewest_masts_eq near hl2 hs, hap, same_int]

end PV
namespace PV
open PySem PySem.Spec PyProof.Rows L2
theorem absI_nonneg (x : Int) : 0 ≤ absI x := by
  unfold absI
  split <;> omega
theorem span_bounds {ms : List Int} {near gap : Int} (hl : ms.length ≤ 6) (hg : 1 ≤ gap) (hg3 : gap ≤ 3) : 0 ≤ spanI ms near gap ∧ spanI ms near gap ≤ 15 := by
  rw [spanI_eq]
  have a := fewest_nonneg (ms := ms) (near := near)
  have b := fewest_le (ms := ms) (near := near)
  have c : 0 ≤ max (fewest ms near - 1) 0 ∧ max (fewest ms near - 1) 0 ≤ 5 := by omega
  refine ⟨Int.mul_nonneg (by omega) c.1, ?_⟩
  have := Int.mul_le_mul (show gap ≤ 3 by omega) c.2 c.1 (show (0 : Int) ≤ 3 by decide)
  omega
theorem ite_same {p : Prop} [Decidable p] {A X : Prop} (h1 : p → X → A) (hX : X) : if p then A else X := by
  split
  · exact h1 ‹_› hX
  · exact hX
theorem pick {α : Type} {xs : List α} {i : Nat} {k : Kont α} (hi : i < xs.length) (h : ∀ x ∈ xs, k.run x) : @OkI α xs[i]? k := by
  rw [List.getElem?_eq_getElem hi]
  exact h _ (List.getElem_mem hi)
theorem law_ok (ns : List Int) (h63 : ns.length ≤ 63) : Ok (g_law [.zl (lI ns)]) fun p => ∃ η', p = (.val (.bool true), η') := by
  simp -implicitDefEqProofs [g_law, b_law]
  refine ok_then (draws_ok ns 320 (by decide) (by omega)) ?_
  rintro _ ⟨ds, rfl⟩
  simp -implicitDefEqProofs
  refine ok_then (cell_ok ns ds) ?_
  rintro _ ⟨c, ds1, rfl⟩
  simp -implicitDefEqProofs
  refine take_ok (by decide) fun v1 _ w1 => ?_
  simp -implicitDefEqProofs
  refine ok_then (law_masts_ok ns ds1.dropLast v1 6 (by omega) (by decide)) ?_
  rintro _ ⟨ms, ds2, hs, hml, rfl⟩
  simp -implicitDefEqProofs
  refine take_ok (by decide) fun v2 _ w2 => ?_
  simp -implicitDefEqProofs
  refine take_ok (by decide) fun v3 _ w3 => ?_
  have hl6 : ms.length ≤ 6 := by omega
  have hl2 : ms.length ≤ 1000 := by omega
  simp -implicitDefEqProofs
  generalize hN : (1 : Int) + (v2 : Int) = near
  generalize hG : (1 : Int) + (v3 : Int) = gap
  have hn : 0 < near := by omega
  have hg : 1 ≤ gap := by omega
  have hg3 : gap ≤ 3 := by omega
  have hsb := span_bounds (near := near) hl6 hg hg3
  obtain ⟨sp, hsp⟩ : ∃ sp : Nat, spanI ms near gap = (sp : Int) := ⟨_, (Int.toNat_of_nonneg hsb.1).symm⟩
  have hsp15 : sp ≤ 15 := by omega
  have hf := fewest_le (ms := ms) (near := near)
  refine ok_then (law_is_right_ok _ c (by omega) hs hn hg) ?_
  rintro _ ⟨ds3, rfl⟩
  have hpow : (sp + 1) ^ 6 ≤ 16777216 := Nat.le_trans (Nat.pow_le_pow_left (show sp + 1 ≤ 16 by omega) 6) (by decide)
  have hac := law_all_clear_eq near gap sp hl6 hpow (by omega)
  have hsr := span_rows (ms := ms) (near := near) hg (most := sp) (by rw [← hsp, spanI_eq])
  rw [decide_eq_true hsr] at hac
  have hspan := least_span_eq (ms := ms) near gap hl2 (by omega)
  rw [hsp] at hspan
  have hlt : 0 < sp → g__law_all_clear [.val (tI ms), .val (.int near), .val (.int gap), .val (.int ((sp : Int) - 1))] = some (.val (.bool false), [.val (tI ms), .val (.int near), .val (.int gap), .val (.int ((sp : Int) - 1))]) := by
    intro h
    have e : ((sp : Int) - 1) = ((sp - 1 : Nat) : Int) := by omega
    have hz := span_less (ms := ms) (near := near) hs hn hg (most := sp - 1) (by rw [← spanI_eq, hsp]; omega)
    rw [e, law_all_clear_eq near gap (sp - 1) hl6 (Nat.le_trans (Nat.pow_le_pow_left (show sp - 1 + 1 ≤ 16 by omega) 6) (by decide)) (by omega), hz]
    rfl
  have hsr1 := seats_right_ok (near := near) (show ms.length ≤ 100 by omega) hs hn
  simp -implicitDefEqProofs [hspan, hac]
  refine ite_same (fun h hX => ?_) ?_
  · simp -implicitDefEqProofs [hlt h]
    exact hX
  refine take_ok (by decide) fun v4 _ w4 => ?_
  simp -implicitDefEqProofs
  refine take_ok (by decide) fun v5 _ w5 => ?_
  simp -implicitDefEqProofs
  refine take_ok (by decide) fun v6 _ w6 => ?_
  simp -implicitDefEqProofs
  refine pick (by simp; omega) fun x hx => ?_
  obtain ⟨many, hmany, rfl⟩ : ∃ m : Nat, m ≤ 40 ∧ x = .int m := by
    simp only [List.mem_cons, List.not_mem_nil, or_false] at hx
    rcases hx with rfl | rfl
    · exact ⟨v4, by omega, rfl⟩
    · exact ⟨v5, by omega, rfl⟩
  simp -implicitDefEqProofs
  refine ok_then (law_masts_ok ns _ many 9 (by omega) (by decide)) ?_
  rintro _ ⟨ms2, ds4, hs2, hml2, rfl⟩
  simp -implicitDefEqProofs
  refine take_ok (by decide) fun v7 _ w7 => ?_
  simp -implicitDefEqProofs
  refine take_ok (by decide) fun v8 _ w8 => ?_
  simp -implicitDefEqProofs
  refine take_ok (by decide) fun v9 _ w9 => ?_
  simp -implicitDefEqProofs
  have hca := absI_nonneg c
  refine pick (by simp; omega) fun x hx => ?_
  obtain ⟨wd, hwd, rfl⟩ : ∃ m : Int, 0 < m ∧ x = .int m := by
    simp only [List.mem_cons, List.not_mem_nil, or_false] at hx
    rcases hx with rfl | rfl | rfl
    · exact ⟨_, by omega, rfl⟩
    · exact ⟨_, by omega, rfl⟩
    · exact ⟨_, by omega, rfl⟩
  simp -implicitDefEqProofs
  refine take_ok (by decide) fun v10 _ w10 => ?_
  simp -implicitDefEqProofs
  refine pick (by simp; omega) fun x hx => ?_
  obtain ⟨gp, hgp, rfl⟩ : ∃ m : Int, 1 ≤ m ∧ x = .int m := by
    simp only [List.mem_cons, List.not_mem_nil, or_false] at hx
    rcases hx with rfl | rfl
    · exact ⟨_, by omega, rfl⟩
    · exact ⟨_, by omega, rfl⟩
  simp -implicitDefEqProofs
  refine ok_then (law_is_right_ok _ c (by omega) hs2 hwd hgp) ?_
  rintro _ ⟨ds5, rfl⟩
  have c1 := told_channels_eq (ms := [0, 2, 3, 3, 9, 10]) 4 (by decide)
  have c2 := crowded_masts_eq (ms := [0, 2, 3, 3, 9, 10]) 4 (by decide)
  have c3 := least_span_eq (ms := [0, 2, 3, 3, 9, 10]) 4 2 (by decide) (by decide +kernel)
  have c4 := told_channels_eq (ms := [0, 2, 3, 3, 9, 10]) 2 (by decide)
  have c5 := added_mast_eq (ms := [0, 2, 3, 3, 9, 10]) 4 6 (by decide)
  have c6 := added_mast_eq (ms := [0, 2, 3, 3, 9, 10]) 4 5 (by decide)
  have c7 := fewest_channels_eq (ms := []) 3 (by decide)
  have c8 := crowded_masts_eq (ms := []) 3 (by decide)
  rw [show told [0, 2, 3, 3, 9, 10] 4 = [0, 1, 2, 3, 0, 1] by decide +kernel] at c1
  rw [show toI (crowdN [0, 2, 3, 3, 9, 10] 4 (List.length [(0 : Int), 2, 3, 3, 9, 10])) = [0, 1, 2, 3] by decide +kernel] at c2
  rw [show spanI [0, 2, 3, 3, 9, 10] 4 2 = 6 by decide +kernel] at c3
  rw [show told [0, 2, 3, 3, 9, 10] 2 = [0, 0, 1, 2, 0, 1] by decide +kernel] at c4
  rw [show ((mex (addedT [0, 2, 3, 3, 9, 10] 4 6) : Nat) : Int) = 1 by decide +kernel] at c5
  rw [show ((mex (addedT [0, 2, 3, 3, 9, 10] 4 5) : Nat) : Int) = 0 by decide +kernel] at c6
  rw [show fewest [] 3 = 0 by decide +kernel] at c7
  rw [show toI (crowdN [] 3 (List.length ([] : List Int))) = [] by decide +kernel] at c8
  simp only [tI, lI_nil] at c7 c8
  have p1 := same_ints (xs := [0, 1, 2, 3, 0, 1]) (by decide)
  have p2 := same_ints (xs := [0, 1, 2, 3]) (by decide)
  have p3 := same_ints (xs := [0, 0, 1, 2, 0, 1]) (by decide)
  have p4 := same_ints (xs := []) (by decide)
  simp only [tI, lI_nil] at p4
  have hsr2 := seats_right_ok (near := wd) (show ms2.length ≤ 100 by omega) hs2 hwd
  simp -implicitDefEqProofs [hsr1, hsr2, lI_one, c1, c2, c3, c4, c5, c6, c7, c8, p1, p2, p3, p4, same_int]
  refine ok_then (law_is_right_ok _ c (by omega) hs hn hg) ?_
  rintro _ ⟨ds6, rfl⟩
  simp -implicitDefEqProofs

end PV
namespace PV
open PySem PySem.Spec PyProof.Rows L2
def spLaw (K : PySem.W.Frag) : Sp := fun vs H Q _ => ∃ (a : Addr) (ns : List Int), vs = [.ref a] ∧ SqZ K H a (ns.map V.int) ∧ ns.length ≤ 63 ∧ ∀ H', Q (.bl true) H'
theorem dn_ints {K : Kf} {F : Addr → Prop} {H : Hp} : ∀ ns : List Int, DnAll K F H (ns.map V.int) (lI ns)
  | [] => .nil
  | i :: ns => .cons (.int i) (dn_ints ns)
theorem law_sp {K : PySem.W.Frag} {vs : List V} {H : Hp} {Q : VK} {E : XK} (h : spLaw K vs H Q E) : spOf K 1 g_law vs H Q E := by
  obtain ⟨a, ns, rfl, hS, h63, q⟩ := h
  obtain ⟨p, e, η', rfl⟩ := ok_ex.mp (law_ok ns h63)
  refine ⟨rfl, fun _ => False, [.zl (lI ns)], _, η', ⟨rfl, fun _ z => z.elim, ?_, ?_, ?_⟩, ?_, e, fun F' H' v s rv fr => ?_⟩
  · intro i b hb
    match i, hb with
    | 0, hb =>
      cases hb
      exact ⟨a, ns.map V.int, rfl, hS, by rw [List.length_map, sizeLine_eq]; omega, dn_ints ns⟩
    | i + 1, hb => simp at hb
  · intro i j b hi
    obtain ⟨_, m, o, z⟩ := hi
    match i, z with
    | 0, z => cases z
    | i + 1, z => simp at z
  · intro i b hi
    obtain ⟨_, m, o, z⟩ := hi
    match i, z with
    | 0, z => cases z
    | i + 1, z => simp at z
  · intro b hb
    rw [List.mem_singleton.mp hb]
    trivial
  · rw [bool_dn rv]
    exact q H'
theorem script_z {K : PySem.W.Frag} {H : Hp} {a : Addr} {xs : List V} (hO : Only H) (hS : SqL K H a xs) : SqZ K H a xs := by
  rcases hS with (h | h) | h
  · rcases hO a with z | ⟨o, u, z⟩
    · rw [z] at h
      cases h
    · rw [z] at h
      cases h
  · exact .inl h
  · exact .inr h
theorem all_mk {l : PySem.W.OpenLaw} {w : World} {K : PySem.W.Frag} {h : Heap} {mg : Str → Option Value} {fa f1 f2 f3 f4 f5 f6 f7 f8 f9 f10 f11 f12 f13 f14 f15 f16 f17 f18 f19 f20 f21 f22 f23 f24 f25 : Addr} (X : K.In h) (G : h.Ns mainGlobals mg) (hfa : mg "law" = some (.ref fa))
    {od1 an1 od2 an2 od3 an3 od4 an4 od5 an5 od6 an6 od7 an7 od8 an8 od9 an9 od10 an10 od11 an11 od12 an12 od13 an13 od14 an14 od15 an15 od16 an16 od17 an17 od18 an18 od19 an19 od20 an20 od21 an21 od22 an22 od23 an23 od24 an24 od25 an25 : Option Addr} {sl1 sl2 sl3 sl4 sl5 sl6 sl7 sl8 sl9 sl10 sl11 sl12 sl13 sl14 sl15 sl16 sl17 sl18 sl19 sl20 sl21 sl22 sl23 sl24 sl25 : Array (Option Value)} {oc1 kV1 dc1 pm1 cd1 ct1 oc2 kV2 dc2 pm2 cd2 ct2 oc3 kV3 dc3 pm3 cd3 ct3 oc4 kV4 dc4 pm4 cd4 ct4 oc5 kV5 dc5 pm5 cd5 ct5 oc6 kV6 dc6 pm6 cd6 ct6 oc7 kV7 dc7 pm7 cd7 ct7 oc8 kV8 dc8 pm8 cd8 ct8 oc9 kV9 dc9 pm9 cd9 ct9 oc10 kV10 dc10 pm10 cd10 ct10 oc11 kV11 dc11 pm11 cd11 ct11 oc12 kV12 dc12 pm12 cd12 ct12 oc13 kV13 dc13 pm13 cd13 ct13 oc14 kV14 dc14 pm14 cd14 ct14 oc15 kV15 dc15 pm15 cd15 ct15 oc16 kV16 dc16 pm16 cd16 ct16 oc17 kV17 dc17 pm17 cd17 ct17 oc18 kV18 dc18 pm18 cd18 ct18 oc19 kV19 dc19 pm19 cd19 ct19 oc20 kV20 dc20 pm20 cd20 ct20 oc21 kV21 dc21 pm21 cd21 ct21 oc22 kV22 dc22 pm22 cd22 ct22 oc23 kV23 dc23 pm23 cd23 ct23 oc24 kV24 dc24 pm24 cd24 ct24 oc25 kV25 dc25 pm25 cd25 ct25 : Value}
    (a1 : PySem.W.nsIn K mainGlobals "near_ahead" = some (some (.ref f1))) (l1 : K.lookup f1 = some ⟨oc1, od1, .func (PySem.W.fnOf "near_ahead" "near_ahead" (defArgs s_near_ahead) (defBody s_near_ahead) (defScope s_near_ahead) .none kV1 dc1 pm1 an1 cd1 ct1), sl1⟩) (c1 : PySem.W.codeIn K cd1 "near_ahead" = true) (k1 : PySem.W.keepIn K (.ref f1) = true)
    (a2 : PySem.W.nsIn K mainGlobals "are_clear" = some (some (.ref f2))) (l2 : K.lookup f2 = some ⟨oc2, od2, .func (PySem.W.fnOf "are_clear" "are_clear" (defArgs s_are_clear) (defBody s_are_clear) (defScope s_are_clear) .none kV2 dc2 pm2 an2 cd2 ct2), sl2⟩) (c2 : PySem.W.codeIn K cd2 "are_clear" = true) (k2 : PySem.W.keepIn K (.ref f2) = true)
    (a3 : PySem.W.nsIn K mainGlobals "least_free" = some (some (.ref f3))) (l3 : K.lookup f3 = some ⟨oc3, od3, .func (PySem.W.fnOf "least_free" "least_free" (defArgs s_least_free) (defBody s_least_free) (defScope s_least_free) .none kV3 dc3 pm3 an3 cd3 ct3), sl3⟩) (c3 : PySem.W.codeIn K cd3 "least_free" = true) (k3 : PySem.W.keepIn K (.ref f3) = true)
    (a4 : PySem.W.nsIn K mainGlobals "told_channels" = some (some (.ref f4))) (l4 : K.lookup f4 = some ⟨oc4, od4, .func (PySem.W.fnOf "told_channels" "told_channels" (defArgs s_told_channels) (defBody s_told_channels) (defScope s_told_channels) .none kV4 dc4 pm4 an4 cd4 ct4), sl4⟩) (c4 : PySem.W.codeIn K cd4 "told_channels" = true) (k4 : PySem.W.keepIn K (.ref f4) = true)
    (a5 : PySem.W.nsIn K mainGlobals "fewest_channels" = some (some (.ref f5))) (l5 : K.lookup f5 = some ⟨oc5, od5, .func (PySem.W.fnOf "fewest_channels" "fewest_channels" (defArgs s_fewest_channels) (defBody s_fewest_channels) (defScope s_fewest_channels) .none kV5 dc5 pm5 an5 cd5 ct5), sl5⟩) (c5 : PySem.W.codeIn K cd5 "fewest_channels" = true) (k5 : PySem.W.keepIn K (.ref f5) = true)
    (a6 : PySem.W.nsIn K mainGlobals "least_span" = some (some (.ref f6))) (l6 : K.lookup f6 = some ⟨oc6, od6, .func (PySem.W.fnOf "least_span" "least_span" (defArgs s_least_span) (defBody s_least_span) (defScope s_least_span) .none kV6 dc6 pm6 an6 cd6 ct6), sl6⟩) (c6 : PySem.W.codeIn K cd6 "least_span" = true) (k6 : PySem.W.keepIn K (.ref f6) = true)
    (a7 : PySem.W.nsIn K mainGlobals "crowded_masts" = some (some (.ref f7))) (l7 : K.lookup f7 = some ⟨oc7, od7, .func (PySem.W.fnOf "crowded_masts" "crowded_masts" (defArgs s_crowded_masts) (defBody s_crowded_masts) (defScope s_crowded_masts) .none kV7 dc7 pm7 an7 cd7 ct7), sl7⟩) (c7 : PySem.W.codeIn K cd7 "crowded_masts" = true) (k7 : PySem.W.keepIn K (.ref f7) = true)
    (a8 : PySem.W.nsIn K mainGlobals "added_mast" = some (some (.ref f8))) (l8 : K.lookup f8 = some ⟨oc8, od8, .func (PySem.W.fnOf "added_mast" "added_mast" (defArgs s_added_mast) (defBody s_added_mast) (defScope s_added_mast) .none kV8 dc8 pm8 an8 cd8 ct8), sl8⟩) (c8 : PySem.W.codeIn K cd8 "added_mast" = true) (k8 : PySem.W.keepIn K (.ref f8) = true)
    (a9 : PySem.W.nsIn K mainGlobals "by_until" = some (some (.ref f9))) (l9 : K.lookup f9 = some ⟨oc9, od9, .func (PySem.W.fnOf "by_until" "by_until" (defArgs s_by_until) (defBody s_by_until) (defScope s_by_until) .none kV9 dc9 pm9 an9 cd9 ct9), sl9⟩) (c9 : PySem.W.codeIn K cd9 "by_until" = true) (k9 : PySem.W.keepIn K (.ref f9) = true)
    (a10 : PySem.W.nsIn K mainGlobals "told_masts" = some (some (.ref f10))) (l10 : K.lookup f10 = some ⟨oc10, od10, .func (PySem.W.fnOf "told_masts" "told_masts" (defArgs s_told_masts) (defBody s_told_masts) (defScope s_told_masts) .none kV10 dc10 pm10 an10 cd10 ct10), sl10⟩) (c10 : PySem.W.codeIn K cd10 "told_masts" = true) (k10 : PySem.W.keepIn K (.ref f10) = true)
    (a11 : PySem.W.nsIn K mainGlobals "fewest_masts" = some (some (.ref f11))) (l11 : K.lookup f11 = some ⟨oc11, od11, .func (PySem.W.fnOf "fewest_masts" "fewest_masts" (defArgs s_fewest_masts) (defBody s_fewest_masts) (defScope s_fewest_masts) .none kV11 dc11 pm11 an11 cd11 ct11), sl11⟩) (c11 : PySem.W.codeIn K cd11 "fewest_masts" = true) (k11 : PySem.W.keepIn K (.ref f11) = true)
    (a12 : PySem.W.nsIn K mainGlobals "fewest_seats" = some (some (.ref f12))) (l12 : K.lookup f12 = some ⟨oc12, od12, .func (PySem.W.fnOf "fewest_seats" "fewest_seats" (defArgs s_fewest_seats) (defBody s_fewest_seats) (defScope s_fewest_seats) .none kV12 dc12 pm12 an12 cd12 ct12), sl12⟩) (c12 : PySem.W.codeIn K cd12 "fewest_seats" = true) (k12 : PySem.W.keepIn K (.ref f12) = true)
    (a13 : PySem.W.nsIn K mainGlobals "_law_draws" = some (some (.ref f13))) (l13 : K.lookup f13 = some ⟨oc13, od13, .func (PySem.W.fnOf "_law_draws" "_law_draws" (defArgs s__law_draws) (defBody s__law_draws) (defScope s__law_draws) .none kV13 dc13 pm13 an13 cd13 ct13), sl13⟩) (c13 : PySem.W.codeIn K cd13 "_law_draws" = true) (k13 : PySem.W.keepIn K (.ref f13) = true)
    (a14 : PySem.W.nsIn K mainGlobals "_law_take" = some (some (.ref f14))) (l14 : K.lookup f14 = some ⟨oc14, od14, .func (PySem.W.fnOf "_law_take" "_law_take" (defArgs s__law_take) (defBody s__law_take) (defScope s__law_take) .none kV14 dc14 pm14 an14 cd14 ct14), sl14⟩) (c14 : PySem.W.codeIn K cd14 "_law_take" = true) (k14 : PySem.W.keepIn K (.ref f14) = true)
    (a15 : PySem.W.nsIn K mainGlobals "_law_cell" = some (some (.ref f15))) (l15 : K.lookup f15 = some ⟨oc15, od15, .func (PySem.W.fnOf "_law_cell" "_law_cell" (defArgs s__law_cell) (defBody s__law_cell) (defScope s__law_cell) .none kV15 dc15 pm15 an15 cd15 ct15), sl15⟩) (c15 : PySem.W.codeIn K cd15 "_law_cell" = true) (k15 : PySem.W.keepIn K (.ref f15) = true)
    (a16 : PySem.W.nsIn K mainGlobals "_law_same" = some (some (.ref f16))) (l16 : K.lookup f16 = some ⟨oc16, od16, .func (PySem.W.fnOf "_law_same" "_law_same" (defArgs s__law_same) (defBody s__law_same) (defScope s__law_same) .none kV16 dc16 pm16 an16 cd16 ct16), sl16⟩) (c16 : PySem.W.codeIn K cd16 "_law_same" = true) (k16 : PySem.W.keepIn K (.ref f16) = true)
    (a17 : PySem.W.nsIn K mainGlobals "_law_masts" = some (some (.ref f17))) (l17 : K.lookup f17 = some ⟨oc17, od17, .func (PySem.W.fnOf "_law_masts" "_law_masts" (defArgs s__law_masts) (defBody s__law_masts) (defScope s__law_masts) .none kV17 dc17 pm17 an17 cd17 ct17), sl17⟩) (c17 : PySem.W.codeIn K cd17 "_law_masts" = true) (k17 : PySem.W.keepIn K (.ref f17) = true)
    (a18 : PySem.W.nsIn K mainGlobals "_law_clear" = some (some (.ref f18))) (l18 : K.lookup f18 = some ⟨oc18, od18, .func (PySem.W.fnOf "_law_clear" "_law_clear" (defArgs s__law_clear) (defBody s__law_clear) (defScope s__law_clear) .none kV18 dc18 pm18 an18 cd18 ct18), sl18⟩) (c18 : PySem.W.codeIn K cd18 "_law_clear" = true) (k18 : PySem.W.keepIn K (.ref f18) = true)
    (a19 : PySem.W.nsIn K mainGlobals "_law_told" = some (some (.ref f19))) (l19 : K.lookup f19 = some ⟨oc19, od19, .func (PySem.W.fnOf "_law_told" "_law_told" (defArgs s__law_told) (defBody s__law_told) (defScope s__law_told) .none kV19 dc19 pm19 an19 cd19 ct19), sl19⟩) (c19 : PySem.W.codeIn K cd19 "_law_told" = true) (k19 : PySem.W.keepIn K (.ref f19) = true)
    (a20 : PySem.W.nsIn K mainGlobals "_law_crowd" = some (some (.ref f20))) (l20 : K.lookup f20 = some ⟨oc20, od20, .func (PySem.W.fnOf "_law_crowd" "_law_crowd" (defArgs s__law_crowd) (defBody s__law_crowd) (defScope s__law_crowd) .none kV20 dc20 pm20 an20 cd20 ct20), sl20⟩) (c20 : PySem.W.codeIn K cd20 "_law_crowd" = true) (k20 : PySem.W.keepIn K (.ref f20) = true)
    (a21 : PySem.W.nsIn K mainGlobals "_law_all_clear" = some (some (.ref f21))) (l21 : K.lookup f21 = some ⟨oc21, od21, .func (PySem.W.fnOf "_law_all_clear" "_law_all_clear" (defArgs s__law_all_clear) (defBody s__law_all_clear) (defScope s__law_all_clear) .none kV21 dc21 pm21 an21 cd21 ct21), sl21⟩) (c21 : PySem.W.codeIn K cd21 "_law_all_clear" = true) (k21 : PySem.W.keepIn K (.ref f21) = true)
    (a22 : PySem.W.nsIn K mainGlobals "_law_bent" = some (some (.ref f22))) (l22 : K.lookup f22 = some ⟨oc22, od22, .func (PySem.W.fnOf "_law_bent" "_law_bent" (defArgs s__law_bent) (defBody s__law_bent) (defScope s__law_bent) .none kV22 dc22 pm22 an22 cd22 ct22), sl22⟩) (c22 : PySem.W.codeIn K cd22 "_law_bent" = true) (k22 : PySem.W.keepIn K (.ref f22) = true)
    (a23 : PySem.W.nsIn K mainGlobals "_law_is_right" = some (some (.ref f23))) (l23 : K.lookup f23 = some ⟨oc23, od23, .func (PySem.W.fnOf "_law_is_right" "_law_is_right" (defArgs s__law_is_right) (defBody s__law_is_right) (defScope s__law_is_right) .none kV23 dc23 pm23 an23 cd23 ct23), sl23⟩) (c23 : PySem.W.codeIn K cd23 "_law_is_right" = true) (k23 : PySem.W.keepIn K (.ref f23) = true)
    (a24 : PySem.W.nsIn K mainGlobals "_law_are_seats_right" = some (some (.ref f24))) (l24 : K.lookup f24 = some ⟨oc24, od24, .func (PySem.W.fnOf "_law_are_seats_right" "_law_are_seats_right" (defArgs s__law_are_seats_right) (defBody s__law_are_seats_right) (defScope s__law_are_seats_right) .none kV24 dc24 pm24 an24 cd24 ct24), sl24⟩) (c24 : PySem.W.codeIn K cd24 "_law_are_seats_right" = true) (k24 : PySem.W.keepIn K (.ref f24) = true)
    (a25 : PySem.W.nsIn K mainGlobals "law" = some (some (.ref f25))) (l25 : K.lookup f25 = some ⟨oc25, od25, .func (PySem.W.fnOf "law" "law" (defArgs s_law) (defBody s_law) (defScope s_law) .none kV25 dc25 pm25 an25 cd25 ct25), sl25⟩) (c25 : PySem.W.codeIn K cd25 "law" = true) (k25 : PySem.W.keepIn K (.ref f25) = true)
    (z1 : PySem.W.nsIn K mainGlobals "abs" = some none)
    (z2 : PySem.W.nsIn K mainGlobals "any" = some none)
    (z3 : PySem.W.nsIn K mainGlobals "bool" = some none)
    (z4 : PySem.W.nsIn K mainGlobals "int" = some none)
    (z5 : PySem.W.nsIn K mainGlobals "isinstance" = some none)
    (z6 : PySem.W.nsIn K mainGlobals "len" = some none)
    (z7 : PySem.W.nsIn K mainGlobals "list" = some none)
    (z8 : PySem.W.nsIn K mainGlobals "max" = some none)
    (z9 : PySem.W.nsIn K mainGlobals "min" = some none)
    (z10 : PySem.W.nsIn K mainGlobals "range" = some none)
    (z11 : PySem.W.nsIn K mainGlobals "sorted" = some none)
    (z12 : PySem.W.nsIn K mainGlobals "str" = some none)
    (z13 : PySem.W.nsIn K mainGlobals "tuple" = some none)
    : ∃ fd : FuncData, (∀ (s : Shared) (v : Value), BindsTo s fd ⟨[v], []⟩ [("script", v)]) ∧ ∀ base : Heap, K.In base → base.Ns mainGlobals mg → FnOk l.prog w K mg base CX0 8 fa fd ["script"] (spLaw K) := by
  have e := hfa.symm.trans (PySem.W.mg_of X G a25)
  cases e
  have F1 := fun_mk (st := s_near_ahead) l1 c1 k1
  have F2 := fun_mk (st := s_are_clear) l2 c2 k2
  have F3 := fun_mk (st := s_least_free) l3 c3 k3
  have F4 := fun_mk (st := s_told_channels) l4 c4 k4
  have F5 := fun_mk (st := s_fewest_channels) l5 c5 k5
  have F6 := fun_mk (st := s_least_span) l6 c6 k6
  have F7 := fun_mk (st := s_crowded_masts) l7 c7 k7
  have F8 := fun_mk (st := s_added_mast) l8 c8 k8
  have F9 := fun_mk (st := s_by_until) l9 c9 k9
  have F10 := fun_mk (st := s_told_masts) l10 c10 k10
  have F11 := fun_mk (st := s_fewest_masts) l11 c11 k11
  have F12 := fun_mk (st := s_fewest_seats) l12 c12 k12
  have F13 := fun_mk (st := s__law_draws) l13 c13 k13
  have F14 := fun_mk (st := s__law_take) l14 c14 k14
  have F15 := fun_mk (st := s__law_cell) l15 c15 k15
  have F16 := fun_mk (st := s__law_same) l16 c16 k16
  have F17 := fun_mk (st := s__law_masts) l17 c17 k17
  have F18 := fun_mk (st := s__law_clear) l18 c18 k18
  have F19 := fun_mk (st := s__law_told) l19 c19 k19
  have F20 := fun_mk (st := s__law_crowd) l20 c20 k20
  have F21 := fun_mk (st := s__law_all_clear) l21 c21 k21
  have F22 := fun_mk (st := s__law_bent) l22 c22 k22
  have F23 := fun_mk (st := s__law_is_right) l23 c23 k23
  have F24 := fun_mk (st := s__law_are_seats_right) l24 c24 k24
  have F25 := fun_mk (st := s_law) l25 c25 k25
  have nb : Nb mg := ⟨PySem.W.mg_none_of X G z1, PySem.W.mg_none_of X G z2, PySem.W.mg_none_of X G z3, PySem.W.mg_none_of X G z4, PySem.W.mg_none_of X G z5, PySem.W.mg_none_of X G z6, PySem.W.mg_none_of X G z7, PySem.W.mg_none_of X G z8, PySem.W.mg_none_of X G z9, PySem.W.mg_none_of X G z10, PySem.W.mg_none_of X G z11, PySem.W.mg_none_of X G z12, PySem.W.mg_none_of X G z13⟩
  refine ⟨PySem.W.fnOf "law" "law" (defArgs s_law) (defBody s_law) (defScope s_law) .none kV25 dc25 pm25 an25 cd25 ct25, fun s v => .of_eq rfl, fun base _ _ => ?_⟩
  have C13 : CalG l.prog w K mg base 1 "_law_draws" 2 g__law_draws := ok__law_draws nb F13 (PySem.W.mg_of X G a13)
  have C14 : CalG l.prog w K mg base 1 "_law_take" 2 g__law_take := ok__law_take nb F14 (PySem.W.mg_of X G a14)
  have C15 : CalG l.prog w K mg base 2 "_law_cell" 2 g__law_cell := ok__law_cell nb C14 F15 (PySem.W.mg_of X G a15)
  have C17 : CalG l.prog w K mg base 3 "_law_masts" 4 g__law_masts := ok__law_masts nb C15 C14 F17 (PySem.W.mg_of X G a17)
  have C19 : CalG l.prog w K mg base 1 "_law_told" 2 g__law_told := ok__law_told nb F19 (PySem.W.mg_of X G a19)
  have C20 : CalG l.prog w K mg base 1 "_law_crowd" 2 g__law_crowd := ok__law_crowd nb F20 (PySem.W.mg_of X G a20)
  have C16 : CalG l.prog w K mg base 6 "_law_same" 2 g__law_same := ok__law_same nb F16 (PySem.W.mg_of X G a16)
  have C3 : CalG l.prog w K mg base 1 "least_free" 1 g_least_free := ok_least_free nb F3 (PySem.W.mg_of X G a3)
  have C1 : CalG l.prog w K mg base 1 "near_ahead" 3 g_near_ahead := ok_near_ahead nb F1 (PySem.W.mg_of X G a1)
  have C4 : CalG l.prog w K mg base 2 "told_channels" 2 g_told_channels := ok_told_channels nb C3 C1 F4 (PySem.W.mg_of X G a4)
  have C5 : CalG l.prog w K mg base 3 "fewest_channels" 2 g_fewest_channels := ok_fewest_channels nb C4 F5 (PySem.W.mg_of X G a5)
  have C7 : CalG l.prog w K mg base 1 "crowded_masts" 2 g_crowded_masts := ok_crowded_masts nb F7 (PySem.W.mg_of X G a7)
  have C6 : CalG l.prog w K mg base 4 "least_span" 3 g_least_span := ok_least_span nb C5 F6 (PySem.W.mg_of X G a6)
  have C22 : CalG l.prog w K mg base 2 "_law_bent" 3 g__law_bent := ok__law_bent nb C14 F22 (PySem.W.mg_of X G a22)
  have C18 : CalG l.prog w K mg base 1 "_law_clear" 4 g__law_clear := ok__law_clear nb F18 (PySem.W.mg_of X G a18)
  have C2 : CalG l.prog w K mg base 2 "are_clear" 4 g_are_clear := ok_are_clear nb C1 F2 (PySem.W.mg_of X G a2)
  have C8 : CalG l.prog w K mg base 3 "added_mast" 3 g_added_mast := ok_added_mast nb C4 C3 F8 (PySem.W.mg_of X G a8)
  have C23 : CalG l.prog w K mg base 7 "_law_is_right" 5 g__law_is_right := ok__law_is_right nb C19 C20 C16 C5 C4 C7 C6 C22 C18 C2 C14 C8 F23 (PySem.W.mg_of X G a23)
  have C21 : CalG l.prog w K mg base 1 "_law_all_clear" 4 g__law_all_clear := ok__law_all_clear nb F21 (PySem.W.mg_of X G a21)
  have C12 : CalG l.prog w K mg base 1 "fewest_seats" 1 g_fewest_seats := ok_fewest_seats nb F12 (PySem.W.mg_of X G a12)
  have C9 : CalG l.prog w K mg base 1 "by_until" 1 g_by_until := ok_by_until nb F9 (PySem.W.mg_of X G a9)
  have C10 : CalG l.prog w K mg base 2 "told_masts" 1 g_told_masts := ok_told_masts nb C9 F10 (PySem.W.mg_of X G a10)
  have C11 : CalG l.prog w K mg base 3 "fewest_masts" 1 g_fewest_masts := ok_fewest_masts nb C10 F11 (PySem.W.mg_of X G a11)
  have C24 : CalG l.prog w K mg base 7 "_law_are_seats_right" 2 g__law_are_seats_right := ok__law_are_seats_right nb C16 C5 C12 C11 F24 (PySem.W.mg_of X G a24)
  exact (okF_law nb C13 C15 C17 C14 C23 C6 C21 C24 C16 C7 C4 C8 C5 F25).imp fun vs H Q E h => law_sp h
end PV
open PySem PySem.W PyProof.Rows
set_option maxHeartbeats 0 in
theorem PySem.Challenge.cw_roundline_k48_whole_channels_of_masts_holds : PySem.Challenge.rw_roundline_k48_whole_channels_of_masts.Holds := by
  w_on; o_law; k_head; (case hw => w_witness2)
  k_fill
  refine L2.walk_ofK (l := PySem.Challenge.rw_roundline_k48_whole_channels_of_masts) (n := 63) (k := 8) (x := "script") (CX := L2.CX0) (sp := PV.spLaw) rfl (by decide) rfl ⟨rfl, by decide, by decide⟩ (fun w h Y => PySem.W.kIn_of Y) ?F (fun K H a ns hl hO hS => ⟨a, ns, rfl, PV.script_z hO hS, hl, fun _ => rfl⟩) (fun _ _ _ _ h => h)
  case F =>
    intro w mg fa h KX G hmg
    refine' PV.all_mk KX G hmg ?a1 ?l1 ?c1 ?k1 ?a2 ?l2 ?c2 ?k2 ?a3 ?l3 ?c3 ?k3 ?a4 ?l4 ?c4 ?k4 ?a5 ?l5 ?c5 ?k5 ?a6 ?l6 ?c6 ?k6 ?a7 ?l7 ?c7 ?k7 ?a8 ?l8 ?c8 ?k8 ?a9 ?l9 ?c9 ?k9 ?a10 ?l10 ?c10 ?k10 ?a11 ?l11 ?c11 ?k11 ?a12 ?l12 ?c12 ?k12 ?a13 ?l13 ?c13 ?k13 ?a14 ?l14 ?c14 ?k14 ?a15 ?l15 ?c15 ?k15 ?a16 ?l16 ?c16 ?k16 ?a17 ?l17 ?c17 ?k17 ?a18 ?l18 ?c18 ?k18 ?a19 ?l19 ?c19 ?k19 ?a20 ?l20 ?c20 ?k20 ?a21 ?l21 ?c21 ?k21 ?a22 ?l22 ?c22 ?k22 ?a23 ?l23 ?c23 ?k23 ?a24 ?l24 ?c24 ?k24 ?a25 ?l25 ?c25 ?k25 ?z1 ?z2 ?z3 ?z4 ?z5 ?z6 ?z7 ?z8 ?z9 ?z10 ?z11 ?z12 ?z13
    (case a1 => k_is)
    (case l1 => k_is)
    (case c1 => k_is)
    (case k1 => k_is)
    (case a2 => k_is)
    (case l2 => k_is)
    (case c2 => k_is)
    (case k2 => k_is)
    (case a3 => k_is)
    (case l3 => k_is)
    (case c3 => k_is)
    (case k3 => k_is)
    (case a4 => k_is)
    (case l4 => k_is)
    (case c4 => k_is)
    (case k4 => k_is)
    (case a5 => k_is)
    (case l5 => k_is)
    (case c5 => k_is)
    (case k5 => k_is)
    (case a6 => k_is)
    (case l6 => k_is)
    (case c6 => k_is)
    (case k6 => k_is)
    (case a7 => k_is)
    (case l7 => k_is)
    (case c7 => k_is)
    (case k7 => k_is)
    (case a8 => k_is)
    (case l8 => k_is)
    (case c8 => k_is)
    (case k8 => k_is)
    (case a9 => k_is)
    (case l9 => k_is)
    (case c9 => k_is)
    (case k9 => k_is)
    (case a10 => k_is)
    (case l10 => k_is)
    (case c10 => k_is)
    (case k10 => k_is)
    (case a11 => k_is)
    (case l11 => k_is)
    (case c11 => k_is)
    (case k11 => k_is)
    (case a12 => k_is)
    (case l12 => k_is)
    (case c12 => k_is)
    (case k12 => k_is)
    (case a13 => k_is)
    (case l13 => k_is)
    (case c13 => k_is)
    (case k13 => k_is)
    (case a14 => k_is)
    (case l14 => k_is)
    (case c14 => k_is)
    (case k14 => k_is)
    (case a15 => k_is)
    (case l15 => k_is)
    (case c15 => k_is)
    (case k15 => k_is)
    (case a16 => k_is)
    (case l16 => k_is)
    (case c16 => k_is)
    (case k16 => k_is)
    (case a17 => k_is)
    (case l17 => k_is)
    (case c17 => k_is)
    (case k17 => k_is)
    (case a18 => k_is)
    (case l18 => k_is)
    (case c18 => k_is)
    (case k18 => k_is)
    (case a19 => k_is)
    (case l19 => k_is)
    (case c19 => k_is)
    (case k19 => k_is)
    (case a20 => k_is)
    (case l20 => k_is)
    (case c20 => k_is)
    (case k20 => k_is)
    (case a21 => k_is)
    (case l21 => k_is)
    (case c21 => k_is)
    (case k21 => k_is)
    (case a22 => k_is)
    (case l22 => k_is)
    (case c22 => k_is)
    (case k22 => k_is)
    (case a23 => k_is)
    (case l23 => k_is)
    (case c23 => k_is)
    (case k23 => k_is)
    (case a24 => k_is)
    (case l24 => k_is)
    (case c24 => k_is)
    (case k24 => k_is)
    (case a25 => k_is)
    (case l25 => k_is)
    (case c25 => k_is)
    (case k25 => k_is)
    (case z1 => k_is)
    (case z2 => k_is)
    (case z3 => k_is)
    (case z4 => k_is)
    (case z5 => k_is)
    (case z6 => k_is)
    (case z7 => k_is)
    (case z8 => k_is)
    (case z9 => k_is)
    (case z10 => k_is)
    (case z11 => k_is)
    (case z12 => k_is)
    (case z13 => k_is)
