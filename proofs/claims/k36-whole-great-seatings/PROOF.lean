import PyProof.Rows.All
import Wide.All
import OpenK.AllK
import Wide.FinOn
import HandS.ForMost
import HandS.Defaults
import HandS.Wide
import HandS.Flow
import HandS.IsInst
import HandS.Zip
import HandS.StrMore
import HandS.FStr
import HandS.Conv
import HandS.More
import HandS.Property
import HandS.OwnEq
import HandS.Slots
import HandS.TupAny
import HandS.Star
import HandS.Strs
import KE.GoesMore
import HandS.Style
import HandS.RaiseMore
import HandS.HeadEnd
import HandS.SortRule
import HandS.TupSets
import PyProof.ReprLen
import HandS.Codes
import KE.KUnpackStar
import HandS.Small
import HandS.Deep
import HandS.List
import HandS.Head0
import HandS.Head1
import HandS.Head2
import HandS.HeadHook1
import HandS.HeadHook2
import HandS.HeadHook3
import KE.DataMinMax
import KE.GoesEnum
import HandS.NoneIn
import PyProof.MaxThree
import HandS.SetFor
import KE.SortData
import PySem.Challenge.RW_greetall_k36_whole_great_seatings
set_option Elab.async false
set_option linter.all false
set_option maxRecDepth 100000
set_option maxHeartbeats 0
/-! DL1: data without addresses over the hand layer: values D, the mutable objects M, what stands for what (Rep), judgements by weakest preconditions over data. -/
namespace DL
open PySem L2

/-- a value as data: immutable things by what they hold, mutable ones by their address -/
inductive D where
  | non | bl (b : Bool) | int (i : Int) | str (x : Str)
  | lst (xs : List D) | rol (xs : List D) | tup (xs : List D)
  | dK (kvs : List (Key × D)) | dT (kvs : List (List Key × D))
  | ins (C : Addr) (fs : List (Str × D))
  | ty (n : String) | fn (a : Addr) | ob (a : Addr)
  | key (ks : List Key)
  | fig (C : Addr) (ns : List Int)

/-- a mutable object's content -/
inductive MO where
  | lst (xs : List D) | dK (kvs : List (Key × D)) | dT (kvs : List (List Key × D)) | ins (C : Addr) (fs : List (Str × D))

abbrev Mp := Addr → Option MO
abbrev Rho := List (Option D)
def mset (M : Mp) (a : Addr) (o : MO) : Mp := fun b => if b = a then some o else M b
def mdel (M : Mp) (a : Addr) : Mp := fun b => if b = a then none else M b
theorem mset_same {M : Mp} {a : Addr} {o : MO} : mset M a o a = some o := if_pos rfl
theorem mset_ne {M : Mp} {a b : Addr} {o : MO} (h : b ≠ a) : mset M a o b = M b := if_neg h
theorem mdel_same {M : Mp} {a : Addr} : mdel M a a = none := if_pos rfl
theorem mdel_ne {M : Mp} {a b : Addr} (h : b ≠ a) : mdel M a b = M b := if_neg h
theorem mset_mset {M : Mp} {a : Addr} {o u : MO} : mset (mset M a o) a u = mset M a u := by
  funext b; unfold mset; split <;> rfl
theorem mdel_mset {M : Mp} {a : Addr} {o : MO} (h : M a = none) : mdel (mset M a o) a = M := by
  funext b; unfold mdel
  by_cases e : b = a
  · rw [if_pos e, e, h]
  · rw [if_neg e, mset_ne e]

/-- addresses that stand hidden: nothing that the code reads leads there -/
abbrev Zn := Addr → Prop
/-- neither mutable nor hidden -/
def Im (M : Mp) (Z : Zn) (a : Addr) : Prop := M a = none ∧ ¬ Z a
/-- a list, a tuple of the written part -/
def WrL (K : PySem.W.Frag) (a : Addr) (xs : List V) : Prop := ∃ (o : Obj) (its : Array Value) (n : Nat), K.lookup a = some o ∧ o.cls = .type "list" ∧ o.dict = none ∧ o.data = .seq its n ∧ its.size ≤ sizeLine ∧ Vals xs its.toList
def WrT (K : PySem.W.Frag) (a : Addr) (xs : List V) : Prop := ∃ (o : Obj) (its : Array Value) (n : Nat), K.lookup a = some o ∧ o.cls = .type "tuple" ∧ o.data = .seq its n ∧ its.size ≤ sizeLine ∧ Vals xs its.toList

mutual
/-- the value v stands for the data d -/
inductive Rep (K : PySem.W.Frag) (M : Mp) (Z : Zn) (H : Hp) : V → D → Prop where
  | non : Rep K M Z H .non .non
  | bl (b : Bool) : Rep K M Z H (.bl b) (.bl b)
  | int (i : Int) : Rep K M Z H (.int i) (.int i)
  | str (x : Str) : Rep K M Z H (.str x) (.str x)
  | ty (n : String) : Rep K M Z H (.ty n) (.ty n)
  | fn (a : Addr) : Rep K M Z H (.ref a) (.fn a)
  | ob (a : Addr) : Rep K M Z H (.ref a) (.ob a)
  | lst {a : Addr} {vs : List V} {ds : List D} (h : H a = some (.lst vs)) (m : Im M Z a) (r : Reps K M Z H vs ds) : Rep K M Z H (.ref a) (.lst ds)
  | rol {a : Addr} {vs : List V} {ds : List D} (h : Rd H a (.lst vs)) (m : Im M Z a) (r : Reps K M Z H vs ds) : Rep K M Z H (.ref a) (.rol ds)
  | rolK {a : Addr} {vs : List V} {ds : List D} (h : WrL K a vs) (r : Reps K M Z H vs ds) : Rep K M Z H (.ref a) (.rol ds)
  | tup {a : Addr} {vs : List V} {ds : List D} (h : Rd H a (.tup vs)) (m : Im M Z a) (r : Reps K M Z H vs ds) : Rep K M Z H (.ref a) (.tup ds)
  | tupK {a : Addr} {vs : List V} {ds : List D} (h : WrT K a vs) (r : Reps K M Z H vs ds) : Rep K M Z H (.ref a) (.tup ds)
  | dK {a : Addr} {vs : List (Key × V)} {ds : List (Key × D)} (h : H a = some (.dK vs)) (m : Im M Z a) (r : RepK K M Z H vs ds) : Rep K M Z H (.ref a) (.dK ds)
  | dT {a : Addr} {vs : List (List Key × V)} {ds : List (List Key × D)} (h : H a = some (.dT vs)) (m : Im M Z a) (r : RepT K M Z H vs ds) : Rep K M Z H (.ref a) (.dT ds)
  | ins {a C dx : Addr} {vs : List (Str × V)} {ds : List (Str × D)} (h : H a = some (.ins C dx vs)) (m : Im M Z a) (r : RepF K M Z H vs ds) : Rep K M Z H (.ref a) (.ins C ds)
  | key {a : Addr} {ks : List Key} (h : H a = some (.tup (ks.map kV))) (m : Im M Z a) : Rep K M Z H (.ref a) (.key ks)
  | fig {a C dx : Addr} {ns : List Int} (h : H a = some (SlX.SlO a C dx (ns.map fun i => some (V.int i)))) (hd : H dx = some (.xd [])) (m : Im M Z a) (md : Im M Z dx) : Rep K M Z H (.ref a) (.fig C ns)
inductive Reps (K : PySem.W.Frag) (M : Mp) (Z : Zn) (H : Hp) : List V → List D → Prop where
  | nil : Reps K M Z H [] []
  | cons {v : V} {d : D} {vs : List V} {ds : List D} (r : Rep K M Z H v d) (t : Reps K M Z H vs ds) : Reps K M Z H (v :: vs) (d :: ds)
inductive RepK (K : PySem.W.Frag) (M : Mp) (Z : Zn) (H : Hp) : List (Key × V) → List (Key × D) → Prop where
  | nil : RepK K M Z H [] []
  | cons {k : Key} {v : V} {d : D} {vs : List (Key × V)} {ds : List (Key × D)} (r : Rep K M Z H v d) (t : RepK K M Z H vs ds) : RepK K M Z H ((k, v) :: vs) ((k, d) :: ds)
inductive RepT (K : PySem.W.Frag) (M : Mp) (Z : Zn) (H : Hp) : List (List Key × V) → List (List Key × D) → Prop where
  | nil : RepT K M Z H [] []
  | cons {k : List Key} {v : V} {d : D} {vs : List (List Key × V)} {ds : List (List Key × D)} (r : Rep K M Z H v d) (t : RepT K M Z H vs ds) : RepT K M Z H ((k, v) :: vs) ((k, d) :: ds)
inductive RepF (K : PySem.W.Frag) (M : Mp) (Z : Zn) (H : Hp) : List (Str × V) → List (Str × D) → Prop where
  | nil : RepF K M Z H [] []
  | cons {k : Str} {v : V} {d : D} {vs : List (Str × V)} {ds : List (Str × D)} (r : Rep K M Z H v d) (t : RepF K M Z H vs ds) : RepF K M Z H ((k, v) :: vs) ((k, d) :: ds)
end

/-- what is immutable stays, what is hidden stays -/
def Ext (M : Mp) (Z : Zn) (H : Hp) (M' : Mp) (H' : Hp) : Prop := (∀ b o, H b = some o → Im M Z b → H' b = some o ∧ Im M' Z b) ∧ ∀ b, Z b → H' b = H b ∧ M' b = M b
theorem Ext.refl {M : Mp} {Z : Zn} {H : Hp} : Ext M Z H M H := ⟨fun _ _ h m => ⟨h, m⟩, fun _ _ => ⟨rfl, rfl⟩⟩
theorem Ext.trans {M M1 M2 : Mp} {Z : Zn} {H H1 H2 : Hp} (a : Ext M Z H M1 H1) (b : Ext M1 Z H1 M2 H2) : Ext M Z H M2 H2 := ⟨fun c o h m =>
  b.1 c o (a.1 c o h m).1 (a.1 c o h m).2, fun c z => ⟨(b.2 c z).1.trans (a.2 c z).1, (b.2 c z).2.trans (a.2 c z).2⟩⟩
theorem Ext.rd {M M' : Mp} {Z : Zn} {H H' : Hp} {a : Addr} {u : HO} (e : Ext M Z H M' H') (h : Rd H a u) (m : Im M Z a) : Rd H' a u := by
  rcases h with h | ⟨o, h⟩
  · exact .inl (e.1 _ _ h m).1
  · exact .inr ⟨o, (e.1 _ _ h m).1⟩
theorem Ext.md {M M' : Mp} {Z : Zn} {H H' : Hp} {a : Addr} {u : HO} (e : Ext M Z H M' H') (h : Rd H a u) (m : Im M Z a) : Im M' Z a := by
  rcases h with h | ⟨o, h⟩
  · exact (e.1 _ _ h m).2
  · exact (e.1 _ _ h m).2

/-- .. among other hidden ones -/
def ExI (M : Mp) (Z : Zn) (H : Hp) (M' : Mp) (Z' : Zn) (H' : Hp) : Prop := ∀ b o, H b = some o → Im M Z b → H' b = some o ∧ Im M' Z' b
theorem Ext.i {M M' : Mp} {Z : Zn} {H H' : Hp} (e : Ext M Z H M' H') : ExI M Z H M' Z H' := e.1
theorem ExI.refl {M : Mp} {Z : Zn} {H : Hp} : ExI M Z H M Z H := fun _ _ h m => ⟨h, m⟩
theorem ExI.trans {M M1 M2 : Mp} {Z Z1 Z2 : Zn} {H H1 H2 : Hp} (a : ExI M Z H M1 Z1 H1) (b : ExI M1 Z1 H1 M2 Z2 H2) : ExI M Z H M2 Z2 H2 := fun c o h m => b c o (a c o h m).1 (a c o h m).2
theorem ExI.rd {M M' : Mp} {Z Z' : Zn} {H H' : Hp} {a : Addr} {u : HO} (e : ExI M Z H M' Z' H') (h : Rd H a u) (m : Im M Z a) : Rd H' a u := by
  rcases h with h | ⟨o, h⟩
  · exact .inl (e _ _ h m).1
  · exact .inr ⟨o, (e _ _ h m).1⟩
theorem ExI.md {M M' : Mp} {Z Z' : Zn} {H H' : Hp} {a : Addr} {u : HO} (e : ExI M Z H M' Z' H') (h : Rd H a u) (m : Im M Z a) : Im M' Z' a := by
  rcases h with h | ⟨o, h⟩
  · exact (e _ _ h m).2
  · exact (e _ _ h m).2
section
variable {K : PySem.W.Frag} {M M' : Mp} {Z Z' : Zn} {H H' : Hp}
mutual
theorem Rep.monoI (e : ExI M Z H M' Z' H') : ∀ {v : V} {d : D}, Rep K M Z H v d → Rep K M' Z' H' v d
  | _, _, .non => .non
  | _, _, .bl b => .bl b
  | _, _, .int i => .int i
  | _, _, .str x => .str x
  | _, _, .ty n => .ty n
  | _, _, .fn a => .fn a
  | _, _, .ob a => .ob a
  | _, _, .lst h m r => .lst (e _ _ h m).1 (e _ _ h m).2 (Reps.monoI e r)
  | _, _, .rol h m r => .rol (e.rd h m) (e.md h m) (Reps.monoI e r)
  | _, _, .rolK h r => .rolK h (Reps.monoI e r)
  | _, _, .tup h m r => .tup (e.rd h m) (e.md h m) (Reps.monoI e r)
  | _, _, .tupK h r => .tupK h (Reps.monoI e r)
  | _, _, .dK h m r => .dK (e _ _ h m).1 (e _ _ h m).2 (RepK.monoI e r)
  | _, _, .dT h m r => .dT (e _ _ h m).1 (e _ _ h m).2 (RepT.monoI e r)
  | _, _, .ins h m r => .ins (e _ _ h m).1 (e _ _ h m).2 (RepF.monoI e r)
  | _, _, .key h m => .key (e _ _ h m).1 (e _ _ h m).2
  | _, _, .fig h hd m md => .fig (e _ _ h m).1 (e _ _ hd md).1 (e _ _ h m).2 (e _ _ hd md).2
theorem Reps.monoI (e : ExI M Z H M' Z' H') : ∀ {v : List V} {d : List D}, Reps K M Z H v d → Reps K M' Z' H' v d
  | _, _, .nil => .nil
  | _, _, .cons r t => .cons (Rep.monoI e r) (Reps.monoI e t)
theorem RepK.monoI (e : ExI M Z H M' Z' H') : ∀ {v : List (Key × V)} {d : List (Key × D)}, RepK K M Z H v d → RepK K M' Z' H' v d
  | _, _, .nil => .nil
  | _, _, .cons r t => .cons (Rep.monoI e r) (RepK.monoI e t)
theorem RepT.monoI (e : ExI M Z H M' Z' H') : ∀ {v : List (List Key × V)} {d : List (List Key × D)}, RepT K M Z H v d → RepT K M' Z' H' v d
  | _, _, .nil => .nil
  | _, _, .cons r t => .cons (Rep.monoI e r) (RepT.monoI e t)
theorem RepF.monoI (e : ExI M Z H M' Z' H') : ∀ {v : List (Str × V)} {d : List (Str × D)}, RepF K M Z H v d → RepF K M' Z' H' v d
  | _, _, .nil => .nil
  | _, _, .cons r t => .cons (Rep.monoI e r) (RepF.monoI e t)
end
end
section
variable {K : PySem.W.Frag} {M M' : Mp} {Z : Zn} {H H' : Hp}
theorem Rep.mono (e : Ext M Z H M' H') {v : V} {d : D} (r : Rep K M Z H v d) : Rep K M' Z H' v d := r.monoI e.i
theorem Reps.mono (e : Ext M Z H M' H') {v : List V} {d : List D} (r : Reps K M Z H v d) : Reps K M' Z H' v d := r.monoI e.i
theorem RepK.mono (e : Ext M Z H M' H') {v : List (Key × V)} {d : List (Key × D)} (r : RepK K M Z H v d) : RepK K M' Z H' v d := r.monoI e.i
theorem RepT.mono (e : Ext M Z H M' H') {v : List (List Key × V)} {d : List (List Key × D)} (r : RepT K M Z H v d) : RepT K M' Z H' v d := r.monoI e.i
theorem RepF.mono (e : Ext M Z H M' H') {v : List (Str × V)} {d : List (Str × D)} (r : RepF K M Z H v d) : RepF K M' Z H' v d := r.monoI e.i
end

theorem Reps.length {K : PySem.W.Frag} {M : Mp} {Z : Zn} {H : Hp} : ∀ {vs : List V} {ds : List D}, Reps K M Z H vs ds → vs.length = ds.length
  | _, _, .nil => rfl
  | _, _, .cons _ t => by rw [List.length_cons, List.length_cons, t.length]
theorem Reps.get {K : PySem.W.Frag} {M : Mp} {Z : Zn} {H : Hp} : ∀ {vs : List V} {ds : List D} {i : Nat} {d : D}, Reps K M Z H vs ds → ds[i]? = some d → ∃ v, vs[i]? = some v ∧ Rep K M Z H v d
  | _, _, _, _, .nil, e => by simp at e
  | _, _, 0, _, .cons r _, e => by simp at e; subst e; exact ⟨_, rfl, r⟩
  | _, _, i + 1, d, .cons _ t, e => by
    obtain ⟨u, h1, h2⟩ := Reps.get (i := i) (d := d) t (by simpa using e)
    exact ⟨u, by simpa using h1, h2⟩
theorem Reps.getV {K : PySem.W.Frag} {M : Mp} {Z : Zn} {H : Hp} : ∀ {vs : List V} {ds : List D} {i : Nat} {v : V}, Reps K M Z H vs ds → vs[i]? = some v → ∃ d, ds[i]? = some d ∧ Rep K M Z H v d
  | _, _, _, _, .nil, e => by simp at e
  | _, _, 0, _, .cons r _, e => by simp at e; subst e; exact ⟨_, rfl, r⟩
  | _, _, i + 1, v, .cons _ t, e => by
    obtain ⟨u, h1, h2⟩ := Reps.getV (i := i) (v := v) t (by simpa using e)
    exact ⟨u, by simpa using h1, h2⟩
theorem Reps.append {K : PySem.W.Frag} {M : Mp} {Z : Zn} {H : Hp} : ∀ {vs ws : List V} {ds es : List D}, Reps K M Z H vs ds → Reps K M Z H ws es → Reps K M Z H (vs ++ ws) (ds ++ es)
  | _, _, _, _, .nil, s => s
  | _, _, _, _, .cons r t, s => .cons r (Reps.append t s)
theorem Reps.drop {K : PySem.W.Frag} {M : Mp} {Z : Zn} {H : Hp} : ∀ {vs : List V} {ds : List D} (n : Nat), Reps K M Z H vs ds → Reps K M Z H (vs.drop n) (ds.drop n)
  | _, _, 0, r => r
  | _, _, _ + 1, .nil => .nil
  | _, _, n + 1, .cons _ t => Reps.drop n t
theorem Reps.take {K : PySem.W.Frag} {M : Mp} {Z : Zn} {H : Hp} : ∀ {vs : List V} {ds : List D} (n : Nat), Reps K M Z H vs ds → Reps K M Z H (vs.take n) (ds.take n)
  | _, _, 0, _ => .nil
  | _, _, _ + 1, .nil => .nil
  | _, _, n + 1, .cons r t => .cons r (Reps.take n t)
theorem Reps.ints {K : PySem.W.Frag} {M : Mp} {Z : Zn} {H : Hp} : ∀ {vs : List V} {ns : List Int}, Reps K M Z H vs (ns.map D.int) → vs = ns.map V.int
  | _, [], .nil => rfl
  | _, _ :: _, .cons (.int _) t => by rw [List.map_cons, Reps.ints t]
theorem Reps.ofInts {K : PySem.W.Frag} {M : Mp} {Z : Zn} {H : Hp} : ∀ (ns : List Int), Reps K M Z H (ns.map V.int) (ns.map D.int)
  | [] => .nil
  | _ :: r => .cons (.int _) (Reps.ofInts r)
theorem Reps.bls {K : PySem.W.Frag} {M : Mp} {Z : Zn} {H : Hp} : ∀ {vs : List V} {ns : List Bool}, Reps K M Z H vs (ns.map D.bl) → vs = ns.map V.bl
  | _, [], .nil => rfl
  | _, _ :: _, .cons (.bl _) t => by rw [List.map_cons, Reps.bls t]
theorem Reps.strs {K : PySem.W.Frag} {M : Mp} {Z : Zn} {H : Hp} : ∀ {vs : List V} {ns : List Str}, Reps K M Z H vs (ns.map D.str) → vs = ns.map V.str
  | _, [], .nil => rfl
  | _, _ :: _, .cons (.str _) t => by rw [List.map_cons, Reps.strs t]
theorem Reps.ofStrs {K : PySem.W.Frag} {M : Mp} {Z : Zn} {H : Hp} : ∀ (ns : List Str), Reps K M Z H (ns.map V.str) (ns.map D.str)
  | [] => .nil
  | _ :: r => .cons (.str _) (Reps.ofStrs r)

/-- a mutable object is held -/
def RepM (K : PySem.W.Frag) (M : Mp) (Z : Zn) (H : Hp) (a : Addr) : MO → Prop
  | .lst ds => ∃ vs, H a = some (.lst vs) ∧ Reps K M Z H vs ds
  | .dK ds => ∃ vs, H a = some (.dK vs) ∧ RepK K M Z H vs ds
  | .dT ds => ∃ vs, H a = some (.dT vs) ∧ RepT K M Z H vs ds
  | .ins C ds => ∃ dx vs, H a = some (.ins C dx vs) ∧ RepF K M Z H vs ds
/-- the mutable objects are held, the hidden ones stand -/
def Wd (K : PySem.W.Frag) (M : Mp) (Z : Zn) (H : Hp) : Prop := (∀ a o, M a = some o → RepM K M Z H a o) ∧ ∀ a, Z a → M a = none ∧ ∃ u, H a = some u
theorem RepM.there {K : PySem.W.Frag} {M : Mp} {Z : Zn} {H : Hp} {a : Addr} {o : MO} (h : RepM K M Z H a o) : ∃ u, H a = some u := by
  cases o with
  | lst ds => obtain ⟨vs, e, _⟩ := h; exact ⟨_, e⟩
  | dK ds => obtain ⟨vs, e, _⟩ := h; exact ⟨_, e⟩
  | dT ds => obtain ⟨vs, e, _⟩ := h; exact ⟨_, e⟩
  | ins C ds => obtain ⟨dx, vs, e, _⟩ := h; exact ⟨_, e⟩
theorem Wd.fresh {K : PySem.W.Frag} {M : Mp} {Z : Zn} {H : Hp} (w : Wd K M Z H) {a : Addr} (h : H a = none) : Im M Z a := by
  refine ⟨?_, fun z => ?_⟩
  · cases e : M a with
    | none => rfl
    | some o =>
      obtain ⟨u, q⟩ := (w.1 a o e).there
      rw [h] at q; cases q
  · obtain ⟨_, u, q⟩ := w.2 a z
    rw [h] at q; cases q
theorem RepM.stepI {K : PySem.W.Frag} {M M' : Mp} {Z Z' : Zn} {H H' : Hp} {a : Addr} {o : MO} (h : RepM K M Z H a o) (e : ExI M Z H M' Z' H') (k : H' a = H a) : RepM K M' Z' H' a o := by
  cases o with
  | lst ds => obtain ⟨vs, q, r⟩ := h; exact ⟨vs, k.trans q, r.monoI e⟩
  | dK ds => obtain ⟨vs, q, r⟩ := h; exact ⟨vs, k.trans q, r.monoI e⟩
  | dT ds => obtain ⟨vs, q, r⟩ := h; exact ⟨vs, k.trans q, r.monoI e⟩
  | ins C ds => obtain ⟨dx, vs, q, r⟩ := h; exact ⟨dx, vs, k.trans q, r.monoI e⟩
theorem RepM.step {K : PySem.W.Frag} {M M' : Mp} {Z : Zn} {H H' : Hp} {a : Addr} {o : MO} (h : RepM K M Z H a o) (e : Ext M Z H M' H') (k : H' a = H a) : RepM K M' Z H' a o := by
  cases o with
  | lst ds => obtain ⟨vs, q, r⟩ := h; exact ⟨vs, k.trans q, r.mono e⟩
  | dK ds => obtain ⟨vs, q, r⟩ := h; exact ⟨vs, k.trans q, r.mono e⟩
  | dT ds => obtain ⟨vs, q, r⟩ := h; exact ⟨vs, k.trans q, r.mono e⟩
  | ins C ds => obtain ⟨dx, vs, q, r⟩ := h; exact ⟨dx, vs, k.trans q, r.mono e⟩
section
variable {K : PySem.W.Frag} {M : Mp} {Z : Zn} {H : Hp} {p : Addr} {o : HO} {u v : MO}
theorem Wd.zne (w : Wd K M Z H) (h : H p = none) : ∀ b, Z b → b ≠ p := fun b z e => by
  obtain ⟨_, u, q⟩ := w.2 b z
  rw [e, h] at q; cases q
theorem Wd.zneM (w : Wd K M Z H) (h : M p = some v) : ∀ b, Z b → b ≠ p := fun b z e => by
  have q := (w.2 b z).1
  rw [e, h] at q; cases q
/-- a new immutable object -/
theorem Ext.new (w : Wd K M Z H) (h : H p = none) : Ext M Z H M (upd H p o) := ⟨fun b u q m => ⟨by rw [upd_ne (ne_of_none q h)]; exact q, m⟩, fun b z => ⟨upd_ne (w.zne h b z), rfl⟩⟩
theorem Wd.new (w : Wd K M Z H) (h : H p = none) : Wd K M Z (upd H p o) := ⟨fun a u e => by
  obtain ⟨z, q⟩ := (w.1 a u e).there
  exact (w.1 a u e).step (Ext.new w h) (upd_ne (ne_of_none q h)), fun b z => by
  obtain ⟨m, u, q⟩ := w.2 b z
  exact ⟨m, u, by rw [upd_ne (w.zne h b z)]; exact q⟩⟩
/-- a new mutable object -/
theorem Ext.newM (w : Wd K M Z H) (h : H p = none) : Ext M Z H (mset M p u) (upd H p o) := ⟨fun b z q m => ⟨by rw [upd_ne (ne_of_none q h)]; exact q, by rw [mset_ne (ne_of_none q h)]; exact m.1, m.2⟩, fun b z => ⟨upd_ne (w.zne h b z), mset_ne (w.zne h b z)⟩⟩
theorem Wd.newM (w : Wd K M Z H) (h : H p = none) (r : RepM K (mset M p u) Z (upd H p o) p u) : Wd K (mset M p u) Z (upd H p o) := ⟨fun a z e => by
  by_cases ha : a = p
  · subst ha; rw [mset_same] at e; cases e; exact r
  · rw [mset_ne ha] at e
    exact (w.1 a z e).step (Ext.newM w h) (upd_ne ha), fun b z => by
  obtain ⟨m, u, q⟩ := w.2 b z
  exact ⟨by rw [mset_ne (w.zne h b z)]; exact m, u, by rw [upd_ne (w.zne h b z)]; exact q⟩⟩
/-- a mutable object changed -/
theorem Ext.put (w : Wd K M Z H) (h : M p = some v) : Ext M Z H (mset M p u) (upd H p o) := ⟨fun b z q m => by
  have n : b ≠ p := fun e => by have m := m.1; rw [e, h] at m; cases m
  exact ⟨by rw [upd_ne n]; exact q, by rw [mset_ne n]; exact m.1, m.2⟩, fun b z => ⟨upd_ne (w.zneM h b z), mset_ne (w.zneM h b z)⟩⟩
theorem Wd.put (w : Wd K M Z H) (h : M p = some v) (r : RepM K (mset M p u) Z (upd H p o) p u) : Wd K (mset M p u) Z (upd H p o) := ⟨fun a z e => by
  by_cases ha : a = p
  · subst ha; rw [mset_same] at e; cases e; exact r
  · rw [mset_ne ha] at e
    exact (w.1 a z e).step (Ext.put w h) (upd_ne ha), fun b z => by
  obtain ⟨m, u, q⟩ := w.2 b z
  exact ⟨by rw [mset_ne (w.zneM h b z)]; exact m, u, by rw [upd_ne (w.zneM h b z)]; exact q⟩⟩
end

/-- the slots -/
inductive EnvR (K : PySem.W.Frag) (M : Mp) (Z : Zn) (H : Hp) : St → Rho → Prop where
  | nil : EnvR K M Z H [] []
  | val {v : V} {d : D} {σ : St} {ρ : Rho} (r : Rep K M Z H v d) (t : EnvR K M Z H σ ρ) : EnvR K M Z H (some v :: σ) (some d :: ρ)
  | any {o : Option V} {σ : St} {ρ : Rho} (t : EnvR K M Z H σ ρ) : EnvR K M Z H (o :: σ) (none :: ρ)
theorem EnvR.monoI {K : PySem.W.Frag} {M M' : Mp} {Z Z' : Zn} {H H' : Hp} (e : ExI M Z H M' Z' H') : ∀ {σ : St} {ρ : Rho}, EnvR K M Z H σ ρ → EnvR K M' Z' H' σ ρ
  | _, _, .nil => .nil
  | _, _, .val r t => .val (r.monoI e) (EnvR.monoI e t)
  | _, _, .any t => .any (EnvR.monoI e t)
theorem EnvR.mono {K : PySem.W.Frag} {M M' : Mp} {Z : Zn} {H H' : Hp} (e : Ext M Z H M' H') {σ : St} {ρ : Rho} (r : EnvR K M Z H σ ρ) : EnvR K M' Z H' σ ρ := r.monoI e.i
theorem EnvR.get {K : PySem.W.Frag} {M : Mp} {Z : Zn} {H : Hp} : ∀ {σ : St} {ρ : Rho} {i : Nat} {d : D}, EnvR K M Z H σ ρ → ρ[i]? = some (some d) → ∃ v, σ[i]? = some (some v) ∧ Rep K M Z H v d
  | _, _, _, _, .nil, e => by simp at e
  | _, _, 0, _, .val r _, e => by simp at e; subst e; exact ⟨_, rfl, r⟩
  | _, _, 0, _, .any _, e => by simp at e
  | _, _, i + 1, d, .val _ t, e => EnvR.get (i := i) t (by simpa using e)
  | _, _, i + 1, d, .any t, e => EnvR.get (i := i) t (by simpa using e)
theorem EnvR.set {K : PySem.W.Frag} {M : Mp} {Z : Zn} {H : Hp} {v : V} {d : D} (r : Rep K M Z H v d) : ∀ {σ : St} {ρ : Rho} (i : Nat), EnvR K M Z H σ ρ → EnvR K M Z H (σ.set i (.some v)) (ρ.set i (.some d))
  | _, _, _, .nil => .nil
  | _, _, 0, .val _ t => .val r t
  | _, _, 0, .any t => .val r t
  | _, _, i + 1, .val q t => .val q (EnvR.set r i t)
  | _, _, i + 1, .any t => .any (EnvR.set r i t)
theorem EnvR.unset {K : PySem.W.Frag} {M : Mp} {Z : Zn} {H : Hp} {o : Option V} : ∀ {σ : St} {ρ : Rho} (i : Nat), EnvR K M Z H σ ρ → EnvR K M Z H (σ.set i o) (ρ.set i .none)
  | _, _, _, .nil => .nil
  | _, _, 0, .val _ t => .any t
  | _, _, 0, .any t => .any t
  | _, _, i + 1, .val q t => .val q (EnvR.unset i t)
  | _, _, i + 1, .any t => .any (EnvR.unset i t)
theorem EnvR.empty {K : PySem.W.Frag} {M : Mp} {Z : Zn} {H : Hp} : ∀ (n : Nat), EnvR K M Z H (List.replicate n .none) (List.replicate n .none)
  | 0 => .nil
  | n + 1 => .any (EnvR.empty n)
theorem EnvR.start {K : PySem.W.Frag} {M : Mp} {Z : Zn} {H : Hp} {σ : St} {ρ : Rho} (t : EnvR K M Z H σ ρ) : ∀ {vs : List V} {ds : List D}, Reps K M Z H vs ds → EnvR K M Z H (vs.map Option.some ++ σ) (ds.map Option.some ++ ρ)
  | _, _, .nil => t
  | _, _, .cons r q => .val r (EnvR.start t q)
/-- the slots at a def's entry -/
def start (N : List Str) (ds : List D) : Rho := ds.map some ++ List.replicate (N.length - ds.length) none
theorem env_start {K : PySem.W.Frag} {M : Mp} {Z : Zn} {H : Hp} {N : List Str} {vs : List V} {ds : List D} (r : Reps K M Z H vs ds) : EnvR K M Z H (L2.start N vs) (start N ds) := by
  unfold L2.start start
  rw [r.length]
  exact EnvR.start (EnvR.empty _) r
end DL
/-! DL2: the judgements, expressions. -/
namespace DL
open PySem L2

/-! ### the weakest readings -/
section
variable (X : Cx)
def eSem (e : Expr) : TE := fun σ H Q => ∀ pins s, Inv X pins σ H s → wpAny (model X.prog X.w) X.A (eval e X.env) (EP X pins σ Q) X.xe s
def tSem (e : Expr) : TT := fun σ H Q => ∀ pins s, Inv X pins σ H s → wpAny (model X.prog X.w) X.A (isTrue e X.env (eval e X.env)) (TP X pins σ Q) X.xe s
def wSem (e : Expr) : TT := fun σ H Q => ∀ (whole : Sem Value) pins s, Inv X pins σ H s → wpAny (model X.prog X.w) X.A (isTrue e X.env whole) (TP X pins σ Q) X.xe s
def aSem (es : List Expr) : TA := fun σ H Q => ∀ pos pins s, Inv X pins σ H s → wpAny (model X.prog X.w) X.A (spliced (backTo pos (starEach es X.env))) (AP X pins σ Q) X.xe s
def sSem (st : Stmt) : TS := fun D σ H => ∀ pins s, Inv X pins σ H s → wpAny (model X.prog X.w) X.A (exec st X.env) (SP X pins D) X.xe s
def ssSem (st : List Stmt) : TS := fun D σ H => ∀ pins s, Inv X pins σ H s → wpAny (model X.prog X.w) X.A (execs st X.env) (SP X pins D) X.xe s
def gSem (tg : Expr) : TG := fun v σ H Q => ∀ pins s u, Inv X pins σ H s → RelV v u → wpAny (model X.prog X.w) X.A (assign tg X.env u) (fun _ s' => ∃ σ' H', Inv X pins σ' H' s' ∧ Q σ' H') X.xe s
def gsSem (ts : List Expr) : TGs := fun vs σ H Q => ∀ pins s us, Inv X pins σ H s → Vals vs us → wpAny (model X.prog X.w) X.A (assignInOrder ((assignEach ts X.env).map (·.2)) us) (fun _ s' => ∃ σ' H', Inv X pins σ' H' s' ∧ Q σ' H') X.xe s
def iSem (tg iter : Expr) : TI := fun σ H R => ∀ pins s, Inv X pins σ H s → wpAny (model X.prog X.w) X.A (eval iter X.env) (fun v s1 => wpAny (model X.prog X.w) X.A (pyIter v) (PIE X pins σ tg R) X.xe s1) X.xe s
end
section
variable {X : Cx} {e tg : Expr} {es : List Expr} {st : Stmt} {sts : List Stmt} {σ : L2.St} {H : Hp}
theorem pe_sem : PE X e (eSem X e) := ⟨fun pins s σ H Q I h => h pins s I⟩
theorem pt_sem : PT X e (tSem X e) := ⟨fun pins s σ H Q I h => h pins s I⟩
theorem pw_sem : PW X e (wSem X e) := ⟨fun wh pins s σ H Q I h => h wh pins s I⟩
theorem pa_sem : PA X es (aSem X es) := ⟨fun pos pins s σ H Q I h => h pos pins s I⟩
theorem ps_sem : PS X st (sSem X st) := ⟨fun pins s σ H D I h => h pins s I⟩
theorem pss_sem : PSs X sts (ssSem X sts) := ⟨fun pins s σ H D I h => h pins s I⟩
theorem pg_sem : PG X tg (gSem X tg) := ⟨fun pins s σ H v u Q I r h => h pins s u I r⟩
theorem pgs_sem : PGs X es (gsSem X es) := ⟨fun pins s σ H v u Q I r h => h pins s u I r⟩
theorem pi_sem : PI X tg e (iSem X tg e) := ⟨fun pins s σ H R I h => h pins s I⟩
theorem eOf {t : TE} {Q : VK} (h : PE X e t) (q : t σ H Q) : eSem X e σ H Q := fun pins s I => h.run pins s σ H Q I q
theorem tOf {t : TT} {Q : Bool → Hp → Prop} (h : PT X e t) (q : t σ H Q) : tSem X e σ H Q := fun pins s I => h.run pins s σ H Q I q
theorem wOf {t : TT} {Q : Bool → Hp → Prop} (h : PW X e t) (q : t σ H Q) : wSem X e σ H Q := fun wh pins s I => h.run wh pins s σ H Q I q
theorem aOf {t : TA} {Q : List V → Hp → Prop} (h : PA X es t) (q : t σ H Q) : aSem X es σ H Q := fun pos pins s I => h.run pos pins s σ H Q I q
theorem sOf {t : TS} {D : Ends} (h : PS X st t) (q : t D σ H) : sSem X st D σ H := fun pins s I => h.run pins s σ H D I q
theorem ssOf {t : TS} {D : Ends} (h : PSs X sts t) (q : t D σ H) : ssSem X sts D σ H := fun pins s I => h.run pins s σ H D I q
theorem gOf {t : TG} {v : V} {Q : L2.St → Hp → Prop} (h : PG X tg t) (q : t v σ H Q) : gSem X tg v σ H Q := fun pins s u I r => h.run pins s σ H v u Q I r q
theorem gsOf {t : TGs} {vs : List V} {Q : L2.St → Hp → Prop} (h : PGs X es t) (q : t vs σ H Q) : gsSem X es vs σ H Q := fun pins s u I r => h.run pins s σ H vs u Q I r q
end

/-! ### what is wanted behind -/
def KE (K : PySem.W.Frag) (M : Mp) (Z : Zn) (H : Hp) (Φ : D → Mp → Prop) (Q : VK) : Prop := ∀ v d H' M', Ext M Z H M' H' → Wd K M' Z H' → Rep K M' Z H' v d → Φ d M' → Q v H'
def KT (K : PySem.W.Frag) (M : Mp) (Z : Zn) (H : Hp) (Φ : Bool → Mp → Prop) (Q : Bool → Hp → Prop) : Prop := ∀ b H' M', Ext M Z H M' H' → Wd K M' Z H' → Φ b M' → Q b H'
def KA (K : PySem.W.Frag) (M : Mp) (Z : Zn) (H : Hp) (Φ : List D → Mp → Prop) (Q : List V → Hp → Prop) : Prop := ∀ vs ds H' M', Ext M Z H M' H' → Wd K M' Z H' → Reps K M' Z H' vs ds → Φ ds M' → Q vs H'
def KG (K : PySem.W.Frag) (M : Mp) (Z : Zn) (H : Hp) (Φ : Rho → Mp → Prop) (Q : L2.St → Hp → Prop) : Prop := ∀ σ' ρ' H' M', Ext M Z H M' H' → Wd K M' Z H' → EnvR K M' Z H' σ' ρ' → Φ ρ' M' → Q σ' H'
/-- what is wanted behind a statement -/
structure DE where
  nx : Rho → Mp → Prop
  rt : D → Mp → Prop
  bk : Rho → Mp → Prop := fun _ _ => False
  ct : Rho → Mp → Prop := fun _ _ => False
structure KS (K : PySem.W.Frag) (M : Mp) (Z : Zn) (H : Hp) (Ψ : DE) (E : Ends) : Prop where
  nx : KG K M Z H Ψ.nx E.nx
  rt : KE K M Z H Ψ.rt E.rt
  bk : KG K M Z H Ψ.bk E.bk
  ct : KG K M Z H Ψ.ct E.ct
section
variable {K : PySem.W.Frag} {M M1 : Mp} {Z : Zn} {H H1 : Hp}
theorem KE.step {Φ : D → Mp → Prop} {Q : VK} (k : KE K M Z H Φ Q) (e : Ext M Z H M1 H1) : KE K M1 Z H1 Φ Q := fun v d H' M' x w r h => k v d H' M' (e.trans x) w r h
theorem KT.step {Φ : Bool → Mp → Prop} {Q : Bool → Hp → Prop} (k : KT K M Z H Φ Q) (e : Ext M Z H M1 H1) : KT K M1 Z H1 Φ Q := fun b H' M' x w h => k b H' M' (e.trans x) w h
theorem KA.step {Φ : List D → Mp → Prop} {Q : List V → Hp → Prop} (k : KA K M Z H Φ Q) (e : Ext M Z H M1 H1) : KA K M1 Z H1 Φ Q := fun v d H' M' x w r h => k v d H' M' (e.trans x) w r h
theorem KG.step {Φ : Rho → Mp → Prop} {Q : L2.St → Hp → Prop} (k : KG K M Z H Φ Q) (e : Ext M Z H M1 H1) : KG K M1 Z H1 Φ Q := fun v d H' M' x w r h => k v d H' M' (e.trans x) w r h
theorem KS.step {Ψ : DE} {E : Ends} (k : KS K M Z H Ψ E) (e : Ext M Z H M1 H1) : KS K M1 Z H1 Ψ E := ⟨k.nx.step e, k.rt.step e, k.bk.step e, k.ct.step e⟩
theorem KE.now {Φ : D → Mp → Prop} {Q : VK} {v : V} {d : D} (k : KE K M Z H Φ Q) (w : Wd K M Z H) (r : Rep K M Z H v d) (h : Φ d M) : Q v H := k v d H M Ext.refl w r h
theorem KE.new {Φ : D → Mp → Prop} {Q : VK} {p : Addr} {o : HO} {d : D} (k : KE K M Z H Φ Q) (w : Wd K M Z H) (hp : H p = none) (r : Rep K M Z (upd H p o) (.ref p) d) (h : Φ d M) : Q (.ref p) (upd H p o) :=
  k _ d _ M (Ext.new w hp) (w.new hp) r h
theorem KT.now {Φ : Bool → Mp → Prop} {Q : Bool → Hp → Prop} {b : Bool} (k : KT K M Z H Φ Q) (w : Wd K M Z H) (h : Φ b M) : Q b H := k b H M Ext.refl w h
end

/-! ### the judgements -/
structure WE (X : Cx) (ρ : Rho) (M : Mp) (e : Expr) (Φ : D → Mp → Prop) : Prop where
  run : ∀ {Z : Zn} σ H (Q : VK), EnvR X.K M Z H σ ρ → Wd X.K M Z H → KE X.K M Z H Φ Q → eSem X e σ H Q
structure WT (X : Cx) (ρ : Rho) (M : Mp) (e : Expr) (Φ : Bool → Mp → Prop) : Prop where
  run : ∀ {Z : Zn} σ H (Q : Bool → Hp → Prop), EnvR X.K M Z H σ ρ → Wd X.K M Z H → KT X.K M Z H Φ Q → tSem X e σ H Q
structure WW (X : Cx) (ρ : Rho) (M : Mp) (e : Expr) (Φ : Bool → Mp → Prop) : Prop where
  run : ∀ {Z : Zn} σ H (Q : Bool → Hp → Prop), EnvR X.K M Z H σ ρ → Wd X.K M Z H → KT X.K M Z H Φ Q → wSem X e σ H Q
structure WA (X : Cx) (ρ : Rho) (M : Mp) (es : List Expr) (Φ : List D → Mp → Prop) : Prop where
  run : ∀ {Z : Zn} σ H (Q : List V → Hp → Prop), EnvR X.K M Z H σ ρ → Wd X.K M Z H → KA X.K M Z H Φ Q → aSem X es σ H Q
structure WS (X : Cx) (ρ : Rho) (M : Mp) (st : Stmt) (Ψ : DE) : Prop where
  run : ∀ {Z : Zn} σ H (E : Ends), EnvR X.K M Z H σ ρ → Wd X.K M Z H → KS X.K M Z H Ψ E → sSem X st E σ H
structure WSs (X : Cx) (ρ : Rho) (M : Mp) (st : List Stmt) (Ψ : DE) : Prop where
  run : ∀ {Z : Zn} σ H (E : Ends), EnvR X.K M Z H σ ρ → Wd X.K M Z H → KS X.K M Z H Ψ E → ssSem X st E σ H
structure WG (X : Cx) (tg : Expr) (d : D) (ρ : Rho) (M : Mp) (Φ : Rho → Mp → Prop) : Prop where
  run : ∀ {Z : Zn} σ H v (Q : L2.St → Hp → Prop), EnvR X.K M Z H σ ρ → Wd X.K M Z H → Rep X.K M Z H v d → KG X.K M Z H Φ Q → gSem X tg v σ H Q
structure WGs (X : Cx) (tg : List Expr) (ds : List D) (ρ : Rho) (M : Mp) (Φ : Rho → Mp → Prop) : Prop where
  run : ∀ {Z : Zn} σ H vs (Q : L2.St → Hp → Prop), EnvR X.K M Z H σ ρ → Wd X.K M Z H → Reps X.K M Z H vs ds → KG X.K M Z H Φ Q → gsSem X tg vs σ H Q

section
variable {X : Cx} {ρ : Rho} {M : Mp} {Φ : D → Mp → Prop} {e a b : Expr} {pos : Pos}
/-- weaken the end -/
theorem WE.imp {Φ' : D → Mp → Prop} (h : WE X ρ M e Φ') (k : ∀ d M', Φ' d M' → Φ d M') : WE X ρ M e Φ := .mk fun σ H Q en w q => h.run σ H Q en w fun v d H' M' x w' r z => q v d H' M' x w' r (k d M' z)
theorem WA.imp {es : List Expr} {Φ Φ' : List D → Mp → Prop} (h : WA X ρ M es Φ') (k : ∀ d M', Φ' d M' → Φ d M') : WA X ρ M es Φ := .mk fun σ H Q en w q => h.run σ H Q en w fun v d H' M' x w' r z => q v d H' M' x w' r (k d M' z)
theorem WT.imp {Φ Φ' : Bool → Mp → Prop} (h : WT X ρ M e Φ') (k : ∀ d M', Φ' d M' → Φ d M') : WT X ρ M e Φ := .mk fun σ H Q en w q => h.run σ H Q en w fun b H' M' x w' z => q b H' M' x w' (k b M' z)

/-! ### names and constants -/
theorem we_var (i : Nat) {x : Str} {d : D} (hr : ρ[i]? = some (some d)) (h : Φ d M) (hN : X.N[i]? = some x := by rfl) (hv : Vis X.env.scope x := by first | exact Or.inl rfl | exact Or.inr (Or.inl rfl) | exact Or.inr (Or.inr rfl))
    (hd : (x == ("__debug__" : Str)) = false := by decide) (hcd : (x == ("__classdict__" : Str)) = false := by decide) : WE X ρ M (.Name x pos) Φ := .mk fun σ H Q en w k => by
  obtain ⟨v, e1, r⟩ := en.get hr
  exact eOf (pe_var hN hv hd hcd) ⟨v, e1, k.now w r h⟩
theorem we_int {i : Int} {j : Nat} (h : Φ (.int i) M) : WE X ρ M (.Constant (.int i) j pos) Φ := .mk fun σ H Q en w k => eOf pe_int (k.now w (.int i) h)
theorem we_bl {i : Bool} {j : Nat} (h : Φ (.bl i) M) : WE X ρ M (.Constant (.bool i) j pos) Φ := .mk fun σ H Q en w k => eOf pe_bl (k.now w (.bl i) h)
theorem we_non {j : Nat} (h : Φ .non M) : WE X ρ M (.Constant .none j pos) Φ := .mk fun σ H Q en w k => eOf pe_non (k.now w .non h)
theorem we_str {i : Str} {j : Nat} (h : Φ (.str i) M) : WE X ρ M (.Constant (.str i) j pos) Φ := .mk fun σ H Q en w k => eOf pe_str (k.now w (.str i) h)
/-- a module's constant -/
theorem we_gint {x : Str} {i : Int} (hm : ∃ t, X.mg x = some (.int i t)) (h : Φ (.int i) M) (hg : Gl X x := by rfl) (hd : (x == ("__debug__" : Str)) = false := by decide) : WE X ρ M (.Name x pos) Φ := .mk fun σ H Q en w k => by
  obtain ⟨t, hm⟩ := hm
  exact eOf (pe_glob (v := .int i) hg hm ⟨t, rfl⟩ hd) (k.now w (.int i) h)
theorem we_gstr {x : Str} {i : Str} (hm : ∃ t, X.mg x = some (.str i t)) (h : Φ (.str i) M) (hg : Gl X x := by rfl) (hd : (x == ("__debug__" : Str)) = false := by decide) : WE X ρ M (.Name x pos) Φ := .mk fun σ H Q en w k => by
  obtain ⟨t, hm⟩ := hm
  exact eOf (pe_glob (v := .str i) hg hm ⟨t, rfl⟩ hd) (k.now w (.str i) h)
theorem we_gref {x : Str} {a : Addr} {d : D} (hm : X.mg x = some (.ref a)) (hr : ∀ M Z H, Rep X.K M Z H (.ref a) d) (h : Φ d M) (hg : Gl X x := by rfl) (hd : (x == ("__debug__" : Str)) = false := by decide) : WE X ρ M (.Name x pos) Φ := .mk fun σ H Q en w k =>
  eOf (pe_glob (v := .ref a) hg hm rfl hd) (k.now w (hr _ _ _) h)
/-- a built-in class as a value -/
theorem we_bty {x : Str} {n : String} (hm : X.mg x = none) (hv : bootBuiltins x = some (.type n)) (h : Φ (.ty n) M) (hg : Gl X x := by rfl) (hn : x ≠ "__name__" := by decide) (hd : (x == ("__debug__" : Str)) = false := by decide) : WE X ρ M (.Name x pos) Φ := .mk fun σ H Q en w k =>
  eOf (pe_bltn (v := .ty n) hg hm hv rfl hn hd) (k.now w (.ty n) h)

/-! ### operators by values -/
def RD (K : PySem.W.Frag) (r : R2) (x y : D) (M : Mp) (Φ : D → Mp → Prop) : Prop := ∀ (Z : Zn) v u H Q, Wd K M Z H → Rep K M Z H v x → Rep K M Z H u y → KE K M Z H Φ Q → r v u H Q
def RU (K : PySem.W.Frag) (r : V → Hp → VK → Prop) (x : D) (M : Mp) (Φ : D → Mp → Prop) : Prop := ∀ (Z : Zn) v H Q, Wd K M Z H → Rep K M Z H v x → KE K M Z H Φ Q → r v H Q
def RC (K : PySem.W.Frag) (r : List V → Hp → VK → Prop) (xs : List D) (M : Mp) (Φ : D → Mp → Prop) : Prop := ∀ (Z : Zn) vs H Q, Wd K M Z H → Reps K M Z H vs xs → KE K M Z H Φ Q → r vs H Q
theorem bind2 {Ψ : D → D → Mp → Prop} (h : WE X ρ M a fun x M1 => WE X ρ M1 b fun y M2 => Ψ x y M2) {Z : Zn} {σ : L2.St} {H : Hp} {R : V → V → Hp → Prop} (en : EnvR X.K M Z H σ ρ) (w : Wd X.K M Z H)
    (k : ∀ v u x y H2 M2, Ext M Z H M2 H2 → Wd X.K M2 Z H2 → Rep X.K M2 Z H2 v x → Rep X.K M2 Z H2 u y → Ψ x y M2 → R v u H2) : eSem X a σ H fun x H1 => eSem X b σ H1 fun y H2 => R x y H2 :=
  h.run σ H _ en w fun v x H1 M1 e1 w1 r1 hb => hb.run σ H1 _ (en.mono e1) w1 fun u y H2 M2 e2 w2 r2 hr => k v u x y H2 M2 (e1.trans e2) w2 (r1.mono e2) r2 hr
theorem we_op {op : Operator} {r : R2} (ho : OpR X (binaryOp op) r) (h : WE X ρ M a fun x M1 => WE X ρ M1 b fun y M2 => RD X.K r x y M2 Φ) : WE X ρ M (.BinOp a op b pos) Φ := .mk fun σ H Q en w k =>
  eOf (pe_op ho pe_sem pe_sem) (bind2 h en w fun v u x y H2 M2 e w2 r1 r2 hr => hr _ v u H2 Q w2 r1 r2 (k.step e))
theorem we_cmp {op : CmpOp} {r : R2} (ho : OpR X (compareOp op) r) (hm : behindInMarks op b = false) (h : WE X ρ M a fun x M1 => WE X ρ M1 b fun y M2 => RD X.K r x y M2 Φ) : WE X ρ M (.Compare a [op] [b] pos) Φ := .mk fun σ H Q en w k =>
  eOf (pe_cmpR ho pe_sem pe_sem hm) (bind2 h en w fun v u x y H2 M2 e w2 r1 r2 hr => hr _ v u H2 Q w2 r1 r2 (k.step e))
theorem we_un {op : UnaryOp} {r : V → Hp → VK → Prop} (ho : UnR X (unaryOp op) r) (h : WE X ρ M a fun x M1 => RU X.K r x M1 Φ) : WE X ρ M (.UnaryOp op a pos) Φ := .mk fun σ H Q en w k =>
  eOf (pe_un ho pe_sem) (h.run σ H _ en w fun v x H1 M1 e1 w1 r1 hr => hr _ v H1 Q w1 r1 (k.step e1))
/-- one comparison as a test -/
theorem wt_cmp {op : CmpOp} {r : R2} {Φ : Bool → Mp → Prop} (ho : OpR X (compareOp op) r) (hm : behindInMarks op b = false) (h : WE X ρ M a fun x M1 => WE X ρ M1 b fun y M2 => RD X.K r x y M2 fun d M3 => ∃ c, d = .bl c ∧ Φ c M3) : WT X ρ M (.Compare a [op] [b] pos) Φ := .mk fun σ H Q en w k =>
  tOf (pt_cmpR ho pe_sem pe_sem hm) (bind2 h en w fun v u x y H2 M2 e w2 r1 r2 hr => hr _ v u H2 _ w2 r1 r2 fun z d H3 M3 e3 w3 r3 hz => by
    obtain ⟨c, rfl, hz⟩ := hz
    cases r3
    exact ⟨c, rfl, k c H3 M3 (e.trans e3) w3 hz⟩)
/-- a value that is a bool, as a test -/
theorem wt_val {Φ : Bool → Mp → Prop} (h : WE X ρ M e fun d M1 => ∃ c, d = .bl c ∧ Φ c M1) (he : ∀ whole, isTrue e X.env whole = (do let v ← whole; standAt e.pos; holding [v] (truthy v)) := by intro _; rfl) : WT X ρ M e Φ := .mk fun σ H Q en w k =>
  tOf (pt_val pe_sem he) (h.run σ H _ en w fun v x H1 M1 e1 w1 r1 hz => by
    obtain ⟨c, rfl, hz⟩ := hz
    cases r1
    exact ⟨c, rfl, k c H1 M1 e1 w1 hz⟩)

/-! ### and, or, not, if -/
theorem wt_not {Φ : Bool → Mp → Prop} (h : WT X ρ M a fun c M1 => Φ (!c) M1) : WT X ρ M (.UnaryOp .Not a pos) Φ := .mk fun σ H Q en w k =>
  tOf (pt_not pt_sem) (h.run σ H _ en w fun c H1 M1 e1 w1 hz => k _ H1 M1 e1 w1 hz)
theorem ww_and1 {Φ : Bool → Mp → Prop} (h : WT X ρ M a Φ) : WW X ρ M (.BoolOp .And [a] pos) Φ := .mk fun σ H Q en w k => wOf (pw_and1 pt_sem) (h.run σ H Q en w k)
theorem ww_or1 {Φ : Bool → Mp → Prop} (h : WT X ρ M a Φ) : WW X ρ M (.BoolOp .Or [a] pos) Φ := .mk fun σ H Q en w k => wOf (pw_or1 pt_sem) (h.run σ H Q en w k)
theorem ww_and {Φ : Bool → Mp → Prop} {rest : List Expr} (h : WT X ρ M a fun c M1 => if c = true then WW X ρ M1 (.BoolOp .And (b :: rest) pos) Φ else Φ false M1) : WW X ρ M (.BoolOp .And (a :: b :: rest) pos) Φ := .mk fun σ H Q en w k =>
  wOf (pw_and pt_sem pw_sem) (h.run σ H _ en w fun c H1 M1 e1 w1 hz => by
    cases c with
    | true => exact hz.run σ H1 Q (en.mono e1) w1 (k.step e1)
    | false => exact k false H1 M1 e1 w1 hz)
theorem ww_or {Φ : Bool → Mp → Prop} {rest : List Expr} (h : WT X ρ M a fun c M1 => if c = true then Φ true M1 else WW X ρ M1 (.BoolOp .Or (b :: rest) pos) Φ) : WW X ρ M (.BoolOp .Or (a :: b :: rest) pos) Φ := .mk fun σ H Q en w k =>
  wOf (pw_or pt_sem pw_sem) (h.run σ H _ en w fun c H1 M1 e1 w1 hz => by
    cases c with
    | true => exact k true H1 M1 e1 w1 hz
    | false => exact hz.run σ H1 Q (en.mono e1) w1 (k.step e1))
theorem wt_ww {Φ : Bool → Mp → Prop} (h : WW X ρ M e Φ) : WT X ρ M e Φ := .mk fun σ H Q en w k => tOf pw_sem.pt (h.run σ H Q en w k)
/-- as values (all but the last are bools) -/
theorem we_one {op : BoolOp} (h : WE X ρ M a Φ) : WE X ρ M (.BoolOp op [a] pos) Φ := .mk fun σ H Q en w k => eOf (pe_one pe_sem) (h.run σ H Q en w k)
theorem we_and {rest : List Expr} (h : WE X ρ M a fun d M1 => ∃ c, d = .bl c ∧ if c = true then WE X ρ M1 (.BoolOp .And (b :: rest) pos) Φ else Φ (.bl false) M1) : WE X ρ M (.BoolOp .And (a :: b :: rest) pos) Φ := .mk fun σ H Q en w k =>
  eOf (pe_and pe_sem pe_sem) (h.run σ H _ en w fun v x H1 M1 e1 w1 r1 hz => by
    obtain ⟨c, rfl, hz⟩ := hz
    cases r1
    refine ⟨c, rfl, ?_⟩
    cases c with
    | true => exact hz.run σ H1 Q (en.mono e1) w1 (k.step e1)
    | false => exact k.step e1 |>.now w1 (.bl false) hz)
theorem we_or {rest : List Expr} (h : WE X ρ M a fun d M1 => ∃ c, d = .bl c ∧ if c = true then Φ (.bl true) M1 else WE X ρ M1 (.BoolOp .Or (b :: rest) pos) Φ) : WE X ρ M (.BoolOp .Or (a :: b :: rest) pos) Φ := .mk fun σ H Q en w k =>
  eOf (pe_or pe_sem pe_sem) (h.run σ H _ en w fun v x H1 M1 e1 w1 r1 hz => by
    obtain ⟨c, rfl, hz⟩ := hz
    cases r1
    refine ⟨c, rfl, ?_⟩
    cases c with
    | true => exact k.step e1 |>.now w1 (.bl true) hz
    | false => exact hz.run σ H1 Q (en.mono e1) w1 (k.step e1))
theorem we_not (h : WE X ρ M a fun d M1 => ∃ c, d = .bl c ∧ Φ (.bl (!c)) M1) : WE X ρ M (.UnaryOp .Not a pos) Φ := .mk fun σ H Q en w k =>
  eOf (pe_not pe_sem) (h.run σ H _ en w fun v x H1 M1 e1 w1 r1 hz => by
    obtain ⟨c, rfl, hz⟩ := hz
    cases r1
    exact ⟨c, rfl, k.step e1 |>.now w1 (.bl _) hz⟩)
theorem we_if {c : Expr} (h : WT X ρ M c fun b' M1 => if b' = true then WE X ρ M1 a Φ else WE X ρ M1 b Φ) : WE X ρ M (.IfExp c a b pos) Φ := .mk fun σ H Q en w k =>
  eOf (pe_ifExp pt_sem pe_sem pe_sem) (h.run σ H _ en w fun c H1 M1 e1 w1 hz => by
    cases c with
    | true => exact hz.run σ H1 Q (en.mono e1) w1 (k.step e1)
    | false => exact hz.run σ H1 Q (en.mono e1) w1 (k.step e1))

/-! ### arguments, displays -/
variable {es : List Expr} {ΦA : List D → Mp → Prop}
theorem wa_nil (h : ΦA [] M) : WA X ρ M [] ΦA := .mk fun σ H Q en w k => aOf pa_nil (k [] [] H M Ext.refl w .nil h)
theorem wa_cons (h : WE X ρ M e fun d M1 => WA X ρ M1 es fun ds M2 => ΦA (d :: ds) M2) (hs : starEach (e :: es) X.env = (false, eval e X.env) :: starEach es X.env := by rfl) : WA X ρ M (e :: es) ΦA := .mk fun σ H Q en w k =>
  aOf (pa_cons pe_sem pa_sem hs) (h.run σ H _ en w fun v d H1 M1 e1 w1 r1 hz => hz.run σ H1 _ (en.mono e1) w1 fun vs ds H2 M2 e2 w2 r2 hy => k (v :: vs) (d :: ds) H2 M2 (e1.trans e2) w2 (.cons (r1.mono e2) r2) hy)
theorem we_tup {k1 : Nat} (h : WA X ρ M es fun ds M1 => ds.length ≤ sizeLine ∧ Φ (.tup ds) M1) : WE X ρ M (.Tuple es k1 pos) Φ := .mk fun σ H Q en w k =>
  eOf (pe_tup pa_sem) (h.run σ H _ en w fun vs ds H1 M1 e1 w1 r1 hz => ⟨by rw [r1.length]; exact hz.1, fun p hp => (k.step e1).new w1 hp (.tup (.inl upd_same) (w1.fresh hp) (r1.mono (Ext.new w1 hp))) hz.2⟩)
theorem we_lst (h : WA X ρ M es fun ds M1 => ds.length ≤ sizeLine ∧ Φ (.lst ds) M1) : WE X ρ M (.List es pos) Φ := .mk fun σ H Q en w k =>
  eOf (pe_lst pa_sem) (h.run σ H _ en w fun vs ds H1 M1 e1 w1 r1 hz => ⟨by rw [r1.length]; exact hz.1, fun p hp => (k.step e1).new w1 hp (.lst upd_same (w1.fresh hp) (r1.mono (Ext.new w1 hp))) hz.2⟩)
/-- a list that will be changed -/
theorem we_lstM (h : WA X ρ M es fun ds M1 => ds.length ≤ sizeLine ∧ ∀ p, M1 p = none → Φ (.ob p) (mset M1 p (.lst ds))) : WE X ρ M (.List es pos) Φ := .mk fun σ H Q en w k =>
  eOf (pe_lst pa_sem) (h.run σ H _ en w fun vs ds H1 M1 e1 w1 r1 hz => ⟨by rw [r1.length]; exact hz.1, fun p hp =>
    (k.step e1) _ (.ob p) _ (mset M1 p (.lst ds)) (Ext.newM w1 hp) (w1.newM hp ⟨vs, upd_same, r1.mono (Ext.newM w1 hp)⟩) (.ob p) (hz.2 p (w1.fresh hp).1)⟩)
end
end DL
/-! DL3: statements, targets, loops, calls of defs. -/
namespace DL
open PySem L2
section
variable {X : Cx} {ρ : Rho} {M : Mp} {Ψ : DE} {e a b tg : Expr} {st : Stmt} {rest : List Stmt} {pos : Pos}

/-! ### blocks and small statements -/
theorem wss_nil (h : Ψ.nx ρ M) : WSs X ρ M [] Ψ := .mk fun σ H E en w k => ssOf pss_nil (k.nx σ ρ H M Ext.refl w en h)
theorem wss_cons (h : WS X ρ M st { Ψ with nx := fun ρ' M' => WSs X ρ' M' rest Ψ }) : WSs X ρ M (st :: rest) Ψ := .mk fun σ H E en w k =>
  ssOf (pss_cons ps_sem pss_sem) (h.run σ H _ en w ⟨fun σ1 ρ1 H1 M1 e1 w1 en1 hz => hz.run σ1 H1 E en1 w1 (k.step e1), k.rt, k.bk, k.ct⟩)
theorem ws_pass (h : Ψ.nx ρ M) : WS X ρ M (.Pass pos) Ψ := .mk fun σ H E en w k => sOf ps_pass (k.nx σ ρ H M Ext.refl w en h)
theorem ws_break (h : Ψ.bk ρ M) : WS X ρ M (.Break pos) Ψ := .mk fun σ H E en w k => sOf ps_break (k.bk σ ρ H M Ext.refl w en h)
theorem ws_continue (h : Ψ.ct ρ M) : WS X ρ M (.Continue pos) Ψ := .mk fun σ H E en w k => sOf ps_continue (k.ct σ ρ H M Ext.refl w en h)
theorem ws_expr (h : WE X ρ M e fun _ M1 => Ψ.nx ρ M1) (hs : swapsWith e none pos.line X.env = pure false := by rfl) : WS X ρ M (.Expr e pos) Ψ := .mk fun σ H E en w k =>
  sOf (ps_expr pe_sem hs) (h.run σ H _ en w fun v d H1 M1 e1 w1 r1 hz => k.nx σ ρ H1 M1 e1 w1 (en.mono e1) hz)
theorem ws_ret (h : WE X ρ M e Ψ.rt) : WS X ρ M (.Return (some e) pos) Ψ := .mk fun σ H E en w k => sOf (ps_ret pe_sem) (h.run σ H _ en w k.rt)
theorem ws_retN (h : Ψ.rt .non M) : WS X ρ M (.Return none pos) Ψ := .mk fun σ H E en w k => sOf ps_retN (k.rt.now w .non h)
theorem ws_if {c : Expr} {sa sb : List Stmt} (h : WT X ρ M c fun b' M1 => if b' = true then WSs X ρ M1 sa Ψ else WSs X ρ M1 sb Ψ) : WS X ρ M (.If c sa sb pos) Ψ := .mk fun σ H E en w k =>
  sOf (ps_if pt_sem pss_sem pss_sem) (h.run σ H _ en w fun c H1 M1 e1 w1 hz => by
    cases c with
    | true => exact hz.run σ H1 E (en.mono e1) w1 (k.step e1)
    | false => exact hz.run σ H1 E (en.mono e1) w1 (k.step e1))
theorem ws_never (h : False) : WS X ρ M st Ψ := h.elim
/-- other slots' data, less known -/
theorem WS.imp {Ψ' : DE} (h : WS X ρ M st Ψ') (n : ∀ ρ' M', Ψ'.nx ρ' M' → Ψ.nx ρ' M') (r : ∀ d M', Ψ'.rt d M' → Ψ.rt d M') (bk : ∀ ρ' M', Ψ'.bk ρ' M' → Ψ.bk ρ' M') (ct : ∀ ρ' M', Ψ'.ct ρ' M' → Ψ.ct ρ' M') : WS X ρ M st Ψ := .mk fun σ H E en w k =>
  h.run σ H E en w ⟨fun σ' ρ' H' M' x w' en' z => k.nx σ' ρ' H' M' x w' en' (n _ _ z), fun v d H' M' x w' r' z => k.rt v d H' M' x w' r' (r _ _ z), fun σ' ρ' H' M' x w' en' z => k.bk σ' ρ' H' M' x w' en' (bk _ _ z), fun σ' ρ' H' M' x w' en' z => k.ct σ' ρ' H' M' x w' en' (ct _ _ z)⟩

/-! ### targets -/
variable {Φ : Rho → Mp → Prop} {d : D} {ds : List D} {es : List Expr}
theorem wg_name (i : Nat) {x : Str} (h : Φ (ρ.set i (some d)) M) (hN : X.N.Nodup) (hi : X.N[i]? = some x := by rfl) (hx : Loc X.env.scope x := by first | exact Or.inl rfl | exact Or.inr rfl)
    (hf : X.fn x = true ∨ X.env.scope.names.lookup x = some .local := by first | exact .inl rfl | exact .inr rfl) : WG X (.Name x pos) d ρ M Φ := .mk fun σ H v Q en w r k =>
  gOf (pg_name hN hi hx hf) (k _ _ H M Ext.refl w (en.set r i) h)
theorem wgs_nil (h : ds = [] ∧ Φ ρ M) : WGs X [] ds ρ M Φ := .mk fun σ H vs Q en w r k => by
  obtain ⟨rfl, h⟩ := h
  cases r
  exact gsOf pgs_nil ⟨rfl, k _ _ H M Ext.refl w en h⟩
theorem wgs_cons {t : Expr} (h : WG X t d ρ M fun ρ1 M1 => WGs X es ds ρ1 M1 Φ) (hs : (assignEach (t :: es) X.env).map (·.2) = assign t X.env :: (assignEach es X.env).map (·.2) := by rfl) : WGs X (t :: es) (d :: ds) ρ M Φ := .mk fun σ H vs Q en w r k => by
  cases r with
  | cons r1 r2 =>
    exact gsOf (pgs_cons pg_sem pgs_sem hs) ⟨_, _, rfl, h.run σ H _ _ en w r1 fun σ1 ρ1 H1 M1 e1 w1 en1 hz => hz.run σ1 H1 _ Q en1 w1 (r2.mono e1) (k.step e1)⟩
theorem sqT_of {K : PySem.W.Frag} {H : Hp} {a : Addr} {vs : List V} (h : Rd H a (.tup vs) ∨ WrT K a vs) : SqT K H a vs := by
  rcases h with h | h
  · exact .inl h
  · exact .inr h
theorem sqL_of {K : PySem.W.Frag} {H : Hp} {a : Addr} {vs : List V} (h : Rd H a (.lst vs) ∨ WrL K a vs) : SqL K H a vs := by
  rcases h with h | h
  · exact .inl h
  · exact .inr h
theorem Rep.asTup {K : PySem.W.Frag} {M : Mp} {Z : Zn} {H : Hp} {v : V} {ds : List D} (r : Rep K M Z H v (.tup ds)) : ∃ a vs, v = .ref a ∧ SqT K H a vs ∧ Reps K M Z H vs ds := by
  cases r with
  | tup h m r => exact ⟨_, _, rfl, .inl h, r⟩
  | tupK h r => exact ⟨_, _, rfl, .inr h, r⟩
/-- what can be read as a list -/
def LstOf (M : Mp) : D → List D → Prop
  | .lst xs, ds => ds = xs
  | .rol xs, ds => ds = xs
  | .ob a, ds => M a = some (.lst ds)
  | _, _ => False
theorem Rep.asLst {K : PySem.W.Frag} {M : Mp} {Z : Zn} {H : Hp} {v : V} {d : D} {ds : List D} (w : Wd K M Z H) (r : Rep K M Z H v d) (l : LstOf M d ds) : ∃ a vs, v = .ref a ∧ SqL K H a vs ∧ Reps K M Z H vs ds := by
  cases r with
  | lst h m r => cases l; exact ⟨_, _, rfl, .inl (.inl h), r⟩
  | rol h m r => cases l; exact ⟨_, _, rfl, .inl h, r⟩
  | rolK h r => cases l; exact ⟨_, _, rfl, .inr h, r⟩
  | ob a =>
    obtain ⟨vs, h, r⟩ := w.1 a _ l
    exact ⟨_, _, rfl, .inl (.inl h), r⟩
  | _ => cases l
theorem wg_tup {k1 n : Nat} (h : d = .tup ds ∧ ds.length = n ∧ WGs X es ds ρ M Φ) (hc : X.calm = true := by rfl) (hn : (assignEach es X.env).length = n := by rfl) (hst : (assignEach es X.env).findIdx? (·.1) = none := by rfl) : WG X (.Tuple es k1 pos) d ρ M Φ := .mk fun σ H v Q en w r k => by
  obtain ⟨rfl, hl, h⟩ := h
  obtain ⟨a, vs, rfl, hq, rs⟩ := r.asTup
  exact gOf (pg_tup hc pgs_sem hn hst) ⟨a, vs, rfl, hq, by rw [rs.length]; exact hl, h.run σ H vs Q en w rs k⟩
theorem ws_asg (h : WE X ρ M e fun d M1 => WG X tg d ρ M1 Ψ.nx) (hs : swapsWithSole [tg] e pos.line X.env = pure false := by rfl) (hw : swappedStores [tg] e X.env = pure none := by rfl)
    (h1 : (assignEach [tg] X.env).map (·.2) = [assign tg X.env] := by rfl) : WS X ρ M (.Assign [tg] e pos) Ψ := .mk fun σ H E en w k =>
  sOf (ps_asg pe_sem pg_sem hs hw h1) (h.run σ H _ en w fun v d H1 M1 e1 w1 r1 hz => hz.run σ H1 v _ (en.mono e1) w1 r1 (k.nx.step e1))
theorem ws_set (i : Nat) {x : Str} {pos' : Pos} (hN : X.N.Nodup) (h : WE X ρ M e fun d M1 => Ψ.nx (ρ.set i (some d)) M1) (hi : X.N[i]? = some x := by rfl) (hx : Loc X.env.scope x := by first | exact Or.inl rfl | exact Or.inr rfl)
    (hs : swapsWith e (some (.Name x pos')) pos.line X.env = pure false := by rfl) (hf : X.fn x = true ∨ X.env.scope.names.lookup x = some .local := by first | exact .inl rfl | exact .inr rfl) : WS X ρ M (.Assign [.Name x pos'] e pos) Ψ := .mk fun σ H E en w k =>
  sOf (ps_set hN hi hx pe_sem hs hf) (h.run σ H _ en w fun v d H1 M1 e1 w1 r1 hz => k.nx _ _ H1 M1 e1 w1 ((en.mono e1).set r1 i) hz)
/-- a, b = x, y -/
theorem ws_par (i j : Nat) {x y : Str} {px py pt : Pos} {kt k2 : Nat} {pt2 : Pos} (hN : X.N.Nodup) (h : WA X ρ M [a, b] fun ds M1 => ∃ c d, ds = [c, d] ∧ Ψ.nx ((ρ.set i (some c)).set j (some d)) M1) (hi : X.N[i]? = some x := by rfl) (hj : X.N[j]? = some y := by rfl) (hij : i ≠ j := by decide)
    (hx : X.env.scope.names.lookup x = some .local := by rfl) (hy : X.env.scope.names.lookup y = some .local := by rfl) (hw : swappedStores [.Tuple [.Name x px, .Name y py] kt pt] (.Tuple [a, b] k2 pt2) X.env = pure (some [x, y]) := by rfl)
    (hc : X.calm = true := by rfl) (hs : swapsWithSole [.Tuple [.Name x px, .Name y py] kt pt] (.Tuple [a, b] k2 pt2) pos.line X.env = pure false := by rfl) : WS X ρ M (.Assign [.Tuple [.Name x px, .Name y py] kt pt] (.Tuple [a, b] k2 pt2) pos) Ψ := .mk fun σ H E en w k =>
  sOf (ps_par hc hN hi hj hij hx hy pa_sem hw hs) (h.run σ H _ en w fun vs ds H1 M1 e1 w1 r1 hz => by
    obtain ⟨c, d, rfl, hz⟩ := hz
    cases r1 with
    | cons r1 r2 =>
      cases r2 with
      | cons r2 r3 =>
        cases r3
        exact ⟨_, _, rfl, k.nx _ _ H1 M1 e1 w1 (((en.mono e1).set r1 i).set r2 j) hz⟩)
/-- x op= e -/
theorem ws_aug (i : Nat) {x : Str} {op : Operator} {ti : TIp} {pos' : Pos} {c : D} (ho : PIp X op ti) (hr : ρ[i]? = some (some c)) (hN : X.N.Nodup) (h : WE X ρ M e fun d M1 => RD X.K ti c d M1 fun z M2 => Ψ.nx (ρ.set i (some z)) M2) (hi : X.N[i]? = some x := by rfl) (hx : Loc X.env.scope x := by first | exact Or.inl rfl | exact Or.inr rfl)
    (hf : X.fn x = true ∨ X.env.scope.names.lookup x = some .local := by first | exact .inl rfl | exact .inr rfl) : WS X ρ M (.AugAssign (.Name x pos') op e pos) Ψ := .mk fun σ H E en w k => by
  obtain ⟨v, e1, r⟩ := en.get hr
  exact sOf (ps_aug hN hi hx pe_sem ho hf) ⟨v, e1, h.run σ H _ en w fun u d H1 M1 e1 w1 r1 hz => hz _ v u H1 _ w1 (r.mono e1) r1 fun z dz H2 M2 e2 w2 r2 hy => k.nx _ _ H2 M2 (e1.trans e2) w2 ((en.mono (e1.trans e2)).set r2 i) hy⟩

/-! ### if with the two ways -/
theorem ite_tt {A B : Prop} {c : Bool} (h1 : c = true → A) (h2 : c = false → B) : if c = true then A else B := by
  cases c with
  | true => exact h1 rfl
  | false => exact h2 rfl
theorem ite_dec {p A B : Prop} [Decidable p] (h1 : p → A) (h2 : ¬ p → B) : if (decide p) = true then A else B := by
  by_cases h : p
  · rw [decide_eq_true h]; exact h1 h
  · rw [decide_eq_false h]; exact h2 h

/-! ### what is walked -/
/-- the walk J yields these data, whatever comes besides -/
def Sq (K : PySem.W.Frag) (M1 : Mp) (Z1 : Zn) (H1 : Hp) (J : It) (items : List D) : Prop := ∀ i M Z H, ExI M1 Z1 H1 M Z H → Wd K M Z H →
  (i = items.length → J.stop i H) ∧ ∀ d, items[i]? = some d → J.go i H ∧ ∀ x H', J.yld i H x H' → Ext M Z H M H' ∧ Wd K M Z H' ∧ Rep K M Z H' x d
structure WI (X : Cx) (ρ : Rho) (M : Mp) (tg iter : Expr) (Φ : List D → Mp → Prop) : Prop where
  run : ∀ {Z : Zn} σ H (R : It → Hp → Prop), EnvR X.K M Z H σ ρ → Wd X.K M Z H →
  (∀ J items H1 M1, Ext M Z H M1 H1 → Wd X.K M1 Z H1 → Sq X.K M1 Z H1 J items → Φ items M1 → R J H1) → iSem X tg iter σ H R
theorem iOf {iter : Expr} {wi : TI} {σ : L2.St} {H : Hp} {R : It → Hp → Prop} (h : PI X tg iter wi) (q : wi σ H R) : iSem X tg iter σ H R := fun pins s I => h.run pins s σ H R I q
theorem sq_tup {K : PySem.W.Frag} {M1 : Mp} {Z1 : Zn} {H1 : Hp} {a : Addr} {vs : List V} {ds : List D} (hq : ∀ M Z H, ExI M1 Z1 H1 M Z H → SqT K H a vs) (rs : Reps K M1 Z1 H1 vs ds) : Sq K M1 Z1 H1 (Itt K a) ds := fun i M Z H e w => by
  refine ⟨fun hi => ⟨vs, hq M Z H e, by rw [rs.length, hi]; exact Nat.le_refl _⟩, fun d hd => ?_⟩
  obtain ⟨v, hv, r⟩ := rs.get hd
  refine ⟨⟨vs, v, hq M Z H e, hv⟩, fun x H' y => ?_⟩
  obtain ⟨rfl, y⟩ := y
  have := y vs (hq M Z _ e)
  rw [hv] at this
  cases this
  exact ⟨Ext.refl, w, r.monoI e⟩
/-- a list, a tuple that stays -/
theorem Rep.tupKeep {K : PySem.W.Frag} {M : Mp} {Z : Zn} {H : Hp} {v : V} {ds : List D} (r : Rep K M Z H v (.tup ds)) : ∃ a vs, v = .ref a ∧ (∀ M' Z' H', ExI M Z H M' Z' H' → SqT K H' a vs) ∧ Reps K M Z H vs ds := by
  cases r with
  | tup h m r => exact ⟨_, _, rfl, fun M' Z' H' e => .inl (e.rd h m), r⟩
  | tupK h r => exact ⟨_, _, rfl, fun _ _ _ _ => .inr h, r⟩
theorem Rep.lstKeep {K : PySem.W.Frag} {M : Mp} {Z : Zn} {H : Hp} {v : V} {d : D} {ds : List D} (r : Rep K M Z H v d) (hd : d = .lst ds ∨ d = .rol ds) : ∃ a vs, v = .ref a ∧ (∀ M' Z' H', ExI M Z H M' Z' H' → SqL K H' a vs) ∧ Reps K M Z H vs ds := by
  rcases hd with rfl | rfl
  · cases r with
    | lst h m r => exact ⟨_, _, rfl, fun M' Z' H' e => .inl (.inl (e _ _ h m).1), r⟩
  · cases r with
    | rol h m r => exact ⟨_, _, rfl, fun M' Z' H' e => .inl (e.rd h m), r⟩
    | rolK h r => exact ⟨_, _, rfl, fun _ _ _ _ => .inr h, r⟩
theorem wi_list {iter : Expr} {Φ : List D → Mp → Prop} (h : WE X ρ M iter fun d M1 => ∃ ds, (d = .lst ds ∨ d = .rol ds) ∧ Φ ds M1) : WI X ρ M tg iter Φ := .mk fun σ H R en w k =>
  iOf (pi_list pe_sem) (h.run σ H _ en w fun v d H1 M1 e1 w1 r1 hz => by
    obtain ⟨ds, hd, hz⟩ := hz
    obtain ⟨a, vs, rfl, hq, rs⟩ := r1.lstKeep hd
    refine ⟨a, rfl, ⟨vs, hq _ _ _ ExI.refl⟩, k _ ds H1 M1 e1 w1 ?_ hz⟩
    intro i M Z H e w
    refine ⟨fun hi => ⟨vs, hq M Z H e, by rw [rs.length, hi]; exact Nat.le_refl _⟩, fun d hd => ?_⟩
    obtain ⟨v, hv, r⟩ := rs.get hd
    refine ⟨⟨vs, v, hq M Z H e, hv⟩, fun x H' y => ?_⟩
    obtain ⟨rfl, y⟩ := y
    have := y vs (hq M Z _ e)
    rw [hv] at this
    cases this
    exact ⟨Ext.refl, w, r.monoI e⟩)
theorem wi_tup {iter : Expr} {Φ : List D → Mp → Prop} (h : WE X ρ M iter fun d M1 => ∃ ds, d = .tup ds ∧ Φ ds M1) : WI X ρ M tg iter Φ := .mk fun σ H R en w k =>
  iOf (pi_tup pe_sem) (h.run σ H _ en w fun v d H1 M1 e1 w1 r1 hz => by
    obtain ⟨ds, rfl, hz⟩ := hz
    obtain ⟨a, vs, rfl, hq, rs⟩ := r1.tupKeep
    exact ⟨a, rfl, ⟨vs, hq _ _ _ ExI.refl⟩, k _ ds H1 M1 e1 w1 (sq_tup hq rs) hz⟩)
/-- lo, lo + 1, .. -/
def rngD (lo : Int) (n : Nat) : List D := (List.range n).map fun (i : Nat) => D.int (lo + (i : Int))
theorem rngD_len (lo : Int) (n : Nat) : (rngD lo n).length = n := by simp [rngD]
theorem rngD_get {lo : Int} {n i : Nat} {d : D} (h : (rngD lo n)[i]? = some d) : i < n ∧ d = .int (lo + (i : Int)) := by
  have hi : i < (rngD lo n).length := (List.getElem?_eq_some_iff.mp h).1
  rw [rngD_len] at hi
  refine ⟨hi, ?_⟩
  unfold rngD at h
  rw [List.getElem?_map, List.getElem?_range hi] at h
  exact (Option.some.inj h).symm
theorem sq_range {K : PySem.W.Frag} {M1 : Mp} {Z1 : Zn} {H1 : Hp} (lo : Int) (n : Nat) : Sq K M1 Z1 H1 (Itr lo n) (rngD lo n) := fun i M Z H e w => by
  refine ⟨fun hi => by rw [hi, rngD_len]; exact Nat.le_refl _, fun d hd => ?_⟩
  obtain ⟨h1, rfl⟩ := rngD_get hd
  refine ⟨h1, fun x H' y => ?_⟩
  obtain ⟨rfl, rfl⟩ := y
  exact ⟨Ext.refl, w, .int _⟩
theorem wi_range1 {p : Pos} {Φ : List D → Mp → Prop} (hm : X.mg "range" = none) (h : WA X ρ M [a] fun ds M1 => ∃ j : Int, ds = [.int j] ∧ -(2 ^ 62) ≤ j ∧ j < 2 ^ 62 ∧ Φ (rngD 0 j.toNat) M1) (hg : Gl X "range" := by rfl) (hs : starEach [a] X.env = [(false, eval a X.env)] := by rfl) : WI X ρ M tg (.Call (.Name "range" p) [a] [] pos) Φ := .mk fun σ H R en w k =>
  iOf (pi_range1 hg hm pa_sem hs) (h.run σ H _ en w fun vs ds H1 M1 e1 w1 r1 hz => by
    obtain ⟨j, rfl, h1, h2, hz⟩ := hz
    cases r1 with
    | cons r1 r2 =>
      cases r1
      cases r2
      exact ⟨j, rfl, h1, h2, k _ _ H1 M1 e1 w1 (sq_range 0 _) hz⟩)
theorem wi_range2 {p : Pos} {Φ : List D → Mp → Prop} (hm : X.mg "range" = none) (h : WA X ρ M [a, b] fun ds M1 => ∃ i j : Int, ds = [.int i, .int j] ∧ (-(2 ^ 62) ≤ i ∧ i < 2 ^ 62 ∧ -(2 ^ 62) ≤ j ∧ j < 2 ^ 62) ∧ Φ (rngD i (j - i).toNat) M1) (hg : Gl X "range" := by rfl) (hs : starEach [a, b] X.env = [(false, eval a X.env), (false, eval b X.env)] := by rfl) (hs2 : starEach [b] X.env = [(false, eval b X.env)] := by rfl) : WI X ρ M tg (.Call (.Name "range" p) [a, b] [] pos) Φ := .mk fun σ H R en w k =>
  iOf (pi_range2 hg hm pa_sem hs hs2) (h.run σ H _ en w fun vs ds H1 M1 e1 w1 r1 hz => by
    obtain ⟨i, j, rfl, h1, hz⟩ := hz
    cases r1 with
    | cons r1 r2 =>
      cases r1
      cases r2 with
      | cons r2 r3 =>
        cases r2
        cases r3
        exact ⟨i, j, rfl, h1, k _ _ H1 M1 e1 w1 (sq_range i _) hz⟩)

/-! ### for -/
theorem ws_for {body : List Stmt} {iter : Expr} (hp : PassesOwn (model X.prog X.w) X.A X.env X.xe)
    (h : WI X ρ M tg iter fun ds M1 => ∃ I : Nat → Rho → Mp → Prop, I 0 ρ M1 ∧
      (∀ i x ρ' M', ds[i]? = some x → I i ρ' M' → WG X tg x ρ' M' fun ρ2 M2 => WSs X ρ2 M2 body { nx := I (i + 1), ct := I (i + 1), bk := Ψ.nx, rt := Ψ.rt }) ∧ ∀ ρ' M', I ds.length ρ' M' → Ψ.nx ρ' M')
    (hc : X.calm = true := by rfl) (hs : ∀ x, foldedSetIterable iter X.env x = pure x := by intro _; rfl) : WS X ρ M (.For tg iter body [] pos) Ψ := .mk fun {Z} σ H E en w k =>
  sOf (ps_for hp hc pi_sem pg_sem pss_sem hs) (h.run σ H _ en w fun J ds H1 M1 e1 w1 sq hz => by
    obtain ⟨I, h0, turn, done⟩ := hz
    refine ⟨fun i m σ' H' => m = ds.length - i ∧ i ≤ ds.length ∧ ∃ ρ' M', Ext M1 Z H1 M' H' ∧ Wd X.K M' Z H' ∧ EnvR X.K M' Z H' σ' ρ' ∧ I i ρ' M', ⟨ds.length, by simp, Nat.zero_le _, ρ, M1, Ext.refl, w1, en.mono e1, h0⟩, ?_⟩
    rintro i m σ' H' ⟨rfl, hi, ρ', M', x', w', en', inv⟩
    obtain ⟨s1, s2⟩ := sq i M' Z H' x'.i w'
    by_cases hlt : i < ds.length
    · have hd : ds[i]? = some ds[i] := List.getElem?_eq_getElem hlt
      obtain ⟨go, yl⟩ := s2 _ hd
      refine .inr ⟨go, fun σ2 H2 => ∃ ρ2 M2, Ext M1 Z H1 M2 H2 ∧ Wd X.K M2 Z H2 ∧ EnvR X.K M2 Z H2 σ2 ρ2 ∧ I (i + 1) ρ2 M2, fun σ2 H2 ⟨ρ2, M2, x2, w2, en2, i2⟩ => ⟨ds.length - (i + 1), by omega, rfl, hlt, ρ2, M2, x2, w2, en2, i2⟩, fun v H2 y => ?_⟩
      obtain ⟨x2, w2, r2⟩ := yl v H2 y
      have x12 := x'.trans x2
      refine (turn i _ ρ' M' hd inv).run σ' H2 v _ (en'.mono x2) w2 r2 fun σ3 ρ3 H3 M3 x3 w3 en3 hb => ?_
      have x13 := x12.trans x3
      have ks := (k.step e1).step x13
      exact hb.run σ3 H3 _ en3 w3 ⟨fun σ4 ρ4 H4 M4 x4 w4 en4 z => ⟨ρ4, M4, x13.trans x4, w4, en4, z⟩, ks.rt, ks.nx, fun σ4 ρ4 H4 M4 x4 w4 en4 z => ⟨ρ4, M4, x13.trans x4, w4, en4, z⟩⟩
    · have e : i = ds.length := by omega
      exact .inl ⟨s1 e, (k.step e1).nx σ' ρ' H' M' x' w' en' (done _ _ (e ▸ inv))⟩)

/-! ### while -/
theorem ws_while {c : Expr} {body : List Stmt} (hp : PassesOwn (model X.prog X.w) X.A X.env X.xe) (I : Nat → Rho → Mp → Prop) (n : Nat) (h0 : I n ρ M)
    (turn : ∀ n ρ' M', I n ρ' M' → WT X ρ' M' c fun b M1 => if b = true then WSs X ρ' M1 body { nx := fun ρ2 M2 => ∃ m, m < n ∧ I m ρ2 M2, ct := fun ρ2 M2 => ∃ m, m < n ∧ I m ρ2 M2, bk := Ψ.nx, rt := Ψ.rt } else Ψ.nx ρ' M1) : WS X ρ M (.While c body [] pos) Ψ := .mk fun {Z} σ H E en w k => by
  refine sOf (ps_while hp pt_sem pss_sem) ⟨fun m σ' H' => ∃ ρ' M', Ext M Z H M' H' ∧ Wd X.K M' Z H' ∧ EnvR X.K M' Z H' σ' ρ' ∧ I m ρ' M', ⟨n, ρ, M, Ext.refl, w, en, h0⟩, ?_⟩
  rintro m σ' H' ⟨ρ', M', x', w', en', inv⟩
  refine (turn m ρ' M' inv).run σ' H' _ en' w' fun b H1 M1 x1 w1 hz => ?_
  have x01 := x'.trans x1
  have ks := k.step x01
  cases b with
  | true =>
    refine ⟨fun σ2 H2 => ∃ ρ2 M2, Ext M Z H M2 H2 ∧ Wd X.K M2 Z H2 ∧ EnvR X.K M2 Z H2 σ2 ρ2 ∧ ∃ j, j < m ∧ I j ρ2 M2, fun σ2 H2 ⟨ρ2, M2, x2, w2, en2, j, hj, i2⟩ => ⟨j, hj, ρ2, M2, x2, w2, en2, i2⟩, ?_⟩
    exact hz.run σ' H1 _ (en'.mono x1) w1 ⟨fun σ4 ρ4 H4 M4 x4 w4 en4 z => ⟨ρ4, M4, x01.trans x4, w4, en4, z⟩, ks.rt, ks.nx, fun σ4 ρ4 H4 M4 x4 w4 en4 z => ⟨ρ4, M4, x01.trans x4, w4, en4, z⟩⟩
  | false => exact ks.nx σ' ρ' H1 M1 Ext.refl w1 (en'.mono x1) hz
end
end DL
/-! DL4: comprehensions. -/
namespace DL
open PySem L2
/-! ### hidden objects -/
def hid (Z : Zn) (p : Addr) : Zn := fun b => Z b ∨ b = p
section
variable {K : PySem.W.Frag} {M M' : Mp} {Z : Zn} {H H' : Hp} {p : Addr} {o : HO}
theorem hide_x (h : H p = none) : ExI M Z H M (hid Z p) (upd H p o) := fun b u q m => by
  have n : b ≠ p := ne_of_none q h
  exact ⟨by rw [upd_ne n]; exact q, m.1, fun z => z.elim m.2 n⟩
theorem hide_w (w : Wd K M Z H) (h : H p = none) : Wd K M (hid Z p) (upd H p o) := ⟨fun a u e => by
  obtain ⟨z, q⟩ := (w.1 a u e).there
  exact (w.1 a u e).stepI (hide_x h) (upd_ne (ne_of_none q h)), fun b z => by
  rcases z with z | rfl
  · obtain ⟨m, u, q⟩ := w.2 b z
    exact ⟨m, u, by rw [upd_ne (ne_of_none q h)]; exact q⟩
  · exact ⟨(w.fresh h).1, o, upd_same⟩⟩
/-- the hidden object changed -/
theorem hidput_x : ExI M (hid Z p) H M (hid Z p) (upd H p o) := fun b u q m => ⟨by rw [upd_ne (fun e => m.2 (.inr e))]; exact q, m⟩
theorem hidput_w (w : Wd K M (hid Z p) H) : Wd K M (hid Z p) (upd H p o) := ⟨fun a u e => by
  have n : a ≠ p := fun z => by have := (w.2 p (.inr rfl)).1; rw [z, this] at e; cases e
  exact (w.1 a u e).stepI hidput_x (upd_ne n), fun b z => by
  obtain ⟨m, u, q⟩ := w.2 b z
  by_cases hb : b = p
  · exact ⟨m, o, by rw [hb]; exact upd_same⟩
  · exact ⟨m, u, by rw [upd_ne hb]; exact q⟩⟩
/-- .. shown -/
theorem show_x : ExI M (hid Z p) H M Z H := fun b u q m => ⟨q, m.1, fun z => m.2 (.inl z)⟩
theorem show_w (w : Wd K M (hid Z p) H) : Wd K M Z H := ⟨fun a u e => (w.1 a u e).stepI show_x rfl, fun b z => w.2 b (.inl z)⟩
end

/-! ### wiped slots -/
def wipeR (ρ : Rho) : List Nat → Rho
  | [] => ρ
  | v :: vs => (wipeR ρ vs).set v none
theorem env_wipe {K : PySem.W.Frag} {M : Mp} {Z : Zn} {H : Hp} {σ : L2.St} {ρ : Rho} (en : EnvR K M Z H σ ρ) : ∀ vs : List Nat, EnvR K M Z H (wipe σ vs) (wipeR ρ vs)
  | [] => en
  | v :: vs => EnvR.unset v (env_wipe en vs)
theorem wipe_get (σ : L2.St) (j : Nat) : ∀ vs : List Nat, (wipe σ vs)[j]? = if j ∈ vs then (σ[j]?).map (fun _ => none) else σ[j]?
  | [] => by simp [wipe]
  | v :: vs => by
    unfold wipe
    have ih := wipe_get σ j vs
    by_cases hj : v = j
    · subst hj
      rw [if_pos List.mem_cons_self]
      by_cases hl : v < (wipe σ vs).length
      · rw [List.getElem?_set_self hl]
        rw [wipe_length] at hl
        rw [List.getElem?_eq_getElem hl]; rfl
      · rw [List.getElem?_eq_none (by simpa using hl)]
        rw [wipe_length] at hl
        rw [List.getElem?_eq_none (by omega)]; rfl
    · rw [List.getElem?_set_ne hj, ih]
      by_cases hm : j ∈ vs
      · rw [if_pos hm, if_pos (List.mem_cons_of_mem _ hm)]
      · rw [if_neg hm, if_neg (by simp only [List.mem_cons, not_or]; exact ⟨fun e => hj e.symm, hm⟩)]
theorem wipe_ext {σ τ : L2.St} {vs : List Nat} (h : ∀ j, j ∉ vs → σ[j]? = τ[j]?) (hl : σ.length = τ.length) : wipe σ vs = wipe τ vs := by
  apply List.ext_getElem?
  intro j
  rw [wipe_get, wipe_get]
  by_cases hj : j ∈ vs
  · rw [if_pos hj, if_pos hj]
    by_cases hs : j < σ.length
    · rw [List.getElem?_eq_getElem hs, List.getElem?_eq_getElem (by omega)]; rfl
    · rw [List.getElem?_eq_none (by omega), List.getElem?_eq_none (by omega)]
  · rw [if_neg hj, if_neg hj]; exact h j hj
theorem wipe_twice (σ : L2.St) (vs : List Nat) : wipe (wipe σ vs) vs = wipe σ vs := wipe_ext (fun j hj => by rw [wipe_get, if_neg hj]) (wipe_length _ _)
theorem wipe_set {σ : L2.St} {vs : List Nat} {i : Nat} {o : Option V} (hi : i ∈ vs) : wipe (σ.set i o) vs = wipe σ vs := wipe_ext (fun j hj => List.getElem?_set_ne (fun (e : i = j) => hj (e ▸ hi))) (List.length_set ..)

/-! ### targets of a comprehension -/
def GT (K : PySem.W.Frag) (g : TG) (vs : List Nat) (G : D → Rho → (Rho → Prop) → Prop) : Prop := ∀ M Z H v d σ ρ (R : Rho → Prop) (Q : L2.St → Hp → Prop), EnvR K M Z H (wipe σ vs) ρ → Rep K M Z H v d → G d ρ R →
  (∀ σ2 ρ2, EnvR K M Z H σ2 ρ2 → wipe σ2 vs = wipe σ vs → R ρ2 → Q σ2 H) → g v (wipe σ vs) H Q
theorem gt_name {K : PySem.W.Frag} {vs : List Nat} {i : Nat} (hi : i ∈ vs) : GT K (gName i) vs (fun d ρ R => R (ρ.set i (some d))) := fun M Z H v d σ ρ R Q en r g k =>
  k _ _ (en.set r i) (by rw [wipe_set hi, wipe_twice]) g
theorem gt_two {K : PySem.W.Frag} {vs : List Nat} {i j : Nat} (hi : i ∈ vs) (hj : j ∈ vs) : GT K (gTup K 2 (gCons (gName i) (gCons (gName j) gNil))) vs (fun d ρ R => ∃ a b, d = .tup [a, b] ∧ R ((ρ.set i (some a)).set j (some b))) := fun M Z H v d σ ρ R Q en r g k => by
  obtain ⟨a, b, rfl, g⟩ := g
  obtain ⟨p, vs, rfl, hq, rs⟩ := r.asTup
  cases rs with
  | cons r1 r2 =>
    cases r2 with
    | cons r2 r3 =>
      cases r3
      exact ⟨p, _, rfl, hq, rfl, _, _, rfl, _, _, rfl, rfl, k _ _ ((en.set r1 i).set r2 j) (by rw [wipe_set hj, wipe_set hi, wipe_twice]) g⟩
theorem gt_three {K : PySem.W.Frag} {vs : List Nat} {i j l : Nat} (hi : i ∈ vs) (hj : j ∈ vs) (hl : l ∈ vs) : GT K (gTup K 3 (gCons (gName i) (gCons (gName j) (gCons (gName l) gNil)))) vs (fun d ρ R => ∃ a b c, d = .tup [a, b, c] ∧ R (((ρ.set i (some a)).set j (some b)).set l (some c))) := fun M Z H v d σ ρ R Q en r g k => by
  obtain ⟨a, b, c, rfl, g⟩ := g
  obtain ⟨p, vs, rfl, hq, rs⟩ := r.asTup
  cases rs with
  | cons r1 r2 =>
    cases r2 with
    | cons r2 r3 =>
      cases r3 with
      | cons r3 r4 =>
        cases r4
        exact ⟨p, _, rfl, hq, rfl, _, _, rfl, _, _, rfl, _, _, rfl, rfl, k _ _ (((en.set r1 i).set r2 j).set r3 l) (by rw [wipe_set hl, wipe_set hj, wipe_set hi, wipe_twice]) g⟩

/-! ### the comprehension -/
section
variable {X : Cx} {ρ : Rho} {M : Mp} {elt tg iter : Expr} {pos : Pos} {scope : Scope}
/-- within the block -/
def eBlk (X : Cx) (scope : Scope) (e : Expr) : TE := fun σ H Q => ∀ s H0 C cl fp, eSem (X.blk s H0 scope (compEnvC scope cl C X.env) fp) e σ H Q
def tBlk (X : Cx) (scope : Scope) (e : Expr) : TT := fun σ H Q => ∀ s H0 C cl fp, tSem (X.blk s H0 scope (compEnvC scope cl C X.env) fp) e σ H Q
def WEb (X : Cx) (scope : Scope) (ρ : Rho) (M : Mp) (e : Expr) (Φ : D → Mp → Prop) : Prop := ∀ s H0 C cl fp, WE (X.blk s H0 scope (compEnvC scope cl C X.env) fp) ρ M e Φ
def WTb (X : Cx) (scope : Scope) (ρ : Rho) (M : Mp) (e : Expr) (Φ : Bool → Mp → Prop) : Prop := ∀ s H0 C cl fp, WT (X.blk s H0 scope (compEnvC scope cl C X.env) fp) ρ M e Φ
/-- the tests -/
def TK (X : Cx) (tt : TT) (T : Rho → Mp → (Bool → Mp → Prop) → Prop) : Prop := ∀ {Z : Zn} M H σ ρ (Θ : Bool → Mp → Prop) (Q : Bool → Hp → Prop), EnvR X.K M Z H σ ρ → Wd X.K M Z H → T ρ M Θ → KT X.K M Z H Θ Q → tt σ H Q
theorem tk_nil : TK X tYes (fun _ M Θ => Θ true M) := fun M H σ ρ Θ Q en w h k => k.now w h
theorem tk_one {c : Expr} : TK X (tBlk X scope c) (fun ρ M Θ => WTb X scope ρ M c Θ) := fun M H σ ρ Θ Q en w h k s H0 C cl fp => (h s H0 C cl fp).run σ H Q en w k
/-- what a comprehension asks: I by the turn, what is gathered, the mutable objects -/
def LcI (X : Cx) (scope : Scope) (ρ : Rho) (vs : List Nat) (G : D → Rho → (Rho → Prop) → Prop) (T : Rho → Mp → (Bool → Mp → Prop) → Prop) (elt : Expr) (Φ : D → Mp → Prop) (ds : List D) (M1 : Mp) : Prop :=
  ds.length ≤ sizeLine ∧ ∃ I : Nat → List D → Mp → Prop, I 0 [] M1 ∧
    (∀ i x acc M', ds[i]? = some x → I i acc M' → G x (wipeR ρ vs) fun ρ2 => T ρ2 M' fun b M2 => if b = true then WEb X scope ρ2 M2 elt fun y M3 => I (i + 1) (acc ++ [y]) M3 else I (i + 1) acc M2) ∧
    ∀ acc M', I ds.length acc M' → Φ (.lst acc) M'
theorem lc_run {g : TG} {tt : TT} {vs : List Nat} {G : D → Rho → (Rho → Prop) → Prop} {T : Rho → Mp → (Bool → Mp → Prop) → Prop} {Φ : D → Mp → Prop} (hg : GT X.K g vs G) (ht : TK X tt T)
    (h : WI X ρ M tg iter (LcI X scope ρ vs G T elt Φ)) {Z : Zn} {σ : L2.St} {H : Hp} {Q : VK} (en : EnvR X.K M Z H σ ρ) (w : Wd X.K M Z H) (k : KE X.K M Z H Φ Q) : tLc (iSem X tg iter) g tt (eBlk X scope elt) vs σ H Q :=
  h.run σ H _ en w fun J ds H1 M1 e1 w1 sq hz => by
    obtain ⟨hn, I, h0, turn, done⟩ := hz
    intro Dd hD
    have zne : ∀ b, Z b → b ≠ Dd := w1.zne hD
    refine ⟨fun i m H' => m = ds.length - i ∧ i ≤ ds.length ∧ ∃ accV acc M', ExI M1 Z H1 M' (hid Z Dd) H' ∧ (∀ b, Z b → H' b = H1 b ∧ M' b = M1 b) ∧ Wd X.K M' (hid Z Dd) H' ∧ H' Dd = some (.lst accV) ∧ Reps X.K M' (hid Z Dd) H' accV acc ∧ acc.length ≤ i ∧ I i acc M',
      ⟨ds.length, by simp, Nat.zero_le _, [], [], M1, hide_x hD, fun b z => ⟨upd_ne (zne b z), rfl⟩, hide_w w1 hD, upd_same, .nil, Nat.zero_le _, h0⟩, ?_⟩
    rintro i m H' ⟨rfl, hi, accV, acc, M', x', zk, w', hA, rA, la, inv⟩
    obtain ⟨s1, s2⟩ := sq i M' (hid Z Dd) H' x' w'
    by_cases hlt : i < ds.length
    · have hd : ds[i]? = some ds[i] := List.getElem?_eq_getElem hlt
      obtain ⟨go, yl⟩ := s2 _ hd
      refine .inr ⟨go, fun H2 => ∃ accV acc M2, ExI M1 Z H1 M2 (hid Z Dd) H2 ∧ (∀ b, Z b → H2 b = H1 b ∧ M2 b = M1 b) ∧ Wd X.K M2 (hid Z Dd) H2 ∧ H2 Dd = some (.lst accV) ∧ Reps X.K M2 (hid Z Dd) H2 accV acc ∧ acc.length ≤ i + 1 ∧ I (i + 1) acc M2,
        fun H2 ⟨aV, a, M2, x2, z2, w2, hA2, rA2, l2, i2⟩ => ⟨ds.length - (i + 1), by omega, rfl, hlt, aV, a, M2, x2, z2, w2, hA2, rA2, l2, i2⟩, fun v H2 y => ?_⟩
      obtain ⟨x2, w2, r2⟩ := yl v H2 y
      have en2 : EnvR X.K M' (hid Z Dd) H2 (wipe σ vs) (wipeR ρ vs) := env_wipe ((en.mono e1).monoI (x'.trans x2.i)) vs
      refine hg M' (hid Z Dd) H2 v _ σ _ _ _ en2 r2 (turn i _ acc M' hd inv) fun σ3 ρ3 en3 wp3 hT => ⟨wp3, ?_⟩
      refine ht M' H2 σ3 ρ3 _ _ en3 w2 hT fun b H3 M3 x3 w3 hb => ?_
      have x23 : Ext M' (hid Z Dd) H' M3 H3 := x2.trans x3
      have zk3 : ∀ b, Z b → H3 b = H1 b ∧ M3 b = M1 b := fun b z => ⟨(x23.2 b (.inl z)).1.trans (zk b z).1, (x23.2 b (.inl z)).2.trans (zk b z).2⟩
      cases b with
      | false => exact ⟨accV, acc, M3, x'.trans x23.i, zk3, w3, (x23.2 Dd (.inr rfl)).1.trans hA, rA.mono x23, Nat.le_succ_of_le la, hb⟩
      | true =>
        intro s H0 C cl fp
        refine (hb s H0 C cl fp).run σ3 H3 _ (en3.mono x3) w3 fun yv yd H4 M4 x4 w4 r4 hI => ?_
        have x24 := x23.trans x4
        have hA4 : H4 Dd = some (.lst accV) := (x24.2 Dd (.inr rfl)).1.trans hA
        refine ⟨accV, hA4, by rw [rA.length]; omega, accV ++ [yv], acc ++ [yd], M4, (x'.trans x24.i).trans hidput_x, fun b z => ⟨(upd_ne (zne b z)).trans ((x4.2 b (.inl z)).1.trans (zk3 b z).1), (x4.2 b (.inl z)).2.trans (zk3 b z).2⟩, hidput_w w4, upd_same, ?_, by rw [List.length_append, List.length_singleton]; omega, hI⟩
        exact (((rA.mono x24).append (.cons r4 .nil))).monoI hidput_x
    · have e : i = ds.length := by omega
      refine .inl ⟨s1 e, ?_⟩
      refine k _ (.lst acc) H' M' (e1.trans ⟨x'.trans show_x, zk⟩) (show_w w') (.lst hA ⟨(w'.2 Dd (.inr rfl)).1, fun z => zne Dd z rfl⟩ (rA.monoI show_x)) (done _ _ (e ▸ inv))
/-- [elt for x in iter] -/
theorem we_lc {own : List (Str × Nat)} {g : TG} {tt : TT} {ifs : List Expr} {G : D → Rho → (Rho → Prop) → Prop} {T : Rho → Mp → (Bool → Mp → Prop) → Prop} {Φ : D → Mp → Prop} (hN : X.N.Nodup) (ok : BlkOk X.N X.env.scope scope own)
    (pg : ∀ (s : Shared) (H : Hp) (C : Addr) (cl : List (Str × Addr)) (fp : List Addr), PG (X.blk s H scope (compEnvC scope cl C X.env) fp) tg g) (hg : GT X.K g (own.map (·.2)) G)
    (pt : ∀ (s : Shared) (H : Hp) (C : Addr) (cl : List (Str × Addr)) (fp : List Addr), PTs (X.blk s H scope (compEnvC scope cl C X.env) fp) ifs tt) (ht : TK X tt T)
    (h : WI X ρ M tg iter (LcI X scope ρ (own.map (·.2)) G T elt Φ)) (hc : X.calm = true := by rfl) (hs : ∀ x, foldedSetIterable iter X.env x = pure x := by intro _; rfl) : WE X ρ M (.ListComp elt [⟨tg, iter, ifs, 0⟩] scope pos) Φ := .mk fun σ H Q en w k =>
  eOf (pe_lc hc hN pi_sem ok pg pt (fun s H0 C cl fp => ⟨fun pins s' σ' H' Q' I q => q s H0 C cl fp pins s' I⟩) hs) (lc_run hg ht h en w k)
/-- y = [elt for x in iter] -/
theorem ws_setLc (i : Nat) {y : Str} {py spos : Pos} {own : List (Str × Nat)} {g : TG} {tt : TT} {ifs : List Expr} {G : D → Rho → (Rho → Prop) → Prop} {T : Rho → Mp → (Bool → Mp → Prop) → Prop} {Ψ : DE} (hN : X.N.Nodup) (ok : BlkOk X.N X.env.scope scope own)
    (pg : ∀ (s : Shared) (H : Hp) (C : Addr) (cl : List (Str × Addr)) (fp : List Addr), PG (X.blk s H scope (compEnvC scope cl C X.env) fp) tg g) (hg : GT X.K g (own.map (·.2)) G)
    (pt : ∀ (s : Shared) (H : Hp) (C : Addr) (cl : List (Str × Addr)) (fp : List Addr), PTs (X.blk s H scope (compEnvC scope cl C X.env) fp) ifs tt) (ht : TK X tt T)
    (h : WI X ρ M tg iter (LcI X scope ρ (own.map (·.2)) G T elt fun d M1 => Ψ.nx (ρ.set i (some d)) M1))
    (hsw : swapsWith (.ListComp elt [⟨tg, iter, ifs, 0⟩] scope pos) (some (.Name y py)) spos.line X.env = pure true) (hy : X.N[i]? = some y := by rfl) (hyl : X.env.scope.names.lookup y = some .local := by rfl)
    (hc : X.calm = true := by rfl) (hs : ∀ x, foldedSetIterable iter X.env x = pure x := by intro _; rfl) : WS X ρ M (.Assign [.Name y py] (.ListComp elt [⟨tg, iter, ifs, 0⟩] scope pos) spos) Ψ := .mk fun σ H E en w k =>
  sOf (ps_setLc hc hN hy hyl hsw pi_sem ok pg pt (fun s H0 C cl fp => ⟨fun pins s' σ' H' Q' I q => q s H0 C cl fp pins s' I⟩) hs) (lc_run hg ht h en w fun v d H' M' x w' r z => k.nx _ _ H' M' x w' ((en.mono x).set r i) z)
end
end DL
/-! DL5: contracts of defs over data, calls, instances. -/
namespace DL
open PySem PySem.Spec PyProof.Rows L2

/-! ### contracts -/
/-- a def's contract: arguments, mutable objects, what is wanted behind -/
abbrev Con := List D → Mp → (D → Mp → Prop) → Prop
/-- its promise in the hand layer -/
def spD (K : PySem.W.Frag) (n : Nat) (c : Con) : Sp := fun vs H Q _ => ∃ ds M Z Φ, ds.length = n ∧ Reps K M Z H vs ds ∧ Wd K M Z H ∧ c ds M Φ ∧ KE K M Z H Φ Q

/-! ### letting mutable objects go: what is left of them is data, or nothing -/
/-- M' has no more than M -/
def Les (M' M : Mp) : Prop := ∀ b, M' b = M b ∨ M' b = none
theorem Les.refl {M : Mp} : Les M M := fun _ => .inl rfl
theorem Les.x {M M' : Mp} {Z : Zn} {H : Hp} (l : Les M' M) : ExI M Z H M' Z H := fun b o q m => by
  refine ⟨q, ?_, m.2⟩
  rcases l b with e | e
  · rw [e]; exact m.1
  · exact e
theorem Les.w {K : PySem.W.Frag} {M M' : Mp} {Z : Zn} {H : Hp} (l : Les M' M) (w : Wd K M Z H) : Wd K M' Z H := by
  refine ⟨fun a o e => ?_, fun b z => ?_⟩
  · rcases l a with q | q
    · rw [q] at e; exact (w.1 a o e).stepI l.x rfl
    · rw [q] at e; cases e
  · obtain ⟨m, u⟩ := w.2 b z
    rcases l b with q | q
    · exact ⟨q.trans m, u⟩
    · exact ⟨q, u⟩
theorem Les.ext {K : PySem.W.Frag} {M M' : Mp} {Z : Zn} {H : Hp} (l : Les M' M) (w : Wd K M Z H) : Ext M Z H M' H := by
  refine ⟨l.x, fun b z => ⟨rfl, ?_⟩⟩
  have m := (w.2 b z).1
  rcases l b with q | q
  · exact q
  · rw [q, m]
theorem les_del {M : Mp} {a : Addr} : Les (mdel M a) M := fun b => by
  by_cases h : b = a
  · rw [h]; exact .inr mdel_same
  · exact .inl (mdel_ne h)
/-- d, read while M stands, is d' where only M' is left -/
inductive Fz (M M' : Mp) : D → D → Prop where
  | same (d : D) : Fz M M' d d
  | lst {a : Addr} {ds : List D} : M a = some (.lst ds) → M' a = none → Fz M M' (.ob a) (.lst ds)
  | dK {a : Addr} {ds : List (Key × D)} : M a = some (.dK ds) → M' a = none → Fz M M' (.ob a) (.dK ds)
  | dT {a : Addr} {ds : List (List Key × D)} : M a = some (.dT ds) → M' a = none → Fz M M' (.ob a) (.dT ds)
  | ins {a C : Addr} {fs : List (Str × D)} : M a = some (.ins C fs) → M' a = none → Fz M M' (.ob a) (.ins C fs)
theorem Fz.rep {K : PySem.W.Frag} {M M' : Mp} {Z : Zn} {H : Hp} {v : V} {d d' : D} (f : Fz M M' d d') (l : Les M' M) (w : Wd K M Z H) (r : Rep K M Z H v d) : Rep K M' Z H v d' := by
  cases f with
  | same d => exact r.monoI l.x
  | lst h h' =>
    cases r
    obtain ⟨vs, e, r⟩ := w.1 _ _ h
    exact .lst e ⟨h', fun z => by have := (w.2 _ z).1; rw [h] at this; cases this⟩ (r.monoI l.x)
  | dK h h' =>
    cases r
    obtain ⟨vs, e, r⟩ := w.1 _ _ h
    exact .dK e ⟨h', fun z => by have := (w.2 _ z).1; rw [h] at this; cases this⟩ (r.monoI l.x)
  | dT h h' =>
    cases r
    obtain ⟨vs, e, r⟩ := w.1 _ _ h
    exact .dT e ⟨h', fun z => by have := (w.2 _ z).1; rw [h] at this; cases this⟩ (r.monoI l.x)
  | ins h h' =>
    cases r
    obtain ⟨dx, vs, e, r⟩ := w.1 _ _ h
    exact .ins e ⟨h', fun z => by have := (w.2 _ z).1; rw [h] at this; cases this⟩ (r.monoI l.x)
/-- the end, some objects let go -/
def Lets (Φ : D → Mp → Prop) : D → Mp → Prop := fun d M => ∃ d' M', Les M' M ∧ Fz M M' d d' ∧ Φ d' M'
theorem Lets.of {Φ : D → Mp → Prop} {d : D} {M : Mp} (h : Φ d M) : Lets Φ d M := ⟨d, M, Les.refl, .same d, h⟩
theorem lets_k {K : PySem.W.Frag} {M : Mp} {Z : Zn} {H : Hp} {Φ : D → Mp → Prop} {Q : VK} (k : KE K M Z H Φ Q) : KE K M Z H (Lets Φ) Q := fun v d H' M' x w r z => by
  obtain ⟨d', M2, l, f, z⟩ := z
  exact k v d' H' M2 (x.trans (l.ext w)) (l.w w) (f.rep l w r) z
/-- slots, some objects let go -/
inductive FzE (M M' : Mp) : Rho → Rho → Prop where
  | nil : FzE M M' [] []
  | val {d d' : D} {ρ ρ' : Rho} : Fz M M' d d' → FzE M M' ρ ρ' → FzE M M' (some d :: ρ) (some d' :: ρ')
  | drop {o : Option D} {ρ ρ' : Rho} : FzE M M' ρ ρ' → FzE M M' (o :: ρ) (none :: ρ')
theorem FzE.env {K : PySem.W.Frag} {M M' : Mp} {Z : Zn} {H : Hp} (l : Les M' M) (w : Wd K M Z H) : ∀ {σ : L2.St} {ρ ρ' : Rho}, FzE M M' ρ ρ' → EnvR K M Z H σ ρ → EnvR K M' Z H σ ρ'
  | _, _, _, .nil, .nil => .nil
  | _, _, _, .val f t, .val r u => .val (f.rep l w r) (FzE.env l w t u)
  | _, _, _, .drop t, .val r u => .any (FzE.env l w t u)
  | _, _, _, .drop t, .any u => .any (FzE.env l w t u)
theorem FzE.refl {M M' : Mp} : ∀ (ρ : Rho), FzE M M' ρ ρ
  | [] => .nil
  | some d :: ρ => .val (.same d) (FzE.refl ρ)
  | none :: ρ => .drop (FzE.refl ρ)
/-- go on with less -/
theorem wss_let {X : Cx} {ρ ρ' : Rho} {M M' : Mp} {sts : List Stmt} {Ψ : DE} (l : Les M' M) (f : FzE M M' ρ ρ') (h : WSs X ρ' M' sts Ψ) : WSs X ρ M sts Ψ := .mk fun σ H E en w k =>
  h.run σ H E (f.env l w en) (l.w w) (k.step (l.ext w))

/-! ### a def keeps its contract -/
section
variable {P : Program} {w : World} {K : PySem.W.Frag} {mg : Str → Option Value} {base : Heap} {x qual : Str} {params : Arguments} {body : List Stmt} {scope : Scope} {dvs : List V} {kws : List (Str × V)} {f : Addr} {fd : FuncData}
/-- the context of a body -/
abbrev bx (P : Program) (w : World) (K : PySem.W.Frag) (mg : Str → Option Value) (base : Heap) (N : List Str) (qual : Str) (scope : Scope) (f : Addr) (cdv : Value) (A : Around) (outer : List Env) (s : Shared) (H : Hp) (E : XK) : Cx :=
  (cxOf CX0 P w K mg base N qual scope f cdv A outer s H E).nox
theorem fn_ok {N ps : List Str} {k : Nat} {c : Con} (F : FunD K x qual params body scope dvs kws f fd) (S : FnScope N ps scope)
    (h : ∀ (cdv : Value) (A : Around) (outer : List Env) (s : Shared) (H : Hp) (E : XK), Room k (A.deeper (envOfC qual scope s.heap.objs.size f cdv)) → ∀ ds M Φ, ds.length = ps.length → c ds M Φ →
      WSs (bx P w K mg base N qual scope f cdv A outer s H E) (start N ds) M body { nx := fun _ M' => Φ .non M', rt := Lets Φ }) : FnOk P w K mg base CX0 (k + 1) f fd ps (spD K ps.length c) := by
  refine F.ok S (fun vs H Q E q => ?_) (fun cdv A outer s H vs Q E hr q => ?_)
  · obtain ⟨ds, M, Z, Φ, hl, r, _⟩ := q
    rw [r.length, hl]
  · obtain ⟨ds, M, Z, Φ, hl, r, wd, hc, k⟩ := q
    refine ⟨_, PSs.nox (pss_sem (X := bx P w K mg base N qual scope f cdv A outer s H E)), ?_⟩
    exact (h cdv A outer s H E hr ds M Φ hl hc).run (L2.start N vs) H _ (env_start r) wd ⟨fun σ' ρ' H' M' x w' en z => k _ .non H' M' x w' .non z, lets_k k, fun _ _ _ _ _ _ _ z => z.elim, fun _ _ _ _ _ _ _ z => z.elim⟩
end

/-! ### calls -/
/-- the global x is a def with this contract; dd the data of the defaults that fill up -/
structure Fc (P : Program) (w : World) (K : PySem.W.Frag) (mg : Str → Option Value) (base : Heap) (x : Str) (dd : List D) (k n : Nat) (c : Con) : Prop where
  ex : ∃ (f : Addr) (fd : FuncData) (ps : List Str) (dvs : List V) (ds : List Value), FnOk P w K mg base CX0 k f fd ps (spD K n c) ∧ mg x = some (.ref f) ∧ PySem.W.keepIn K (.ref f) = true ∧ Binds K fd ps ds ∧ Vals dvs ds ∧ ∀ M Z H, Reps K M Z H dvs dd
section
variable {X : Cx} {ρ : Rho} {M : Mp} {Φ : D → Mp → Prop} {e o : Expr} {es : List Expr} {pos p apos : Pos} {x m : Str} {dd : List D} {k n : Nat} {c : Con}
theorem sp_run {n : Nat} {vs dvs : List V} {ds : List D} {M1 : Mp} {Z : Zn} {H1 : Hp} {Q : VK} {E : XK} (r : Reps X.K M1 Z H1 vs ds) (rd : Reps X.K M1 Z H1 dvs dd) (w1 : Wd X.K M1 Z H1) (hz : (ds ++ dd).length = n ∧ c (ds ++ dd) M1 Φ) (k : KE X.K M1 Z H1 Φ Q) : spD X.K n c (vs ++ dvs) H1 Q E :=
  ⟨ds ++ dd, M1, Z, Φ, hz.1, r.append rd, w1, hz.2, k⟩
theorem we_call (F : Fc X.prog X.w X.K X.mg X.base x dd k n c) (hr : Room k X.A) (h : WA X ρ M (e :: es) fun ds M1 => (ds ++ dd).length = n ∧ c (ds ++ dd) M1 Φ) (hg : Gl X x := by rfl)
    (hdb : (x == ("__debug__" : Str)) = false := by decide) (he : starEach (e :: es) X.env = (false, eval e X.env) :: starEach es X.env := by rfl) (hpl : (backTo pos (starEach es X.env)).any (·.1) = false := by rfl) : WE X ρ M (.Call (.Name x p) (e :: es) [] pos) Φ := .mk fun σ H Q en w k => by
  obtain ⟨f, fd, ps, dvs, ds, F, hm, hk, hb, hd, hdd⟩ := F.ex
  exact eOf (pe_call (E := E0) F hr hg hm hk hb hd pass0 pa_sem hdb he hpl) (h.run σ H _ en w fun vs as H1 M1 e1 w1 r1 hz => sp_run r1 (hdd _ _ _) w1 hz (k.step e1))
theorem we_call0 (F : Fc X.prog X.w X.K X.mg X.base x dd k n c) (hr : Room k X.A) (h : dd.length = n ∧ c dd M Φ) (hg : Gl X x := by rfl)
    (hdb : (x == ("__debug__" : Str)) = false := by decide) : WE X ρ M (.Call (.Name x p) [] [] pos) Φ := .mk fun σ H Q en w k => by
  obtain ⟨f, fd, ps, dvs, ds, F, hm, hk, hb, hd, hdd⟩ := F.ex
  exact eOf (pe_call0 (E := E0) F hr hg hm hk hb hd pass0 hdb) (sp_run (E := E0) (ds := []) (vs := []) .nil (hdd _ _ _) w h k)

/-! ### instances -/
/-- d is an instance of the class at C with these fields -/
def InsOf (M : Mp) (C : Addr) : D → List (Str × D) → Prop
  | .ins C' fs, gs => C' = C ∧ gs = fs
  | .ob a, gs => M a = some (.ins C gs)
  | _, _ => False
theorem RepF.lookup {K : PySem.W.Frag} {M : Mp} {Z : Zn} {H : Hp} (f : Str) : ∀ {vs : List (Str × V)} {ds : List (Str × D)}, RepF K M Z H vs ds → (ds.lookup f = none → vs.lookup f = none) ∧ ∀ d, ds.lookup f = some d → ∃ v, vs.lookup f = some v ∧ Rep K M Z H v d
  | _, _, .nil => ⟨fun _ => rfl, fun d e => by cases e⟩
  | _, _, .cons (k := g) (v := v) (d := d) (vs := vs) (ds := ds) r t => by
    rw [List.lookup_cons, List.lookup_cons]
    cases hg : f == g with
    | true =>
      refine ⟨fun e => ?_, fun d e => ?_⟩
      · cases e
      · cases e; exact ⟨_, rfl, r⟩
    | false => exact RepF.lookup f t
theorem RepF.length {K : PySem.W.Frag} {M : Mp} {Z : Zn} {H : Hp} : ∀ {vs : List (Str × V)} {ds : List (Str × D)}, RepF K M Z H vs ds → vs.length = ds.length
  | _, _, .nil => rfl
  | _, _, .cons _ t => by rw [List.length_cons, List.length_cons, t.length]
theorem Rep.asIns {K : PySem.W.Frag} {M : Mp} {Z : Zn} {H : Hp} {C : Addr} {v : V} {d : D} {fs : List (Str × D)} (w : Wd K M Z H) (r : Rep K M Z H v d) (i : InsOf M C d fs) : ∃ a dx vs, v = .ref a ∧ H a = some (.ins C dx vs) ∧ RepF K M Z H vs fs := by
  cases r with
  | ins h m r =>
    obtain ⟨rfl, rfl⟩ := i
    exact ⟨_, _, _, rfl, h, r⟩
  | ob a =>
    obtain ⟨dx, vs, h, r⟩ := w.1 a _ i
    exact ⟨_, _, _, rfl, h, r⟩
  | _ => cases i
theorem InsOf.mono {K : PySem.W.Frag} {C : Addr} {d : D} {fs : List (Str × D)} {M : Mp} (h : InsOf M C d fs) {M' : Mp} (k : ∀ a, d = .ob a → M' a = M a) : InsOf M' C d fs := by
  cases d with
  | ins C' gs => exact h
  | ob a => exact (k a rfl).trans h
  | _ => cases h
/-- o.f, a field -/
theorem we_fld {f : Str} {C : Addr} (h : WE X ρ M o fun d M1 => ∃ fs v, InsOf M1 C d fs ∧ Cls X.K C ∧ NoAttr X.K C f ∧ fs.lookup f = some v ∧ Φ v M1) (hb : attributeBase o f X.env (eval o X.env) = eval o X.env := by rfl) : WE X ρ M (.Attribute o f pos) Φ := .mk fun σ H Q en w k =>
  eOf (pe_fld pe_sem hb) (h.run σ H _ en w fun v d H1 M1 e1 w1 r1 hz => by
    obtain ⟨fs, y, hi, cl, na, hl, hz⟩ := hz
    obtain ⟨a, dx, vs, rfl, ha, rf⟩ := r1.asIns w1 hi
    obtain ⟨u, hu, ru⟩ := (rf.lookup f).2 y hl
    exact ⟨a, C, dx, vs, u, rfl, ha, cl, na, hu, (k.step e1).now w1 ru hz⟩)
/-- the fields, one stored -/
def putD (f : Str) (d : D) : List (Str × D) → List (Str × D)
  | [] => [(f, d)]
  | (g, y) :: r => if g = f then (g, d) :: r else (g, y) :: putD f d r
theorem RepF.put {K : PySem.W.Frag} {M : Mp} {Z : Zn} {H : Hp} {f : Str} {v : V} {d : D} (r : Rep K M Z H v d) : ∀ {vs : List (Str × V)} {ds : List (Str × D)}, RepF K M Z H vs ds → RepF K M Z H (putF f v vs) (putD f d ds)
  | _, _, .nil => .cons r .nil
  | _, _, .cons (k := g) r' t => by
    unfold putF putD
    by_cases h : g = f
    · rw [if_pos h, if_pos h]; exact .cons r t
    · rw [if_neg h, if_neg h]; exact .cons r' (RepF.put r t)
/-- o.f = e, o a mutable instance -/
theorem ws_fld {f : Str} {C : Addr} {value : Expr} {pos' : Pos} {Ψ : DE} (h : WE X ρ M value fun d M1 => WE X ρ M1 o fun x M2 => ∃ a fs, x = .ob a ∧ M2 a = some (.ins C fs) ∧ Cls X.K C ∧ NoAttr X.K C f ∧ fs.length < 1000 ∧ Ψ.nx ρ (mset M2 a (.ins C (putD f d fs))))
    (hs : swapsWith value (some (.Attribute o f pos')) pos.line X.env = pure false := by rfl) : WS X ρ M (.Assign [.Attribute o f pos'] value pos) Ψ := .mk fun σ H E en w k =>
  sOf (ps_fld pe_sem pe_sem hs) (bind2 h en w fun v u d x H2 M2 e2 w2 r1 r2 hz => by
    obtain ⟨a, fs, rfl, hM, cl, na, hl, hz⟩ := hz
    cases r2
    obtain ⟨dx, vs, ha, rf⟩ := w2.1 a _ hM
    refine ⟨a, C, dx, vs, rfl, ha, cl, na, by rw [rf.length]; exact hl, ?_⟩
    have x3 : Ext M2 _ H2 (mset M2 a (.ins C (putD f d fs))) (upd H2 a (.ins C dx (putF f v vs))) := Ext.put w2 hM
    exact k.nx σ ρ _ _ (e2.trans x3) (w2.put hM ⟨dx, _, upd_same, (rf.mono x3).put (r1.mono x3)⟩) (en.mono (e2.trans x3)) hz)
/-- the method m of the class at C has this contract (self among the arguments) -/
structure Mc (P : Program) (w : World) (K : PySem.W.Frag) (mg : Str → Option Value) (base : Heap) (C : Addr) (m : Str) (dd : List D) (k n : Nat) (c : Con) : Prop where
  cl : Cls K C
  ex : ∃ (f : Addr) (fd : FuncData) (ps : List Str) (dvs : List V) (ds : List Value), FnOk P w K mg base CX0 k f fd ps (spD K n c) ∧ Meth K C m f ∧ Binds K fd ps ds ∧ Vals dvs ds ∧ ∀ M Z H, Reps K M Z H dvs dd
theorem we_meth {C : Addr} {pl : Sem Bool} (F : Mc X.prog X.w X.K X.mg X.base C m dd k n c) (hr : Room k X.A)
    (h : WE X ρ M o fun d M1 => ∃ fs, InsOf M1 C d fs ∧ fs.lookup m = none ∧ WA X ρ M1 (e :: es) fun as M2 => (d :: (as ++ dd)).length = n ∧ c (d :: (as ++ dd)) M2 Φ)
    (hst : starEach (e :: es) X.env = (false, eval e X.env) :: starEach es X.env := by rfl) (hpl : (backTo pos (starEach es X.env)).any (·.1) = false := by rfl)
    (ht : eval (.Call (.Attribute o m apos) (e :: es) [] pos) X.env = (do
      let ov ← eval o X.env
      standAt apos.atName
      let (f, first) ← holding [ov] (getMethod ov m pl)
      callWith pos f first (backTo pos (starEach (e :: es) X.env)) (backToKw pos (keywordEach [] X.env))) := by rfl) : WE X ρ M (.Call (.Attribute o m apos) (e :: es) [] pos) Φ := .mk fun σ H Q en w k => by
  obtain ⟨f, fd, ps, dvs, ds, F', hm, hbd, hd, hdd⟩ := F.ex
  refine eOf (pe_meth (pl := pl) (E := E0) pe_sem F.cl hm F' hr hbd hd pass0 pa_sem hst hpl ht) (h.run σ H _ en w fun v d H1 M1 e1 w1 r1 hz => ?_)
  obtain ⟨fs, hi, hl, hz⟩ := hz
  obtain ⟨a, dx, vs, rfl, ha, rf⟩ := r1.asIns w1 hi
  refine ⟨a, dx, vs, rfl, ha, (rf.lookup m).1 hl, hz.run σ H1 _ (en.mono e1) w1 fun us as H2 M2 e2 w2 r2 hy => ?_⟩
  exact ⟨d :: (as ++ dd), M2, _, Φ, hy.1, .cons (r1.mono e2) (r2.append (hdd _ _ _)), w2, hy.2, k.step (e1.trans e2)⟩
theorem we_meth0 {C : Addr} {pl : Sem Bool} (F : Mc X.prog X.w X.K X.mg X.base C m dd k n c) (hr : Room k X.A)
    (h : WE X ρ M o fun d M1 => ∃ fs, InsOf M1 C d fs ∧ fs.lookup m = none ∧ (d :: dd).length = n ∧ c (d :: dd) M1 Φ)
    (ht : eval (.Call (.Attribute o m apos) [] [] pos) X.env = (do
      let ov ← eval o X.env
      standAt apos.atName
      let (f, first) ← holding [ov] (getMethod ov m pl)
      callWith pos f first (backTo pos (starEach [] X.env)) (backToKw pos (keywordEach [] X.env))) := by rfl) : WE X ρ M (.Call (.Attribute o m apos) [] [] pos) Φ := .mk fun σ H Q en w k => by
  obtain ⟨f, fd, ps, dvs, ds, F', hm, hbd, hd, hdd⟩ := F.ex
  refine eOf (pe_meth0 (pl := pl) (E := E0) pe_sem F.cl hm F' hr hbd hd pass0 ht) (h.run σ H _ en w fun v d H1 M1 e1 w1 r1 hz => ?_)
  obtain ⟨fs, hi, hl, hz⟩ := hz
  obtain ⟨a, dx, vs, rfl, ha, rf⟩ := r1.asIns w1 hi
  exact ⟨a, dx, vs, rfl, ha, (rf.lookup m).1 hl, d :: dd, M1, _, Φ, hz.1, .cons r1 (hdd _ _ _), w1, hz.2, k.step e1⟩
/-- a property of the class at C, its getter's contract -/
structure Pc (P : Program) (w : World) (K : PySem.W.Frag) (mg : Str → Option Value) (base : Heap) (C : Addr) (m : Str) (k : Nat) (c : Con) : Prop where
  cl : Cls K C
  ex : ∃ (p g : Addr) (fd : FuncData) (ps : List Str), FnOk P w K mg base CX0 k g fd ps (spD K 1 c) ∧ PropOf K C m p g ∧ Binds K fd ps []
theorem we_prop {C : Addr} (F : Pc X.prog X.w X.K X.mg X.base C m k c) (hr : Room (k + 1) X.A) (h : WE X ρ M o fun d M1 => ∃ fs, InsOf M1 C d fs ∧ c [d] M1 Φ)
    (hab : attributeBase o m X.env (eval o X.env) = eval o X.env := by rfl) : WE X ρ M (.Attribute o m pos) Φ := .mk fun σ H Q en w k => by
  obtain ⟨p, g, fd, ps, F', hp, hb⟩ := F.ex
  refine eOf (pe_prop (E := E0) pe_sem F.cl hp F' hr hb .nil pass0 hab) (h.run σ H _ en w fun v d H1 M1 e1 w1 r1 hz => ?_)
  obtain ⟨fs, hi, hz⟩ := hz
  obtain ⟨a, dx, vs, rfl, ha, rf⟩ := r1.asIns w1 hi
  exact ⟨a, dx, vs, rfl, ha, [d], M1, _, Φ, rfl, .cons r1 .nil, w1, hz, k.step e1⟩
/-- the class of the name x, its __init__'s contract: the new instance is the first argument -/
structure Kc (P : Program) (w : World) (K : PySem.W.Frag) (mg : Str → Option Value) (base : Heap) (x : Str) (C : Addr) (dd : List D) (k n : Nat) (c : Con) : Prop where
  at_ : mg x = some (.ref C)
  ex : ∃ (f : Addr) (fd : FuncData) (ps : List Str) (dvs : List V) (ds : List Value), FnOk P w K mg base CX0 k f fd ps (spD K n c) ∧ Mk K C f ∧ Binds K fd ps ds ∧ Vals dvs ds ∧ ∀ M Z H, Reps K M Z H dvs dd
theorem we_make {C : Addr} (F : Kc X.prog X.w X.K X.mg X.base x C dd k n c) (hr : Room (k + 1) X.A)
    (h : WA X ρ M (e :: es) fun as M1 => ∀ a, M1 a = none → (.ob a :: (as ++ dd)).length = n ∧ c (.ob a :: (as ++ dd)) (mset M1 a (.ins C [])) fun d M2 => d = .non ∧ Lets Φ (.ob a) M2) (hg : Gl X x := by rfl)
    (hdb : (x == ("__debug__" : Str)) = false := by decide) (he : starEach (e :: es) X.env = (false, eval e X.env) :: starEach es X.env := by rfl) (hpl : (backTo pos (starEach es X.env)).any (·.1) = false := by rfl) : WE X ρ M (.Call (.Name x p) (e :: es) [] pos) Φ := .mk fun σ H Q en w k => by
  obtain ⟨f, fd, ps, dvs, ds, F', hm, hbd, hd, hdd⟩ := F.ex
  refine eOf (pe_make (E := E0) hm F' hr hg F.at_ hbd hd pass0 pa_sem hdb he hpl) (h.run σ H _ en w fun vs as H1 M1 e1 w1 r1 hz => ?_)
  intro a dx ha hdx ne
  obtain ⟨hl, hz⟩ := hz a (w1.fresh ha).1
  have ha1 : (upd H1 dx (.own a)) a = none := by rw [upd_ne (Ne.symm ne)]; exact ha
  have x1 : Ext M1 _ H1 M1 (upd H1 dx (.own a)) := Ext.new w1 hdx
  have wa := w1.new (o := .own a) hdx
  have x2 : Ext M1 _ (upd H1 dx (.own a)) (mset M1 a (.ins C [])) (upd (upd H1 dx (.own a)) a (.ins C dx [])) := Ext.newM wa ha1
  have x12 := x1.trans x2
  refine ⟨.ob a :: (as ++ dd), mset M1 a (.ins C []), _, _, hl, .cons (.ob a) ((r1.mono x12).append (hdd _ _ _)), wa.newM ha1 ⟨dx, [], upd_same, .nil⟩, hz, fun v d H2 M2 x3 w2 r2 hy => ?_⟩
  obtain ⟨rfl, hy⟩ := hy
  cases r2
  exact ⟨rfl, lets_k (k.step (e1.trans x12)) _ _ H2 M2 x3 w2 (.ob a) hy⟩
end
end DL
/-! DL6: operators, comparisons, subscripts, slices. -/
namespace DL
open PySem PySem.Spec PyProof.Rows L2
section
variable {X : Cx} {ρ : Rho} {M : Mp} {Φ : D → Mp → Prop} {Θ : Bool → Mp → Prop} {a b e : Expr} {pos : Pos} {K : PySem.W.Frag}

/-! ### ints -/
theorem rd_I {C : Int → Int → Prop} {g : Int → Int → Int} {x y : D} (h : ∃ i j, x = .int i ∧ y = .int j ∧ C i j ∧ Φ (.int (g i j)) M) : RD K (rI C fun i j => .int (g i j)) x y M Φ := fun Z v u H Q w r1 r2 k => by
  obtain ⟨i, j, rfl, rfl, hc, h⟩ := h
  cases r1; cases r2
  exact ⟨i, j, rfl, rfl, hc, k.now w (.int _) h⟩
theorem rd_I0 {g : Int → Int → Int} {x y : D} (h : ∃ i j, x = .int i ∧ y = .int j ∧ Φ (.int (g i j)) M) : RD K (rI0 fun i j => .int (g i j)) x y M Φ := fun Z v u H Q w r1 r2 k => by
  obtain ⟨i, j, rfl, rfl, h⟩ := h
  cases r1; cases r2
  exact ⟨i, j, rfl, rfl, k.now w (.int _) h⟩
theorem rd_B0 {g : Int → Int → Bool} {x y : D} (h : ∃ i j, x = .int i ∧ y = .int j ∧ Φ (.bl (g i j)) M) : RD K (rI0 fun i j => .bl (g i j)) x y M Φ := fun Z v u H Q w r1 r2 k => by
  obtain ⟨i, j, rfl, rfl, h⟩ := h
  cases r1; cases r2
  exact ⟨i, j, rfl, rfl, k.now w (.bl _) h⟩
theorem we_addI (h : WE X ρ M a fun x M1 => WE X ρ M1 b fun y M2 => ∃ i j, x = .int i ∧ y = .int j ∧ Φ (.int (i + j)) M2) : WE X ρ M (.BinOp a .Add b pos) Φ := we_op op_add (h.imp fun _ _ h => h.imp fun _ _ h => rd_I0 h)
theorem we_subI (h : WE X ρ M a fun x M1 => WE X ρ M1 b fun y M2 => ∃ i j, x = .int i ∧ y = .int j ∧ Φ (.int (i - j)) M2) : WE X ρ M (.BinOp a .Sub b pos) Φ := we_op op_sub (h.imp fun _ _ h => h.imp fun _ _ h => rd_I0 h)
theorem we_mulI (h : WE X ρ M a fun x M1 => WE X ρ M1 b fun y M2 => ∃ i j, x = .int i ∧ y = .int j ∧ CMulW i j ∧ Φ (.int (i * j)) M2) : WE X ρ M (.BinOp a .Mult b pos) Φ := we_op op_mulW (h.imp fun _ _ h => h.imp fun _ _ h => rd_I h)
/-- one factor small -/
theorem we_mulS (h : WE X ρ M a fun x M1 => WE X ρ M1 b fun y M2 => ∃ i j, x = .int i ∧ y = .int j ∧ CMul i j ∧ Φ (.int (i * j)) M2) : WE X ρ M (.BinOp a .Mult b pos) Φ := we_op op_mul (h.imp fun _ _ h => h.imp fun _ _ h => rd_I h)
theorem we_modI (h : WE X ρ M a fun x M1 => WE X ρ M1 b fun y M2 => ∃ i j, x = .int i ∧ y = .int j ∧ 0 < j ∧ Φ (.int (i % j)) M2) : WE X ρ M (.BinOp a .Mod b pos) Φ := we_op op_mod (h.imp fun _ _ h => h.imp fun _ _ h => rd_I (C := fun _ j => 0 < j) h)
theorem we_divI (h : WE X ρ M a fun x M1 => WE X ρ M1 b fun y M2 => ∃ i j, x = .int i ∧ y = .int j ∧ CDivW i j ∧ Φ (.int (i / j)) M2) : WE X ρ M (.BinOp a .FloorDiv b pos) Φ := we_op op_fdivW (h.imp fun _ _ h => h.imp fun _ _ h => rd_I h)
theorem we_powI (h : WE X ρ M a fun x M1 => WE X ρ M1 b fun y M2 => ∃ i j, x = .int i ∧ y = .int j ∧ CPow i j ∧ Φ (.int (i ^ j.toNat)) M2) : WE X ρ M (.BinOp a .Pow b pos) Φ := we_op op_pow (h.imp fun _ _ h => h.imp fun _ _ h => rd_I h)
theorem we_negI (h : WE X ρ M a fun x M1 => ∃ i, x = .int i ∧ Φ (.int (-i)) M1) : WE X ρ M (.UnaryOp .USub a pos) Φ := we_un un_neg (h.imp fun _ _ h Z v H Q w r k => by
  obtain ⟨i, rfl, h⟩ := h
  cases r
  exact ⟨i, rfl, k.now w (.int _) h⟩)
section
variable {op : CmpOp}
theorem we_ltI (h : WE X ρ M a fun x M1 => WE X ρ M1 b fun y M2 => ∃ i j, x = .int i ∧ y = .int j ∧ Φ (.bl (decide (i < j))) M2) : WE X ρ M (.Compare a [.Lt] [b] pos) Φ := we_cmp op_lt (nomark _) (h.imp fun _ _ h => h.imp fun _ _ h => rd_B0 h)
theorem we_leI (h : WE X ρ M a fun x M1 => WE X ρ M1 b fun y M2 => ∃ i j, x = .int i ∧ y = .int j ∧ Φ (.bl (decide (i ≤ j))) M2) : WE X ρ M (.Compare a [.LtE] [b] pos) Φ := we_cmp op_le (nomark _) (h.imp fun _ _ h => h.imp fun _ _ h => rd_B0 h)
theorem we_gtI (h : WE X ρ M a fun x M1 => WE X ρ M1 b fun y M2 => ∃ i j, x = .int i ∧ y = .int j ∧ Φ (.bl (decide (j < i))) M2) : WE X ρ M (.Compare a [.Gt] [b] pos) Φ := we_cmp op_gt (nomark _) (h.imp fun _ _ h => h.imp fun _ _ h => rd_B0 h)
theorem we_geI (h : WE X ρ M a fun x M1 => WE X ρ M1 b fun y M2 => ∃ i j, x = .int i ∧ y = .int j ∧ Φ (.bl (decide (j ≤ i))) M2) : WE X ρ M (.Compare a [.GtE] [b] pos) Φ := we_cmp op_ge (nomark _) (h.imp fun _ _ h => h.imp fun _ _ h => rd_B0 h)
theorem wt_ltI (h : WE X ρ M a fun x M1 => WE X ρ M1 b fun y M2 => ∃ i j, x = .int i ∧ y = .int j ∧ Θ (decide (i < j)) M2) : WT X ρ M (.Compare a [.Lt] [b] pos) Θ := wt_cmp op_lt (nomark _) (h.imp fun _ _ h => h.imp fun _ _ ⟨i, j, e1, e2, h⟩ => rd_B0 ⟨i, j, e1, e2, _, rfl, h⟩)
theorem wt_leI (h : WE X ρ M a fun x M1 => WE X ρ M1 b fun y M2 => ∃ i j, x = .int i ∧ y = .int j ∧ Θ (decide (i ≤ j)) M2) : WT X ρ M (.Compare a [.LtE] [b] pos) Θ := wt_cmp op_le (nomark _) (h.imp fun _ _ h => h.imp fun _ _ ⟨i, j, e1, e2, h⟩ => rd_B0 ⟨i, j, e1, e2, _, rfl, h⟩)
theorem wt_gtI (h : WE X ρ M a fun x M1 => WE X ρ M1 b fun y M2 => ∃ i j, x = .int i ∧ y = .int j ∧ Θ (decide (j < i)) M2) : WT X ρ M (.Compare a [.Gt] [b] pos) Θ := wt_cmp op_gt (nomark _) (h.imp fun _ _ h => h.imp fun _ _ ⟨i, j, e1, e2, h⟩ => rd_B0 ⟨i, j, e1, e2, _, rfl, h⟩)
theorem wt_geI (h : WE X ρ M a fun x M1 => WE X ρ M1 b fun y M2 => ∃ i j, x = .int i ∧ y = .int j ∧ Θ (decide (j ≤ i)) M2) : WT X ρ M (.Compare a [.GtE] [b] pos) Θ := wt_cmp op_ge (nomark _) (h.imp fun _ _ h => h.imp fun _ _ ⟨i, j, e1, e2, h⟩ => rd_B0 ⟨i, j, e1, e2, _, rfl, h⟩)
end

/-! ### == of scalars -/
/-- the answer of == between scalars -/
def EqS : D → D → Bool → Prop
  | .int i, .int j, c => c = decide (i = j)
  | .str i, .str j, c => c = decide (i = j)
  | .bl i, .bl j, c => c = decide (i = j)
  | .non, .non, c => c = true
  | .non, .int _, c => c = false
  | .int _, .non, c => c = false
  | .non, .str _, c => c = false
  | .str _, .non, c => c = false
  | .int _, .str _, c => c = false
  | .str _, .int _, c => c = false
  | _, _, _ => False
theorem EqS.rep {x y : D} {c : Bool} {M : Mp} {Z : Zn} {H : Hp} {v u : V} (h : EqS x y c) (r1 : Rep K M Z H v x) (r2 : Rep K M Z H u y) : scal v u = true ∧ decide (v = u) = c := by
  cases r1 <;> cases r2 <;> first
    | (cases h; exact ⟨rfl, by simp⟩)
    | (exact False.elim h)
    | (cases h; exact ⟨rfl, rfl⟩)
theorem rd_eq {x y : D} (h : ∃ c, EqS x y c ∧ Φ (.bl c) M) : RD K rEq x y M Φ := fun Z v u H Q w r1 r2 k => by
  obtain ⟨c, hc, h⟩ := h
  obtain ⟨s1, s2⟩ := hc.rep r1 r2
  exact ⟨s1, by rw [s2]; exact k.now w (.bl c) h⟩
theorem rd_ne {x y : D} (h : ∃ c, EqS x y c ∧ Φ (.bl (!c)) M) : RD K rNe x y M Φ := fun Z v u H Q w r1 r2 k => by
  obtain ⟨c, hc, h⟩ := h
  obtain ⟨s1, s2⟩ := hc.rep r1 r2
  exact ⟨s1, by rw [s2]; exact k.now w (.bl (!c)) h⟩
theorem we_eqS (h : WE X ρ M a fun x M1 => WE X ρ M1 b fun y M2 => ∃ c, EqS x y c ∧ Φ (.bl c) M2) : WE X ρ M (.Compare a [.Eq] [b] pos) Φ := we_cmp op_eq (nomark _) (h.imp fun _ _ h => h.imp fun _ _ h => rd_eq h)
theorem we_neS (h : WE X ρ M a fun x M1 => WE X ρ M1 b fun y M2 => ∃ c, EqS x y c ∧ Φ (.bl (!c)) M2) : WE X ρ M (.Compare a [.NotEq] [b] pos) Φ := we_cmp op_ne (nomark _) (h.imp fun _ _ h => h.imp fun _ _ h => rd_ne h)
theorem wt_eqS (h : WE X ρ M a fun x M1 => WE X ρ M1 b fun y M2 => ∃ c, EqS x y c ∧ Θ c M2) : WT X ρ M (.Compare a [.Eq] [b] pos) Θ := wt_cmp op_eq (nomark _) (h.imp fun _ _ h => h.imp fun _ _ ⟨c, e, h⟩ => rd_eq ⟨c, e, _, rfl, h⟩)
theorem wt_neS (h : WE X ρ M a fun x M1 => WE X ρ M1 b fun y M2 => ∃ c, EqS x y c ∧ Θ (!c) M2) : WT X ρ M (.Compare a [.NotEq] [b] pos) Θ := wt_cmp op_ne (nomark _) (h.imp fun _ _ h => h.imp fun _ _ ⟨c, e, h⟩ => rd_ne ⟨c, e, _, rfl, h⟩)

/-! ### == of data -/
mutual
def toPy : D → Option PyData
  | .non => some .none
  | .bl b => some (.bool b)
  | .int i => some (.int i)
  | .str x => some (.str x)
  | .lst xs => (toPys xs).map .list
  | .rol xs => (toPys xs).map .list
  | .tup xs => (toPys xs).map .tuple
  | _ => none
def toPys : List D → Option (List PyData)
  | [] => some []
  | x :: xs => (toPy x).bind fun d => (toPys xs).map fun ds => d :: ds
end
mutual
theorem Rep.dp {M : Mp} {Z : Zn} {H : Hp} : ∀ {v : V} {d : D} {p : PyData}, Rep K M Z H v d → toPy d = some p → Dp K H v p
  | _, _, _, .non, e => by cases e; exact .non
  | _, _, _, .bl b, e => by cases e; exact .bl b
  | _, _, _, .int i, e => by cases e; exact .int i
  | _, _, _, .str x, e => by cases e; exact .str x
  | _, _, _, .ty n, e => by simp [toPy] at e
  | _, _, _, .fn n, e => by simp [toPy] at e
  | _, _, _, .ob n, e => by simp [toPy] at e
  | _, _, _, .dK h m r, e => by simp [toPy] at e
  | _, _, _, .dT h m r, e => by simp [toPy] at e
  | _, _, _, .ins h m r, e => by simp [toPy] at e
  | _, _, _, .key h m, e => by simp [toPy] at e
  | _, _, _, .fig h hd m md, e => by simp [toPy] at e
  | _, _, _, .lst h m r, e => by
    obtain ⟨ps, e1, rfl⟩ := Option.map_eq_some_iff.mp (by simpa only [toPy] using e)
    exact .lst (.inl (.inl h)) (Reps.dp r e1)
  | _, _, _, .rol h m r, e => by
    obtain ⟨ps, e1, rfl⟩ := Option.map_eq_some_iff.mp (by simpa only [toPy] using e)
    exact .lst (.inl h) (Reps.dp r e1)
  | _, _, _, .rolK h r, e => by
    obtain ⟨ps, e1, rfl⟩ := Option.map_eq_some_iff.mp (by simpa only [toPy] using e)
    exact .lst (.inr h) (Reps.dp r e1)
  | _, _, _, .tup h m r, e => by
    obtain ⟨ps, e1, rfl⟩ := Option.map_eq_some_iff.mp (by simpa only [toPy] using e)
    exact .tup (.inl h) (Reps.dp r e1)
  | _, _, _, .tupK h r, e => by
    obtain ⟨ps, e1, rfl⟩ := Option.map_eq_some_iff.mp (by simpa only [toPy] using e)
    exact .tup (.inr h) (Reps.dp r e1)
theorem Reps.dp {M : Mp} {Z : Zn} {H : Hp} : ∀ {vs : List V} {ds : List D} {ps : List PyData}, Reps K M Z H vs ds → toPys ds = some ps → DpAll K H vs ps
  | _, _, _, .nil, e => by cases (show some [] = some _ from (by simpa only [toPys] using e)); exact .nil
  | _, _, _, .cons r t, e => by
    simp only [toPys] at e
    obtain ⟨p, e1, e2⟩ := Option.bind_eq_some_iff.mp e
    obtain ⟨qs, e3, rfl⟩ := Option.map_eq_some_iff.mp e2
    exact .cons (Rep.dp r e1) (Reps.dp t e3)
end
theorem rd_eqD {x y : D} (h : ∃ p q, toPy x = some p ∧ toPy y = some q ∧ SeqAt.shaped p = true ∧ SeqAt.shaped q = true ∧ Φ (.bl (PyData.eqv p q)) M) : RD K (rEqD K) x y M Φ := fun Z v u H Q w r1 r2 k => by
  obtain ⟨p, q, e1, e2, s1, s2, h⟩ := h
  exact ⟨p, q, r1.dp e1, r2.dp e2, s1, s2, k.now w (.bl _) h⟩
theorem rd_neD {x y : D} (h : ∃ p q, toPy x = some p ∧ toPy y = some q ∧ SeqAt.shaped p = true ∧ SeqAt.shaped q = true ∧ Φ (.bl (!PyData.eqv p q)) M) : RD K (rNeD K) x y M Φ := fun Z v u H Q w r1 r2 k => by
  obtain ⟨p, q, e1, e2, s1, s2, h⟩ := h
  exact ⟨p, q, r1.dp e1, r2.dp e2, s1, s2, k.now w (.bl _) h⟩
theorem we_eqD (hu : X.A.units + 64 < cLine) (h : WE X ρ M a fun x M1 => WE X ρ M1 b fun y M2 => ∃ p q, toPy x = some p ∧ toPy y = some q ∧ SeqAt.shaped p = true ∧ SeqAt.shaped q = true ∧ Φ (.bl (PyData.eqv p q)) M2) : WE X ρ M (.Compare a [.Eq] [b] pos) Φ := we_cmp (op_eqD hu) (nomark _) (h.imp fun _ _ h => h.imp fun _ _ h => rd_eqD h)
theorem we_neD (hu : X.A.units + 64 < cLine) (h : WE X ρ M a fun x M1 => WE X ρ M1 b fun y M2 => ∃ p q, toPy x = some p ∧ toPy y = some q ∧ SeqAt.shaped p = true ∧ SeqAt.shaped q = true ∧ Φ (.bl (!PyData.eqv p q)) M2) : WE X ρ M (.Compare a [.NotEq] [b] pos) Φ := we_cmp (op_neD hu) (nomark _) (h.imp fun _ _ h => h.imp fun _ _ h => rd_neD h)
theorem wt_eqD (hu : X.A.units + 64 < cLine) (h : WE X ρ M a fun x M1 => WE X ρ M1 b fun y M2 => ∃ p q, toPy x = some p ∧ toPy y = some q ∧ SeqAt.shaped p = true ∧ SeqAt.shaped q = true ∧ Θ (PyData.eqv p q) M2) : WT X ρ M (.Compare a [.Eq] [b] pos) Θ := wt_cmp (op_eqD hu) (nomark _) (h.imp fun _ _ h => h.imp fun _ _ ⟨p, q, e1, e2, s1, s2, h⟩ => rd_eqD ⟨p, q, e1, e2, s1, s2, _, rfl, h⟩)
theorem wt_neD (hu : X.A.units + 64 < cLine) (h : WE X ρ M a fun x M1 => WE X ρ M1 b fun y M2 => ∃ p q, toPy x = some p ∧ toPy y = some q ∧ SeqAt.shaped p = true ∧ SeqAt.shaped q = true ∧ Θ (!PyData.eqv p q) M2) : WT X ρ M (.Compare a [.NotEq] [b] pos) Θ := wt_cmp (op_neD hu) (nomark _) (h.imp fun _ _ h => h.imp fun _ _ ⟨p, q, e1, e2, s1, s2, h⟩ => rd_neD ⟨p, q, e1, e2, s1, s2, _, rfl, h⟩)

/-! ### is None -/
def isNon : D → Bool
  | .non => true
  | _ => false
theorem Rep.isNon {M : Mp} {Z : Zn} {H : Hp} {v : V} {d : D} (r : Rep K M Z H v d) : decide (v = .non) = DL.isNon d := by
  cases r <;> first | rfl | simp [DL.isNon]
theorem we_isN {j : Nat} {p' : Pos} (h : WE X ρ M a fun x M1 => Φ (.bl (isNon x)) M1) : WE X ρ M (.Compare a [.Is] [.Constant .none j p'] pos) Φ := .mk fun σ H Q en w k =>
  eOf (pe_cmp (pc_isN pe_sem)) (h.run σ H _ en w fun v d H1 M1 e1 w1 r1 hz => by
    show Q (.bl (decide (v = .non))) H1
    rw [r1.isNon]
    exact (k.step e1).now w1 (.bl _) hz)
theorem we_notN {j : Nat} {p' : Pos} (h : WE X ρ M a fun x M1 => Φ (.bl (!isNon x)) M1) : WE X ρ M (.Compare a [.IsNot] [.Constant .none j p'] pos) Φ := .mk fun σ H Q en w k =>
  eOf (pe_cmp (pc_notN pe_sem)) (h.run σ H _ en w fun v d H1 M1 e1 w1 r1 hz => by
    show Q (.bl (!decide (v = .non))) H1
    rw [r1.isNon]
    exact (k.step e1).now w1 (.bl _) hz)
theorem wt_isN {j : Nat} {p' : Pos} (h : WE X ρ M a fun x M1 => Θ (isNon x) M1) : WT X ρ M (.Compare a [.Is] [.Constant .none j p'] pos) Θ := .mk fun σ H Q en w k =>
  tOf (pt_cmp (pc_isN pe_sem)) (h.run σ H _ en w fun v d H1 M1 e1 w1 r1 hz => by
    show ∃ c, V.bl (decide (v = .non)) = .bl c ∧ Q c H1
    rw [r1.isNon]
    exact ⟨_, rfl, (k.step e1).now w1 hz⟩)
theorem wt_notN {j : Nat} {p' : Pos} (h : WE X ρ M a fun x M1 => Θ (!isNon x) M1) : WT X ρ M (.Compare a [.IsNot] [.Constant .none j p'] pos) Θ := .mk fun σ H Q en w k =>
  tOf (pt_cmp (pc_notN pe_sem)) (h.run σ H _ en w fun v d H1 M1 e1 w1 r1 hz => by
    show ∃ c, V.bl (!decide (v = .non)) = .bl c ∧ Q c H1
    rw [r1.isNon]
    exact ⟨_, rfl, (k.step e1).now w1 hz⟩)

/-! ### chains of two comparisons -/
theorem wt_chainI {c : Expr} (h : WE X ρ M a fun x M1 => WE X ρ M1 b fun y M2 => ∃ i j, x = .int i ∧ y = .int j ∧ if decide (i ≤ j) = true then WE X ρ M2 c fun z M3 => ∃ l, z = .int l ∧ Θ (decide (j ≤ l)) M3 else Θ false M2) (hm : lastMarks [.LtE, .LtE] [b, c] = false := by rfl) : WT X ρ M (.Compare a [.LtE, .LtE] [b, c] pos) Θ := .mk fun σ H Q en w k =>
  tOf (pt_chain op_le op_le pe_sem pe_sem pe_sem (hm := hm)) (bind2 h en w fun v u x y H2 M2 e2 w2 r1 r2 hz => by
    obtain ⟨i, j, rfl, rfl, hz⟩ := hz
    cases r1; cases r2
    refine ⟨i, j, rfl, rfl, _, rfl, ?_⟩
    cases hd : decide (i ≤ j) with
    | false =>
      rw [hd] at hz
      exact ⟨_, rfl, (k.step e2).now w2 hz⟩
    | true =>
      rw [hd] at hz
      exact hz.run σ H2 _ (en.mono e2) w2 fun v3 z H3 M3 e3 w3 r3 hy => by
        obtain ⟨l, rfl, hy⟩ := hy
        cases r3
        exact ⟨j, l, rfl, rfl, _, rfl, (k.step (e2.trans e3)).now w3 hy⟩)

/-! ### texts -/
theorem we_addS (h : WE X ρ M a fun x M1 => WE X ρ M1 b fun y M2 => ∃ i j, x = .str i ∧ y = .str j ∧ i.length + j.length ≤ sizeLine ∧ Φ (.str (i ++ j)) M2) : WE X ρ M (.BinOp a .Add b pos) Φ := we_op op_add_str (h.imp fun _ _ h => h.imp fun _ _ h Z v u H Q w r1 r2 k => by
  obtain ⟨i, j, rfl, rfl, hz, h⟩ := h
  cases r1; cases r2
  exact ⟨i, j, rfl, rfl, hz, k.now w (.str _) h⟩)
theorem we_inC (h : WE X ρ M a fun x M1 => WE X ρ M1 b fun y M2 => ∃ c z, x = .str ⟨#[c]⟩ ∧ y = .str z ∧ Φ (.bl (decide (c ∈ z.cps.toList))) M2) (hm : behindInMarks .In b = false := by rfl) : WE X ρ M (.Compare a [.In] [b] pos) Φ := we_cmp op_in_sign hm (h.imp fun _ _ h => h.imp fun _ _ h Z v u H Q w r1 r2 k => by
  obtain ⟨i, j, rfl, rfl, h⟩ := h
  cases r1; cases r2
  exact ⟨i, j, rfl, rfl, k.now w (.bl _) h⟩)

/-! ### lists, tuples -/
theorem we_addL (h : WE X ρ M a fun x M1 => WE X ρ M1 b fun y M2 => ∃ xs ys, x = .lst xs ∧ y = .lst ys ∧ xs.length + ys.length ≤ sizeLine ∧ Φ (.lst (xs ++ ys)) M2) : WE X ρ M (.BinOp a .Add b pos) Φ := we_op op_cat (h.imp fun _ _ h => h.imp fun _ _ h Z v u H Q w r1 r2 k => by
  obtain ⟨xs, ys, rfl, rfl, hz, h⟩ := h
  cases r1 with
  | lst h1 m1 r1 =>
    cases r2 with
    | lst h2 m2 r2 =>
      exact ⟨_, _, _, _, rfl, rfl, h1, h2, by rw [r1.length, r2.length]; exact hz, fun p hp => k.new w hp (.lst upd_same (w.fresh hp) ((r1.append r2).mono (Ext.new w hp))) h⟩)
theorem we_addT (h : WE X ρ M a fun x M1 => WE X ρ M1 b fun y M2 => ∃ xs ys, x = .tup xs ∧ y = .tup ys ∧ xs.length + ys.length ≤ sizeLine ∧ Φ (.tup (xs ++ ys)) M2) : WE X ρ M (.BinOp a .Add b pos) Φ := we_op op_catA (h.imp fun _ _ h => h.imp fun _ _ h Z v u H Q w r1 r2 k => by
  obtain ⟨xs, ys, rfl, rfl, hz, h⟩ := h
  obtain ⟨p, vs, rfl, hq, rs⟩ := r1.asTup
  obtain ⟨p2, vs2, rfl, hq2, rs2⟩ := r2.asTup
  refine ⟨p, p2, vs, vs2, rfl, rfl, hq, hq2, by rw [rs.length, rs2.length]; exact hz, fun e => ?_, fun _ e => ?_, fun _ _ q hp => ?_⟩
  · subst e; cases rs; exact k.now w r2 h
  · subst e; cases rs2; rw [List.append_nil] at h; exact k.now w r1 h
  · exact k.new w hp (.tup (.inl upd_same) (w.fresh hp) ((rs.append rs2).mono (Ext.new w hp))) h)
/-- what a subscript reads -/
def IxD (M : Mp) (d : D) (i : Int) (y : D) : Prop := (∃ ds, LstOf M d ds ∧ atI ds i = some y) ∨ (∃ ds, d = .tup ds ∧ atI ds i = some y) ∨ ∃ z c, d = .str z ∧ z.length ≤ sizeLine ∧ atI z.cps.toList i = some c ∧ y = .str ⟨#[c]⟩
theorem Reps.atI {M : Mp} {Z : Zn} {H : Hp} {vs : List V} {ds : List D} {i : Int} {d : D} (r : Reps K M Z H vs ds) (h : L2.atI ds i = some d) : ∃ v, L2.atI vs i = some v ∧ Rep K M Z H v d := by
  unfold L2.atI at h ⊢
  rw [r.length]
  cases e : ixN ds.length i with
  | none => rw [e] at h; cases h
  | some j =>
    rw [e] at h
    exact r.get h
theorem we_ix (h : WE X ρ M a fun x M1 => WE X ρ M1 b fun y M2 => ∃ i d, y = .int i ∧ IxD M2 x i d ∧ Φ d M2) (hs : PlainIx b := by exact fun _ _ => rfl) : WE X ρ M (.Subscript a b pos) Φ := .mk fun σ H Q en w k =>
  eOf (pe_ix ix_seq pe_sem pe_sem hs) (bind2 h en w fun v u x y H2 M2 e2 w2 r1 r2 hz => by
    obtain ⟨i, d, rfl, hi, hz⟩ := hz
    cases r2
    rcases hi with ⟨ds, hl, ha⟩ | ⟨ds, rfl, ha⟩ | ⟨z, c, rfl, hl, ha, rfl⟩
    · obtain ⟨p, vs, rfl, hq, rs⟩ := r1.asLst w2 hl
      obtain ⟨v, hv, rv⟩ := rs.atI ha
      exact .inl ⟨p, vs, i, v, rfl, rfl, hq, hv, (k.step e2).now w2 rv hz⟩
    · obtain ⟨p, vs, rfl, hq, rs⟩ := r1.asTup
      obtain ⟨v, hv, rv⟩ := rs.atI ha
      exact .inr (.inl ⟨p, vs, i, v, rfl, rfl, hq, hv, (k.step e2).now w2 rv hz⟩)
    · cases r1
      exact .inr (.inr ⟨z, i, c, rfl, rfl, hl, ha, (k.step e2).now w2 (.str _) hz⟩))
theorem ixT {M : Mp} {ds : List D} {i : Int} {y : D} (h : atI ds i = some y) : IxD M (.tup ds) i y := .inr (.inl ⟨ds, rfl, h⟩)
theorem ixL {M : Mp} {ds : List D} {i : Int} {y : D} (h : atI ds i = some y) : IxD M (.lst ds) i y := .inl ⟨ds, rfl, h⟩
theorem ixR {M : Mp} {ds : List D} {i : Int} {y : D} (h : atI ds i = some y) : IxD M (.rol ds) i y := .inl ⟨ds, rfl, h⟩
theorem ixO {M : Mp} {p : Addr} {ds : List D} {i : Int} {y : D} (hp : M p = some (.lst ds)) (h : atI ds i = some y) : IxD M (.ob p) i y := .inl ⟨ds, hp, h⟩

/-! ### slices -/
def WO (X : Cx) (ρ : Rho) (M : Mp) (e : Option Expr) (Φ : Option Int → Mp → Prop) : Prop := match e with
  | none => Φ none M
  | some e => WE X ρ M e fun d M1 => ∃ i, d = .int i ∧ Φ (some i) M1
def oSem (X : Cx) : Option Expr → TO
  | none => tNoPart
  | some e => tPart (eSem X e)
theorem po_sem {o : Option Expr} : PO X o (oSem X o) := by
  cases o with
  | none => exact po_none
  | some e => exact po_some pe_sem
theorem wo_run {o : Option Expr} {ΦO : Option Int → Mp → Prop} (h : WO X ρ M o ΦO) {Z : Zn} {σ : L2.St} {H : Hp} {Q : Option Int → Hp → Prop} (en : EnvR X.K M Z H σ ρ) (w : Wd X.K M Z H) (k : ∀ i H' M', Ext M Z H M' H' → Wd X.K M' Z H' → ΦO i M' → Q i H') : oSem X o σ H Q := by
  cases o with
  | none => exact k none H M Ext.refl w h
  | some e =>
    refine (show WE X ρ M e (fun d M1 => ∃ i, d = .int i ∧ ΦO (some i) M1) from h).run σ H _ en w fun v d H1 M1 e1 w1 r1 hz => ?_
    obtain ⟨i, rfl, hz⟩ := hz
    cases r1
    exact ⟨i, rfl, k _ H1 M1 e1 w1 hz⟩
/-- the items of a slice -/
def cutD {α : Type} (xs : List α) (lo hi : Option Int) : List α := (xs.drop (HT.sIx xs.length 0 lo)).take (HT.sIx xs.length xs.length hi - HT.sIx xs.length 0 lo)
theorem Reps.cut {M : Mp} {Z : Zn} {H : Hp} {vs : List V} {ds : List D} (r : Reps K M Z H vs ds) (lo hi : Option Int) : Reps K M Z H (cutV vs lo hi) (cutD ds lo hi) := by
  unfold cutV cutD
  rw [r.length]
  exact (r.drop _).take _
/-- what a slice is -/
def SlD (M : Mp) (d : D) (lo hi : Option Int) (y : D) : Prop := (∃ ds, LstOf M d ds ∧ y = .lst (cutD ds lo hi)) ∨ (∃ ds, d = .tup ds ∧ y = .tup (cutD ds lo hi)) ∨ ∃ z, d = .str z ∧ z.length ≤ sizeLine ∧ y = .str (cutS z lo hi)
theorem sIx_le (n d : Nat) (hd : d ≤ n) (o : Option Int) : HT.sIx n d o ≤ n := by
  cases o with
  | none => simpa [HT.sIx] using hd
  | some i => simp only [HT.sIx]; split <;> omega
theorem cutD_all {α : Type} {xs : List α} {lo hi : Option Int} (h : HT.sIx xs.length 0 lo = 0 ∧ HT.sIx xs.length xs.length hi = xs.length) : cutD xs lo hi = xs := by
  unfold cutD; rw [h.1, h.2]; simp
theorem we_slice {lo hi : Option Expr} {p2 : Pos} (h : WE X ρ M a fun x M1 => WO X ρ M1 lo fun l M2 => WO X ρ M2 hi fun u M3 => ∃ d, SlD M3 x l u d ∧ Φ d M3) : WE X ρ M (.Subscript a (.Slice lo hi none p2) pos) Φ := .mk fun σ H Q en w k =>
  eOf (pe_slice (sl_list.or (sl_tupA.or sl_str)) pe_sem po_sem po_sem) (h.run σ H _ en w fun v x H1 M1 e1 w1 r1 hz => wo_run hz (en.mono e1) w1 fun l H2 M2 e2 w2 hz => wo_run hz (en.mono (e1.trans e2)) w2 fun u H3 M3 e3 w3 hz => by
    obtain ⟨d, hd, hz⟩ := hz
    have r3 := r1.mono (e2.trans e3)
    have k3 := k.step ((e1.trans e2).trans e3)
    rcases hd with ⟨ds, hl, rfl⟩ | ⟨ds, rfl, rfl⟩ | ⟨z, rfl, hl, rfl⟩
    · obtain ⟨p, vs, rfl, hq, rs⟩ := r3.asLst w3 hl
      exact .inl ⟨p, vs, rfl, hq, fun q hp => k3.new w3 hp (.lst upd_same (w3.fresh hp) ((rs.cut l u).mono (Ext.new w3 hp))) hz⟩
    · obtain ⟨p, vs, rfl, hq, rs⟩ := r3.asTup
      refine .inr (.inl ⟨p, vs, rfl, hq, fun hw => ?_, fun hw q hp => ?_⟩)
      · rw [rs.length] at hw
        rw [cutD_all hw] at hz
        exact k3.now w3 r3 hz
      · exact k3.new w3 hp (.tup (.inl upd_same) (w3.fresh hp) ((rs.cut l u).mono (Ext.new w3 hp))) hz
    · cases r3
      exact .inr (.inr ⟨z, rfl, hl, k3.now w3 (.str _) hz⟩))
end
end DL
/-! DL7: built-ins, methods of texts and lists, f-strings, walks. -/
namespace DL
open PySem PySem.Spec PyProof.Rows L2
section
variable {K : PySem.W.Frag} {M : Mp} {Z : Zn} {H : Hp}
theorem Reps.set {v : V} {d : D} (r : Rep K M Z H v d) : ∀ {vs : List V} {ds : List D} (j : Nat), Reps K M Z H vs ds → Reps K M Z H (vs.set j v) (ds.set j d)
  | _, _, _, .nil => .nil
  | _, _, 0, .cons _ t => .cons r t
  | _, _, j + 1, .cons q t => .cons q (Reps.set r j t)
theorem Reps.one {vs : List V} {d : D} (r : Reps K M Z H vs [d]) : ∃ v, vs = [v] ∧ Rep K M Z H v d := by
  cases r with
  | cons r t => cases t; exact ⟨_, rfl, r⟩
theorem Reps.two {vs : List V} {d e : D} (r : Reps K M Z H vs [d, e]) : ∃ v u, vs = [v, u] ∧ Rep K M Z H v d ∧ Rep K M Z H u e := by
  cases r with
  | cons r t =>
    obtain ⟨u, rfl, r2⟩ := t.one
    exact ⟨_, u, rfl, r, r2⟩
theorem Reps.three {vs : List V} {d e f : D} (r : Reps K M Z H vs [d, e, f]) : ∃ v u x, vs = [v, u, x] ∧ Rep K M Z H v d ∧ Rep K M Z H u e ∧ Rep K M Z H x f := by
  cases r with
  | cons r t =>
    obtain ⟨u, x, rfl, r2, r3⟩ := t.two
    exact ⟨_, u, x, rfl, r, r2, r3⟩
end
section
variable {X : Cx} {ρ : Rho} {M : Mp} {Φ : D → Mp → Prop} {Θ : Bool → Mp → Prop} {a b e o : Expr} {es : List Expr} {pos p apos : Pos} {x : Str}
/-! ### calls of built-ins -/
theorem we_callB {id : String} {r : List V → Hp → VK → Prop} (hc : CallR X (.builtin id) r) (hm : X.mg x = none) (hv : bootBuiltins x = some (.builtin id)) (h : WA X ρ M (e :: es) fun ds M1 => RC X.K r ds M1 Φ) (hg : Gl X x := by rfl) (hn : x ≠ "__name__" := by decide) (hdb : (x == ("__debug__" : Str)) = false := by decide)
    (he : starEach (e :: es) X.env = (false, eval e X.env) :: starEach es X.env := by rfl) (hpl : (backTo pos (starEach es X.env)).any (·.1) = false := by rfl) : WE X ρ M (.Call (.Name x p) (e :: es) [] pos) Φ := .mk fun σ H Q en w k =>
  eOf (pe_callB hc hg hm hv pa_sem hn hdb he hpl) (h.run σ H _ en w fun vs ds H1 M1 e1 w1 r1 hz => hz _ vs H1 Q w1 r1 (k.step e1))
theorem we_callTy {T : String} {r : List V → Hp → VK → Prop} (hc : CallR X (.type T) r) (hm : X.mg x = none) (hv : bootBuiltins x = some (.type T)) (h : WA X ρ M (e :: es) fun ds M1 => RC X.K r ds M1 Φ) (hg : Gl X x := by rfl) (hn : x ≠ "__name__" := by decide) (hdb : (x == ("__debug__" : Str)) = false := by decide)
    (he : starEach (e :: es) X.env = (false, eval e X.env) :: starEach es X.env := by rfl) (hpl : (backTo pos (starEach es X.env)).any (·.1) = false := by rfl) : WE X ρ M (.Call (.Name x p) (e :: es) [] pos) Φ := .mk fun σ H Q en w k =>
  eOf (pe_callTy hc hg hm hv pa_sem hn hdb he hpl) (h.run σ H _ en w fun vs ds H1 M1 e1 w1 r1 hz => hz _ vs H1 Q w1 r1 (k.step e1))
/-- how many -/
def LenD (M : Mp) (d : D) (n : Nat) : Prop := (∃ ds, LstOf M d ds ∧ n = ds.length) ∨ (∃ ds, d = .tup ds ∧ n = ds.length) ∨ ∃ z, d = .str z ∧ z.length ≤ sizeLine ∧ n = z.length
theorem we_len (hm : X.mg "len" = none) (h : WE X ρ M e fun d M1 => ∃ n : Nat, LenD M1 d n ∧ Φ (.int n) M1) (hg : Gl X "len" := by rfl)
    (he : starEach [e] X.env = (false, eval e X.env) :: starEach [] X.env := by rfl) (hpl : (backTo pos (starEach [] X.env)).any (·.1) = false := by rfl) : WE X ρ M (.Call (.Name "len" p) [e] [] pos) Φ :=
  we_callB call_len hm boot_len (wa_cons (h.imp fun d M1 h => wa_nil fun Z vs H Q w rr k => by
    obtain ⟨n, hn, h⟩ := h
    obtain ⟨v, rfl, r⟩ := rr.one
    refine ⟨v, n, rfl, ?_, k.now w (.int _) h⟩
    rcases hn with ⟨ds, hl, rfl⟩ | ⟨ds, rfl, rfl⟩ | ⟨z, rfl, hz, rfl⟩
    · obtain ⟨p, vs, rfl, hq, rs⟩ := r.asLst w hl
      exact .inl ⟨vs, hq, rs.length.symm⟩
    · obtain ⟨p, vs, rfl, hq, rs⟩ := r.asTup
      exact .inr ⟨vs, hq, rs.length.symm⟩
    · cases r
      exact ⟨hz, rfl⟩) he) hg (he := he) (hpl := hpl)
theorem lenL {M : Mp} {ds : List D} : LenD M (.lst ds) ds.length := .inl ⟨ds, rfl, rfl⟩
theorem lenR {M : Mp} {ds : List D} : LenD M (.rol ds) ds.length := .inl ⟨ds, rfl, rfl⟩
theorem lenT {M : Mp} {ds : List D} : LenD M (.tup ds) ds.length := .inr (.inl ⟨ds, rfl, rfl⟩)
theorem lenS {M : Mp} {z : Str} (h : z.length ≤ sizeLine) : LenD M (.str z) z.length := .inr (.inr ⟨z, rfl, h, rfl⟩)
theorem lenO {M : Mp} {p : Addr} {ds : List D} (h : M p = some (.lst ds)) : LenD M (.ob p) ds.length := .inl ⟨ds, h, rfl⟩
theorem we_abs (hm : X.mg "abs" = none) (h : WE X ρ M e fun d M1 => ∃ i, d = .int i ∧ Φ (.int (if i < 0 then -i else i)) M1) (hg : Gl X "abs" := by rfl)
    (he : starEach [e] X.env = (false, eval e X.env) :: starEach [] X.env := by rfl) (hpl : (backTo pos (starEach [] X.env)).any (·.1) = false := by rfl) : WE X ρ M (.Call (.Name "abs" p) [e] [] pos) Φ :=
  we_callB call_abs hm (by decide +kernel) (wa_cons (h.imp fun d M1 h => wa_nil fun Z vs H Q w rr k => by
    obtain ⟨i, rfl, h⟩ := h
    obtain ⟨v, rfl, r⟩ := rr.one
    cases r
    exact ⟨i, rfl, k.now w (.int _) h⟩) he) hg (he := he) (hpl := hpl)
/-- int(x) of an int, a bool -/
theorem we_intN (hm : X.mg "int" = none) (h : WE X ρ M e fun d M1 => (∃ i, d = .int i ∧ Φ (.int i) M1) ∨ ∃ c, d = .bl c ∧ Φ (.int (if c then 1 else 0)) M1) (hg : Gl X "int" := by rfl)
    (he : starEach [e] X.env = (false, eval e X.env) :: starEach [] X.env := by rfl) (hpl : (backTo pos (starEach [] X.env)).any (·.1) = false := by rfl) : WE X ρ M (.Call (.Name "int" p) [e] [] pos) Φ :=
  we_callTy call_int1 hm (by decide +kernel) (wa_cons (h.imp fun d M1 h => wa_nil fun Z vs H Q w rr k => by
    obtain ⟨v, rfl, r⟩ := rr.one
    rcases h with ⟨i, rfl, h⟩ | ⟨i, rfl, h⟩
    · cases r; exact .inl ⟨i, rfl, k.now w (.int _) h⟩
    · cases r; exact .inr ⟨i, rfl, k.now w (.int _) h⟩) he) hg (he := he) (hpl := hpl)
/-- int(text) -/
theorem we_intS (hm : X.mg "int" = none) (h : WE X ρ M e fun d M1 => ∃ z n, d = .str z ∧ PySem.intText? z = some n ∧ z.length ≤ 640 ∧ Φ (.int n) M1) (hg : Gl X "int" := by rfl)
    (he : starEach [e] X.env = (false, eval e X.env) :: starEach [] X.env := by rfl) (hpl : (backTo pos (starEach [] X.env)).any (·.1) = false := by rfl) : WE X ρ M (.Call (.Name "int" p) [e] [] pos) Φ :=
  we_callTy call_int_str hm (by decide +kernel) (wa_cons (h.imp fun d M1 h => wa_nil fun Z vs H Q w rr k => by
    obtain ⟨v, rfl, r⟩ := rr.one
    obtain ⟨z, n, rfl, h1, h2, h⟩ := h
    cases r
    exact ⟨z, n, rfl, h1, h2, k.now w (.int _) h⟩) he) hg (he := he) (hpl := hpl)
/-- str(int) -/
theorem we_strI (hm : X.mg "str" = none) (h : WE X ρ M e fun d M1 => ∃ i : Int, d = .int i ∧ i.natAbs.log2 < 1920 ∧ Φ (.str (toString i)) M1) (hg : Gl X "str" := by rfl)
    (he : starEach [e] X.env = (false, eval e X.env) :: starEach [] X.env := by rfl) (hpl : (backTo pos (starEach [] X.env)).any (·.1) = false := by rfl) : WE X ρ M (.Call (.Name "str" p) [e] [] pos) Φ :=
  we_callTy call_str_int hm (by decide +kernel) (wa_cons (h.imp fun d M1 h => wa_nil fun Z vs H Q w rr k => by
    obtain ⟨v, rfl, r⟩ := rr.one
    obtain ⟨i, rfl, h2, h⟩ := h
    cases r
    exact ⟨i, rfl, h2, k.now w (.str _) h⟩) he) hg (he := he) (hpl := hpl)
theorem we_max2 (hm : X.mg "max" = none) (h : WE X ρ M a fun x M1 => WE X ρ M1 b fun y M2 => ∃ i j, x = .int i ∧ y = .int j ∧ Φ (.int (if j > i then j else i)) M2) (hc : X.calm = true := by rfl) (hg : Gl X "max" := by rfl)
    (ha : starEach [a, b] X.env = (false, eval a X.env) :: starEach [b] X.env := by rfl) (hb : starEach [b] X.env = (false, eval b X.env) :: starEach [] X.env := by rfl) (hpl : (backTo pos (starEach [b] X.env)).any (·.1) = false := by rfl) : WE X ρ M (.Call (.Name "max" p) [a, b] [] pos) Φ :=
  we_callB (call_max2 hc) hm (by decide +kernel) (wa_cons (h.imp fun x M1 h => wa_cons (h.imp fun y M2 h => wa_nil fun Z vs H Q w rr k => by
    obtain ⟨v, u, rfl, r1, r2⟩ := rr.two
    obtain ⟨i, j, rfl, rfl, h⟩ := h
    cases r1; cases r2
    exact ⟨i, j, rfl, k.now w (.int _) h⟩) hb) ha) hg (he := ha) (hpl := hpl)
theorem we_min2 (hm : X.mg "min" = none) (h : WE X ρ M a fun x M1 => WE X ρ M1 b fun y M2 => ∃ i j, x = .int i ∧ y = .int j ∧ Φ (.int (if j < i then j else i)) M2) (hc : X.calm = true := by rfl) (hg : Gl X "min" := by rfl)
    (ha : starEach [a, b] X.env = (false, eval a X.env) :: starEach [b] X.env := by rfl) (hb : starEach [b] X.env = (false, eval b X.env) :: starEach [] X.env := by rfl) (hpl : (backTo pos (starEach [b] X.env)).any (·.1) = false := by rfl) : WE X ρ M (.Call (.Name "min" p) [a, b] [] pos) Φ :=
  we_callB (call_min2 hc) hm (by decide +kernel) (wa_cons (h.imp fun x M1 h => wa_cons (h.imp fun y M2 h => wa_nil fun Z vs H Q w rr k => by
    obtain ⟨v, u, rfl, r1, r2⟩ := rr.two
    obtain ⟨i, j, rfl, rfl, h⟩ := h
    cases r1; cases r2
    exact ⟨i, j, rfl, k.now w (.int _) h⟩) hb) ha) hg (he := ha) (hpl := hpl)
/-- sum, all, any -/
theorem we_sum (hm : X.mg "sum" = none) (h : WE X ρ M e fun d M1 => ∃ ns : List Int, LstOf M1 d (ns.map D.int) ∧ Φ (.int ns.sum) M1) (hc : X.calm = true := by rfl) (hg : Gl X "sum" := by rfl)
    (he : starEach [e] X.env = (false, eval e X.env) :: starEach [] X.env := by rfl) (hpl : (backTo pos (starEach [] X.env)).any (·.1) = false := by rfl) : WE X ρ M (.Call (.Name "sum" p) [e] [] pos) Φ :=
  we_callB (cr_sum hc) hm (by decide +kernel) (wa_cons (h.imp fun d M1 h => wa_nil fun Z vs H Q w rr k => by
    obtain ⟨v, rfl, r⟩ := rr.one
    obtain ⟨ns, hl, h⟩ := h
    obtain ⟨q, vs, rfl, hq, rs⟩ := r.asLst w hl
    rw [rs.ints] at hq
    exact ⟨q, ns, rfl, hq, k.now w (.int _) h⟩) he) hg (he := he) (hpl := hpl)
theorem we_all (hm : X.mg "all" = none) (h : WE X ρ M e fun d M1 => ∃ bs : List Bool, LstOf M1 d (bs.map D.bl) ∧ Φ (.bl (bs.all id)) M1) (hc : X.calm = true := by rfl) (hg : Gl X "all" := by rfl)
    (he : starEach [e] X.env = (false, eval e X.env) :: starEach [] X.env := by rfl) (hpl : (backTo pos (starEach [] X.env)).any (·.1) = false := by rfl) : WE X ρ M (.Call (.Name "all" p) [e] [] pos) Φ :=
  we_callB (cr_all hc) hm (by decide +kernel) (wa_cons (h.imp fun d M1 h => wa_nil fun Z vs H Q w rr k => by
    obtain ⟨v, rfl, r⟩ := rr.one
    obtain ⟨ns, hl, h⟩ := h
    obtain ⟨q, vs, rfl, hq, rs⟩ := r.asLst w hl
    rw [rs.bls] at hq
    exact ⟨q, ns, rfl, hq, k.now w (.bl _) h⟩) he) hg (he := he) (hpl := hpl)
/-- tuple(xs), list(xs) -/
theorem we_tupleOf (hm : X.mg "tuple" = none) (h : WE X ρ M e fun d M1 => ∃ ds, (LstOf M1 d ds ∨ d = .tup ds) ∧ Φ (.tup ds) M1) (hg : Gl X "tuple" := by rfl)
    (he : starEach [e] X.env = (false, eval e X.env) :: starEach [] X.env := by rfl) (hpl : (backTo pos (starEach [] X.env)).any (·.1) = false := by rfl) : WE X ρ M (.Call (.Name "tuple" p) [e] [] pos) Φ :=
  we_callTy call_tuple_of hm (by decide +kernel) (wa_cons (h.imp fun d M1 h => wa_nil fun Z vs H Q w rr k => by
    obtain ⟨v, rfl, r⟩ := rr.one
    obtain ⟨ds, hl | rfl, h⟩ := h
    · obtain ⟨q, vs, rfl, hq, rs⟩ := r.asLst w hl
      exact ⟨q, vs, rfl, .inl ⟨hq, fun l hp => k.new w hp (.tup (.inl upd_same) (w.fresh hp) (rs.mono (Ext.new w hp))) h⟩⟩
    · obtain ⟨q, vs, rfl, hq, rs⟩ := r.asTup
      exact ⟨q, vs, rfl, .inr ⟨hq, k.now w r h⟩⟩) he) hg (he := he) (hpl := hpl)
theorem we_listOf (hm : X.mg "list" = none) (h : WE X ρ M e fun d M1 => ∃ ds, (LstOf M1 d ds ∨ d = .tup ds) ∧ Φ (.lst ds) M1) (hg : Gl X "list" := by rfl)
    (he : starEach [e] X.env = (false, eval e X.env) :: starEach [] X.env := by rfl) (hpl : (backTo pos (starEach [] X.env)).any (·.1) = false := by rfl) : WE X ρ M (.Call (.Name "list" p) [e] [] pos) Φ :=
  we_callTy call_list_of hm (by decide +kernel) (wa_cons (h.imp fun d M1 h => wa_nil fun Z vs H Q w rr k => by
    obtain ⟨v, rfl, r⟩ := rr.one
    obtain ⟨ds, hl | rfl, h⟩ := h
    · obtain ⟨q, vs, rfl, hq, rs⟩ := r.asLst w hl
      exact ⟨q, vs, rfl, .inl hq, fun l hp => k.new w hp (.lst upd_same (w.fresh hp) (rs.mono (Ext.new w hp))) h⟩
    · obtain ⟨q, vs, rfl, hq, rs⟩ := r.asTup
      exact ⟨q, vs, rfl, .inr hq, fun l hp => k.new w hp (.lst upd_same (w.fresh hp) (rs.mono (Ext.new w hp))) h⟩) he) hg (he := he) (hpl := hpl)
/-- a list that will be changed -/
theorem we_listOfM (hm : X.mg "list" = none) (h : WE X ρ M e fun d M1 => ∃ ds, (LstOf M1 d ds ∨ d = .tup ds) ∧ ∀ q, M1 q = none → Φ (.ob q) (mset M1 q (.lst ds))) (hg : Gl X "list" := by rfl)
    (he : starEach [e] X.env = (false, eval e X.env) :: starEach [] X.env := by rfl) (hpl : (backTo pos (starEach [] X.env)).any (·.1) = false := by rfl) : WE X ρ M (.Call (.Name "list" p) [e] [] pos) Φ :=
  we_callTy call_list_of hm (by decide +kernel) (wa_cons (h.imp fun d M1 h => wa_nil fun Z vs H Q w rr k => by
    obtain ⟨v, rfl, r⟩ := rr.one
    obtain ⟨ds, hl, h⟩ := h
    obtain ⟨q, vs, rfl, hq, rs⟩ : ∃ q vs, v = .ref q ∧ (SqL X.K H q vs ∨ SqT X.K H q vs) ∧ Reps X.K M1 Z H vs ds := by
      rcases hl with hl | rfl
      · obtain ⟨q, vs, e, hq, rs⟩ := r.asLst w hl; exact ⟨q, vs, e, .inl hq, rs⟩
      · obtain ⟨q, vs, e, hq, rs⟩ := r.asTup; exact ⟨q, vs, e, .inr hq, rs⟩
    exact ⟨q, vs, rfl, hq, fun l hp => k _ (.ob l) _ (mset M1 l (.lst ds)) (Ext.newM w hp) (w.newM hp ⟨vs, upd_same, rs.mono (Ext.newM w hp)⟩) (.ob l) (h l (w.fresh hp).1)⟩) he) hg (he := he) (hpl := hpl)
/-- list(range(n)) -/
theorem we_listRg1 {p2 pos2 : Pos} (hm : X.mg "list" = none) (hm2 : X.mg "range" = none) (h : WE X ρ M e fun d M1 => ∃ n : Int, d = .int n ∧ RgOk 0 n ∧ Φ (.lst (rngD 0 n.toNat)) M1) (hc : X.calm = true := by rfl) (hg : Gl X "list" := by rfl) (hg2 : Gl X "range" := by rfl)
    (na : starEach [e] X.env = (false, eval e X.env) :: starEach [] X.env := by rfl) (nb : starEach [.Call (.Name "range" p2) [e] [] pos2] X.env = (false, eval (.Call (.Name "range" p2) [e] [] pos2) X.env) :: starEach [] X.env := by rfl) : WE X ρ M (.Call (.Name "list" p) [.Call (.Name "range" p2) [e] [] pos2] [] pos) Φ := .mk fun σ H Q en w k =>
  eOf (pe_listRg hc hg hm (prg_1 hg2 hm2 pe_sem na) nb) (h.run σ H _ en w fun v d H1 M1 e1 w1 r1 hz => by
    obtain ⟨n, rfl, ok, hz⟩ := hz
    cases r1
    refine ⟨n, rfl, ok, fun q hq => (k.step e1).new w1 hq (.lst upd_same (w1.fresh hq) ?_) hz⟩
    have e2 : ∀ (M : Mp) (Z : Zn) (H : Hp), Reps X.K M Z H (rgV 0 n) (rngD 0 n.toNat) := fun M Z H => by
      unfold rgV rngD
      rw [show (n - 0).toNat = n.toNat by omega]
      generalize List.range n.toNat = l
      induction l with
      | nil => exact .nil
      | cons i r ih => exact .cons (.int _) ih
    exact e2 _ _ _)

/-! ### isinstance -/
/-- the class of data, as the fragment's deciders take it -/
def TyD (M : Mp) : D → Value → Prop
  | .non, t => t = .type "NoneType"
  | .bl _, t => t = .type "bool"
  | .int _, t => t = .type "int"
  | .str _, t => t = .type "str"
  | .lst _, t => t = .type "list"
  | .tup _, t => t = .type "tuple"
  | .dK _, t => t = .type "dict"
  | .dT _, t => t = .type "dict"
  | .ins C _, t => t = .ref C
  | _, _ => False
/-- what isinstance asks of an own class -/
structure OwnC (K : PySem.W.Frag) (C : Addr) : Prop where
  cl : Cls K C
  ha : PySem.W.findIn K (.ref C) "__class__" = some (some (.builtin "object.__class__"))
  hn : PySem.W.specialIn K (.builtin "object.__class__") "__get__" = some (some (.builtin "getset_descriptor.__get__"))
  htk : PySem.W.takesIn K (.builtin "object.__class__") = some true
  hm : PySem.W.mroIn K C (.type "object") = some true
theorem TyD.rep {K : PySem.W.Frag} {M : Mp} {Z : Zn} {H : Hp} {v : V} {d : D} {t : Value} (r : Rep K M Z H v d) (h : TyD M d t) (own : ∀ C, t = .ref C → OwnC K C) : TyX K H v t := by
  cases r with
  | non => cases h; exact .base .non
  | bl b => cases h; exact .base (.bl b)
  | int i => cases h; exact .base (.int i)
  | str x => cases h; exact .base (.str x)
  | lst h1 m r => cases h; exact .base (.lst h1)
  | tup h1 m r =>
    cases h
    rcases h1 with h1 | ⟨o, h1⟩
    · exact .base (.tup h1)
    · exact .fTuple h1
  | tupK h1 r =>
    cases h
    obtain ⟨o, its, n, hk, hc, _⟩ := h1
    exact .kTuple hk hc
  | dK h1 m r => cases h; exact .base (.dK h1)
  | dT h1 m r => cases h; exact .base (.dT h1)
  | ins h1 m r =>
    cases h
    obtain ⟨cl, ha, hn, htk, hm⟩ := own _ rfl
    exact .base (.ins h1 cl ha hn htk hm)
  | _ => cases h
/-- a class as data -/
def ClsD : D → Value → Prop
  | .ty n, u => u = .type n
  | .fn C, u => u = .ref C
  | _, _ => False
theorem we_isi (hm : X.mg "isinstance" = none) (h : WE X ρ M a fun x M1 => WE X ρ M1 b fun y M2 => ∃ t u c, TyD M2 x t ∧ ClsD y u ∧ (∀ C, t = .ref C → OwnC X.K C) ∧ PySem.W.kitOne X.K t u = some c ∧ Φ (.bl c) M2) (hg : Gl X "isinstance" := by rfl)
    (ha : starEach [a, b] X.env = (false, eval a X.env) :: starEach [b] X.env := by rfl) (hb : starEach [b] X.env = (false, eval b X.env) :: starEach [] X.env := by rfl) (hpl : (backTo pos (starEach [b] X.env)).any (·.1) = false := by rfl) : WE X ρ M (.Call (.Name "isinstance" p) [a, b] [] pos) Φ :=
  we_callB call_isi hm (by decide +kernel) (wa_cons (h.imp fun x M1 h => wa_cons (h.imp fun y M2 h => wa_nil fun Z vs H Q w rr k => by
    obtain ⟨v, u, rfl, r1, r2⟩ := rr.two
    obtain ⟨t, cu, c, h1, h2, own, h3, h⟩ := h
    refine ⟨v, u, t, cu, c, rfl, ?_, h1.rep r1 own, h3, k.now w (.bl _) h⟩
    cases r2 with
    | ty n => cases h2; exact .ty n
    | fn C => cases h2; exact .own C
    | _ => cases h2) hb) ha) hg (he := ha) (hpl := hpl)

/-! ### methods of texts -/
theorem we_m0 {id : String} {name : Str} {r : V → List V → Hp → VK → Prop} (slot : Slot "str" name id) (ty : typeOf (.builtin id) = pure (.type "method_descriptor")) (rule : MtR X id r)
    (h : WE X ρ M o fun d M1 => ∃ z, d = .str z ∧ ∀ Z H Q, Wd X.K M1 Z H → KE X.K M1 Z H Φ Q → r (.str z) [] H Q) (hbase : attributeBase o name X.env (eval o X.env) = eval o X.env := by rfl) (hline : (apos.endLine == pos.line) = true := by rfl) : WE X ρ M (.Call (.Attribute o name apos) [] [] pos) Φ := .mk fun σ H Q en w k =>
  eOf (pe_m0 slot ty rule pe_sem hbase hline) (h.run σ H _ en w fun v d H1 M1 e1 w1 r1 hz => by
    obtain ⟨z, rfl, hz⟩ := hz
    cases r1
    exact ⟨⟨z, rfl⟩, hz _ H1 Q w1 (k.step e1)⟩)
theorem we_m1 {id : String} {name : Str} {r : V → List V → Hp → VK → Prop} (slot : Slot "str" name id) (ty : typeOf (.builtin id) = pure (.type "method_descriptor")) (rule : MtR X id r)
    (h : WE X ρ M o fun d M1 => ∃ z, d = .str z ∧ WE X ρ M1 e fun y M2 => ∀ Z H Q u, Wd X.K M2 Z H → Rep X.K M2 Z H u y → KE X.K M2 Z H Φ Q → r (.str z) [u] H Q)
    (hs : starEach [e] X.env = [(false, eval e X.env)] := by rfl) (hbase : attributeBase o name X.env (eval o X.env) = eval o X.env := by rfl) (hline : (apos.endLine == pos.line) = true := by rfl) : WE X ρ M (.Call (.Attribute o name apos) [e] [] pos) Φ := .mk fun σ H Q en w k =>
  eOf (pe_m1 slot ty rule pe_sem pe_sem hs hbase hline) (h.run σ H _ en w fun v d H1 M1 e1 w1 r1 hz => by
    obtain ⟨z, rfl, hz⟩ := hz
    cases r1
    exact ⟨⟨z, rfl⟩, hz.run σ H1 _ (en.mono e1) w1 fun u y H2 M2 e2 w2 r2 hy => hy _ H2 Q u w2 r2 (k.step (e1.trans e2))⟩)
theorem we_startswith (h : WE X ρ M o fun d M1 => ∃ z, d = .str z ∧ WE X ρ M1 e fun y M2 => ∃ s, y = .str s ∧ Φ (.bl (Txt.startswith z s)) M2) (hs : starEach [e] X.env = [(false, eval e X.env)] := by rfl) (hbase : attributeBase o "startswith" X.env (eval o X.env) = eval o X.env := by rfl) (hline : (apos.endLine == pos.line) = true := by rfl) : WE X ρ M (.Call (.Attribute o "startswith" apos) [e] [] pos) Φ :=
  we_m1 F.slot_str_startswith F.type_str_startswith mt_startswith (h.imp fun d M1 ⟨z, e1, h⟩ => ⟨z, e1, h.imp fun y M2 ⟨s, e2, h⟩ Z H Q u w r k => by subst e2; cases r; exact ⟨z, s, rfl, rfl, k.now w (.bl _) h⟩⟩) hs hbase hline
theorem we_endswith (h : WE X ρ M o fun d M1 => ∃ z, d = .str z ∧ WE X ρ M1 e fun y M2 => ∃ s, y = .str s ∧ Φ (.bl (Txt.endswith z s)) M2) (hs : starEach [e] X.env = [(false, eval e X.env)] := by rfl) (hbase : attributeBase o "endswith" X.env (eval o X.env) = eval o X.env := by rfl) (hline : (apos.endLine == pos.line) = true := by rfl) : WE X ρ M (.Call (.Attribute o "endswith" apos) [e] [] pos) Φ :=
  we_m1 F.slot_str_endswith F.type_str_endswith mt_endswith (h.imp fun d M1 ⟨z, e1, h⟩ => ⟨z, e1, h.imp fun y M2 ⟨s, e2, h⟩ Z H Q u w r k => by subst e2; cases r; exact ⟨z, s, rfl, rfl, k.now w (.bl _) h⟩⟩) hs hbase hline
theorem we_partition (h : WE X ρ M o fun d M1 => ∃ z, d = .str z ∧ WE X ρ M1 e fun y M2 => ∃ s, y = .str s ∧ (s.length == 0) = false ∧ z.length ≤ sizeLine ∧ Φ (.tup [.str (Txt.partition z s).1, .str (Txt.partition z s).2.1, .str (Txt.partition z s).2.2]) M2) (hs : starEach [e] X.env = [(false, eval e X.env)] := by rfl) (hbase : attributeBase o "partition" X.env (eval o X.env) = eval o X.env := by rfl) (hline : (apos.endLine == pos.line) = true := by rfl) : WE X ρ M (.Call (.Attribute o "partition" apos) [e] [] pos) Φ :=
  we_m1 F.slot_str_partition F.type_str_partition mt_partition (h.imp fun d M1 ⟨z, e1, h⟩ => ⟨z, e1, h.imp fun y M2 ⟨s, e2, h1, h2, h⟩ Z H Q u w r k => by
    subst e2
    cases r
    exact ⟨z, s, rfl, rfl, h1, h2, fun q hq => k.new w hq (.tup (.inl upd_same) (w.fresh hq) (.cons (.str _) (.cons (.str _) (.cons (.str _) .nil)))) h⟩⟩) hs hbase hline
theorem we_join (h : WE X ρ M o fun d M1 => ∃ z, d = .str z ∧ WE X ρ M1 e fun y M2 => ∃ ys : List Str, (LstOf M2 y (ys.map D.str) ∨ y = .tup (ys.map D.str)) ∧ (ys.map (·.length)).sum + ys.length * z.length ≤ 16777216 ∧ Φ (.str (Txt.join z ys)) M2) (hs : starEach [e] X.env = [(false, eval e X.env)] := by rfl) (hbase : attributeBase o "join" X.env (eval o X.env) = eval o X.env := by rfl) (hline : (apos.endLine == pos.line) = true := by rfl) : WE X ρ M (.Call (.Attribute o "join" apos) [e] [] pos) Φ :=
  we_m1 F.slot_str_join F.type_str_join mt_join (h.imp fun d M1 ⟨z, e1, h⟩ => ⟨z, e1, h.imp fun y M2 ⟨ys, e2, h1, h⟩ Z H Q u w r k => by
    rcases e2 with e2 | rfl
    · obtain ⟨q, vs, rfl, hq, rs⟩ := r.asLst w e2
      rw [rs.strs] at hq
      exact ⟨z, q, ys, rfl, rfl, .inl hq, h1, k.now w (.str _) h⟩
    · obtain ⟨q, vs, rfl, hq, rs⟩ := r.asTup
      rw [rs.strs] at hq
      exact ⟨z, q, ys, rfl, rfl, .inr hq, h1, k.now w (.str _) h⟩⟩) hs hbase hline

/-! ### f-strings -/
/-- the parts' texts, one behind another -/
def WJ (X : Cx) (ρ : Rho) : List Expr → Mp → Str → (Str → Mp → Prop) → Prop
  | [], M, acc, Ω => Ω acc M
  | e :: es, M, acc, Ω => WE X ρ M e fun d M1 => ∃ y : Str, d = .str y ∧ (acc ++ y).length ≤ sizeLine ∧ WJ X ρ es M1 (acc ++ y) Ω
theorem pj_sem : ∀ es : List Expr, PJ X es (es.map (eSem X))
  | [] => .nil
  | e :: es => .cons pe_sem (pj_sem es)
theorem wj_run {Z : Zn} {σ : L2.St} : ∀ (es : List Expr) {M : Mp} {H : Hp} {acc : Str} {Ω : Str → Mp → Prop} {Q : Str → Hp → Prop}, WJ X ρ es M acc Ω → EnvR X.K M Z H σ ρ → Wd X.K M Z H → (∀ y H' M', Ext M Z H M' H' → Wd X.K M' Z H' → Ω y M' → Q y H') → tJs (es.map (eSem X)) acc σ H Q
  | [], M, H, acc, Ω, Q, h, en, w, k => k acc H M Ext.refl w h
  | e :: es, M, H, acc, Ω, Q, h, en, w, k => (show WE X ρ M e (fun d M1 => ∃ y : Str, d = .str y ∧ (acc ++ y).length ≤ sizeLine ∧ WJ X ρ es M1 (acc ++ y) Ω) from h).run σ H _ en w fun v d H1 M1 e1 w1 r1 hz => by
    obtain ⟨y, rfl, hl, hz⟩ := hz
    cases r1
    exact ⟨y, rfl, hl, wj_run es hz (en.mono e1) w1 fun y H' M' x w' z => k y H' M' (e1.trans x) w' z⟩
theorem we_fstr {v1 v2 : Expr} {rest : List Expr} (h : WJ X ρ (v1 :: v2 :: rest) M Str.empty fun y M1 => Φ (.str y) M1) : WE X ρ M (.JoinedStr (v1 :: v2 :: rest) pos) Φ := .mk fun σ H Q en w k =>
  eOf (pe_joined (pj_sem _)) (wj_run _ h en w fun y H' M' x w' z => (k.step x).now w' (.str y) z)
theorem we_fmt (h : WE X ρ M e fun d M1 => (∃ y : Str, d = .str y ∧ y.length ≤ sizeLine ∧ Φ (.str y) M1) ∨ ∃ i : Int, d = .int i ∧ i.natAbs.log2 < 1920 ∧ Φ (.str (toString i)) M1) : WE X ρ M (.FormattedValue e (-1) none pos) Φ := .mk fun σ H Q en w k =>
  eOf (pe_fmt pe_sem) (h.run σ H _ en w fun v d H1 M1 e1 w1 r1 hz => by
    rcases hz with ⟨y, rfl, hl, hz⟩ | ⟨i, rfl, hl, hz⟩
    · cases r1; exact .inl ⟨y, rfl, hl, (k.step e1).now w1 (.str y) hz⟩
    · cases r1; exact .inr ⟨i, rfl, hl, (k.step e1).now w1 (.str _) hz⟩)

/-! ### lists that change -/
theorem we_append (h : WE X ρ M o fun d M1 => ∃ q ds0, d = .ob q ∧ M1 q = some (.lst ds0) ∧ WE X ρ M1 e fun y M2 => ∃ ds, M2 q = some (.lst ds) ∧ ds.length < sizeLine ∧ Φ .non (mset M2 q (.lst (ds ++ [y]))))
    (hbase : attributeBase o "append" X.env (eval o X.env) = eval o X.env := by rfl)
    (hfew : ((backTo pos (starEach (e :: []) X.env)).all (fun x => !x.1) && (backToKw pos (keywordEach [] X.env)).all (fun x => x.1.isSome)
      && decide ((e :: []).length + ([] : List Keyword).length + (if ([] : List Keyword).isEmpty then 0 else 1) < 30)) = true := by rfl)
    (hline : (apos.endLine == pos.line) = true := by rfl) (hs : starEach (e :: []) X.env = (false, eval e X.env) :: starEach [] X.env := by rfl) (hplain : (backTo pos (starEach [] X.env)).any (·.1) = false := by rfl) : WE X ρ M (.Call (.Attribute o "append" apos) [e] [] pos) Φ := .mk fun σ H Q en w k =>
  eOf (pe_bm PySem.F.plainAttrs_list PySem.F.slot_list_append PySem.F.type_list_append mt_append pe_sem (pa_cons pe_sem pa_nil hs) hbase hfew hline hs hplain) (h.run σ H _ en w fun v d H1 M1 e1 w1 r1 hz => by
    obtain ⟨q, ds0, rfl, hM, hz⟩ := hz
    cases r1
    obtain ⟨vs0, h0, _⟩ := w1.1 q _ hM
    refine ⟨.inl ⟨rfl, _, .inl (.inl h0)⟩, hz.run σ H1 _ (en.mono e1) w1 fun u y H2 M2 e2 w2 r2 hy => ?_⟩
    obtain ⟨ds, hM2, hl, hy⟩ := hy
    obtain ⟨vs, hv, rs⟩ := w2.1 q _ hM2
    refine ⟨q, vs, u, rfl, rfl, hv, by rw [rs.length]; exact hl, ?_⟩
    have x3 : Ext M2 _ H2 (mset M2 q (.lst (ds ++ [y]))) (upd H2 q (.lst (vs ++ [u]))) := Ext.put w2 hM2
    exact k _ .non _ _ ((e1.trans e2).trans x3) (w2.put hM2 ⟨_, upd_same, (rs.append (.cons r2 .nil)).mono x3⟩) .non hy)
theorem we_extend (h : WE X ρ M o fun d M1 => ∃ q ds0, d = .ob q ∧ M1 q = some (.lst ds0) ∧ WE X ρ M1 e fun y M2 => ∃ ds ys, M2 q = some (.lst ds) ∧ y = .lst ys ∧ ds.length + ys.length ≤ sizeLine ∧ Φ .non (mset M2 q (.lst (ds ++ ys))))
    (hbase : attributeBase o "extend" X.env (eval o X.env) = eval o X.env := by rfl)
    (hfew : ((backTo pos (starEach (e :: []) X.env)).all (fun x => !x.1) && (backToKw pos (keywordEach [] X.env)).all (fun x => x.1.isSome)
      && decide ((e :: []).length + ([] : List Keyword).length + (if ([] : List Keyword).isEmpty then 0 else 1) < 30)) = true := by rfl)
    (hline : (apos.endLine == pos.line) = true := by rfl) (hs : starEach (e :: []) X.env = (false, eval e X.env) :: starEach [] X.env := by rfl) (hplain : (backTo pos (starEach [] X.env)).any (·.1) = false := by rfl) : WE X ρ M (.Call (.Attribute o "extend" apos) [e] [] pos) Φ := .mk fun σ H Q en w k =>
  eOf (pe_bm PySem.F.plainAttrs_list PySem.F.slot_list_extend PySem.F.type_list_extend mt_extend pe_sem (pa_cons pe_sem pa_nil hs) hbase hfew hline hs hplain) (h.run σ H _ en w fun v d H1 M1 e1 w1 r1 hz => by
    obtain ⟨q, ds0, rfl, hM, hz⟩ := hz
    cases r1
    obtain ⟨vs0, h0, _⟩ := w1.1 q _ hM
    refine ⟨.inl ⟨rfl, _, .inl (.inl h0)⟩, hz.run σ H1 _ (en.mono e1) w1 fun u y H2 M2 e2 w2 r2 hy => ?_⟩
    obtain ⟨ds, ys, hM2, rfl, hl, hy⟩ := hy
    obtain ⟨vs, hv, rs⟩ := w2.1 q _ hM2
    cases r2 with
    | @lst _ us _ h2 m2 r2 =>
      refine ⟨q, _, vs, us, rfl, rfl, hv, h2, by rw [rs.length, r2.length]; exact hl, ?_⟩
      have x3 : Ext M2 _ H2 (mset M2 q (.lst (ds ++ ys))) (upd H2 q (.lst (vs ++ us))) := Ext.put w2 hM2
      exact k _ .non _ _ ((e1.trans e2).trans x3) (w2.put hM2 ⟨_, upd_same, (rs.append r2).mono x3⟩) .non hy)
/-- xs[i] = e -/
theorem wg_sub {i : Expr} {d : D} {Ω : Rho → Mp → Prop} (h : WE X ρ M o fun x M1 => WE X ρ M1 i fun y M2 => ∃ q ds n j, x = .ob q ∧ y = .int n ∧ M2 q = some (.lst ds) ∧ ixN ds.length n = some j ∧ Ω ρ (mset M2 q (.lst (ds.set j d))))
    (ha : ∀ v, assign (.Subscript o i pos) X.env v = (do
      let ov ← holding [v] (eval o X.env)
      let iv ← holding [v, ov] (eval i X.env)
      standAt pos
      holding [v, ov, iv] (setItem ov iv v)
      release [v, ov, iv] []) := by intro _; rfl) : WG X (.Subscript o i pos) d ρ M Ω := .mk fun {Z} σ H v Q en w r k =>
  gOf (pg_sub pe_sem pe_sem set_list ha) (bind2 h en w fun v1 v2 x y H2 M2 e2 w2 r1 r2 hz => by
    obtain ⟨q, ds, n, j, rfl, rfl, hM, hj, hz⟩ := hz
    cases r1; cases r2
    obtain ⟨vs, hv, rs⟩ := w2.1 q _ hM
    refine ⟨q, vs, n, j, rfl, rfl, hv, by rw [rs.length]; exact hj, ?_⟩
    have x3 : Ext M2 _ H2 (mset M2 q (.lst (ds.set j d))) (upd H2 q (.lst (vs.set j v))) := Ext.put w2 hM
    exact k σ ρ _ _ (e2.trans x3) (w2.put hM ⟨_, upd_same, (Reps.set (r.mono e2) j rs).mono x3⟩) (en.mono (e2.trans x3)) hz)
/-- [*xs, ..] -/
theorem wa_star {sp : Pos} {ΦA : List D → Mp → Prop} (h : WE X ρ M e fun d M1 => ∃ xs, (LstOf M1 d xs ∨ d = .tup xs) ∧ WA X ρ M1 es fun ds M2 => ∀ ys, ys = xs ++ ds → ΦA ys M2) (hs : starEach (.Starred e sp :: es) X.env = (true, eval e X.env) :: starEach es X.env := by rfl) : WA X ρ M (.Starred e sp :: es) ΦA := .mk fun σ H Q en w k =>
  aOf (StX.pa_star pe_sem pa_sem hs) (h.run σ H _ en w fun v d H1 M1 e1 w1 r1 hz => by
    obtain ⟨xs, hl, hz⟩ := hz
    obtain ⟨q, vs, rfl, hq, rs⟩ : ∃ q vs, v = .ref q ∧ (SqT X.K H1 q vs ∨ SqL X.K H1 q vs) ∧ Reps X.K M1 _ H1 vs xs := by
      rcases hl with hl | rfl
      · obtain ⟨q, vs, e, hq, rs⟩ := r1.asLst w1 hl; exact ⟨q, vs, e, .inr hq, rs⟩
      · obtain ⟨q, vs, e, hq, rs⟩ := r1.asTup; exact ⟨q, vs, e, .inl hq, rs⟩
    exact ⟨q, vs, rfl, hq, hz.run σ H1 _ (en.mono e1) w1 fun us ds H2 M2 e2 w2 r2 hy => k (vs ++ us) (xs ++ ds) H2 M2 (e1.trans e2) w2 ((rs.mono e2).append r2) (hy _ rfl)⟩)
end
end DL
/-! DL8: walks over texts, enumerate of a text, zip; written dicts. -/
namespace DL
open PySem PySem.Spec PyProof.Rows L2
/-! ### enumerate(text) -/
/-- the signs of a text, each with its number in a new pair -/
def Ites (x : Str) : It := ⟨fun i _ => i < x.cps.size, fun i H v H' => ∃ T c, v = .ref T ∧ H T = none ∧ H' = upd H T (.tup [.int (i : Nat), .str ⟨#[c]⟩]) ∧ x.cps[i]? = some c, fun i _ => i = x.cps.size⟩
theorem draws_txt {prog : Program} {w : World} {A : Around} (hh : A.handled = none) (it : Addr) (x : Str) (t : Tok) :
    Draws prog w A it [it] x.cps.size (fun i v => ∃ c u, x.cps[i]? = some c ∧ v = .str ⟨#[c]⟩ u) (fun i h => h.IsStrIter it (strIterType x) x t i) := by
  unfold strIterType
  cases x.cps.all (· < 128)
  · exact Draws.strWide hh it x t
  · exact Draws.strAscii hh it x t
theorem turn_enumS {P : Program} {w : World} {K : PySem.W.Frag} {elts : List Expr} {kk : Nat} {tpos : Pos} (x : Str) (t : Tok) (e it : Addr) :
    Turn P w K (.Tuple elts kk tpos) (Ites x) [e, it] e (fun i h => (∃ old, IsEnum h e it i old) ∧ h.IsStrIter it (strIterType x) x t i ∧ e ≠ it) where
  mem := by simp
  obj := fun i h st b hb => by
    obtain ⟨⟨old, he⟩, ⟨o, e1, c, d⟩, hne⟩ := st
    have e' : b = e ∨ b = it := by simpa using hb
    rcases e' with z | z
    · rw [z]; exact ⟨_, he, fun v z => nomatch z⟩
    · rw [z]; exact ⟨o, e1, fun v z => by rw [d] at z; cases z⟩
  keep := fun i h h' st k => by
    obtain ⟨⟨old, he⟩, ⟨o, e1, c, d⟩, hne⟩ := st
    exact ⟨⟨old, k e (by simp) _ he⟩, ⟨o, k it (by simp) _ e1, c, d⟩, hne⟩
  item := by
    intro X hP hw hK hc i pins s σ H E I hf st hg
    subst hP hw hK
    obtain ⟨⟨old, he⟩, hit, hne⟩ := st
    have hel : e < s.heap.objs.size := Heap.lt_size he
    have hil : it < s.heap.objs.size := by obtain ⟨_, q, _⟩ := hit; exact Heap.lt_size q
    refine wpAny_pyNext_enum_itemD (draws_txt (A := X.A.in1) (I.ok.hd hc) it x t) he hit hg hne (by simpa using hne) fun u h' tk hP ho hit' hT hsz hk => ?_
    obtain ⟨c, tk2, hcx, rfl⟩ := hP
    refine ⟨_, rfl, wpAny_letOwnedTupleGo_enum (s := { s with heap := h', toks := tk + 1 }) ho fun h'' he' sb => ?_⟩
    have hT2 : h''.get? s.heap.objs.size = some { cls := .type "tuple", data := .seq #[.int i tk, .str ⟨#[c]⟩ tk2] } := (sb.2 _ (Nat.ne_of_gt hel)).trans hT
    have new : ObjOk X.prog X.w (upd H s.heap.objs.size (.tup [.int (i : Nat), .str ⟨#[c]⟩])) h'' s.heap.objs.size (.tup [.int (i : Nat), .str ⟨#[c]⟩]) :=
      ⟨by show 2 ≤ sizeLine; decide, [.int i tk, .str ⟨#[c]⟩ tk2], .cons ⟨_, rfl⟩ (.cons ⟨_, rfl⟩ .nil), ⟨_, hT2, rfl, _, rfl⟩⟩
    have I1 : Inv X pins σ (upd H s.heap.objs.size (.tup [.int (i : Nat), .str ⟨#[c]⟩])) { s with heap := h'', toks := tk + 1 } :=
      I.turnedNew (ch := [e, it]) (fun b ob hb q => (sb.2 b (fun z => hb (by simp [z]))).trans (hk b ob (fun z => hb (by simp [z])) (fun z => hb (by simp [z])) q)) hf (Nat.le_refl _) new
    refine ⟨.ref s.heap.objs.size, _, I1, rfl, ⟨_, c, rfl, I.hok.fresh (Nat.le_refl _), rfl, hcx⟩, ⟨⟨.str ⟨#[c]⟩ tk2, ?_⟩, ?_, hne⟩, fun b hb => ?_⟩
    · have e1 : ((i + 1 : Nat) : Int) = (i : Int) + 1 := by omega
      rw [e1]; exact he'
    · obtain ⟨o, q1, q2⟩ := hit'
      exact ⟨o, (sb.2 it (Ne.symm hne)).trans q1, q2⟩
    · have hb' : b < s.heap.objs.size := by
        have e' : b = e ∨ b = it := by simpa using hb
        rcases e' with z | z
        · rw [z]; exact hel
        · rw [z]; exact hil
      rw [upd_ne (Nat.ne_of_lt hb')]
      exact (hf b hb).1
  done := by
    intro X hP hw hK hc i pins s σ H E I hf st hg
    subst hP hw hK
    obtain ⟨⟨old, he⟩, hit, hne⟩ := st
    obtain ⟨f0, f1, f2, f3, f4, f5⟩ := hf it (by simp)
    have hi : i = x.cps.size := hg
    subst hi
    exact wpAny_pyNext_enum_endD (draws_txt (A := X.A.in1) (I.ok.hd hc) it x t) he hit fun h' eb => ⟨rfl, I.turned (t' := s.toks) (fun b o hb q => eb b o hb q) f0 f1 f3 f4 f5⟩
  self := fun A i s Q E st h => let ⟨⟨_, he⟩, _⟩ := st; wpAny_pyIter_enum he h
def iEnumS (ta : TA) : TI := fun σ H R => ta σ H fun vs H1 => ∃ x, vs = [.str x] ∧ R (Ites x) H1
theorem pi_enumS {X : Cx} {e : Expr} {ta : TA} {p pos tpos : Pos} {elts : List Expr} {kk : Nat} (hg : Gl X "enumerate") (hm : X.mg "enumerate" = none) (ha : PA X [e] ta) (hs : starEach [e] X.env = [(false, eval e X.env)] := by rfl) :
    PI X (.Tuple elts kk tpos) (.Call (.Name "enumerate" p) [e] [] pos) (iEnumS ta) := by
  refine ⟨fun pins s σ H R I h => ?_⟩
  refine Call_ (ld_blt I hg hm boot_enumerate (PyProof.Rows.callWith_type1 (thn (ha.run pos pins s σ H _ I h) fun us s1 ⟨vs, H1, I1, r1, q1⟩ => ?_) hs rfl))
  obtain ⟨x, ex, q⟩ := q1
  subst ex
  cases r1 with
  | cons r rr =>
    cases rr
    obtain ⟨t, rfl⟩ := r
    refine call_enumerate_str fun h' he hit hsz hk => wpAny_pyIter_enum he ?_
    have I2 : Inv X pins σ H1 { s1 with heap := h' } := I1.kept (t' := s1.toks) hk
    refine ⟨s1.heap.objs.size + 1, [s1.heap.objs.size + 1, s1.heap.objs.size], _, _, H1, rfl, I2, turn_enumS x t (s1.heap.objs.size + 1) s1.heap.objs.size, ⟨⟨.none, he⟩, hit, Nat.succ_ne_self _⟩, fun b hb => ?_, q⟩
    have e' : b = s1.heap.objs.size + 1 ∨ b = s1.heap.objs.size := by simpa using hb
    have hle : s1.heap.objs.size ≤ b := by
      rcases e' with z | z
      · rw [z]; exact Nat.le_add_right _ _
      · rw [z]; exact Nat.le_refl _
    exact I1.fpOk hle (I1.hok.fresh hle)

section
variable {X : Cx} {ρ : Rho} {M : Mp} {tg a b e : Expr} {pos p : Pos} {Φ : List D → Mp → Prop}
/-- the signs of a text -/
def signs (x : Str) : List D := x.cps.toList.map fun c => .str ⟨#[c]⟩
/-- .. each with its number -/
def enumS (x : Str) : List D := (List.range x.cps.size).map fun (i : Nat) => .tup [.int (i : Nat), .str ⟨#[x.cps.getD i 0]⟩]
theorem sq_str {K : PySem.W.Frag} {M1 : Mp} {Z1 : Zn} {H1 : Hp} (x : Str) : Sq K M1 Z1 H1 (Its x) (signs x) := fun i M Z H e w => by
  refine ⟨fun hi => ?_, fun d hd => ?_⟩
  · show x.cps.size ≤ i
    rw [hi]; simp [signs]
  · unfold signs at hd
    rw [List.getElem?_map] at hd
    obtain ⟨c, hc, rfl⟩ := Option.map_eq_some_iff.mp hd
    rw [Array.getElem?_toList] at hc
    refine ⟨(Array.getElem?_eq_some_iff.mp hc).1, fun v H' y => ?_⟩
    obtain ⟨rfl, c', hc', rfl⟩ := y
    rw [hc] at hc'; cases hc'
    exact ⟨Ext.refl, w, .str _⟩
theorem wi_str (h : WE X ρ M e fun d M1 => ∃ x, d = .str x ∧ Φ (signs x) M1) : WI X ρ M tg e Φ := .mk fun σ H R en w k =>
  iOf (pi_str pe_sem) (h.run σ H _ en w fun v d H1 M1 e1 w1 r1 hz => by
    obtain ⟨x, rfl, hz⟩ := hz
    cases r1
    exact ⟨x, rfl, k _ _ H1 M1 e1 w1 (sq_str x) hz⟩)
theorem sq_enumS {K : PySem.W.Frag} {M1 : Mp} {Z1 : Zn} {H1 : Hp} (x : Str) : Sq K M1 Z1 H1 (Ites x) (enumS x) := fun i M Z H e w => by
  refine ⟨fun hi => ?_, fun d hd => ?_⟩
  · show i = x.cps.size
    rw [hi]; simp [enumS]
  · unfold enumS at hd
    rw [List.getElem?_map] at hd
    obtain ⟨j, hj, rfl⟩ := Option.map_eq_some_iff.mp hd
    obtain ⟨hlt, rfl⟩ : i < x.cps.size ∧ i = j := by
      have q : i < (List.range x.cps.size).length := (List.getElem?_eq_some_iff.mp hj).1
      rw [List.length_range] at q
      rw [List.getElem?_range q] at hj
      exact ⟨q, Option.some.inj hj⟩
    refine ⟨hlt, fun v H' y => ?_⟩
    obtain ⟨T, c, rfl, hT, rfl, hc⟩ := y
    have ec : x.cps.getD i 0 = c := by
      rw [Array.getD_eq_getD_getElem?, hc]; rfl
    rw [ec]
    exact ⟨Ext.new w hT, w.new hT, .tup (.inl upd_same) (w.fresh hT) (.cons (.int _) (.cons (.str _) .nil))⟩
theorem wi_enumS {elts : List Expr} {kk : Nat} {tpos : Pos} (hm : X.mg "enumerate" = none) (h : WE X ρ M e fun d M1 => ∃ x, d = .str x ∧ Φ (enumS x) M1) (hg : Gl X "enumerate" := by rfl) (hs : starEach [e] X.env = [(false, eval e X.env)] := by rfl) : WI X ρ M (.Tuple elts kk tpos) (.Call (.Name "enumerate" p) [e] [] pos) Φ := .mk fun σ H R en w k =>
  iOf (pi_enumS hg hm (pa_cons pe_sem pa_nil hs) hs) (h.run σ H _ en w fun v d H1 M1 e1 w1 r1 hz => by
    obtain ⟨x, rfl, hz⟩ := hz
    cases r1
    exact ⟨x, rfl, k _ _ H1 M1 e1 w1 (sq_enumS x) hz⟩)
/-- zip of two tuples -/
def zipD (xs ys : List D) : List D := (xs.zip ys).map fun q => .tup [q.1, q.2]
theorem zipD_get {xs ys : List D} {i : Nat} {d : D} (h : (zipD xs ys)[i]? = some d) : ∃ x y, xs[i]? = some x ∧ ys[i]? = some y ∧ d = .tup [x, y] := by
  unfold zipD at h
  rw [List.getElem?_map] at h
  obtain ⟨⟨x, y⟩, hq, rfl⟩ := Option.map_eq_some_iff.mp h
  rw [List.getElem?_zip_eq_some] at hq
  exact ⟨x, y, hq.1, hq.2, rfl⟩
theorem wi_zipT {elts : List Expr} {kk : Nat} {tpos : Pos} (hm : X.mg "zip" = none) (h : WE X ρ M a fun x M1 => WE X ρ M1 b fun y M2 => ∃ xs ys, x = .tup xs ∧ y = .tup ys ∧ Φ (zipD xs ys) M2) (hg : Gl X "zip" := by rfl)
    (ha : starEach [a, b] X.env = (false, eval a X.env) :: starEach [b] X.env := by rfl) (hb : starEach [b] X.env = (false, eval b X.env) :: starEach [] X.env := by rfl) (hpl : (backTo pos (starEach [b] X.env)).any (·.1) = false := by rfl) : WI X ρ M (.Tuple elts kk tpos) (.Call (.Name "zip" p) [a, b] [] pos) Φ := .mk fun σ H R en w k =>
  iOf (RZ.pi_zipA hg hm (pa_cons pe_sem (pa_cons pe_sem pa_nil hb) ha) ha hpl) (bind2 h en w fun v u x y H2 M2 e2 w2 r1 r2 hz => by
    obtain ⟨xs, ys, rfl, rfl, hz⟩ := hz
    obtain ⟨p1, vs, rfl, hq1, rs1⟩ := r1.tupKeep
    obtain ⟨p2, us, rfl, hq2, rs2⟩ := r2.tupKeep
    refine ⟨p1, p2, vs, us, rfl, .inr ⟨hq1 _ _ _ ExI.refl, hq2 _ _ _ ExI.refl, k _ _ H2 M2 e2 w2 ?_ hz⟩⟩
    intro i M Z H e w
    refine ⟨fun hi => ⟨vs, us, hq1 _ _ _ e, hq2 _ _ _ e, ?_⟩, fun d hd => ?_⟩
    · rw [rs1.length, rs2.length]
      have : (zipD xs ys).length = min xs.length ys.length := by simp [zipD]
      omega
    · obtain ⟨x, y, hx, hy, rfl⟩ := zipD_get hd
      obtain ⟨v, hv, rv⟩ := rs1.get hx
      obtain ⟨u, hu, ru⟩ := rs2.get hy
      refine ⟨⟨vs, us, v, u, hq1 _ _ _ e, hq2 _ _ _ e, hv, hu⟩, fun z H' yl => ?_⟩
      obtain ⟨T, v', u', rfl, hT, rfl, h1, h2⟩ := yl
      have z1 := h1 vs (hq1 _ _ _ e)
      have z2 := h2 us (hq2 _ _ _ e)
      rw [hv] at z1; cases z1
      rw [hu] at z2; cases z2
      have x3 : Ext M Z H M (upd H T (.tup [v, u])) := Ext.new w hT
      exact ⟨x3, w.new hT, .tup (.inl upd_same) (w.fresh hT) (.cons ((rv.monoI e).mono x3) (.cons ((ru.monoI e).mono x3) .nil))⟩)
end

/-! ### written dicts with text keys -/
/-- at a a dict of the top: these texts with these values, in this order -/
def WrD (K : PySem.W.Frag) (w : World) (a : Addr) (kvs : List (Str × V)) : Prop := ∃ es n, K.lookup a = some ⟨.type "dict", none, .dict es n, #[]⟩ ∧ (a == sysModules) = false ∧ PySem.W.KeysLit w.params es.toList ∧
  Paired (fun (p : Str × V) (e : DictEntry) => (∃ t, e.key = .str p.1 t) ∧ RelV p.2 e.val) kvs es.toList ∧ (kvs.map (·.1)).Nodup
/-- the pairs as values stand -/
def rawOf (es : List DictEntry) (kvs : List (Str × V)) : List (Str × Value) := (kvs.zip es).map fun q => (q.1.1, q.2.val)
theorem pairs_raw {prog : Program} {w : World} : ∀ {kvs : List (Str × V)} {es : List DictEntry}, Paired (fun (p : Str × V) (e : DictEntry) => (∃ t, e.key = .str p.1 t) ∧ RelV p.2 e.val) kvs es →
    Pairs (strKind prog w) es (rawOf es kvs) ∧ (rawOf es kvs).map (·.1) = kvs.map (·.1) ∧ (rawOf es kvs).length = kvs.length ∧ ∀ (i : Nat) (k : Str) (v : V), kvs[i]? = some (k, v) → ∃ u, (rawOf es kvs)[i]? = some (k, u) ∧ RelV v u
  | _, _, .nil => ⟨.nil, rfl, rfl, fun i k v e => by simp at e⟩
  | (k, v) :: kvs, e :: es, .cons ⟨⟨t, hk⟩, hv⟩ r => by
    obtain ⟨h1, h2, h3, h4⟩ := pairs_raw (prog := prog) (w := w) r
    refine ⟨.cons (by rw [hk]; exact strKind_is prog w k t) rfl h1, ?_, ?_, fun i k' v' e' => ?_⟩
    · show k :: (rawOf es kvs).map (·.1) = k :: kvs.map (·.1)
      rw [h2]
    · show (rawOf es kvs).length + 1 = kvs.length + 1
      rw [h3]
    · cases i with
      | zero => simp at e'; obtain ⟨rfl, rfl⟩ := e'; exact ⟨_, rfl, hv⟩
      | succ i => exact h4 i k' v' (by simpa using e')
theorem wrD_at {K : PySem.W.Frag} {w : World} {a : Addr} {kvs : List (Str × V)} (h : WrD K w a kvs) (prog : Program) {hp : Heap} (X : K.In hp) : (a == sysModules) = false ∧ ∃ vs n, hp.DictAt (strKind prog w) a vs n ∧ vs.length = kvs.length ∧ vs.map (·.1) = kvs.map (·.1) ∧ ∀ (i : Nat) (k : Str) (v : V), kvs[i]? = some (k, v) → ∃ u, vs[i]? = some (k, u) ∧ RelV v u := by
  obtain ⟨es, n, hl, hs, hk, pr, nd⟩ := h
  obtain ⟨h1, h2, h3, h4⟩ := pairs_raw (prog := prog) (w := w) pr
  refine ⟨hs, _, n, ⟨_, es, X _ _ hl, ⟨rfl, rfl, rfl⟩, rfl, fun e he => ?_, h1, by rw [h2]; exact nd⟩, h3, h2, h4⟩
  obtain ⟨x, t, e1, e2⟩ := hk.all e (Array.mem_toList_iff.mpr he)
  exact ⟨x, by rw [e1]; exact strKind_is prog w x t, e2⟩
def Itw (kvs : List (Str × V)) : It := ⟨fun i _ => i < kvs.length, fun i H x H' => ∃ T k v, kvs[i]? = some (k, v) ∧ x = .ref T ∧ H T = none ∧ H' = upd H T (.tup [.str k, v]), fun i _ => kvs.length ≤ i⟩
theorem turn_gitems {P : Program} {w : World} {K : PySem.W.Frag} {a : Addr} {kvs : List (Str × V)} {elts : List Expr} {kk : Nat} {tpos : Pos} (hw : WrD K w a kvs) (it : Addr) (ep : Nat) (hep : ∀ es n, K.lookup a = some ⟨.type "dict", none, .dict es n, #[]⟩ → n = ep) :
    Turn P w K (.Tuple elts kk tpos) (Itw kvs) [it] it (fun i h => ∃ ok ov, IsItemIter h it a i kvs.length ep ok ov) where
  mem := by simp
  obj := fun i h st b hb => by
    have e : b = it := by simpa using hb
    subst e
    obtain ⟨ok, ov, e⟩ := st
    exact ⟨_, e, fun v z => nomatch z⟩
  keep := fun i h h' st k => let ⟨ok, ov, e⟩ := st; ⟨ok, ov, k it (by simp) _ e⟩
  item := by
    intro X hP hw' hK hc i pins s σ H E I hf st hg
    subst hP hw' hK
    obtain ⟨es0, n0, hl0, _⟩ := id hw
    have en := hep es0 n0 hl0
    obtain ⟨hs, vs, n, hm, hl, hmm, hv⟩ := wrD_at hw X.prog I.kIn
    have hn : n = ep := by
      obtain ⟨o, es, ho, hx, hd, _⟩ := hm
      rw [I.kIn _ _ hl0] at ho
      cases ho
      injection hd with _ h2
      rw [← h2]; exact en
    subst hn
    obtain ⟨⟨k, v⟩, hkv⟩ : ∃ p, kvs[i]? = some p := ⟨kvs[i], List.getElem?_eq_getElem hg⟩
    obtain ⟨u, hu, ru⟩ := hv i k v hkv
    obtain ⟨ok, ov, he⟩ := st
    rw [← hl] at he
    have hlt : it < s.heap.objs.size := Heap.lt_size he
    refine wpAny_pyNext_items_item he hm hu fun key h' hkey ho hT hz hk => ?_
    refine ⟨_, rfl, wpAny_letOwnedTupleGo_items (s := { s with heap := h' }) ho fun h'' he' sb => ?_⟩
    have hT2 : h''.get? s.heap.objs.size = some { cls := .type "tuple", data := .seq #[key, u] } := (sb.2 _ (Nat.ne_of_gt hlt)).trans hT
    obtain ⟨tk, rfl⟩ : ∃ t, key = .str k t := Value.isStrOf_shape hkey
    have new : ObjOk X.prog X.w (upd H s.heap.objs.size (.tup [.str k, v])) h'' s.heap.objs.size (.tup [.str k, v]) :=
      ⟨by show 2 ≤ sizeLine; decide, [.str k tk, u], .cons ⟨tk, rfl⟩ (.cons ru .nil), ⟨_, hT2, rfl, _, rfl⟩⟩
    have I1 : Inv X pins σ (upd H s.heap.objs.size (.tup [.str k, v])) { s with heap := h'' } :=
      I.turnedNew (t' := s.toks) (ch := [it]) (fun b ob hb e => (sb.2 b (by simpa using hb)).trans (hk b ob (by simpa using hb) e)) hf (Nat.le_refl _) new
    refine ⟨.ref s.heap.objs.size, _, I1, rfl, ⟨_, k, v, hkv, rfl, I.hok.fresh (Nat.le_refl _), rfl⟩, ⟨.str k tk, u, ?_⟩, fun b hb => ?_⟩
    · rw [← hl]; exact he'
    · have e : b = it := by simpa using hb
      rw [e, upd_ne (Nat.ne_of_lt hlt)]
      exact (hf it (by simp)).1
  done := by
    intro X hP hw' hK hc i pins s σ H E I hf st hg
    subst hP hw' hK
    obtain ⟨es0, n0, hl0, _⟩ := id hw
    have en := hep es0 n0 hl0
    obtain ⟨hs, vs, n, hm, hl, hmm, hv⟩ := wrD_at hw X.prog I.kIn
    have hn : n = ep := by
      obtain ⟨o, es, ho, hx, hd, _⟩ := hm
      rw [I.kIn _ _ hl0] at ho
      cases ho
      injection hd with _ h2
      rw [← h2]; exact en
    subst hn
    obtain ⟨f0, f1, f2, f3, f4, f5⟩ := hf it (by simp)
    obtain ⟨ok, ov, he⟩ := st
    rw [← hl] at he
    exact wpAny_pyNext_items_end (I.ok.hd hc) he hm (List.getElem?_eq_none (by rw [hl]; exact hg)) fun h' eb => ⟨rfl, I.turned (t' := s.toks) (fun b ob hb e => eb b ob hb e) f0 f1 f3 f4 f5⟩
  self := fun A i s Q E st h => let ⟨_, _, e⟩ := st; PySem.W.kcp_self e h
section
variable {X : Cx} {ρ : Rho} {M : Mp} {a : Addr} {e f : Expr} {pos p apos : Pos} {x : Str} {kvs : List (Str × V)}
def iGItems (kvs : List (Str × V)) : TI := fun σ H R => R (Itw kvs) H
theorem pi_gitems {elts : List Expr} {kk : Nat} {tpos : Pos} (hm : X.mg x = some (.ref a)) (hw : WrD X.K X.w a kvs) (hg : Gl X x) (hdb : (x == ("__debug__" : Str)) = false) (hbase : attributeBase (.Name x p) "items" X.env (eval (.Name x p) X.env) = eval (.Name x p) X.env) (hline : (apos.endLine == pos.line) = true) :
    PI X (.Tuple elts kk tpos) (.Call (.Attribute (.Name x p) "items" apos) [] [] pos) (iGItems kvs) := by
  refine ⟨fun pins s σ H R I h => ?_⟩
  refine wpAny_Call_method (T := "dict") (id := "dict.items") hbase rfl hline F.plainAttrs_dict F.slot_dict_items F.type_dict_items (ld_glob I hg hm ?_ hdb)
  obtain ⟨es0, n0, hl0, _⟩ := id hw
  obtain ⟨hs, vs, n, hd, hl, hmm, hv⟩ := wrD_at hw X.prog I.kIn
  refine ⟨hd.dictOf.typeIs, hd.dictOf.mapOf.noDict, ?_⟩
  have I2 : Inv X pins σ H { s with heap := s.heap.push { cls := .type "dict_items", data := .fields #[.ref a] } } := I.kept (t' := s.toks) fun b ob q => Heap.get?_push_of_some _ q
  have hn : n = n0 := by
    obtain ⟨o, es, ho, hx, hd', _⟩ := hd
    rw [I.kIn _ _ hl0] at ho
    cases ho
    injection hd' with _ h2
    exact h2.symm
  have fin : wpAny (model X.prog X.w) X.A (pyIter (.ref s.heap.objs.size)) (PIE X pins σ (.Tuple elts kk tpos) R) X.xe { s with heap := s.heap.push { cls := .type "dict_items", data := .fields #[.ref a] } } := by
    refine wpAny_pyIter_items (d := a) (knd := strKind X.prog X.w) ⟨_, Heap.get?_push_size _ rfl, rfl, rfl⟩ (hd.push _) (pi_one (tk := s.toks) I2 _ (turn_gitems hw _ n fun es m hm' => by rw [hl0] at hm'; cases hm'; exact hn.symm) ⟨.none, .none, ?_⟩ h)
    rw [← hl]
    exact Heap.get?_push_size _ rfl
  show wpAny _ _ (callWith pos (.builtin "dict.items") [.ref a] [] []) _ X.xe s
  exact method_meetsIn F.slot_dict_items F.entry_dict_items rfl (PySem.evalArgs_none ⟨rfl, hd.dictOf.typeIs, F.args_dict_items_1 _, _, meets_dict_items (strKind X.prog X.w) a hs, ⟨vs, hd.dictOf⟩, fin⟩)
/-- the data of a written dict's pairs -/
def gitems (ds : List (Str × D)) : List D := ds.map fun q => .tup [.str q.1, q.2]
theorem RepF.get {K : PySem.W.Frag} {M : Mp} {Z : Zn} {H : Hp} : ∀ {vs : List (Str × V)} {ds : List (Str × D)} {i : Nat} {k : Str} {d : D}, RepF K M Z H vs ds → ds[i]? = some (k, d) → ∃ v, vs[i]? = some (k, v) ∧ Rep K M Z H v d
  | _, _, _, _, _, .nil, e => by simp at e
  | _, _, 0, _, _, .cons r _, e => by simp at e; obtain ⟨rfl, rfl⟩ := e; exact ⟨_, rfl, r⟩
  | _, _, i + 1, k, d, .cons _ t, e => by
    obtain ⟨u, h1, h2⟩ := RepF.get (i := i) (d := d) t (by simpa using e)
    exact ⟨u, by simpa using h1, h2⟩
theorem wi_gitems {elts : List Expr} {kk : Nat} {tpos : Pos} {ds : List (Str × D)} {Φ : List D → Mp → Prop} (hm : X.mg x = some (.ref a)) (hw : WrD X.K X.w a kvs) (hr : ∀ M Z H, RepF X.K M Z H kvs ds) (h : Φ (gitems ds) M) (hg : Gl X x := by rfl) (hdb : (x == ("__debug__" : Str)) = false := by decide)
    (hbase : attributeBase (.Name x p) "items" X.env (eval (.Name x p) X.env) = eval (.Name x p) X.env := by rfl) (hline : (apos.endLine == pos.line) = true := by rfl) : WI X ρ M (.Tuple elts kk tpos) (.Call (.Attribute (.Name x p) "items" apos) [] [] pos) Φ := .mk fun σ H R en w k =>
  iOf (pi_gitems hm hw hg hdb hbase hline) (k _ _ H M Ext.refl w (fun i M' Z' H' e w' => by
    have rf := hr M' Z' H'
    refine ⟨fun hi => ?_, fun d hd => ?_⟩
    · show kvs.length ≤ i
      rw [hi, rf.length]; simp [gitems]
    · unfold gitems at hd
      rw [List.getElem?_map] at hd
      obtain ⟨⟨k, y⟩, hq, rfl⟩ := Option.map_eq_some_iff.mp hd
      obtain ⟨v, hv, rv⟩ := rf.get hq
      refine ⟨(List.getElem?_eq_some_iff.mp hv).1, fun z H2 yl => ?_⟩
      obtain ⟨T, k', v', hkv, rfl, hT, rfl⟩ := yl
      rw [hv] at hkv; cases hkv
      have x3 : Ext M' Z' H' M' (upd H' T (.tup [.str k, v])) := Ext.new w' hT
      exact ⟨x3, w'.new hT, .tup (.inl upd_same) (w'.fresh hT) (.cons (.str _) (.cons (rv.mono x3) .nil))⟩) h)
/-- a written dict's value by a key -/
theorem raw_val (k : Str) : ∀ {kvs : List (Str × V)} {es : List DictEntry}, Paired (fun (p : Str × V) (e : DictEntry) => (∃ t, e.key = .str p.1 t) ∧ RelV p.2 e.val) kvs es →
    (∀ v, kvs.lookup k = some v → ∃ u, valueAt (rawOf es kvs) k = some u ∧ RelV v u) ∧ (kvs.lookup k = none → valueAt (rawOf es kvs) k = none)
  | _, _, .nil => by
    refine ⟨fun v e => ?_, fun _ => rfl⟩
    cases e
  | (k0, v0) :: kvs, e :: es, .cons ⟨_, hv⟩ r => by
    have ih := raw_val k r
    have e1 : rawOf (e :: es) ((k0, v0) :: kvs) = (k0, e.val) :: rawOf es kvs := rfl
    rw [e1, List.lookup_cons]
    unfold valueAt
    rw [List.find?_cons]
    by_cases h : k = k0
    · subst h
      refine ⟨fun v q => ?_, fun q => ?_⟩
      · simp only [beq_self_eq_true] at q
        cases q
        exact ⟨e.val, by simp, hv⟩
      · simp at q
    · have h1 : (k == k0) = false := by simpa using h
      have h2 : decide (k0 = k) = false := decide_eq_false fun z => h z.symm
      rw [h1, h2]
      exact ih
theorem wrD_val {K : PySem.W.Frag} {w : World} {a : Addr} {kvs : List (Str × V)} (h : WrD K w a kvs) (prog : Program) {hp : Heap} (X : K.In hp) (k : Str) : (a == sysModules) = false ∧ ∃ vs : List (Str × Value), hp.DictOf (strKind prog w) a vs ∧ (∀ v, kvs.lookup k = some v → ∃ u, valueAt vs k = some u ∧ RelV v u) ∧ (kvs.lookup k = none → valueAt vs k = none) := by
  obtain ⟨es, n, hl, hs, hk, pr, nd⟩ := h
  obtain ⟨h1, h2, h3, h4⟩ := pairs_raw (prog := prog) (w := w) pr
  refine ⟨hs, rawOf es.toList kvs, ⟨_, es, n, X _ _ hl, ⟨rfl, rfl, rfl⟩, rfl, fun e he => ?_, h1, by rw [h2]; exact nd⟩, raw_val k pr⟩
  obtain ⟨x, t, e1, e2⟩ := hk.all e (Array.mem_toList_iff.mpr he)
  exact ⟨x, by rw [e1]; exact strKind_is prog w x t, e2⟩
/-- x[e], x a written dict -/
theorem we_gix {ds : List (Str × D)} {Φ : D → Mp → Prop} (hm : X.mg x = some (.ref a)) (hw : WrD X.K X.w a kvs) (hr : ∀ M Z H, RepF X.K M Z H kvs ds) (h : WE X ρ M e fun y M1 => ∃ k d, y = .str k ∧ ds.lookup k = some d ∧ Φ d M1) (hg : Gl X x := by rfl) (hdb : (x == ("__debug__" : Str)) = false := by decide) (hs : PlainIx e := by exact fun _ _ => rfl) : WE X ρ M (.Subscript (.Name x p) e pos) Φ := .mk fun σ H Q en w k => by
  have ho : IxR X (fun v u H Q => ∃ z y, v = V.ref a ∧ u = V.str z ∧ kvs.lookup z = some y ∧ Q y H) := by
    intro value slice pins s σ H v u v' u' Q I rv ru q hs'
    obtain ⟨z, y, rfl, rfl, hl, q⟩ := q
    cases rv
    obtain ⟨t, rfl⟩ := ru
    obtain ⟨_, vs, dd, hv, _⟩ := wrD_val hw X.prog I.kIn z
    obtain ⟨u0, hu, ru⟩ := hv y hl
    exact tail_any dd.typeIs slot_dict_getitem.lookup (wpAny_getItem_of (strKind_is X.prog X.w z t) dd.mapOf hu ⟨y, H, I.tok _, ru, q⟩) hs'
  refine eOf (pe_ix ho (pe_glob (v := .ref a) hg hm rfl hdb) pe_sem hs) (h.run σ H _ en w fun v y H1 M1 e1 w1 r1 hz => ?_)
  obtain ⟨z, d, rfl, hl, hz⟩ := hz
  cases r1
  obtain ⟨v, hv, rv⟩ := ((hr M1 _ H1).lookup z).2 d hl
  exact ⟨z, v, rfl, rfl, hv, (k.step e1).now w1 rv hz⟩
/-- x.get(e, f), x a written dict -/
theorem we_gget {ds : List (Str × D)} {Φ : D → Mp → Prop} (hm : X.mg x = some (.ref a)) (hw : WrD X.K X.w a kvs) (hr : ∀ M Z H, RepF X.K M Z H kvs ds) (h : WE X ρ M e fun y M1 => ∃ k, y = .str k ∧ WE X ρ M1 f fun z M2 => Φ ((ds.lookup k).getD z) M2) (hg : Gl X x := by rfl) (hdb : (x == ("__debug__" : Str)) = false := by decide)
    (m : M2 X (.Name x p) "get" apos e f pos := by exact ⟨rfl, rfl, rfl, rfl⟩) : WE X ρ M (.Call (.Attribute (.Name x p) "get" apos) [e, f] [] pos) Φ := .mk fun {Z} σ H Q en w k => by
  intro pins s I
  refine wpAny_Call_method m.base m.few m.line PySem.F.plainAttrs_dict PySem.F.slot_dict_get PySem.F.type_dict_get (ld_glob I hg hm ?_ hdb)
  obtain ⟨_, vs0, dd0, _⟩ := wrD_val hw X.prog I.kIn ""
  refine ⟨dd0.typeIs, dd0.mapOf.noDict, ?_⟩
  rw [m.trees]
  refine Calls.callWith_builtin rfl (Calls.evalArgs_plain (Calls.spliced_cons (thn (h.run σ H (fun v H1 => ∃ z, v = V.str z ∧ eSem X f σ H1 fun u H2 => ∀ v', (∃ y, kvs.lookup z = some y ∧ v' = y) ∨ (kvs.lookup z = none ∧ v' = u) → Q v' H2) en w (fun v y H1 M1 e1 w1 r1 hz => ?_) pins s I) fun iv s2 ⟨y, H2, I2, ry, q2⟩ => ?_)))
  · obtain ⟨z, rfl, hz⟩ := hz
    cases r1
    refine ⟨z, rfl, hz.run σ H1 _ (en.mono e1) w1 fun u d H2 M2 e2 w2 r2 hy v' hv' => ?_⟩
    have rf := (hr M2 Z H2).lookup z
    rcases hv' with ⟨y, hl, rfl⟩ | ⟨hl, rfl⟩
    · cases hd : ds.lookup z with
      | none => rw [rf.1 hd] at hl; cases hl
      | some d' =>
        obtain ⟨v2, hv2, rv2⟩ := rf.2 d' hd
        rw [hl] at hv2; cases hv2
        rw [hd] at hy
        exact (k.step (e1.trans e2)).now w2 rv2 hy
    · cases hd : ds.lookup z with
      | none => rw [hd] at hy; exact (k.step (e1.trans e2)).now w2 r2 hy
      | some d' =>
        obtain ⟨v2, hv2, rv2⟩ := rf.2 d' hd
        rw [hl] at hv2; cases hv2
  · obtain ⟨z, rfl, q2⟩ := q2
    obtain ⟨t, rfl⟩ := ry
    refine Calls.spliced_cons (thn (q2 pins s2 I2) fun fv s3 ⟨u, H3, I3, ru, q3⟩ => Calls.spliced_nil ?_)
    obtain ⟨hd, vs, dd, hv, hv0⟩ := wrD_val hw X.prog I3.kIn z
    refine call_meetsIn PySem.F.slot_dict_get dd.typeIs PySem.F.entry_dict_get (PySem.F.args_dict_get_3 _ _ _) (meets_dict_get_default (strKind X.prog X.w) a (strKind_is X.prog X.w z t) hd fv) ⟨_, dd.mapOf, ?_⟩
    cases hl : kvs.lookup z with
    | none =>
      have e0 := hv0 hl
      exact ⟨u, H3, I3.tok _, by rw [e0]; exact ru, q3 u (.inr ⟨hl, rfl⟩)⟩
    | some y =>
      obtain ⟨u0, hu, ru0⟩ := hv y hl
      exact ⟨y, H3, I3.tok _, by rw [hu]; exact ru0, q3 y (.inl ⟨y, hl, rfl⟩)⟩
end
end DL
/-! DL9: what else the plans need: set of nothing, sorted; displays of dicts; repr of truths; ~ by an own method; membership; parallel assignments; fields as targets. -/
namespace DL
open PySem PySem.Spec PyProof.Rows L2
section
variable {P : Program} {w : World} {A : Around} {E : Value → Shared → Prop} {s : Shared}
abbrev emptySet (w : World) : Obj := { cls := .type "set", dict := none, data := .set #[] 0 (.fresh 0 0 (!w.params.followText "set-order")) }
theorem newSet1 (a : Value) {Q1 : Value → Shared → Prop} (h : Q1 (.ref s.heap.objs.size) { s with heap := s.heap.push (emptySet w) }) : codeAny (model P w) A (.call (.builtin "set.__new__") ⟨[.type "set", a], []⟩) (wants Q1 E) s := by
  refine codeAny_of_tree (show wpAny _ A.in1 (do checkBuiltinCall "set.__new__" ⟨[.type "set", a], []⟩; again (.builtin "set.__new__" ⟨[.type "set", a], []⟩)) _ _ s from ?_)
  refine wpAny_bind (wpAny_of_eq (PySem.F.newCall_set_1 a) (wpAny_pure ⟨plainId_quiet F.plain_set_new _, codeAny_builtin F.entry_set_new ?_⟩))
  rw [Around.under_plainId F.plain_set_new _]; unfold Builtin.«set.__new__» Builtin.Frozenset.newClass
  have q0 := sub_set_self
  obtain ⟨hp, gg, dd, tt, oo⟩ := s
  dsimp only; wp_walk
  refine wpAny_askSetting (wpAny_pure ?_)
  dsimp only; simp only [newObj]
  exact wpAny_bind (wpAny_alloc (wpAny_pure (wpAny_pure h)))
set_option maxHeartbeats 3200000 in
theorem setOfNone {l : Addr} {Q : Value → Shared → Prop} (hh : A.handled = none) (hl : s.heap.IsList l #[])
    (h : ∀ (h' : Heap) (tk : Nat), SetR w h' s.heap.objs.size (fun _ => false) 0 → (∀ b o, b < s.heap.objs.size → s.heap.get? b = some o → h'.get? b = some o) → Q (.ref s.heap.objs.size) { s with heap := h', toks := tk }) :
    wpAny (model P w) A (call (.type "set") [.ref l]) Q E s := by
  obtain ⟨c0, t0, m0⟩ := F.called_set.mro
  have m1 := F.called_set.made
  have m2 := F.called_set.sub
  refine wpAny_call (codeAny_of_tree (show wpAny _ _ (callAny (.type "set") _) _ _ _ from ?_))
  refine wpAny_pure ⟨Code.quiet_builtin _ (by decide +kernel), codeAny_builtin F.entry_type_call ?_⟩
  rw [Around.under_plain (weight_type_call_type "set" [.ref l] []) rfl]
  have m3 := F.called_set.notType
  have m4 := F.called_set.canCreate
  have m5 := PySem.F.typeCall_set_1 (.ref l)
  repeat (any_goals (first | assumption | wp_step))
  refine codeAny_mono (newSet1 (.ref l) (E := E) (Q1 := fun obj s1 => obj = .ref s.heap.objs.size ∧ s1 = { s with heap := s.heap.push (emptySet w) }) ⟨rfl, rfl⟩) fun r s1 hr => ?_
  cases r with
  | error e => exact hr
  | ok fl =>
    cases fl with
    | ret obj =>
      obtain ⟨rfl, rfl⟩ := hr
      have hS : (s.heap.push (emptySet w)).get? s.heap.objs.size = some (emptySet w) := Heap.get?_push_size _ rfl
      have hT : Shared.TypeIs { s with heap := s.heap.push (emptySet w) } (.ref s.heap.objs.size) "set" := ⟨_, hS, rfl⟩
      have i1 := F.called_set.init.lookup
      have i2 := F.called_set.init.bind (.ref s.heap.objs.size)
      repeat (any_goals (first | assumption | wp_step))
      refine codeAny_mono (codeAny_call_builtin (R := wants (fun r s2 => r = .none ∧ ∃ h' tk, s2 = { s with heap := h', toks := tk } ∧ SetR w h' s.heap.objs.size (fun _ => false) 0 ∧
          (∀ b o, b < s.heap.objs.size → s.heap.get? b = some o → h'.get? b = some o)) E) F.called_set.init.plain F.entry_set_init (PySem.check_set_init_1 hT ?_)) fun r2 s2 hr2 => ?_
      · obtain ⟨ol, hol, hcl, nl, hdl⟩ := hl
        obtain ⟨ocls, odict, odata, oslots⟩ := ol
        simp only at hcl hdl
        subst hcl hdl
        have hol' : (s.heap.push (emptySet w)).get? l = some { cls := .type "list", dict := odict, data := .seq #[] nl, slots := oslots } := Heap.get?_push_of_some _ hol
        have j1 := PySem.F.sub_list_set
        have j2 := PySem.F.sub_list_frozenset
        have j3 : (Value.type "list" == Value.type "dict") = false := by decide
        have hl1 : (s.heap.push (emptySet w)).IsList l #[] := ⟨_, hol', rfl, nl, rfl⟩
        unfold Builtin.«set.__init__» noKeywords Builtin.Frozenset.updateFrom
        generalize hPI : pyIter = PI
        wp_walk
        subst hPI
        refine wpAny_pyIter_list hl1 (wpAny_bind (wpAny_runValue ?_))
        refine codeAny_builtin PyProof.Rows.F.entry_set_update_loop ?_
        rw [Around.under_plainId PyProof.Rows.F.plain_set_update_loop _]
        have hlS : l < s.heap.objs.size := Heap.lt_size hol
        refine wpAny_bind (m := pyNext _) (wpAny_pyNext_list_end (i := 0) (items := #[]) (by simp [hh]) ⟨_, Heap.get?_push_size _ rfl, rfl, rfl⟩ (hl1.push _) (by simp) fun h' he => ?_)
        refine wpAny_pure ?_
        show wpAny _ _ _ _ _ _
        refine wpAny_pure (show wpAny _ _ (ret Value.none) _ _ _ from ?_)
        refine wpAny_pure ⟨rfl, h', _, rfl, (setR_fresh w).at fun o q => ?_, fun b o hb q => ?_⟩
        · exact he _ _ (by rw [Heap.size_push]; exact Nat.ne_of_lt (Nat.lt_succ_self _)) (Heap.get?_push_of_some _ q)
        · exact he _ _ (by rw [Heap.size_push]; exact Nat.ne_of_lt (Nat.lt_succ_of_lt hb)) (Heap.get?_push_of_some _ (Heap.get?_push_of_some _ q))
      · cases r2 with
        | error e => exact hr2
        | ok fl2 =>
          cases fl2 with
          | ret r =>
            obtain ⟨rfl, h', tk, rfl, hS', hk'⟩ := hr2
            repeat (any_goals (first | assumption | wp_step))
            exact h _ _ hS' hk'
          | _ => exact hr2.elim
    | _ => exact hr.elim
end
end DL
/-! DL10: sorted(set(nothing)); displays of dicts; repr of truths; ~ by an own method; membership; parallel assignments; fields as targets; a search from a place. -/
namespace DL
open PySem PySem.Spec PyProof.Rows L2
section
variable {X : Cx} {ρ : Rho} {M : Mp} {Φ : D → Mp → Prop} {Θ : Bool → Mp → Prop} {a b e o : Expr} {es : List Expr} {pos p apos : Pos} {x : Str}

/-! ### sorted(set(e)), e an empty list -/
theorem cr_setNone (hc : X.calm = true) : CallR X (.type "set") (fun xs H Q => ∃ q, xs = [V.ref q] ∧ SqL X.K H q [] ∧ ∀ p, H p = none → Q (.ref p) (upd H p (SetO X.w p (fun _ => false) 0))) := by
  intro pins s σ H xs us Q I r h
  obtain ⟨q, rfl, hq, k⟩ := h
  rw [Vals.ref1 r]
  obtain ⟨its, rv, pl, hz⟩ := I.list hq
  cases rv
  refine setOfNone (I.ok.hd hc) pl.isList fun h' tk R kp => ?_
  exact ⟨.ref _, upd H s.heap.objs.size (SetO X.w s.heap.objs.size (fun _ => false) 0), I.laid (t' := tk) (fun b u e => kp b u (Heap.lt_size e) e) (Nat.le_refl _) (setO_new R), rfl, k _ (I.hok.fresh (Nat.le_refl _))⟩
theorem we_sortedNone (hm : X.mg "sorted" = none) (hm2 : X.mg "set" = none) (h : WE X ρ M e fun d M1 => LstOf M1 d [] ∧ Φ (.lst []) M1) (hc : X.calm = true := by rfl) (hg : Gl X "sorted" := by rfl) (hg2 : Gl X "set" := by rfl)
    (he : starEach [.Call (.Name "set" p) [e] [] apos] X.env = (false, eval (.Call (.Name "set" p) [e] [] apos) X.env) :: starEach [] X.env := by rfl) (hpl : (backTo pos (starEach [] X.env)).any (·.1) = false := by rfl)
    (he2 : starEach [e] X.env = (false, eval e X.env) :: starEach [] X.env := by rfl) (hpl2 : (backTo apos (starEach [] X.env)).any (·.1) = false := by rfl) {p2 : Pos} : WE X ρ M (.Call (.Name "sorted" p2) [.Call (.Name "set" p) [e] [] apos] [] pos) Φ := .mk fun σ H Q en w k => by
  have p1 := pe_callTy (cr_setNone hc) hg2 hm2 (by decide +kernel) (pa_sem (es := [e])) (by decide) (by decide) he2 hpl2 (p := p)
  refine eOf (pe_callB (cr_sortedSet hc) hg hm (by decide +kernel) (pa_cons p1 pa_nil he) (by decide) (by decide) he hpl) ?_
  refine (wa_cons (ΦA := fun ds M1 => ∃ d, ds = [d] ∧ LstOf M1 d [] ∧ Φ (.lst []) M1) (h.imp fun d M1 h => wa_nil ⟨d, rfl, h⟩) he2).run σ H _ en w fun vs ds H1 M1 e1 w1 r1 hz => ?_
  obtain ⟨d, rfl, hl, hz⟩ := hz
  obtain ⟨v, rfl, r⟩ := r1.one
  obtain ⟨q, vs, rfl, hq, rs⟩ := r.asLst w1 hl
  cases rs
  refine ⟨q, rfl, hq, fun t ht => ⟨t, fun _ => false, 0, rfl, upd_same, by decide, fun ns p2 h1 h2 h3 hp => ?_⟩⟩
  have e0 : ns = [] := List.length_eq_zero_iff.mp h3
  subst e0
  have x1 : Ext M1 _ H1 M1 (upd H1 t (SetO X.w t (fun _ => false) 0)) := Ext.new w1 ht
  have w2 := w1.new (o := SetO X.w t (fun _ => false) 0) ht
  exact (k.step (e1.trans x1)).new w2 hp (.lst upd_same (w2.fresh hp) .nil) hz

/-! ### str(text) -/
theorem we_strS (hm : X.mg "str" = none) (h : WE X ρ M e fun d M1 => ∃ z, d = .str z ∧ Φ (.str z) M1) (hg : Gl X "str" := by rfl)
    (he : starEach [e] X.env = (false, eval e X.env) :: starEach [] X.env := by rfl) (hpl : (backTo pos (starEach [] X.env)).any (·.1) = false := by rfl) : WE X ρ M (.Call (.Name "str" p) [e] [] pos) Φ :=
  we_callTy SkE.call_str_str hm (by decide +kernel) (wa_cons (h.imp fun d M1 h => wa_nil fun Z vs H Q w rr k => by
    obtain ⟨v, rfl, r⟩ := rr.one
    obtain ⟨z, rfl, h⟩ := h
    cases r
    exact ⟨z, rfl, k.now w (.str _) h⟩) he) hg (he := he) (hpl := hpl)

/-! ### repr of a truth -/
def boolText (c : Bool) : Str := if c then "True" else "False"
theorem cr_reprB : CallR X (.builtin "repr") (fun xs H Q => ∃ c, xs = [V.bl c] ∧ Q (.str (boolText c)) H) := by
  intro pins s σ H xs us Q I r h
  obtain ⟨c, rfl, q⟩ := h
  obtain ⟨u, rfl, ru⟩ := vals1 r
  cases ru
  exact PySem.P.repr_of_bool ⟨.str _, H, I.tok _, ⟨_, rfl⟩, q⟩
theorem we_reprB (hm : X.mg "repr" = none) (h : WE X ρ M e fun d M1 => ∃ c, d = .bl c ∧ Φ (.str (boolText c)) M1) (hg : Gl X "repr" := by rfl)
    (he : starEach [e] X.env = (false, eval e X.env) :: starEach [] X.env := by rfl) (hpl : (backTo pos (starEach [] X.env)).any (·.1) = false := by rfl) : WE X ρ M (.Call (.Name "repr" p) [e] [] pos) Φ :=
  we_callB cr_reprB hm (by decide +kernel) (wa_cons (h.imp fun d M1 h => wa_nil fun Z vs H Q w rr k => by
    obtain ⟨v, rfl, r⟩ := rr.one
    obtain ⟨z, rfl, h⟩ := h
    cases r
    exact ⟨z, rfl, k.now w (.str _) h⟩) he) hg (he := he) (hpl := hpl)
theorem boolText_inj {c d : Bool} : decide (boolText c = boolText d) = decide (c = d) := by
  cases c <;> cases d <;> decide

/-! ### {k: v, k2: v2}[e], texts -/
theorem we_disp2 {k1 k2 v1 v2 : Str} {j1 j2 j3 j4 : Nat} {q1 q2 q3 q4 dp : Pos} (hu : X.A.units + 1 < cLine) (hne : k1 ≠ k2) (h : WE X ρ M e fun d M1 => ∃ k v, d = .str k ∧ [(k1, v1), (k2, v2)].lookup k = some v ∧ Φ (.str v) M1) (hs : NoSl e := by exact fun _ _ => rfl) :
    WE X ρ M (.Subscript (.Dict [some (.Constant (.str k1) j1 q1), some (.Constant (.str k2) j2 q2)] [.Constant (.str v1) j3 q3, .Constant (.str v2) j4 q4] dp) e pos) Φ := .mk fun σ H Q en w k => by
  refine eOf (pe_dget hu (pe_disp (pps_cons pe_str pe_str (pps_cons pe_str pe_str pps_nil)) rfl rfl (by simp) (by simp)) pe_sem hs) ?_
  intro t ht
  refine ⟨upd_same, [(.inr k1, .str v1), (.inr k2, .str v2)], rfl, by simp, ?_⟩
  have x1 : Ext M _ H M (upd H t (.dK [])) := Ext.new w ht
  have e2 : upd (upd H t (.dK [])) t (.dK (mergeK [] [(.inr k1, .str v1), (.inr k2, .str v2)])) = upd H t (.dK [(.inr k1, .str v1), (.inr k2, .str v2)]) := by
    have : mergeK [] [((.inr k1 : Key), V.str v1), (.inr k2, .str v2)] = [(.inr k1, .str v1), (.inr k2, .str v2)] := by
      simp [mergeK, putK, hne]
    rw [this]
    funext b; unfold upd; split <;> rfl
  rw [e2]
  have x2 : Ext M _ H M (upd H t (.dK [(.inr k1, .str v1), (.inr k2, .str v2)])) := Ext.new w ht
  refine h.run σ _ _ (en.mono x2) (w.new ht) fun v d H1 M1 e1 w1 r1 hz => ?_
  obtain ⟨z, y, rfl, hl, hz⟩ := hz
  cases r1
  have hd := (e1.1 t _ upd_same (w.fresh ht)).1
  refine ⟨t, .str y, rfl, ?_, (k.step (x2.trans e1)).now w1 (.str _) hz⟩
  have g := DGet.k (k := .inr z) hd
  have ev : valV [((.inr k1 : Key), V.str v1), (.inr k2, .str v2)] (.inr z) = some (.str y) := by
    unfold valV
    rw [List.lookup_cons] at hl
    by_cases c1 : z = k1
    · subst c1
      simp at hl
      subst hl
      simp
    · have c2 : (z == k1) = false := by simpa using c1
      rw [c2] at hl
      have c3 : ¬ k1 = z := fun q => c1 q.symm
      by_cases c4 : z = k2
      · subst c4
        simp [List.lookup_cons] at hl
        subst hl
        simp [c3]
      · have c5 : (z == k2) = false := by simpa using c4
        simp [List.lookup_cons, c5] at hl
  rw [ev] at g
  exact g

/-! ### ~o by an own method -/
theorem we_inv {C : Addr} {k : Nat} {c : Con} (F : Mc X.prog X.w X.K X.mg X.base C "__invert__" [] k 1 c) (hr : Room k X.A) (h : WE X ρ M o fun d M1 => ∃ fs, InsOf M1 C d fs ∧ c [d] M1 Φ) : WE X ρ M (.UnaryOp .Invert o pos) Φ :=
  .mk fun {Z} σ H Q en w k => by
  obtain ⟨f, fd, ps, dvs, ds, F', hm, hbd, hd, hdd⟩ := F.ex
  have u : UnR X (unaryOp .Invert) (fun v H Q => ∃ q C' dx fs, v = V.ref q ∧ C' = C ∧ H q = some (.ins C' dx fs) ∧ spD X.K 1 c (v :: dvs) H Q E0) := by
    intro pins s σ H x v Q I rx hq
    obtain ⟨q, C', dx, fs, rfl, rfl, ha, hq⟩ := hq
    cases rx
    obtain ⟨mA, O, _⟩ := ins_get I.hok ha
    obtain ⟨od, J, _⟩ := O.look
    unfold unaryOp
    refine wpAny_holding (wpAny_bind (PySem.W.special_fn I.kIn J hm.at_ (beq_iff_eq.mp hm.fn) ?_))
    refine wpAny_mono (run_fn F' hr hbd hd pass0 I (vs := [.ref q]) (.cons rfl .nil) hq) (fun _ _ z => wpAny_pure z) fun _ _ z => z
  refine eOf (pe_un u pe_sem) (h.run σ H _ en w fun v d H1 M1 e1 w1 r1 hz => ?_)
  obtain ⟨fs, hi, hz⟩ := hz
  obtain ⟨a, dx, vs, rfl, ha, rf⟩ := r1.asIns w1 hi
  have r0 : Reps X.K M1 Z H1 dvs [] := hdd _ _ _
  cases r0
  exact ⟨a, C, dx, vs, rfl, rfl, ha, [d], M1, _, Φ, rfl, .cons r1 .nil, w1, hz, k.step e1⟩

/-! ### x in a tuple, a list of texts -/
theorem inV_strs (z : Str) : ∀ zs : List Str, inV (.str z) (zs.map V.str) = decide (z ∈ zs)
  | [] => rfl
  | y :: zs => by
    have ih := inV_strs z zs
    unfold inV at ih ⊢
    rw [List.map_cons, List.any_cons, ih]
    show (decide (y = z) || _) = _
    by_cases h : y = z
    · subst h; simp
    · have h' : ¬ z = y := fun q => h q.symm
      simp [h, h']
theorem flat_strs (zs : List Str) : (zs.map V.str).all flatV = true := by
  rw [List.all_map]; exact List.all_eq_true.mpr fun _ _ => rfl
theorem rd_inS {x y : D} (h : ∃ (z : Str) (zs : List Str), x = .str z ∧ (y = .tup (zs.map D.str) ∨ LstOf M y (zs.map D.str)) ∧ Φ (.bl (decide (z ∈ zs))) M) : RD X.K (rIn X.K false) x y M Φ := fun Z v u H Q w r1 r2 k => by
  obtain ⟨z, zs, rfl, hy, h⟩ := h
  cases r1
  rcases hy with rfl | hy
  · obtain ⟨q, vs, rfl, hq, rs⟩ := r2.asTup
    rw [rs.strs] at hq
    exact ⟨q, _, rfl, .inr hq, rfl, flat_strs zs, by rw [inV_strs]; exact k.now w (.bl _) h⟩
  · obtain ⟨q, vs, rfl, hq, rs⟩ := r2.asLst w hy
    rw [rs.strs] at hq
    exact ⟨q, _, rfl, .inl hq, rfl, flat_strs zs, by rw [inV_strs]; exact k.now w (.bl _) h⟩
theorem we_inS (h : WE X ρ M a fun x M1 => WE X ρ M1 b fun y M2 => ∃ (z : Str) (zs : List Str), x = .str z ∧ (y = .tup (zs.map D.str) ∨ LstOf M2 y (zs.map D.str)) ∧ Φ (.bl (decide (z ∈ zs))) M2) (hm : behindInMarks .In b = false := by rfl) : WE X ρ M (.Compare a [.In] [b] pos) Φ :=
  we_cmp op_in_seq hm (h.imp fun _ _ h => h.imp fun _ _ h => rd_inS h)
theorem wt_inS (h : WE X ρ M a fun x M1 => WE X ρ M1 b fun y M2 => ∃ (z : Str) (zs : List Str), x = .str z ∧ (y = .tup (zs.map D.str) ∨ LstOf M2 y (zs.map D.str)) ∧ Θ (decide (z ∈ zs)) M2) (hm : behindInMarks .In b = false := by rfl) : WT X ρ M (.Compare a [.In] [b] pos) Θ :=
  wt_cmp op_in_seq hm (h.imp fun _ _ h => h.imp fun _ _ ⟨z, zs, e1, e2, h⟩ => rd_inS ⟨z, zs, e1, e2, _, rfl, h⟩)
/-- a written tuple of texts -/
theorem we_txts {e1 e2 : Str} {j1 j2 k1 : Nat} {q1 q2 : Pos} (h : Φ (.tup ([e1, e2].map D.str)) M) (hs : starEach [.Constant (.str e1) j1 q1, .Constant (.str e2) j2 q2] X.env = (false, eval (.Constant (.str e1) j1 q1) X.env) :: starEach [.Constant (.str e2) j2 q2] X.env := by rfl) (hs2 : starEach [.Constant (.str e2) j2 q2] X.env = (false, eval (.Constant (.str e2) j2 q2) X.env) :: starEach [] X.env := by rfl) :
    WE X ρ M (.Tuple [.Constant (.str e1) j1 q1, .Constant (.str e2) j2 q2] k1 pos) Φ :=
  we_tup (wa_cons (we_str (wa_cons (we_str (wa_nil ⟨by show 2 ≤ sizeLine; decide, h⟩)) hs2)) hs)

/-! ### a ** b of great numbers -/
theorem we_powW (h : WE X ρ M a fun x M1 => WE X ρ M1 b fun y M2 => ∃ i j, x = .int i ∧ y = .int j ∧ (0 ≤ j ∧ (Builtin.Int.intBits i : Int) * j ≤ 2 ^ 27) ∧ Φ (.int (i ^ j.toNat)) M2) : WE X ρ M (.BinOp a .Pow b pos) Φ :=
  we_op (r := rI (fun i j => 0 ≤ j ∧ (Builtin.Int.intBits i : Int) * j ≤ 2 ^ 27) fun i j => .int (i ^ j.toNat)) (opI fun _ _ _ _ _ _ _ hc q => pow_int hc.1 hc.2 q) (h.imp fun _ _ h => h.imp fun _ _ h => rd_I h)

/-! ### text.startswith(sign, at) -/
theorem we_startsAt {f : Expr} (h : WE X ρ M o fun d M1 => ∃ z, d = .str z ∧ WE X ρ M1 e fun y M2 => WE X ρ M2 f fun u M3 => ∃ s i, y = .str s ∧ u = .int i ∧ Φ (.bl (Txt.startswith3 z s i)) M3)
    (hbase : attributeBase o "startswith" X.env (eval o X.env) = eval o X.env := by rfl) (hline : (apos.endLine == pos.line) = true := by rfl)
    (hfew : ((backTo pos (starEach [e, f] X.env)).all (fun x => !x.1) && (backToKw pos (keywordEach [] X.env)).all (fun x => x.1.isSome) && decide ([e, f].length + ([] : List Keyword).length + (if ([] : List Keyword).isEmpty then 0 else 1) < 30)) = true := by rfl)
    (hs : starEach [e, f] X.env = (false, eval e X.env) :: starEach [f] X.env := by rfl) (hs2 : starEach [f] X.env = (false, eval f X.env) :: starEach [] X.env := by rfl) (hpl : (backTo pos (starEach [f] X.env)).any (·.1) = false := by rfl) : WE X ρ M (.Call (.Attribute o "startswith" apos) [e, f] [] pos) Φ := .mk fun σ H Q en w k => by
  refine eOf (pe_bm F.plainAttrs_str F.slot_str_startswith F.type_str_startswith mt_startswith3 pe_sem (pa_sem (es := [e, f])) hbase hfew hline hs hpl) (h.run σ H _ en w fun v d H1 M1 e1 w1 r1 hz => ?_)
  obtain ⟨z, rfl, hz⟩ := hz
  cases r1
  refine ⟨rfl, (wa_cons (ΦA := fun ds M3 => ∃ s i, ds = [.str s, .int i] ∧ Φ (.bl (Txt.startswith3 z s i)) M3) (hz.imp fun y M2 hy => wa_cons (hy.imp fun u M3 hu => wa_nil ?_) hs2) hs).run σ H1 _ (en.mono e1) w1 fun vs ds H2 M2 e2 w2 r2 hx => ?_⟩
  · obtain ⟨s, i, rfl, rfl, hu⟩ := hu
    exact ⟨s, i, rfl, hu⟩
  · obtain ⟨s, i, rfl, hx⟩ := hx
    obtain ⟨v1, v2, rfl, r3, r4⟩ := r2.two
    cases r3; cases r4
    exact ⟨z, s, i, rfl, rfl, (k.step (e1.trans e2)).now w2 (.bl _) hx⟩

/-! ### a, b, c = x, y, z -/
variable {Ψ : DE}
theorem ws_par3 (i j l : Nat) {x y z : Str} {c : Expr} {px py pz pt pt2 : Pos} {kt k2 : Nat} (hN : X.N.Nodup) (h : WA X ρ M [a, b, c] fun ds M1 => ∃ d1 d2 d3, ds = [d1, d2, d3] ∧ Ψ.nx (((ρ.set i (some d1)).set j (some d2)).set l (some d3)) M1)
    (hi : X.N[i]? = some x := by rfl) (hj : X.N[j]? = some y := by rfl) (hl : X.N[l]? = some z := by rfl) (hij : i ≠ j := by decide) (hil : i ≠ l := by decide) (hjl : j ≠ l := by decide)
    (hx : X.env.scope.names.lookup x = some .local := by rfl) (hy : X.env.scope.names.lookup y = some .local := by rfl) (hz : X.env.scope.names.lookup z = some .local := by rfl)
    (hw : swappedStores [.Tuple [.Name x px, .Name y py, .Name z pz] kt pt] (.Tuple [a, b, c] k2 pt2) X.env = pure (some [x, y, z]) := by rfl) (hc : X.calm = true := by rfl)
    (hs : swapsWithSole [.Tuple [.Name x px, .Name y py, .Name z pz] kt pt] (.Tuple [a, b, c] k2 pt2) pos.line X.env = pure false := by rfl) : WS X ρ M (.Assign [.Tuple [.Name x px, .Name y py, .Name z pz] kt pt] (.Tuple [a, b, c] k2 pt2) pos) Ψ := .mk fun σ H E en w k =>
  sOf (ps_par3 hc hN hi hj hl hij hil hjl hx hy hz pa_sem hw hs) (h.run σ H _ en w fun vs ds H1 M1 e1 w1 r1 hq => by
    obtain ⟨d1, d2, d3, rfl, hq⟩ := hq
    obtain ⟨v1, v2, v3, rfl, q1, q2, q3⟩ := r1.three
    exact ⟨_, _, _, rfl, k.nx _ _ H1 M1 e1 w1 ((((en.mono e1).set q1 i).set q2 j).set q3 l) hq⟩)

/-! ### a field as a target -/
theorem wg_fld {f : Str} {C : Addr} {d : D} {Ω : Rho → Mp → Prop} (h : WE X ρ M o fun x M1 => ∃ q fs, x = .ob q ∧ M1 q = some (.ins C fs) ∧ Cls X.K C ∧ NoAttr X.K C f ∧ fs.length < 1000 ∧ Ω ρ (mset M1 q (.ins C (putD f d fs)))) : WG X (.Attribute o f pos) d ρ M Ω := .mk fun {Z} σ H v Q en w r k => by
  intro pins s u I ru
  refine PySem.W.kas_attr (thn (h.run σ H (fun x H2 => ∃ q C' dx fs, x = .ref q ∧ H2 q = some (.ins C' dx fs) ∧ Cls X.K C' ∧ NoAttr X.K C' f ∧ fs.length < 1000 ∧ Q σ (upd H2 q (.ins C' dx (putF f v fs)))) en w (fun x dx H1 M1 e1 w1 r1 hz => ?_) pins s I) fun ov s2 ⟨y, H2, I2, ry, q2⟩ => ?_)
  · obtain ⟨q, fs, rfl, hM, cl, na, hl, hz⟩ := hz
    cases r1
    obtain ⟨dx, vs, ha, rf⟩ := w1.1 q _ hM
    have x3 : Ext M1 _ H1 (mset M1 q (.ins C (putD f d fs))) (upd H1 q (.ins C dx (putF f v vs))) := Ext.put w1 hM
    exact ⟨q, C, dx, vs, rfl, ha, cl, na, by rw [rf.length]; exact hl, k σ ρ _ _ (e1.trans x3) (w1.put hM ⟨dx, _, upd_same, (rf.mono x3).put (r.mono (e1.trans x3))⟩) (en.mono (e1.trans x3)) hz⟩
  · obtain ⟨q, C', dx, fs, rfl, ha, cl, na, hl, hq⟩ := q2
    cases ry
    exact setattr_ok I2 ha cl na hl ru fun s3 I3 => ⟨σ, _, I3, hq⟩
end
end DL
/-! DL11: defs of the text, by their statements. -/
namespace DL
open PySem PySem.Spec PyProof.Rows L2
/-- the module's def x is the statement st; dvs: its defaults -/
structure Df (K : PySem.W.Frag) (mg : Str → Option Value) (x : Str) (st : Stmt) (dvs : List V) : Prop where
  ex : ∃ (f : Addr) (fd : FuncData), FunD K x x (defArgs st) (defBody st) (defScope st) dvs [] f fd ∧ mg x = some (.ref f)
section
variable {P : Program} {w : World} {K : PySem.W.Frag} {mg : Str → Option Value} {base : Heap} {x : Str} {st : Stmt} {N ps : List Str} {j k n : Nat} {c : Con} {dd : List D} {C : Addr} {m : Str}
theorem Fc.up (F : Fc P w K mg base x dd j n c) (h : j ≤ k) : Fc P w K mg base x dd k n c := by
  obtain ⟨f, fd, ps, dvs, ds, F, r⟩ := F.ex
  exact ⟨f, fd, ps, dvs, ds, F.mono h, r⟩
theorem Kc.up (F : Kc P w K mg base x C dd j n c) (h : j ≤ k) : Kc P w K mg base x C dd k n c := by
  obtain ⟨f, fd, ps, dvs, ds, G, r⟩ := F.ex
  exact ⟨F.at_, f, fd, ps, dvs, ds, G.mono h, r⟩
theorem Mc.up (F : Mc P w K mg base C m dd j n c) (h : j ≤ k) : Mc P w K mg base C m dd k n c := by
  obtain ⟨f, fd, ps, dvs, ds, G, r⟩ := F.ex
  exact ⟨F.cl, f, fd, ps, dvs, ds, G.mono h, r⟩
theorem Pc.up (F : Pc P w K mg base C m j c) (h : j ≤ k) : Pc P w K mg base C m k c := by
  obtain ⟨p, g, fd, ps, G, r⟩ := F.ex
  exact ⟨F.cl, p, g, fd, ps, G.mono h, r⟩
/-- a body keeps a contract -/
def BodyOk (P : Program) (w : World) (K : PySem.W.Frag) (mg : Str → Option Value) (base : Heap) (qual : Str) (st : Stmt) (N : List Str) (n k : Nat) (c : Con) : Prop :=
  ∀ (f : Addr) (cdv : Value) (A : Around) (outer : List Env) (s : Shared) (H : Hp) (E : XK), Room k (A.deeper (envOfC qual (defScope st) s.heap.objs.size f cdv)) → ∀ ds M Φ, ds.length = n → c ds M Φ →
      WSs (bx P w K mg base N qual (defScope st) f cdv A outer s H E) (start N ds) M (defBody st) { nx := fun _ M' => Φ .non M', rt := Lets Φ }
theorem Df.fc (D : Df K mg x st []) (S : FnScope N ps (defScope st))
    (hb : ∀ (kV doc pm : Value) (an : Option Addr) (cdv ct : Value) (us : List Value), us.length = ps.length → bindArgs (PySem.W.fnOf x x (defArgs st) (defBody st) (defScope st) .none kV doc pm an cdv ct) ⟨us, []⟩ = pure (ps.zip us))
    (h : BodyOk P w K mg base x st N ps.length k c) : Fc P w K mg base x [] (k + 1) ps.length c := by
  obtain ⟨f, fd, F, hm⟩ := D.ex
  exact ⟨f, fd, ps, [], [], fn_ok F S (h f), hm, F.kp, F.bindsN hb, .nil, fun _ _ _ => .nil⟩
/-- with defaults: n values are written, the defaults behind the first j fill up -/
theorem Df.fcD {dvs : List V} (D : Df K mg x st dvs) (S : FnScope N ps (defScope st)) (nn jj : Nat) (hd : dvs ≠ []) (hn : nn + (dvs.length - jj) = ps.length) (hr : ∀ M Z H, Reps K M Z H (dvs.drop jj) dd)
    (hb : ∀ (T : Addr) (kV doc pm : Value) (an : Option Addr) (cdv ct : Value) (us its : List Value), us.length = nn → its.length = dvs.length →
      ∃ k, bindArgs (PySem.W.fnOf x x (defArgs st) (defBody st) (defScope st) (.ref T) kV doc pm an cdv ct) ⟨us, []⟩ = seqItems? (.ref T) >>= k ∧ k (some its.toArray) = pure (ps.zip (us ++ its.drop jj)))
    (h : BodyOk P w K mg base x st N ps.length k c) : Fc P w K mg base x dd (k + 1) ps.length c := by
  obtain ⟨f, fd, F, hm⟩ := D.ex
  obtain ⟨ds, hv, hB⟩ := F.binds1 (ps := ps) nn jj hd hn hb
  exact ⟨f, fd, ps, dvs.drop jj, ds, fn_ok F S (h f), hm, F.kp, hB, hv, hr⟩
end
/-- the method m of the class C of the name x is the statement st -/
structure Md (K : PySem.W.Frag) (C : Addr) (m qual : Str) (st : Stmt) (f : Addr) : Prop where
  ex : ∃ fd : FuncData, FunD K m qual (defArgs st) (defBody st) (defScope st) [] [] f fd
section
variable {P : Program} {w : World} {K : PySem.W.Frag} {mg : Str → Option Value} {base : Heap} {x qual : Str} {st : Stmt} {N ps : List Str} {j k n : Nat} {c : Con} {dd : List D} {C : Addr} {m : Str} {f p : Addr}
theorem Md.mc (D : Md K C m qual st f) (cl : Cls K C) (me : Meth K C m f) (S : FnScope N ps (defScope st))
    (hb : ∀ (kV doc pm : Value) (an : Option Addr) (cdv ct : Value) (us : List Value), us.length = ps.length → bindArgs (PySem.W.fnOf m qual (defArgs st) (defBody st) (defScope st) .none kV doc pm an cdv ct) ⟨us, []⟩ = pure (ps.zip us))
    (h : BodyOk P w K mg base qual st N ps.length k c) : Mc P w K mg base C m [] (k + 1) ps.length c := by
  obtain ⟨fd, F⟩ := D.ex
  exact ⟨cl, f, fd, ps, [], [], fn_ok F S (h f), me, F.bindsN hb, .nil, fun _ _ _ => .nil⟩
theorem Md.pc (D : Md K C m qual st f) (cl : Cls K C) (me : PropOf K C m p f) (S : FnScope N ["self"] (defScope st))
    (hb : ∀ (kV doc pm : Value) (an : Option Addr) (cdv ct : Value) (us : List Value), us.length = 1 → bindArgs (PySem.W.fnOf m qual (defArgs st) (defBody st) (defScope st) .none kV doc pm an cdv ct) ⟨us, []⟩ = pure ((["self"] : List Str).zip us))
    (h : BodyOk P w K mg base qual st N 1 k c) : Pc P w K mg base C m (k + 1) c := by
  obtain ⟨fd, F⟩ := D.ex
  exact ⟨cl, p, f, fd, ["self"], fn_ok F S (h f), me, F.bindsN hb⟩
theorem Md.kc (D : Md K C "__init__" qual st f) (hm : mg x = some (.ref C)) (me : Mk K C f) (S : FnScope N ps (defScope st))
    (hb : ∀ (kV doc pm : Value) (an : Option Addr) (cdv ct : Value) (us : List Value), us.length = ps.length → bindArgs (PySem.W.fnOf "__init__" qual (defArgs st) (defBody st) (defScope st) .none kV doc pm an cdv ct) ⟨us, []⟩ = pure (ps.zip us))
    (h : BodyOk P w K mg base qual st N ps.length k c) : Kc P w K mg base x C [] (k + 1) ps.length c := by
  obtain ⟨fd, F⟩ := D.ex
  exact ⟨hm, f, fd, ps, [], [], fn_ok F S (h f), me, F.bindsN hb, .nil, fun _ _ _ => .nil⟩
end
end DL
/-! DL12: data that can be compared; comparing with nothing. -/
namespace DL
open PySem PySem.Spec PyProof.Rows L2
/-- d can be compared: it is p, k deep at most -/
structure CmpD (d : D) (p : PyData) (k : Nat) : Prop where
  eq : toPy d = some p
  lay : p.canLay0 = true
  dep : p.depth ≤ k
theorem CmpD.shaped {d : D} {p : PyData} {k : Nat} (h : CmpD d p k) (hk : k ≤ 64) : SeqAt.shaped p = true := by
  unfold SeqAt.shaped
  rw [h.lay, decide_eq_true (Nat.le_trans h.dep hk)]; rfl
theorem cmp_int (i : Int) : CmpD (.int i) (.int i) 0 := ⟨by simp [toPy], by simp [PyData.canLay0], by simp [PyData.depth]⟩
theorem cmp_bl (i : Bool) : CmpD (.bl i) (.bool i) 0 := ⟨by simp [toPy], by simp [PyData.canLay0], by simp [PyData.depth]⟩
theorem cmp_non : CmpD .non .none 0 := ⟨by simp [toPy], by simp [PyData.canLay0], by simp [PyData.depth]⟩
theorem cmp_str {x : Str} (h : ∀ c ∈ x.cps.toList, c < 0x110000) : CmpD (.str x) (.str x) 0 := ⟨by simp [toPy], by
  simp only [PyData.canLay0, PyData.strOk]
  rw [← Array.all_toList]
  exact List.all_eq_true.mpr fun c hc => decide_eq_true (h c hc), by simp [PyData.depth]⟩
/-- lists of such -/
structure CmpDs (ds : List D) (ps : List PyData) (k : Nat) : Prop where
  eq : toPys ds = some ps
  lay : PyData.canLayAll0 ps = true
  dep : PyData.depthAll ps ≤ k
theorem cmps_nil {k : Nat} : CmpDs [] [] k := ⟨by simp [toPys], by simp [PyData.canLayAll0], by simp [PyData.depthAll]⟩
theorem cmps_cons {d : D} {p : PyData} {ds : List D} {ps : List PyData} {k j : Nat} (h : CmpD d p j) (hj : j ≤ k) (t : CmpDs ds ps k) : CmpDs (d :: ds) (p :: ps) k := ⟨by
  simp only [toPys, h.eq, t.eq]; rfl, by simp only [PyData.canLayAll0, h.lay, t.lay]; rfl, by
  simp only [PyData.depthAll]; have := h.dep; have := t.dep; omega⟩
theorem cmps_map {α : Type} {f : α → D} {g : α → PyData} {k j : Nat} (hj : j ≤ k) : ∀ {xs : List α}, (∀ x ∈ xs, CmpD (f x) (g x) j) → CmpDs (xs.map f) (xs.map g) k
  | [], _ => cmps_nil
  | x :: xs, h => cmps_cons (h x List.mem_cons_self) hj (cmps_map hj fun y hy => h y (List.mem_cons_of_mem _ hy))
theorem cmp_lst {ds : List D} {ps : List PyData} {k : Nat} (h : CmpDs ds ps k) : CmpD (.lst ds) (.list ps) (k + 1) := ⟨by simp only [toPy, h.eq]; rfl, by simp only [PyData.canLay0, h.lay], by simp only [PyData.depth]; have := h.dep; omega⟩
theorem cmp_tup {ds : List D} {ps : List PyData} {k : Nat} (h : CmpDs ds ps k) : CmpD (.tup ds) (.tuple ps) (k + 1) := ⟨by simp only [toPy, h.eq]; rfl, by simp only [PyData.canLay0, h.lay], by simp only [PyData.depth]; have := h.dep; omega⟩
theorem CmpDs.length {k : Nat} : ∀ {ds : List D} {ps : List PyData}, CmpDs ds ps k → ps.length = ds.length
  | [], ps, h => by
    have := h.eq
    simp only [toPys, Option.some.injEq] at this
    rw [← this]; rfl
  | d :: ds, ps, h => by
    have := h.eq
    simp only [toPys] at this
    obtain ⟨p, e1, e2⟩ := Option.bind_eq_some_iff.mp this
    obtain ⟨qs, e3, rfl⟩ := Option.map_eq_some_iff.mp e2
    have l := h.lay
    have dd := h.dep
    simp only [PyData.canLayAll0, Bool.and_eq_true, PyData.depthAll] at l dd
    rw [List.length_cons, List.length_cons, CmpDs.length (k := k) ⟨e3, l.2, by omega⟩]
theorem eqv_nilL (ps : List PyData) : PyData.eqv (.list ps) (.list []) = ps.isEmpty := by
  cases ps <;> simp [PyData.eqv, PyData.eqvAll]
theorem eqv_nilT (ps : List PyData) : PyData.eqv (.tuple ps) (.tuple []) = ps.isEmpty := by
  cases ps <;> simp [PyData.eqv, PyData.eqvAll]
section
variable {X : Cx} {ρ : Rho} {M : Mp} {Φ : D → Mp → Prop} {Θ : Bool → Mp → Prop} {a b : Expr} {pos : Pos}
theorem shaped_nilL : SeqAt.shaped (.list []) = true := by decide +kernel
theorem shaped_nilT : SeqAt.shaped (.tuple []) = true := by decide +kernel
theorem isEmpty_len {α β : Type} {xs : List α} {ys : List β} (h : xs.length = ys.length) : xs.isEmpty = ys.isEmpty := by
  cases xs <;> cases ys <;> simp_all
/-- x != [] -/
theorem wt_neNil {lp : Pos} (hu : X.A.units + 64 < cLine) (h : WE X ρ M a fun x M1 => ∃ xs ps k, x = .lst xs ∧ CmpDs xs ps k ∧ k ≤ 60 ∧ Θ (!xs.isEmpty) M1) : WT X ρ M (.Compare a [.NotEq] [.List [] lp] pos) Θ :=
  wt_neD hu (h.imp fun x M1 ⟨xs, ps, k, e, c, hk, h⟩ => we_lst (wa_nil ⟨Nat.zero_le _, _, _, by rw [e]; exact (cmp_lst c).eq, by simp [toPy, toPys], (cmp_lst c).shaped (by omega), shaped_nilL, by rw [eqv_nilL, isEmpty_len c.length]; exact h⟩))
/-- x != () -/
theorem wt_neNilT {lp : Pos} {kk : Nat} (hu : X.A.units + 64 < cLine) (h : WE X ρ M a fun x M1 => ∃ xs ps k, x = .tup xs ∧ CmpDs xs ps k ∧ k ≤ 60 ∧ Θ (!xs.isEmpty) M1) : WT X ρ M (.Compare a [.NotEq] [.Tuple [] kk lp] pos) Θ :=
  wt_neD hu (h.imp fun x M1 ⟨xs, ps, k, e, c, hk, h⟩ => we_tup (wa_nil ⟨Nat.zero_le _, _, _, by rw [e]; exact (cmp_tup c).eq, by simp [toPy, toPys], (cmp_tup c).shaped (by omega), shaped_nilT, by rw [eqv_nilT, isEmpty_len c.length]; exact h⟩))
theorem wt_eqNilT {lp : Pos} {kk : Nat} (hu : X.A.units + 64 < cLine) (h : WE X ρ M a fun x M1 => ∃ xs ps k, x = .tup xs ∧ CmpDs xs ps k ∧ k ≤ 60 ∧ Θ (xs.isEmpty) M1) : WT X ρ M (.Compare a [.Eq] [.Tuple [] kk lp] pos) Θ :=
  wt_eqD hu (h.imp fun x M1 ⟨xs, ps, k, e, c, hk, h⟩ => we_tup (wa_nil ⟨Nat.zero_le _, _, _, by rw [e]; exact (cmp_tup c).eq, by simp [toPy, toPys], (cmp_tup c).shaped (by omega), shaped_nilT, by rw [eqv_nilT, isEmpty_len c.length]; exact h⟩))
end
end DL
/-! DL13: defs that may show data (repr): they are called where no other showing goes on. -/
namespace DL
open PySem PySem.Spec PyProof.Rows L2
/-- as FnOk, where nothing is being shown -/
structure FnG (P : Program) (w : World) (K : PySem.W.Frag) (mg : Str → Option Value) (base : Heap) (k : Nat) (f : Addr) (fd : FuncData) (ps : List Str) (sp : Sp) : Prop where
  len : ∀ vs H Q E, sp vs H Q E → vs.length = ps.length
  run : ∀ (A : Around) (outer : List Env) (s : Shared) (H : Hp) (args : Args) (us : List Value) (vs : List V) (Q : VK) (E : XK), A.guards = some [] → Room k A → Env0 P w K mg base A outer s H → BindsTo s fd args (ps.zip us) → Vals vs us → sp vs H Q E →
    codeAny (model P w) A (.call (.ref f) args) (CR CX0 outer P w H s Q E) s
section
variable {P : Program} {w : World} {K : PySem.W.Frag} {mg : Str → Option Value} {base : Heap} {x qual : Str} {st : Stmt} {kws : List (Str × V)} {f : Addr} {fd : FuncData} {N ps : List Str} {k n : Nat} {c : Con}
theorem FnOk.g {sp : Sp} (F : FnOk P w K mg base CX0 k f fd ps sp) : FnG P w K mg base k f fd ps sp := ⟨F.len, fun A outer s H args us vs Q E _ => F.run A outer s H args us vs Q E⟩
theorem FnG.mono {j : Nat} {sp : Sp} (F : FnG P w K mg base j f fd ps sp) (h : j ≤ k) : FnG P w K mg base k f fd ps sp := ⟨F.len, fun A outer s H args us vs Q E hg hr => F.run A outer s H args us vs Q E hg (hr.mono h)⟩
/-- a body keeps a contract where nothing is being shown -/
def BodyG (P : Program) (w : World) (K : PySem.W.Frag) (mg : Str → Option Value) (base : Heap) (qual : Str) (st : Stmt) (N : List Str) (n k : Nat) (c : Con) : Prop :=
  ∀ (f : Addr) (cdv : Value) (A : Around) (outer : List Env) (s : Shared) (H : Hp) (E : XK), (A.deeper (envOfC qual (defScope st) s.heap.objs.size f cdv)).guards = some [] → Room k (A.deeper (envOfC qual (defScope st) s.heap.objs.size f cdv)) → ∀ ds M Φ, ds.length = n → c ds M Φ →
      WSs (bx P w K mg base N qual (defScope st) f cdv A outer s H E) (start N ds) M (defBody st) { nx := fun _ M' => Φ .non M', rt := Lets Φ }
theorem fnG_ok {dvs : List V} (F : FunD K x qual (defArgs st) (defBody st) (defScope st) dvs kws f fd) (S : FnScope N ps (defScope st)) (h : BodyG P w K mg base qual st N ps.length k c) : FnG P w K mg base (k + 1) f fd ps (spD K ps.length c) := by
  obtain ⟨oc, od, dV, kV, doc, pm, an, cdv, ct, osl, rfl, lk, hcd, _, _⟩ := F.ex
  have ln : ∀ vs H Q E, spD K ps.length c vs H Q E → vs.length = ps.length := fun vs H Q E q => by
    obtain ⟨ds, M, Z, Φ, hl, r, _⟩ := q
    rw [r.length, hl]
  refine ⟨ln, fun A outer s H args us vs Q E hg hr e0 hb rv hsp => ?_⟩
  have hlen := ln _ _ _ _ hsp
  have hK : K.In s.heap := e0.mod.kin.keeps fun b o z => (e0.bs b o z).1
  have hlim : s.heap.NoLimit := e0.mod.nolimit.keeps fun b o z => (e0.bs b o z).1
  have kinds : ∀ y ∈ ps.zip us, (defScope st).names.lookup y.1 = some .local ∨ ((defScope st).names.lookup y.1 = some .cell ∧ ((cellsFrom (s.heap.objs.size + 1) (defScope st).names []).lookup y.1).isSome = true) := fun y hy => by
    rcases S.par y.1 (List.of_mem_zip hy).1 with z | z
    · exact .inl z
    · exact .inr ⟨z, PySem.W.cellsFrom_some _ _ _ (.inl z)⟩
  refine codeAny_call_function hr.depth (hK _ _ lk) rfl S.co S.gen rfl (PySem.W.codeRec_of hK hcd) (hb _ _ _ _ (wpAny_newFunctionEnv_cells S.kind kinds fun env he s1 xx => ?_))
  subst he
  refine ⟨hlim.keeps xx.toInCall.keep, codeAny_func ?_⟩
  obtain ⟨ds, M, Z, Φ, hl, r, wd, hc, kk⟩ := hsp
  have I : Inv (cxOf CX0 P w K mg base N qual (defScope st) f cdv A outer s H E) [] (L2.start N vs) H s1 := inv_start S hr.hd e0 hlen rv xx
  have body := (h f cdv A outer s H E hg (hr.deeper _) ds M Φ hl hc).run (L2.start N vs) H { nx := fun _ H' => Q .non H', rt := Q } (env_start r) wd ⟨fun σ' ρ' H' M' x w' en z => kk _ .non H' M' x w' .non z, lets_k kk, fun _ _ _ _ _ _ _ z => z.elim, fun _ _ _ _ _ _ _ z => z.elim⟩
  have done : ∀ {σ' : L2.St} {H' : Hp} {v : V} {u : Value} {s' : Shared}, Inv (cxOf CX0 P w K mg base N qual (defScope st) f cdv A outer s H E) [] σ' H' s' → RelV v u → Q v H' → CE outer P w H s Q u s' := fun {σ' H' v u s'} J ru q => ⟨v, H', J.os, J.bare, J.base, J.hok, ru, q⟩
  refine wpAny_mono ((PSs.nox (pss_sem (X := bx P w K mg base N qual (defScope st) f cdv A outer s H E))).run [] s1 (L2.start N vs) H _ I body) (fun fl s' hs => ?_) fun e s' hs => hs
  cases fl with
  | ret u => obtain ⟨v, σ', H', J, ru, q⟩ := hs; exact done J ru q
  | next => obtain ⟨σ', H', J, q⟩ := hs; exact done (v := V.non) (u := Value.none) J rfl q
  | brk => obtain ⟨_, _, _, q⟩ := hs; exact q.elim
  | cont => obtain ⟨_, _, _, q⟩ := hs; exact q.elim
/-- such a def under its name -/
structure Gc (P : Program) (w : World) (K : PySem.W.Frag) (mg : Str → Option Value) (base : Heap) (x : Str) (k n : Nat) (c : Con) : Prop where
  ex : ∃ (f : Addr) (fd : FuncData) (ps : List Str), FnG P w K mg base k f fd ps (spD K n c) ∧ mg x = some (.ref f) ∧ PySem.W.keepIn K (.ref f) = true ∧ Binds K fd ps []
theorem Df.gc (D : Df K mg x st []) (S : FnScope N ps (defScope st))
    (hb : ∀ (kV doc pm : Value) (an : Option Addr) (cdv ct : Value) (us : List Value), us.length = ps.length → bindArgs (PySem.W.fnOf x x (defArgs st) (defBody st) (defScope st) .none kV doc pm an cdv ct) ⟨us, []⟩ = pure (ps.zip us))
    (h : BodyG P w K mg base x st N ps.length k c) : Gc P w K mg base x (k + 1) ps.length c := by
  obtain ⟨f, fd, F, hm⟩ := D.ex
  exact ⟨f, fd, ps, fnG_ok F S h, hm, F.kp, F.bindsN hb⟩
end
section
variable {X : Cx} {ρ : Rho} {M : Mp} {Φ : D → Mp → Prop} {e : Expr} {es : List Expr} {pos p : Pos} {x : Str} {k n : Nat} {c : Con}
theorem we_callG (F : Gc X.prog X.w X.K X.mg X.base x k n c) (hg0 : X.A.guards = some []) (hr : Room k X.A) (h : WA X ρ M (e :: es) fun ds M1 => ds.length = n ∧ c ds M1 Φ) (hg : Gl X x := by rfl)
    (hdb : (x == ("__debug__" : Str)) = false := by decide) (he : starEach (e :: es) X.env = (false, eval e X.env) :: starEach es X.env := by rfl) (hpl : (backTo pos (starEach es X.env)).any (·.1) = false := by rfl) : WE X ρ M (.Call (.Name x p) (e :: es) [] pos) Φ := .mk fun {Z} σ H Q en w k => by
  obtain ⟨f, fd, ps, F, hm, hk, hb⟩ := F.ex
  intro pins s I
  refine wpAny_Call_Name_kw (ld_glob I hg hm ?_ hdb)
  refine PySem.W.callWith_K (h₀ := X.base) I.ok.mod.kin hk (thn ((pa_sem (es := e :: es)).run pos pins s σ H (fun vs H1 => spD X.K n c vs H1 Q E0) I (h.run σ H _ en w fun vs ds H1 M1 e1 w1 r1 hz => ⟨ds, M1, Z, Φ, hz.1, r1, w1, hz.2, k.step e1⟩)) fun us s1 z => ⟨?_, ?_⟩) he hpl
  · obtain ⟨vs, H1, I1, r, q⟩ := z; exact I1.kIn
  · obtain ⟨vs, H1, I1, r, q⟩ := z
    have hl : (us ++ ([] : List Value)).length = ps.length := by rw [List.append_nil, ← r.length]; exact F.len _ _ _ _ q
    have bt := hb s1 us I1.kIn hl
    rw [List.append_nil] at bt
    refine wpAny_call (codeAny_mono (F.run X.A X.stack s1 H1 ⟨us, []⟩ us vs Q E0 hg0 hr I1.env0 bt r q) fun res s' hq => ?_)
    cases res with
    | error er => exact hq.elim
    | ok fl =>
      cases fl with
      | ret u => exact I1.after hq
      | next => exact hq.elim
      | brk => exact hq.elim
      | cont => exact hq.elim
end
end DL
/-! DL14: the law's call, where nothing is being shown. -/
namespace DL
open PySem PySem.Spec PyProof.Rows L2
theorem lawG {P : Program} {w : World} {K : PySem.W.Frag} {mg mb : Str → Option Value} {k : Nat} {fa a : Addr} {fd : FuncData} {x : Str} {sp : Sp} {s : Shared} {vs : List Value} {ns : List Int}
    (KX : K.In s.heap) (gn : s.heap.Ns mainGlobals mg) (bn : s.heap.Ns builtinsNs mb) (bb : ∀ x : Str, x ≠ "__name__" → mb x = bootBuiltins x) (lim : s.heap.NoLimit) (hg : s.gens = #[])
    (ha : s.heap.get? a = some { cls := .type "list", data := .seq vs.toArray }) (hi : IntsAre vs ns) (hl : ns.length ≤ sizeLine) (hr : Room k callerA)
    (F : ∀ base : Heap, K.In base → base.Ns mainGlobals mg → FnG P w K mg base k fa fd [x] sp) (bind_ : ∀ (s : Shared) (u : Value), BindsTo s fd ⟨[u], []⟩ [(x, u)])
    (hsp : ∀ H : Hp, Only H → SqL K H a (ns.map V.int) → sp [.ref a] H (fun v _ => v = .bl true) fun _ _ _ => False) :
    codeAny (model P w) callerA (.call (.ref fa) ⟨[.ref a], []⟩) (fun r s' => r = .ok (.ret (.bool true)) ∧ OldK s.heap s'.heap ∧ s'.os = s.os ∧ AllBare s'.gens) s := by
  have rv := vals_ints hi
  have lenV := hi.length
  have main : ∀ H : Hp, Only H → SqL K H a (ns.map V.int) → HOk P w H s.heap → (∀ b, H b ≠ none → b = a) → (H a ≠ none → K.lookup a = none) →
      codeAny (model P w) callerA (.call (.ref fa) ⟨[.ref a], []⟩) (fun r s' => r = .ok (.ret (.bool true)) ∧ OldK s.heap s'.heap ∧ s'.os = s.os ∧ AllBare s'.gens) s := fun H o1 o2 hok at_ hK => by
    have keep0 : ∀ {b : Addr} {o : Obj}, s.heap.get? b = some o → H b = none → (hidT s.heap H).get? b = some o := fun z y => hidT_get z y
    have noD : ∀ {b : Addr} {o : Obj} {es : Array DictEntry} {ep : Nat}, s.heap.get? b = some o → o.data = .dict es ep → H b = none := fun {b o es ep} z d => by
      cases q : H b with
      | none => rfl
      | some u =>
        have eb : b = a := at_ b (by rw [q]; simp)
        rw [eb, ha] at z
        cases z
        cases (show Data.seq vs.toArray _ = Data.dict es ep from d)
    have nsK : ∀ {b : Addr} {m : Str → Option Value}, s.heap.Ns b m → (hidT s.heap H).Ns b m := fun {b m} z => by
      obtain ⟨o, es, ep, y, d, r⟩ := z
      exact ⟨o, es, ep, keep0 y (noD y d), d, r⟩
    have inB : K.In (hidT s.heap H) := fun b o z => keep0 (KX b o z) (by
      cases q : H b with
      | none => rfl
      | some u =>
        have eb : b = a := at_ b (by rw [q]; simp)
        rw [eb, hK (by rw [← eb, q]; simp)] at z
        cases z)
    have hM : Mod K mg (hidT s.heap H) := ⟨inB, nsK gn, ⟨mb, nsK bn, bb⟩, by obtain ⟨mc, h1, h2⟩ := lim; exact ⟨mc, nsK h1, h2⟩⟩
    have e0 : Env0 P w K mg (hidT s.heap H) callerA [] s H := ⟨rfl, hM, fun b o z => of_hidT z, Nat.le_of_eq (hidT_size _ _), trivial, fun b hb => absurd (show b ∈ ([] : List Addr) from hb) (by simp), hok, .of_eq hg⟩
    refine codeAny_mono ((F _ inB (nsK gn)).run callerA [] s H ⟨[.ref a], []⟩ [.ref a] [.ref a] _ _ rfl hr e0 (bind_ s (.ref a)) (.cons rfl .nil) (hsp H o1 o2)) fun r s' h => ?_
    cases r with
    | error e => exact False.elim h
    | ok fl =>
      cases fl with
      | ret u =>
        obtain ⟨v, H', os, bare, un, hok', r', q⟩ := h
        obtain rfl : v = .bl true := q
        obtain rfl : u = Value.bool true := r'
        refine ⟨rfl, OldK.of_keep fun b o z => ?_, os, bare⟩
        cases q : H b with
        | none => exact un.keep b o z q (fun y => absurd (show b ∈ ([] : List Addr) from y) (by simp)) (by simp)
        | some u =>
          rcases o1 b with y | ⟨ob, xs, y⟩
          · rw [q] at y; cases y
          · have y2 := un.frzs b ob _ y
            have y3 := (hok b _ y).1
            have y4 := (hok' b _ y2).1
            rw [z] at y3; cases y3
            exact y4
      | _ => exact False.elim h
  cases hk : K.lookup a with
  | some o =>
    have z := KX a o hk
    rw [ha] at z
    cases z
    exact main (fun _ => none) (fun _ => .inl rfl) (.inr ⟨_, vs.toArray, _, hk, rfl, rfl, rfl, by rw [List.size_toArray, lenV]; exact hl, by simpa using rv⟩) (fun b u z => by cases (show (none : Option HO) = some u from z)) (fun b z => absurd rfl z) fun z => absurd rfl z
  | none =>
    refine main (fun b => if b = a then some (.frz { cls := .type "list", data := .seq vs.toArray } (.lst (ns.map V.int))) else none) (fun b => ?_) (.inl (.inr ⟨_, if_pos rfl⟩)) (fun b u z => ?_) (fun b z => ?_) fun _ => hk
    · by_cases hb : b = a
      · exact .inr ⟨_, _, if_pos hb⟩
      · exact .inl (if_neg hb)
    · by_cases hb : b = a
      · cases (if_pos hb).symm.trans z
        subst hb
        exact ⟨ha, by rw [List.length_map]; exact hl, vs, _, rv, ha⟩
      · cases (if_neg hb).symm.trans z
    · by_cases hb : b = a
      · exact hb
      · exact absurd (if_neg hb) z
theorem walk_ofG {l : PySem.W.OpenLaw} {n k : Nat} {q : Program} {loose : List Str} {XP : (Str → Option Value) → Heap → Prop} {YP : World → Heap → Prop} {d : DefRec} {x : Str}
    (hn : l.most = some n) (hn2 : n ≤ sizeLine) (hdf : d.params.defaults = []) (hr : Room k callerA)
    (F : ∀ (w : World) (mg : Str → Option Value) (fa : Addr) (h : Heap), YP w h → h.Ns mainGlobals mg → mg d.name = some (.ref fa) →
      ∃ (K : PySem.W.Frag) (fd : FuncData) (sp : Sp), K.In h ∧ (∀ (s : Shared) (u : Value), BindsTo s fd ⟨[u], []⟩ [(x, u)]) ∧
        (∀ (H : Hp) (a : Addr) (ns : List Int), ns.length ≤ n → Only H → SqL K H a (ns.map V.int) → sp [.ref a] H (fun v _ => v = .bl true) fun _ _ _ => False) ∧
        ∀ base : Heap, K.In base → base.Ns mainGlobals mg → FnG l.prog w K mg base k fa fd [x] sp) :
    PySem.W.WalkO q loose XP YP l.row.toRowW d [] (fun f vs => PySem.call f vs) := by
  refine Att.attach_call hn hdf fun w s0 s1 mg mb fa o pm cd doc a vs ns G Y ho hd hcd hmg hobj hints hlen hg => ?_
  obtain ⟨K, fd, sp, KX, hb, hsp, hF⟩ := F w mg fa _ Y G.T.g hmg
  exact lawG KX G.T.g G.T.b G.T.builtins G.T.nolimit hg hobj hints (Nat.le_trans hlen hn2) hr hF hb fun H hO hS => hsp H a ns hlen hO hS
end DL
/-! DL15: repr of data. -/
namespace DL
open PySem PySem.Spec PyProof.Rows L2
section
variable {X : Cx} {ρ : Rho} {M : Mp} {Φ : D → Mp → Prop} {e : Expr} {pos p : Pos}
theorem cr_reprD (hg : X.A.guards = some []) (hu : X.A.units + 64 < cLine) : CallR X (.builtin "repr") (fun xs H Q => ∃ v q, xs = [v] ∧ Dp X.K H v q ∧ q.showable = true ∧ q.canLay0 = true ∧ q.depth ≤ 60 ∧ q.shown.length ≤ sizeLine ∧ Q (.str q.shown) H) := by
  intro pins s σ H xs us Q I r h
  obtain ⟨v, q, rfl, hd, hs, hc, hk, hz, h⟩ := h
  obtain ⟨u, rfl, ru⟩ := vals1 r
  obtain ⟨as, rd⟩ := Dp.reads I q v u hd ru
  have fin : ∀ (h' : Heap) (tk : Nat) (t : Tok), (∀ b o, s.heap.get? b = some o → h'.get? b = some o) → EP X pins σ Q (.str q.shown t) { s with heap := h', toks := tk } := fun h' tk t kp => ⟨.str q.shown, H, I.kept kp, ⟨t, rfl⟩, h⟩
  have same : ∀ (tk : Nat) (t : Tok), EP X pins σ Q (.str q.shown t) { s with toks := tk } := fun tk t => ⟨.str q.shown, H, I.tok tk, ⟨t, rfl⟩, h⟩
  have big : ∀ a, u = .ref a → wpAny (model X.prog X.w) X.A (call (.builtin "repr") [u]) (EP X pins σ Q) X.xe s := fun a ea => by
    subst ea
    exact repr_of_reads' rd hs (fun z => by rw [PyData.hasDict_of_canLay q hc] at z; cases z) hg (by omega) (fun _ _ z => z) (fun h' t tk kp => fin h' tk t kp) hz
  cases hd with
  | non => cases ru; exact PySem.P.repr_of_none (by simp only [PyData.shown] at same; exact same _ _)
  | bl b => cases ru; exact PySem.P.repr_of_bool (by simp only [PyData.shown] at same; exact same _ _)
  | int i =>
    obtain ⟨t, rfl⟩ := ru
    simp only [PyData.showable, decide_eq_true_eq] at hs
    exact PySem.P.repr_of_int hs (by simp only [PyData.shown] at same; exact same _ _)
  | str x =>
    obtain ⟨t, rfl⟩ := ru
    simp only [PyData.shown] at hz
    exact PySem.P.repr_of_str (by simp only [PyData.shown] at same; exact same _ _) hz
  | lst h1 h2 => cases ru; exact big _ rfl
  | tup h1 h2 => cases ru; exact big _ rfl
theorem we_reprD (hm : X.mg "repr" = none) (hg0 : X.A.guards = some []) (hu : X.A.units + 64 < cLine) (h : WE X ρ M e fun d M1 => ∃ q k, CmpD d q k ∧ k ≤ 60 ∧ q.showable = true ∧ q.shown.length ≤ sizeLine ∧ Φ (.str q.shown) M1) (hg : Gl X "repr" := by rfl)
    (he : starEach [e] X.env = (false, eval e X.env) :: starEach [] X.env := by rfl) (hpl : (backTo pos (starEach [] X.env)).any (·.1) = false := by rfl) : WE X ρ M (.Call (.Name "repr" p) [e] [] pos) Φ :=
  we_callB (cr_reprD hg0 hu) hm (by decide +kernel) (wa_cons (h.imp fun d M1 h => wa_nil fun Z vs H Q w rr k => by
    obtain ⟨v, rfl, r⟩ := rr.one
    obtain ⟨q, j, c, hj, h1, h2, h⟩ := h
    exact ⟨v, q, rfl, r.dp c.eq, h1, c.lay, Nat.le_trans c.dep hj, h2, k.now w (.str _) h⟩) he) hg (he := he) (hpl := hpl)
end
end DL
/-! DL16: sorted of tuples of ints, of any lengths but none. -/
namespace DL
open PySem PySem.Spec PyProof.Rows L2
def lexI : List Int → List Int → Bool
  | [], [] => false
  | [], _ :: _ => true
  | _ :: _, [] => false
  | p :: ns, q :: ms => if p = q then lexI ns ms else decide (p < q)
theorem lexI_asym : ∀ {x y : List Int}, lexI x y = true → lexI y x = false
  | [], [], h => by cases h
  | [], _ :: _, _ => rfl
  | _ :: _, [], h => by cases h
  | p :: x, q :: y, h => by
    rw [lexI] at h ⊢
    by_cases e : p = q
    · subst e
      rw [if_pos rfl] at h ⊢
      exact lexI_asym h
    · rw [if_neg e] at h
      rw [if_neg (fun z => e z.symm)]
      have := of_decide_eq_true h
      exact decide_eq_false (by omega)
theorem lexI_tr : ∀ {x y z : List Int}, lexI y x = false → lexI z y = false → lexI z x = false
  | [], y, z, h1, h2 => by
    cases z with
    | nil => rfl
    | cons r z => rfl
  | p :: x, [], z, h1, h2 => by cases h1
  | p :: x, q :: y, [], h1, h2 => by cases h2
  | p :: x, q :: y, r :: z, h1, h2 => by
    rw [lexI] at h1 h2 ⊢
    by_cases e1 : q = p
    · subst e1
      rw [if_pos rfl] at h1
      by_cases e2 : r = q
      · subst e2
        rw [if_pos rfl] at h2 ⊢
        exact lexI_tr h1 h2
      · rw [if_neg e2] at h2 ⊢; exact h2
    · rw [if_neg e1] at h1
      have a1 := of_decide_eq_false h1
      by_cases e2 : r = q
      · subst e2
        rw [if_neg e1]; exact h1
      · rw [if_neg e2] at h2
        have a2 := of_decide_eq_false h2
        rw [if_neg (by omega)]
        exact decide_eq_false (by omega)
theorem swoI (k : Value → List Int) : SrtO.Swo fun v u => lexI (k v) (k u) := ⟨fun _ _ h => lexI_asym h, fun _ _ _ h1 h2 => lexI_tr h1 h2⟩
section
variable {prog : Program} {w : World} {A : Around} {E : Value → Shared → Prop} {s : Shared}
theorem lexN {b fin : Bool} {Q : Bool → Shared → Prop} : ∀ {xs ys : List Value} {ns ms : List Int} (i : Nat), IntsAre xs ns → IntsAre ys ms → fin = decide (ns.length < ms.length) → Q (lexI ns ms) s → PySem.W.KatLex prog w A b fin Q (xs.zip ys) i s
  | _, _, _, _, i, .nil, .nil, hf, h => by rw [hf]; exact PySem.W.kat_nil h
  | _, _, _, _, i, .nil, .cons q u hy, hf, h => by rw [hf]; exact PySem.W.kat_nil (by simpa [lexI] using h)
  | _, _, _, _, i, .cons p t hx, .nil, hf, h => by rw [hf]; exact PySem.W.kat_nil (by simpa [lexI] using h)
  | _, _, _, _, i, .cons (ns := ns) (vs := xs) p t hx, .cons (ns := ms) (vs := ys) q u hy, hf, h => by
    show PySem.W.KatLex prog w A b fin Q ((Value.int p t, Value.int q u) :: xs.zip ys) i s
    refine PySem.W.kat_cons (wpAny_eqBool_int ?_)
    rw [lexI] at h
    by_cases e : p = q
    · subst e
      rw [beq_self_eq_true]
      rw [if_pos rfl] at h
      exact PySem.W.kat_yes (lexN (i + 1) hx hy (by rw [hf]; exact decide_eq_decide.mpr (by simp)) h)
    · rw [show (p == q) = false from beq_eq_false_iff_ne.mpr e]
      rw [if_neg e] at h
      exact PySem.W.kat_no (TS.oneLt_ints _ h)
/-- the first ints -/
theorem firstsN {h : Heap} : ∀ vs : List Value, (∀ v ∈ vs, ∃ ns, TS.TupInts h v ns ∧ ns ≠ []) → ∃ fs, PySem.W.KatTups h vs fs ∧ fs.length = vs.length ∧ ∀ f, f ∈ fs → ∃ n t, f = Value.int n t
  | [], _ => ⟨[], PySem.W.KatTups.nil, rfl, fun f hf => by simp at hf⟩
  | v :: vs, x => by
    obtain ⟨fs, k, l, hi⟩ := firstsN vs fun u hu => x u (List.mem_cons_of_mem _ hu)
    obtain ⟨ns, ⟨a, xs, rfl, ⟨o, ho, hc, n, hdt⟩, ii⟩, hn⟩ := x v (List.mem_cons_self ..)
    cases e : xs.toList with
    | nil => rw [e] at ii; cases ii; exact absurd rfl hn
    | cons y ys =>
      obtain ⟨m, t, hy⟩ := ii.all y (by rw [e]; exact List.mem_cons_self ..)
      refine ⟨y :: fs, PySem.W.KatTups.cons ho hc hdt (by have z := congrArg (fun l : List Value => l[0]?) e; simpa using z) k, by simp [l], fun f hf => ?_⟩
      rcases List.mem_cons.mp hf with rfl | hf
      · exact ⟨m, t, hy⟩
      · exact hi f hf
theorem tupsSortable {a : Addr} {vs : List Value} {k : Value → List Int} (h0 : 0 < vs.length) (hp : ∀ v ∈ vs, TS.TupInts s.heap v (k v) ∧ k v ≠ []) (ha : ∀ o, s.heap.get? a = some o → o.cls ≠ .type "tuple") : SrtO.SortableO prog w A s a vs fun v u => lexI (k v) (k u) := by
  intro h' keep
  have hp' : ∀ v ∈ vs, TS.TupInts h' v (k v) := fun v hm => (hp v hm).1.keeps fun b o e c => keep b o (fun z => by subst z; exact ha o e c) e
  obtain ⟨fs, h1, h2, h3⟩ := firstsN (h := h') vs fun v hv => ⟨_, hp' v hv, (hp v hv).2⟩
  refine ⟨tuples' true, fun Q E hq => ?_, fun p q hm hm' => ?_⟩
  · refine PySem.W.kat_kind (T := .type "int") h1 (by omega) (fun f hm => ?_) (by rfl) ?_
    · obtain ⟨x, t, rfl⟩ := h3 f hm
      exact PySem.W.Looks.now
    · have e : (Value.type "int" != Value.type "tuple") = true := by first | decide +kernel | rfl | decide
      rw [e]
      exact hq
  · obtain ⟨a1, xs, e1, ⟨o1, ho1, hc1, n1, hd1⟩, i1⟩ := hp' _ hm
    obtain ⟨a2, ys, e2, ⟨o2, ho2, hc2, n2, hd2⟩, i2⟩ := hp' _ hm'
    show wpAny (model prog w) A (keyLt' (tuples' true) p.1 q.1) (fun r s' => s' = { s with heap := h' } ∧ r = lexI (k p.1) (k q.1)) (fun _ _ => False) { s with heap := h' }
    generalize k p.1 = np at i1 ⊢
    generalize k q.1 = nq at i2 ⊢
    rw [e1, e2]
    refine PySem.W.kat_lt ho1 hd1 ho2 hd2 (lexN 0 i1 i2 ?_ ⟨rfl, rfl⟩)
    have l1 := i1.length
    have l2 := i2.length
    rw [Array.length_toList] at l1 l2
    rw [l1, l2]
end
end DL
/-! DL17: sorted(xs), xs a list of tuples of ints that ascends already. -/
namespace DL
open PySem PySem.Spec PyProof.Rows L2
section
variable {X : Cx} {ρ : Rho} {M : Mp} {Φ : D → Mp → Prop} {e : Expr} {pos p : Pos}
def TupsV (K : PySem.W.Frag) (H : Hp) : List V → List (List Int) → Prop := Paired fun x ns => ∃ t, x = V.ref t ∧ SqT K H t (ns.map V.int)
theorem TupsV.raw {pins : List (Addr × Obj)} {σ : L2.St} {H : Hp} {s : Shared} (I : Inv X pins σ H s) : ∀ {xs : List V} {ps : List (List Int)} {us : List Value}, TupsV X.K H xs ps → Vals xs us → us.map (TS.intsOf s.heap) = ps ∧ ∀ u ∈ us, TS.TupInts s.heap u (TS.intsOf s.heap u)
  | _, _, _, .nil, .nil => ⟨rfl, fun u hu => by simp at hu⟩
  | _, _, _, .cons h t, .cons r v => by
    obtain ⟨a, rfl, hq⟩ := h
    cases r
    obtain ⟨h1, h2⟩ := TupsV.raw I t v
    have q := tupI_raw I hq
    refine ⟨by rw [List.map_cons, q.ints, h1], fun u hu => ?_⟩
    rcases List.mem_cons.mp hu with rfl | hu
    · rw [q.ints]; exact q
    · exact h2 u hu
theorem cr_sortedAsc : CallR X (.builtin "sorted") (fun vs H Q => ∃ (a : Addr) (xs : List V) (ps : List (List Int)), vs = [V.ref a] ∧ SqL X.K H a xs ∧ TupsV X.K H xs ps ∧ (2 ≤ xs.length → ∀ n ∈ ps, n ≠ []) ∧ ps.Pairwise (fun x y => lexI y x = false) ∧ ∀ p, H p = none → Q (.ref p) (upd H p (.lst xs))) := by
  intro pins s σ H vs us Q I r h
  obtain ⟨a, xs, ps, rfl, hs, ht, hne, hp, q⟩ := h
  rw [Vals.ref1 r]
  obtain ⟨its, rv, hl, hz⟩ := I.list hs
  obtain ⟨h1, h2⟩ := TupsV.raw I ht rv
  have lenI : xs.length = its.length := rv.length
  have hz2 : its.length ≤ sizeLine := by rw [← lenI]; exact hz
  refine SrtO.sorted_ord (swoI (TS.intsOf s.heap)) hl.isList hz2 (fun h2l hp1 a1 ha1 kk => ?_) fun out o1 o2 => ?_
  · refine tupsSortable (s := { s with heap := hp1 }) (by omega) (fun v hv => ⟨(h2 v hv).keeps fun b o z _ => (kk b o z).2, ?_⟩) fun o z => ?_
    · exact hne (by omega) _ (by rw [← h1]; exact List.mem_map_of_mem hv)
    · have z' := z.symm.trans ha1
      cases z'
      intro c
      exact absurd (Value.type.inj c) (by decide)
  · have srt : SrtO.Srtd (fun v u => lexI (TS.intsOf s.heap v) (TS.intsOf s.heap u)) its := by
      rw [← h1] at hp
      exact List.pairwise_map.mp hp
    have eo : out = its := SrtO.stb_uniq (swoI _) o1 srt o2
    subst eo
    obtain ⟨n, hn⟩ := sortedAll_at s.heap out out.toArray
    exact ⟨.ref _, upd H (s.heap.objs.size + 1) (.lst xs), I.laid (t' := s.toks) (fun b o z => sortedAll_old z) (Nat.le_succ _) ⟨hz, out, n, rv, hn⟩, rfl, q _ (I.hok.fresh (Nat.le_succ _))⟩
theorem Reps.tups {K : PySem.W.Frag} {M : Mp} {Z : Zn} {H : Hp} : ∀ {vs : List V} {ps : List (List Int)}, Reps K M Z H vs (ps.map fun q => .tup (q.map D.int)) → TupsV K H vs ps
  | _, [], .nil => .nil
  | _, q :: ps, .cons r t => by
    obtain ⟨a, us, rfl, hq, rs⟩ := r.asTup
    rw [rs.ints] at hq
    exact .cons ⟨a, rfl, hq⟩ (Reps.tups t)
theorem we_sortedAsc (hm : X.mg "sorted" = none) (h : WE X ρ M e fun d M1 => ∃ ps : List (List Int), LstOf M1 d (ps.map fun q => D.tup (q.map D.int)) ∧ (2 ≤ ps.length → ∀ n ∈ ps, n ≠ []) ∧ ps.Pairwise (fun x y => lexI y x = false) ∧ Φ (.lst (ps.map fun q => D.tup (q.map D.int))) M1) (hg : Gl X "sorted" := by rfl)
    (he : starEach [e] X.env = (false, eval e X.env) :: starEach [] X.env := by rfl) (hpl : (backTo pos (starEach [] X.env)).any (·.1) = false := by rfl) : WE X ρ M (.Call (.Name "sorted" p) [e] [] pos) Φ :=
  we_callB cr_sortedAsc hm (by decide +kernel) (wa_cons (h.imp fun d M1 h => wa_nil fun Z vs H Q w rr k => by
    obtain ⟨v, rfl, r⟩ := rr.one
    obtain ⟨ps, hl, h1, h2, h⟩ := h
    obtain ⟨q, us, rfl, hq, rs⟩ := r.asLst w hl
    refine ⟨q, us, ps, rfl, hq, rs.tups, fun z => h1 (by rw [rs.length, List.length_map] at z; exact z), h2, fun l hp => k.new w hp (.lst upd_same (w.fresh hp) (rs.mono (Ext.new w hp))) h⟩) he) hg (he := he) (hpl := hpl)
end
end DL
/-! DL18: how long shown data are. -/
namespace DL
open PySem PySem.Spec PyProof.Rows L2 SX
theorem shownAll_map : ∀ xs : List PyData, PyData.shownAll xs = xs.map PyData.shown
  | [] => by simp [PyData.shownAll]
  | x :: xs => by simp [PyData.shownAll, shownAll_map xs]
theorem showableAll_map : ∀ xs : List PyData, PyData.showableAll xs = xs.all PyData.showable
  | [] => by simp [PyData.showableAll]
  | x :: xs => by simp [PyData.showableAll, showableAll_map xs]
theorem sum_le {α : Type} {f : α → Nat} {b : Nat} : ∀ {l : List α}, (∀ x ∈ l, f x ≤ b) → (l.map f).sum ≤ l.length * b
  | [], _ => by simp
  | x :: l, h => by
    rw [List.map_cons, List.sum_cons, List.length_cons, Nat.succ_mul]
    have h1 := h x List.mem_cons_self
    have h2 := sum_le fun y hy => h y (List.mem_cons_of_mem _ hy)
    omega
/-- shown, at most b signs -/
structure ShD (p : PyData) (b : Nat) : Prop where
  ok : p.showable = true
  le : p.shown.length ≤ b
theorem sh_nat {n : Nat} (h : n < 10 ^ 30) : ShD (.int (n : Nat)) 30 := by
  refine ⟨?_, ?_⟩
  · simp only [PyData.showable, decide_eq_true_eq, Int.natAbs_natCast]
    have : n < 2 ^ 100 := Nat.lt_trans h (by decide)
    by_cases h0 : n = 0
    · subst h0; decide
    · have := (Nat.log2_lt h0).mpr this; omega
  · simp only [PyData.shown]
    rw [num_S, S_len]
    exact TL.numL_len (by decide) h
theorem sh_list {xs : List PyData} {b n : Nat} (h : ∀ x ∈ xs, ShD x b) (hn : xs.length ≤ n) : ShD (.list xs) (n * (b + 2) + 3) := by
  refine ⟨?_, ?_⟩
  · simp only [PyData.showable, showableAll_map]
    exact List.all_eq_true.mpr fun x hx => (h x hx).ok
  · simp only [PyData.shown, shownAll_map]
    have h1 := listText_len_le (xs.map PyData.shown)
    rw [List.map_map, List.length_map] at h1
    have h2 : (xs.map ((·.length) ∘ PyData.shown)).sum ≤ xs.length * b := sum_le fun x hx => (h x hx).le
    have h3 : xs.length * b ≤ n * b := Nat.mul_le_mul_right _ hn
    have h4 : n * (b + 2) = n * b + n * 2 := Nat.mul_add _ _ _
    omega
theorem sh_tup {xs : List PyData} {b n : Nat} (h : ∀ x ∈ xs, ShD x b) (hn : xs.length ≤ n) : ShD (.tuple xs) (n * (b + 2) + 3) := by
  refine ⟨?_, ?_⟩
  · simp only [PyData.showable, showableAll_map]
    exact List.all_eq_true.mpr fun x hx => (h x hx).ok
  · simp only [PyData.shown, shownAll_map]
    have h1 := tupleText_len_le (xs.map PyData.shown)
    rw [List.map_map, List.length_map] at h1
    have h2 : (xs.map ((·.length) ∘ PyData.shown)).sum ≤ xs.length * b := sum_le fun x hx => (h x hx).le
    have h3 : xs.length * b ≤ n * b := Nat.mul_le_mul_right _ hn
    have h4 : n * (b + 2) = n * b + n * 2 := Nat.mul_add _ _ _
    omega
end DL
/-! DL19: tuples as keys, dicts with such keys that are filled, membership of data, a starred target. -/
namespace DL
open PySem PySem.Spec PyProof.Rows L2
/-! ### reading data as other data -/
def Wk (d d' : D) : Prop := ∀ (K : PySem.W.Frag) (M : Mp) (Z : Zn) (H : Hp) (v : V), Rep K M Z H v d → Rep K M Z H v d'
theorem Wk.rfl' (d : D) : Wk d d := fun _ _ _ _ _ r => r
def keyD : Key → D
  | .inl i => .int i
  | .inr x => .str x
theorem reps_keys {K : PySem.W.Frag} {M : Mp} {Z : Zn} {H : Hp} : ∀ ks : List Key, Reps K M Z H (ks.map kV) (ks.map keyD)
  | [] => .nil
  | .inl i :: ks => .cons (.int i) (reps_keys ks)
  | .inr x :: ks => .cons (.str x) (reps_keys ks)
theorem keys_reps {K : PySem.W.Frag} {M : Mp} {Z : Zn} {H : Hp} : ∀ {ks : List Key} {vs : List V}, Reps K M Z H vs (ks.map keyD) → vs = ks.map kV
  | [], _, r => by cases r; rfl
  | .inl i :: ks, _, r => by
    cases r with
    | cons r1 r2 => cases r1; rw [keys_reps r2]; rfl
  | .inr x :: ks, _, r => by
    cases r with
    | cons r1 r2 => cases r1; rw [keys_reps r2]; rfl
theorem wk_key (ks : List Key) : Wk (.key ks) (.tup (ks.map keyD)) := fun K M Z H v r => by
  cases r with
  | key h m => exact .tup (.inl h) m (reps_keys ks)
theorem reps_wk {α : Type} {f g : α → D} {K : PySem.W.Frag} {M : Mp} {Z : Zn} {H : Hp} : ∀ {l : List α} {vs : List V}, (∀ x ∈ l, Wk (f x) (g x)) → Reps K M Z H vs (l.map f) → Reps K M Z H vs (l.map g)
  | [], _, _, r => by cases r; exact .nil
  | a :: l, _, h, r => by
    cases r with
    | cons r1 r2 => exact .cons (h a List.mem_cons_self _ _ _ _ _ r1) (reps_wk (fun x hx => h x (List.mem_cons_of_mem _ hx)) r2)
theorem wk_lst {α : Type} {f g : α → D} {l : List α} (h : ∀ x ∈ l, Wk (f x) (g x)) : Wk (.lst (l.map f)) (.lst (l.map g)) := fun K M Z H v r => by
  cases r with
  | lst h1 m r => exact .lst h1 m (reps_wk h r)
section
variable {X : Cx} {ρ : Rho} {M : Mp} {Φ : D → Mp → Prop} {Θ : Bool → Mp → Prop} {a b e o i : Expr} {es : List Expr} {pos p : Pos}
theorem we_wk (h : WE X ρ M e fun d M1 => ∃ d', Wk d d' ∧ Φ d' M1) : WE X ρ M e Φ := .mk fun σ H Q en w k => h.run σ H Q en w fun v d H1 M1 e1 w1 r1 ⟨d', wk, hz⟩ => k v d' H1 M1 e1 w1 (wk _ _ _ _ _ r1) hz
theorem we_tupK {k1 : Nat} (h : WA X ρ M es fun ds M1 => ∃ ks : List Key, ds = ks.map keyD ∧ ks.length ≤ sizeLine ∧ Φ (.key ks) M1) : WE X ρ M (.Tuple es k1 pos) Φ := .mk fun σ H Q en w k =>
  eOf (pe_tup pa_sem) (h.run σ H _ en w fun vs ds H1 M1 e1 w1 r1 hz => by
    obtain ⟨ks, rfl, hl, hz⟩ := hz
    obtain rfl := keys_reps r1
    exact ⟨by rw [List.length_map]; exact hl, fun p hp => (k.step e1).new w1 hp (.key upd_same (w1.fresh hp)) hz⟩)
theorem we_addK (h : WE X ρ M a fun x M1 => WE X ρ M1 b fun y M2 => ∃ xs ys, x = .key xs ∧ y = .key ys ∧ xs.length + ys.length ≤ sizeLine ∧ Φ (.key (xs ++ ys)) M2) : WE X ρ M (.BinOp a .Add b pos) Φ := we_op op_catA (h.imp fun _ _ h => h.imp fun _ _ h Z v u H Q w r1 r2 k => by
  obtain ⟨xs, ys, rfl, rfl, hz, h⟩ := h
  cases r1 with
  | @key p1 _ h1 m1 =>
    cases r2 with
    | @key p2 _ h2 m2 =>
      refine ⟨_, _, _, _, rfl, rfl, sqT_of (.inl (.inl h1)), sqT_of (.inl (.inl h2)), by rw [List.length_map, List.length_map]; exact hz, fun e => ?_, fun _ e => ?_, fun _ _ q hp => ?_⟩
      · obtain rfl := List.map_eq_nil_iff.mp e
        exact k.now w (.key h2 m2) h
      · obtain rfl := List.map_eq_nil_iff.mp e
        rw [List.append_nil] at h
        exact k.now w (.key h1 m1) h
      · exact k.new w hp (.key (by rw [List.map_append]; exact upd_same) (w.fresh hp)) h)
/-! ### dicts by tuples -/
def valD (kvs : List (List Key × D)) (k : List Key) : Option D := (kvs.find? fun kv => decide (kv.1 = k)).map (·.2)
def putT (kvs : List (List Key × D)) (k : List Key) (d : D) : List (List Key × D) := if (kvs.any fun kv => decide (kv.1 = k)) = true then kvs.map (fun kv => if kv.1 = k then (kv.1, d) else kv) else kvs ++ [(k, d)]
theorem RepT.length {K : PySem.W.Frag} {M : Mp} {Z : Zn} {H : Hp} : ∀ {vs : List (List Key × V)} {ds : List (List Key × D)}, RepT K M Z H vs ds → vs.length = ds.length
  | _, _, .nil => rfl
  | _, _, .cons _ t => by rw [List.length_cons, List.length_cons, RepT.length t]
theorem RepT.val {K : PySem.W.Frag} {M : Mp} {Z : Zn} {H : Hp} {k : List Key} {d : D} : ∀ {vs : List (List Key × V)} {ds : List (List Key × D)}, RepT K M Z H vs ds → valD ds k = some d → ∃ v, valV vs k = some v ∧ Rep K M Z H v d
  | _, _, .nil, h => by cases h
  | _, _, .cons (k := j) (v := v) (d := d0) (vs := vs) (ds := ds) r t, h => by
    by_cases e : j = k
    · have h2 : some d0 = some d := by rw [← h]; unfold valD; rw [List.find?_cons_of_pos (by simpa using e)]; rfl
      cases h2
      exact ⟨v, valV_pos (p := (j, v)) e, r⟩
    · have h2 : valD ds k = some d := by rw [← h]; unfold valD; rw [List.find?_cons_of_neg (by simpa using e)]
      obtain ⟨u, hu, ru⟩ := RepT.val t h2
      exact ⟨u, by rw [valV_neg (p := (j, v)) e]; exact hu, ru⟩
theorem RepT.any {K : PySem.W.Frag} {M : Mp} {Z : Zn} {H : Hp} {k : List Key} : ∀ {vs : List (List Key × V)} {ds : List (List Key × D)}, RepT K M Z H vs ds → (vs.any fun kv => decide (kv.1 = k)) = ds.any fun kv => decide (kv.1 = k)
  | _, _, .nil => rfl
  | _, _, .cons r t => by rw [List.any_cons, List.any_cons, RepT.any t]
theorem RepT.snoc {K : PySem.W.Frag} {M : Mp} {Z : Zn} {H : Hp} {k : List Key} {v : V} {d : D} (r : Rep K M Z H v d) : ∀ {vs : List (List Key × V)} {ds : List (List Key × D)}, RepT K M Z H vs ds → RepT K M Z H (vs ++ [(k, v)]) (ds ++ [(k, d)])
  | _, _, .nil => .cons r .nil
  | _, _, .cons r1 t => .cons r1 (RepT.snoc r t)
theorem RepT.repl {K : PySem.W.Frag} {M : Mp} {Z : Zn} {H : Hp} {k : List Key} {v : V} {d : D} (r : Rep K M Z H v d) : ∀ {vs : List (List Key × V)} {ds : List (List Key × D)}, RepT K M Z H vs ds → RepT K M Z H (vs.map fun kv => if kv.1 = k then (kv.1, v) else kv) (ds.map fun kv => if kv.1 = k then (kv.1, d) else kv)
  | _, _, .nil => .nil
  | _, _, .cons (k := j) r1 t => by
    rw [List.map_cons, List.map_cons]
    by_cases e : j = k
    · simp only [if_pos e]; exact .cons r (RepT.repl r t)
    · simp only [if_neg e]; exact .cons r1 (RepT.repl r t)
theorem RepT.put {K : PySem.W.Frag} {M : Mp} {Z : Zn} {H : Hp} {k : List Key} {v : V} {d : D} {vs : List (List Key × V)} {ds : List (List Key × D)} (r : Rep K M Z H v d) (t : RepT K M Z H vs ds) : RepT K M Z H (putK vs k v) (putT ds k d) := by
  unfold putK putT
  rw [t.any]
  split
  · exact t.repl r
  · exact t.snoc r
theorem we_dnewT (h : ∀ p, M p = none → Φ (.ob p) (mset M p (.dT []))) : WE X ρ M (.Dict [] [] pos) Φ := .mk fun σ H Q en w k =>
  eOf pe_dnewT fun p hp => k _ (.ob p) _ (mset M p (.dT [])) (Ext.newM w hp) (w.newM hp ⟨[], upd_same, .nil⟩) (.ob p) (h p (w.fresh hp).1)
theorem we_dgetT (hu : X.A.units + 1 < cLine) (h : WE X ρ M a fun x M1 => WE X ρ M1 b fun y M2 => ∃ q kvs ks d, x = .ob q ∧ M2 q = some (.dT kvs) ∧ y = .key ks ∧ valD kvs ks = some d ∧ Φ d M2) (hs : NoSl b := by exact fun _ _ => rfl) : WE X ρ M (.Subscript a b pos) Φ := .mk fun σ H Q en w k =>
  eOf (pe_dget hu pe_sem pe_sem hs) (bind2 h en w fun v u x y H2 M2 e2 w2 r1 r2 hz => by
    obtain ⟨q, kvs, ks, d, rfl, hM, rfl, hv, hz⟩ := hz
    cases r1
    cases r2 with
    | key hb mb =>
      obtain ⟨vs, hq, rs⟩ := w2.1 q _ hM
      obtain ⟨v, h1, rv⟩ := rs.val hv
      exact ⟨q, v, rfl, by rw [← h1]; exact DGet.t hq hb, (k.step e2).now w2 rv hz⟩)
theorem wg_dput {d : D} {Ω : Rho → Mp → Prop} (hu : X.A.units + 1 < cLine) (h : WE X ρ M o fun x M1 => WE X ρ M1 i fun y M2 => ∃ q kvs ks, x = .ob q ∧ y = .key ks ∧ M2 q = some (.dT kvs) ∧ kvs.length < sizeLine ∧ Ω ρ (mset M2 q (.dT (putT kvs ks d))))
    (ha : ∀ v, assign (.Subscript o i pos) X.env v = (do
      let ov ← holding [v] (eval o X.env)
      let iv ← holding [v, ov] (eval i X.env)
      standAt pos
      holding [v, ov, iv] (setItem ov iv v)
      release [v, ov, iv] []) := by intro _; rfl) : WG X (.Subscript o i pos) d ρ M Ω := .mk fun {Z} σ H v Q en w r k =>
  gOf (pg_sub pe_sem pe_sem (set_dict hu) ha) (bind2 h en w fun v1 v2 x y H2 M2 e2 w2 r1 r2 hz => by
    obtain ⟨q, kvs, ks, rfl, rfl, hM, hl, hz⟩ := hz
    cases r1
    cases r2 with
    | key hb mb =>
      obtain ⟨vs, hv, rs⟩ := w2.1 q _ hM
      refine ⟨q, _, rfl, DPut.t hv hb (by rw [rs.length]; exact hl), ?_⟩
      have x3 : Ext M2 _ H2 (mset M2 q (.dT (putT kvs ks d))) (upd H2 q (.dT (putK vs ks v))) := Ext.put w2 hM
      exact k σ ρ _ _ (e2.trans x3) (w2.put hM ⟨_, upd_same, (rs.put (r.mono e2)).mono x3⟩) (en.mono (e2.trans x3)) hz)
/-! ### x in a list of data -/
theorem rd_inD {x y : D} (h : ∃ p q, toPy x = some p ∧ toPy y = some (.list q) ∧ SeqAt.shaped p = true ∧ SeqAt.shaped (.list q) = true ∧ Φ (.bl (q.any fun z => PyData.eqv z p)) M) : RD X.K (rInD X.K) x y M Φ := fun Z v u H Q w r1 r2 k => by
  obtain ⟨p, q, e1, e2, s1, s2, h⟩ := h
  exact ⟨p, q, r1.dp e1, r2.dp e2, s1, s2, k.now w (.bl _) h⟩
theorem wt_inD (hu : X.A.units + 65 < cLine) (h : WE X ρ M a fun x M1 => WE X ρ M1 b fun y M2 => ∃ p q, toPy x = some p ∧ toPy y = some (.list q) ∧ SeqAt.shaped p = true ∧ SeqAt.shaped (.list q) = true ∧ Θ (q.any fun z => PyData.eqv z p) M2) (hm : behindInMarks .In b = false := by rfl) : WT X ρ M (.Compare a [.In] [b] pos) Θ :=
  wt_cmp (op_inD hu) hm (h.imp fun _ _ h => h.imp fun _ _ ⟨p, q, e1, e2, s1, s2, h⟩ => rd_inD ⟨p, q, e1, e2, s1, s2, _, rfl, h⟩)
/-! ### x, *rest = a tuple -/
theorem star2 {prog : Program} {w : World} {A : Around} {E : Value → Shared → Prop} {s : Shared} {l : Addr} {items : Array Value} {Q : List Value → Shared → Prop} (hl : IsTup s.heap l items) (hh : A.handled = none) (hn : 1 ≤ items.size) (hz : items.size ≤ sizeLine)
    (h : ∀ (h2 : Heap) (tk : Nat), (∀ b o, s.heap.get? b = some o → h2.get? b = some o) → wpAny (model prog w) A (newList (items.toList.drop 1)) (fun d s' => Q (items.toList.take 1 ++ [d]) s') E { s with heap := h2, toks := tk }) : wpAny (model prog w) A (unpackItems (.ref l) 2 (some 1)) Q E s := by
  have hlt : l ≠ s.heap.objs.size := by obtain ⟨o, ho, _⟩ := hl; exact Nat.ne_of_lt (Heap.lt_size ho)
  unfold unpackItems
  refine wpAny_bind ?_
  unfold notIterableAtAll
  refine wpAny_bind (wpAny_specialOf hl.typeIs slot_tuple_iter.lookup ?_)
  refine wpAny_pure ?_
  simp only [Bool.false_eq_true, if_false]
  refine wpAny_bind (wpAny_holding (iter_tuple hl ?_))
  refine wpAny_bind (wpAny_holding (draw_tuple hlt 1 0 _ _ ⟨_, Heap.get?_push_size _ rfl, rfl, rfl⟩ (hl.push _) (by omega) fun h₁ hit₁ hs₁ => ?_))
  have hl₁ : IsTup h₁ l items := (hl.push _).extBut hs₁.extBut hlt
  rw [Nat.zero_add] at hit₁
  have hit₁' := hit₁
  obtain ⟨oi, hoi, _⟩ := hit₁'
  have hl₁' := hl₁
  obtain ⟨ol, hol, _⟩ := hl₁'
  rw [List.drop_zero]
  have hfl : (items.toList.take 1).length = 1 := by rw [List.length_take, Array.length_toList]; omega
  rw [if_neg (show ¬ ((items.toList.take 1).length < 1) by rw [hfl]; omega)]
  refine wpAny_bind (wpAny_holding (PySem.W.kun_collect (s := { s with heap := h₁ }) (T := "tuple_iterator") (.inr (.inr (.inr rfl))) (Walks.tuple (A := A.in1) hh s.heap.objs.size l hlt items) (fun j u st => st.1.typeIs) (k := 1) (by omega) ⟨hit₁, hl₁⟩ (Heap.lt_size hoi) (Heap.lt_size hol) (fun h₂ tk hk => ?_) hz))
  have hrl : (items.toList.drop 1).length = items.size - 1 := by rw [List.length_drop, Array.length_toList]
  show wpAny _ _ (newList ((items.toList.drop 1).take ((items.toList.drop 1).length - 0)) >>= fun d => pure (items.toList.take 1 ++ [d] ++ (items.toList.drop 1).drop ((items.toList.drop 1).length - 0))) _ _ _
  rw [Nat.sub_zero, List.take_length, List.drop_length]
  have he : ∀ b o, s.heap.get? b = some o → h₂.get? b = some o := fun b o e => hk b o (Nat.ne_of_lt (Heap.lt_size e)) (hs₁.extBut b o (Nat.ne_of_lt (Heap.lt_size e)) (Heap.get?_push_of_some _ e))
  refine wpAny_bind (wpAny_mono (h h₂ tk he) (fun d s' q => wpAny_pure (by rw [List.append_nil]; exact q)) fun _ _ z => z)
theorem wg_star {t1 t2 : Expr} {sp : Pos} {k1 : Nat} {d : D} {Ω : Rho → Mp → Prop} (h : ∃ x xs, d = .tup (x :: xs) ∧ WGs X [t1, t2] [x, .lst xs] ρ M Ω) (hc : X.calm = true := by rfl) (hn : (assignEach [t1, .Starred t2 sp] X.env).length = 2 := by rfl) (hst : (assignEach [t1, .Starred t2 sp] X.env).findIdx? (·.1) = some 1 := by rfl)
    (he : (assignEach [t1, .Starred t2 sp] X.env).map (·.2) = (assignEach [t1, t2] X.env).map (·.2) := by rfl) : WG X (.Tuple [t1, .Starred t2 sp] k1 pos) d ρ M Ω := .mk fun {Z} σ H v Q en w r k => by
  obtain ⟨x, xs, rfl, h⟩ := h
  obtain ⟨a, vs, rfl, hq, rs⟩ := r.asTup
  intro pins s u I ru
  cases ru
  obtain ⟨its, rv, ht, hz⟩ := I.tuple hq
  cases rs with
  | @cons v1 _ vr _ r1 r2 =>
    cases rv with
    | @cons _ u1 _ ur q1 q2 =>
      have hlen := q2.length
      rw [PyProof.Rows.assign_Tuple]
      refine wpAny_bind (wpAny_standAt ?_)
      unfold unpack
      rw [hn, hst, he]
      refine wpAny_bind (wpAny_holding (star2 ht (I.ok.hd hc) (by simp) (by simp at hz ⊢; omega) fun h2 tk hk => ?_))
      refine wpAny_newList ?_ (by simp at hz ⊢; omega)
      have I1 : Inv X pins σ H { s with heap := h2, toks := tk } := I.kept hk
      have hD : H h2.objs.size = none := I1.hok.fresh (Nat.le_refl _)
      have I2 : Inv X pins σ (upd H h2.objs.size (.lst vr)) { s with heap := h2.push { cls := .type "list", data := .seq ur.toArray }, toks := tk } :=
        I1.laid (fun b o q => Heap.get?_push_of_some _ q) (Nat.le_refl _) ⟨by simp at hz; omega, ur, _, q2, Heap.get?_push_size _ rfl⟩
      have x3 := Ext.new (o := HO.lst vr) w hD
      exact h.run σ _ [v1, .ref h2.objs.size] Q (en.mono x3) (w.new hD) (.cons (r1.mono x3) (.cons (.lst upd_same (w.fresh hD) (r2.mono x3)) .nil)) (k.step x3) pins _ [u1, .ref h2.objs.size] I2 (.cons q1 (.cons rfl .nil))
end
end DL
/-! DL22: instances of a class with slots that hold ints and are never changed; max and min of lists of ints. -/
namespace DL
open PySem PySem.Spec PyProof.Rows L2 SlX
/-- a class with these slots -/
structure SlC (K : PySem.W.Frag) (C : Addr) (fs : List Str) : Prop where
  sc : SCls K C
  sl : ∀ (i : Nat) (f : Str), fs[i]? = some f → ∃ p, Slot1 K C f p i
/-- what __init__ of five slots does: the i-th value goes to the slot js[i] -/
def spF (C : Addr) (out : List Int → List Int) : Sp := fun vs H Q E => ∃ (a dx : Addr) (ns : List Int), vs = .ref a :: ns.map V.int ∧ ns.length = 5 ∧ H a = some (.ins C dx []) ∧ dx ≠ a ∧ Q .non (slH H a C dx ((out ns).map fun i => some (V.int i)))
/-- C(..), C such a class -/
structure Gk (P : Program) (w : World) (K : PySem.W.Frag) (mg : Str → Option Value) (base : Heap) (x : Str) (C : Addr) (k : Nat) (dd : List Int) (out : List Int → List Int) : Prop where
  at_ : mg x = some (.ref C)
  ex : ∃ (f : Addr) (fd : FuncData) (ps : List Str) (ds : List Value), FnOk P w K mg base CX0 k f fd ps (spF C out) ∧ Mk K C f ∧ Binds K fd ps ds ∧ Vals (dd.map V.int) ds
theorem slH_made {H1 : Hp} {x dx C : Addr} {vs : List (Option V)} (h : dx ≠ x) : slH (upd (upd H1 dx (.own x)) x (.ins C dx [])) x C dx vs = upd (upd H1 dx (.xd [])) x (SlO x C dx vs) := by
  funext b
  unfold slH
  by_cases h1 : b = x
  · rw [h1, upd_same, upd_same]
  · by_cases h2 : b = dx
    · rw [h2, upd_ne h, upd_same, upd_ne h, upd_same]
    · rw [upd_ne h1, upd_ne h2, upd_ne h1, upd_ne h2, upd_ne h1, upd_ne h2]
section
variable {X : Cx} {ρ : Rho} {M : Mp} {Φ : D → Mp → Prop} {Θ : Bool → Mp → Prop} {a b e o : Expr} {es : List Expr} {pos p apos : Pos} {x : Str} {C : Addr} {k : Nat} {out : List Int → List Int} {dd : List Int}
theorem made_run {Z : Zn} {H1 : Hp} {M1 : Mp} {Q : VK} (w1 : Wd X.K M1 Z H1) (k : KE X.K M1 Z H1 Φ Q) {ns : List Int} (h5 : ns.length = 5) (hz : Φ (.fig C (out ns)) M1) (y dx : Addr) (hy : H1 y = none) (hdx : H1 dx = none) (ne : dx ≠ y) :
    spF C out (.ref y :: ns.map V.int) (upd (upd H1 dx (.own y)) y (.ins C dx [])) (fun v H2 => v = .non ∧ Q (.ref y) H2) E0 := by
  refine ⟨y, dx, ns, rfl, h5, upd_same, ne, rfl, ?_⟩
  rw [slH_made ne]
  have x1 := Ext.new (o := HO.xd []) w1 hdx
  have w2 := w1.new (o := HO.xd []) hdx
  have hy2 : upd H1 dx (.xd []) y = none := by rw [upd_ne (Ne.symm ne)]; exact hy
  refine (k.step x1).new w2 hy2 (.fig upd_same (by rw [upd_ne ne, upd_same]) (w2.fresh hy2) (w1.fresh hdx)) hz
theorem we_gmake (F : Gk X.prog X.w X.K X.mg X.base x C k [] out) (hr : Room (k + 1) X.A) (h : WA X ρ M (e :: es) fun ds M1 => ∃ ns : List Int, ds = ns.map D.int ∧ ns.length = 5 ∧ Φ (.fig C (out ns)) M1) (hg : Gl X x := by rfl)
    (hdb : (x == ("__debug__" : Str)) = false := by decide) (he : starEach (e :: es) X.env = (false, eval e X.env) :: starEach es X.env := by rfl) (hpl : (backTo pos (starEach es X.env)).any (·.1) = false := by rfl) : WE X ρ M (.Call (.Name x p) (e :: es) [] pos) Φ := .mk fun {Z} σ H Q en w k => by
  obtain ⟨f, fd, ps, ds, F', hm, hb, hd⟩ := F.ex
  refine eOf (pe_make (E := E0) hm F' hr hg F.at_ hb hd pass0 pa_sem hdb he hpl) (h.run σ H _ en w fun vs ds H1 M1 e1 w1 r1 hz => ?_)
  obtain ⟨ns, rfl, h5, hz⟩ := hz
  obtain rfl := r1.ints
  intro y dx hy hdx ne
  rw [List.map_nil, List.append_nil]
  exact made_run w1 (k.step e1) h5 hz y dx hy hdx ne
theorem we_gmake0 (F : Gk X.prog X.w X.K X.mg X.base x C k dd out) (h5 : dd.length = 5) (hr : Room (k + 1) X.A) (h : Φ (.fig C (out dd)) M) (hg : Gl X x := by rfl) (hdb : (x == ("__debug__" : Str)) = false := by decide) : WE X ρ M (.Call (.Name x p) [] [] pos) Φ := .mk fun {Z} σ H Q en w k => by
  obtain ⟨f, fd, ps, ds, F', hm, hb, hd⟩ := F.ex
  refine eOf (pe_make0 (E := E0) hm F' hr hg F.at_ hb hd pass0 hdb) ?_
  intro y dx hy hdx ne
  exact made_run w k h5 h y dx hy hdx ne
/-- e.f of such an instance -/
theorem we_gfld {fs : List Str} {f : Str} (S : SlC X.K C fs) (h : WE X ρ M e fun d M1 => ∃ (ns : List Int) (i : Nat) (n : Int), d = .fig C ns ∧ fs[i]? = some f ∧ ns[i]? = some n ∧ Φ (.int n) M1) (hb : attributeBase e f X.env (eval e X.env) = eval e X.env := by rfl) : WE X ρ M (.Attribute e f pos) Φ := .mk fun {Z} σ H Q en w k =>
  eOf (pe_sl pe_sem hb) (h.run σ H _ en w fun v d H1 M1 e1 w1 r1 hz => by
    obtain ⟨ns, i, n, rfl, hf, hn, hz⟩ := hz
    obtain ⟨q, hq⟩ := S.sl i f hf
    cases r1 with
    | @fig y _ dx _ h1 hd m md =>
      exact ⟨y, C, dx, q, _, i, .int n, rfl, .inr ⟨h1, hd⟩, S.sc, hq, by rw [List.getElem?_map, hn]; rfl, (k.step e1).now w1 (.int n) hz⟩)
/-- a method of such an instance -/
structure Mg (P : Program) (w : World) (K : PySem.W.Frag) (mg : Str → Option Value) (base : Heap) (C : Addr) (m : Str) (k n : Nat) (c : Con) : Prop where
  sc : SCls K C
  ex : ∃ (f : Addr) (fd : FuncData) (ps : List Str), FnOk P w K mg base CX0 k f fd ps (spD K n c) ∧ Meth K C m f ∧ Binds K fd ps []
theorem we_gmeth {m : Str} {n : Nat} {c : Con} {pl : Sem Bool} (F : Mg X.prog X.w X.K X.mg X.base C m k n c) (hr : Room k X.A) (h : WE X ρ M o fun d M1 => ∃ ns, d = .fig C ns ∧ WA X ρ M1 (e :: es) fun ds M2 => (D.fig C ns :: ds).length = n ∧ c (.fig C ns :: ds) M2 Φ)
    (hst : starEach (e :: es) X.env = (false, eval e X.env) :: starEach es X.env := by rfl) (hpl : (backTo pos (starEach es X.env)).any (·.1) = false := by rfl)
    (ht : eval (.Call (.Attribute o m apos) (e :: es) [] pos) X.env = (do
      let ov ← eval o X.env
      standAt apos.atName
      let (f, first) ← holding [ov] (getMethod ov m pl)
      callWith pos f first (backTo pos (starEach (e :: es) X.env)) (backToKw pos (keywordEach [] X.env))) := by rfl) : WE X ρ M (.Call (.Attribute o m apos) (e :: es) [] pos) Φ := .mk fun {Z} σ H Q en w k => by
  obtain ⟨f, fd, ps, F', hm, hb⟩ := F.ex
  refine eOf (pe_methSl (pl := pl) (E := E0) pe_sem F.sc hm (F'.raw hb .nil) hr pass0 pa_sem hst hpl ht) (h.run σ H _ en w fun v d H1 M1 e1 w1 r1 hz => ?_)
  obtain ⟨ns, rfl, hz⟩ := hz
  cases r1 with
  | @fig y _ dx _ h1 hd md1 md2 =>
    refine ⟨y, dx, _, rfl, .inr ⟨h1, hd⟩, hz.run σ H1 _ (en.mono e1) w1 fun vs ds H2 M2 e2 w2 r2 hy => ?_⟩
    show spD X.K n c ((V.ref y :: vs) ++ []) H2 Q E0
    rw [List.append_nil]
    exact ⟨.fig C ns :: ds, M2, Z, Φ, hy.1, .cons (Rep.mono e2 (.fig h1 hd md1 md2)) r2, w2, hy.2, k.step (e1.trans e2)⟩
/-! ### max, min of a list of ints -/
theorem we_maxL (hm : X.mg "max" = none) (h : WE X ρ M e fun d M1 => ∃ ns : List Int, LstOf M1 d (ns.map D.int) ∧ 0 < ns.length ∧ ∀ m, m ∈ ns → (∀ y, y ∈ ns → y ≤ m) → Φ (.int m) M1) (hc : X.calm = true := by rfl) (hg : Gl X "max" := by rfl)
    (he : starEach [e] X.env = (false, eval e X.env) :: starEach [] X.env := by rfl) (hpl : (backTo pos (starEach [] X.env)).any (·.1) = false := by rfl) : WE X ρ M (.Call (.Name "max" p) [e] [] pos) Φ :=
  we_callB (cr_max hc) hm (by decide +kernel) (wa_cons (h.imp fun d M1 hz => wa_nil fun Z vs H Q w rr k => by
    obtain ⟨ns, hl, h0, hz⟩ := hz
    cases rr with
    | cons r1 r2 =>
      cases r2
      obtain ⟨q, us, rfl, hq, rs⟩ := r1.asLst w hl
      obtain rfl := rs.ints
      exact ⟨q, ns, rfl, hq, h0, fun m h1 h2 => k.now w (.int m) (hz m h1 h2)⟩) he) hg (he := he) (hpl := hpl)
theorem we_minL (hm : X.mg "min" = none) (h : WE X ρ M e fun d M1 => ∃ ns : List Int, LstOf M1 d (ns.map D.int) ∧ 0 < ns.length ∧ ∀ m, m ∈ ns → (∀ y, y ∈ ns → m ≤ y) → Φ (.int m) M1) (hc : X.calm = true := by rfl) (hg : Gl X "min" := by rfl)
    (he : starEach [e] X.env = (false, eval e X.env) :: starEach [] X.env := by rfl) (hpl : (backTo pos (starEach [] X.env)).any (·.1) = false := by rfl) : WE X ρ M (.Call (.Name "min" p) [e] [] pos) Φ :=
  we_callB (cr_min hc) hm (by decide +kernel) (wa_cons (h.imp fun d M1 hz => wa_nil fun Z vs H Q w rr k => by
    obtain ⟨ns, hl, h0, hz⟩ := hz
    cases rr with
    | cons r1 r2 =>
      cases r2
      obtain ⟨q, us, rfl, hq, rs⟩ := r1.asLst w hl
      obtain rfl := rs.ints
      exact ⟨q, ns, rfl, hq, h0, fun m h1 h2 => k.now w (.int m) (hz m h1 h2)⟩) he) hg (he := he) (hpl := hpl)
end
end DL
/-! HK: a Hook that tells all that the data layer asks of the module: facts, defs, methods, properties, written dicts. -/
namespace HK
open PySem PySem.Spec PyProof.Rows L2 DL He
/-- a def of the text: where it stands -/
structure Dd where
  adr : PySem.W.Frag → Addr
  name : Str
  qual : Str
  st : Stmt
  dfl : List V := []
def fnA (K : PySem.W.Frag) (a : Addr) : FnW := match K.lookup a with
  | some ⟨_, _, .func fd, _⟩ => some (fd.name, fd.qualname, fd.params, fd.body, fd.scope, fd.globals, fd.closure, fd.builtins)
  | _ => none
def Dd.val (d : Dd) : FnW := some (d.name, d.qual, defArgs d.st, .stmts (defBody d.st), defScope d.st, mainGlobals, [], builtinsNs)
def Dd.ok (K : PySem.W.Frag) (d : Dd) : Bool := PySem.W.keepIn K (.ref (d.adr K)) && (match K.lookup (d.adr K) with
  | some ⟨_, _, .func fd, _⟩ => PySem.W.codeIn K fd.code d.qual && dflB K fd.defaults d.dfl
  | _ => false)
theorem Dd.funD {K : PySem.W.Frag} {d : Dd} (e : fnA K (d.adr K) = d.val) (c : d.ok K = true) : ∃ fd, FunD K d.name d.qual (defArgs d.st) (defBody d.st) (defScope d.st) d.dfl [] (d.adr K) fd := by
  obtain ⟨kp, c2⟩ := Bool.and_eq_true_iff.mp c
  unfold fnA at e
  cases q : K.lookup (d.adr K) with
  | none => rw [q] at c2; cases c2
  | some o =>
    obtain ⟨oc, od, dt, osl⟩ := o
    rw [q] at c2 e
    cases dt with
    | func fd =>
      obtain ⟨x1, x2, x3, x4, x5, x6, x7, x8, x9, x10, x11, x12, x13, x14, x15⟩ := fd
      have e2 : (some (x1, x2, x3, x4, x5, x6, x7, x15) : FnW) = some (d.name, d.qual, defArgs d.st, .stmts (defBody d.st), defScope d.st, mainGlobals, [], builtinsNs) := e
      simp only [Option.some.injEq, Prod.mk.injEq] at e2
      obtain ⟨h1, h2, h3, h4, h5, h6, h7, h8⟩ := e2
      subst h1 h2 h3 h4 h5 h6 h7 h8
      obtain ⟨y1, y2⟩ := Bool.and_eq_true_iff.mp (show (PySem.W.codeIn K x13 d.qual && dflB K x8 d.dfl) = true from c2)
      exact ⟨_, ⟨oc, od, x8, x9, x10, x11, x12, x13, x14, osl, rfl, q, y1, dflB_ok y2, .inl rfl⟩, kp⟩
    | _ => cases c2
/-! ### properties -/
/-- the getter of a property -/
def pgA (C m : Str) (K : PySem.W.Frag) : Addr := match PySem.W.recIn K (ma K (ga K C) m) "property" with
  | some (.ref g :: _) => g
  | _ => 0
def propB (K : PySem.W.Frag) (q : Str × Str) : Bool := eqO (PySem.W.findIn K (.ref (ga K q.1)) q.2) (some (some (.ref (ma K (ga K q.1) q.2)))) && (eqO (PySem.W.specialIn K (.ref (ma K (ga K q.1) q.2)) "__get__") (some (some (.builtin "property.__get__"))) &&
  (decide (PySem.W.takesIn K (.ref (ma K (ga K q.1) q.2)) = some true) && (match PySem.W.recIn K (ma K (ga K q.1) q.2) "property" with
  | some (.ref _ :: _) => true
  | _ => false)))
theorem propB_ok {K : PySem.W.Frag} {C m : Str} (h : propB K (C, m) = true) : PropOf K (ga K C) m (ma K (ga K C) m) (pgA C m K) := by
  obtain ⟨h1, h2⟩ := Bool.and_eq_true_iff.mp h
  obtain ⟨h3, h4⟩ := Bool.and_eq_true_iff.mp h2
  obtain ⟨h5, h6⟩ := Bool.and_eq_true_iff.mp h4
  refine ⟨eqO_ok h1, eqO_ok h3, of_decide_eq_true h5, ?_⟩
  unfold pgA
  cases q : PySem.W.recIn K (ma K (ga K C) m) "property" with
  | none => rw [q] at h6; cases h6
  | some l =>
    rw [q] at h6
    cases l with
    | nil => cases h6
    | cons v r =>
      cases v with
      | ref g => exact ⟨r, rfl⟩
      | _ => cases h6
/-! ### written dicts with text keys -/
/-- a value: a text, a tuple of texts, an int -/
inductive Dt where
  | s (z : Str) | t (zs : List Str) | i (n : Int)
def Dt.d : Dt → D
  | .s z => .str z
  | .t zs => .tup (zs.map D.str)
  | .i n => .int n
def Dt.ok (K : PySem.W.Frag) : Dt → Value → Bool
  | .s z, .str y _ => decide (y = z)
  | .i n, .int m _ => decide (m = n)
  | .t zs, .ref b => (match K.lookup b with
    | some ⟨.type c, _, .seq its _, _⟩ => decide (c = "tuple") && (decide (its.size ≤ sizeLine) && relAll (zs.map V.str) its.toList)
    | _ => false)
  | _, _ => false
theorem Dt.rep {K : PySem.W.Frag} {x : Dt} {u : Value} (h : x.ok K u = true) : ∃ v, RelV v u ∧ ∀ M Z H, Rep K M Z H v x.d := by
  cases x with
  | s z =>
    cases u with
    | str y t =>
      obtain rfl : y = z := of_decide_eq_true h
      exact ⟨.str y, ⟨t, rfl⟩, fun _ _ _ => .str y⟩
    | _ => cases h
  | i n =>
    cases u with
    | int y t =>
      obtain rfl : y = n := of_decide_eq_true h
      exact ⟨.int y, ⟨t, rfl⟩, fun _ _ _ => .int y⟩
    | _ => cases h
  | t zs =>
    cases u with
    | ref b =>
      refine ⟨.ref b, rfl, fun M Z H => ?_⟩
      cases q : K.lookup b with
      | none => simp only [Dt.ok, q] at h; cases h
      | some o =>
        obtain ⟨oc, od, dt, osl⟩ := o
        simp only [Dt.ok, q] at h
        cases oc with
        | type c =>
          cases dt with
          | seq its n =>
            obtain ⟨h1, h2⟩ := Bool.and_eq_true_iff.mp (show (decide (c = "tuple") && (decide (its.size ≤ sizeLine) && relAll (zs.map V.str) its.toList)) = true from h)
            obtain ⟨h3, h4⟩ := Bool.and_eq_true_iff.mp h2
            exact .tupK ⟨_, its, n, q, congrArg Value.type (of_decide_eq_true h1), rfl, of_decide_eq_true h3, relAll_ok h4⟩ (Reps.ofStrs zs)
          | _ => cases h
        | _ => cases dt <;> cases h
    | _ => cases h
def entsB (K : PySem.W.Frag) : List (Str × Dt) → List DictEntry → Bool
  | [], [] => true
  | q :: qs, e :: es => (match e.key with
    | .str x _ => decide (x = q.1)
    | _ => false) && (q.2.ok K e.val && entsB K qs es)
  | _, _ => false
theorem entsB_ok {K : PySem.W.Frag} : ∀ {qs : List (Str × Dt)} {es : List DictEntry}, entsB K qs es = true → ∃ kvs : List (Str × V), Paired (fun (p : Str × V) (e : DictEntry) => (∃ t, e.key = .str p.1 t) ∧ RelV p.2 e.val) kvs es ∧ kvs.map (·.1) = qs.map (·.1) ∧ ∀ M Z H, RepF K M Z H kvs (qs.map fun q => (q.1, q.2.d))
  | [], [], _ => ⟨[], .nil, rfl, fun _ _ _ => .nil⟩
  | [], _ :: _, h => by cases h
  | _ :: _, [], h => by cases h
  | q :: qs, e :: es, h => by
    obtain ⟨h1, h2⟩ := Bool.and_eq_true_iff.mp (show ((match e.key with | .str x _ => decide (x = q.1) | _ => false) && (q.2.ok K e.val && entsB K qs es)) = true from h)
    obtain ⟨h3, h4⟩ := Bool.and_eq_true_iff.mp h2
    obtain ⟨kvs, a1, a2, a3⟩ := entsB_ok h4
    obtain ⟨v, b1, b2⟩ := Dt.rep h3
    refine ⟨(q.1, v) :: kvs, .cons ⟨?_, b1⟩ a1, by rw [List.map_cons, List.map_cons, a2], fun M Z H => .cons (b2 M Z H) (a3 M Z H)⟩
    cases hk : e.key with
    | str x t =>
      rw [hk] at h1
      exact ⟨t, by rw [of_decide_eq_true h1]⟩
    | _ => rw [hk] at h1; cases h1
def dicB (K : PySem.W.Frag) (q : Str × List (Str × Dt)) : Bool := match K.lookup (ga K q.1) with
  | some ⟨_, _, .dict es _, _⟩ => entsB K q.2 es.toList
  | _ => false
theorem dicB_ok {K : PySem.W.Frag} {w : World} {x : Str} {qs : List (Str × Dt)} (h : dicB K (x, qs) = true) (hk : dicW K (ga K x) = some (keysIn w.params (qs.map (·.1)))) (nd : (qs.map (·.1)).Nodup) :
    ∃ kvs, WrD K w (ga K x) kvs ∧ ∀ M Z H, RepF K M Z H kvs (qs.map fun q => (q.1, q.2.d)) := by
  obtain ⟨es, n, h1, h2, h3⟩ := dicW_ok hk
  unfold dicB at h
  rw [h1] at h
  obtain ⟨kvs, a1, a2, a3⟩ := entsB_ok (show entsB K qs es.toList = true from h)
  exact ⟨kvs, ⟨es, n, h1, h3, h2, a1, by rw [a2]; exact nd⟩, a3⟩
/-! ### slots -/
def slAll (K : PySem.W.Frag) (G : Addr) : Nat → List Str → Bool
  | _, [] => true
  | i, f :: fs => eqO (PySem.W.findIn K (.ref G) f) (some (some (.ref (ma K G f)))) && (eqO (PySem.W.specialIn K (.ref (ma K G f)) "__get__") (some (some (.builtin "member_descriptor.__get__"))) && (decide (PySem.W.takesIn K (.ref (ma K G f)) = some true) && (decide (PySem.W.typeIn K (.ref (ma K G f)) = some (.type "member_descriptor")) && (decide (PySem.W.slotIn K (ma K G f) G = some i) && (decide (i < 1000) && slAll K G (i + 1) fs)))))
theorem slAll_ok {K : PySem.W.Frag} {G : Addr} : ∀ {fs : List Str} {k : Nat}, slAll K G k fs = true → ∀ (i : Nat) (f : Str), fs[i]? = some f → ∃ p, SlX.Slot1 K G f p (k + i)
  | [], _, _, i, f, h => by simp at h
  | f0 :: fs, k, hb, i, f, h => by
    obtain ⟨h1, hb⟩ := Bool.and_eq_true_iff.mp (show (eqO (PySem.W.findIn K (.ref G) f0) (some (some (.ref (ma K G f0)))) && (eqO (PySem.W.specialIn K (.ref (ma K G f0)) "__get__") (some (some (.builtin "member_descriptor.__get__"))) && (decide (PySem.W.takesIn K (.ref (ma K G f0)) = some true) && (decide (PySem.W.typeIn K (.ref (ma K G f0)) = some (.type "member_descriptor")) && (decide (PySem.W.slotIn K (ma K G f0) G = some k) && (decide (k < 1000) && slAll K G (k + 1) fs)))))) = true from hb)
    obtain ⟨h2, hb⟩ := Bool.and_eq_true_iff.mp hb
    obtain ⟨h3, hb⟩ := Bool.and_eq_true_iff.mp hb
    obtain ⟨h4, hb⟩ := Bool.and_eq_true_iff.mp hb
    obtain ⟨h5, hb⟩ := Bool.and_eq_true_iff.mp hb
    obtain ⟨h6, hb⟩ := Bool.and_eq_true_iff.mp hb
    cases i with
    | zero =>
      obtain rfl := Option.some.inj h
      exact ⟨_, eqO_ok h1, eqO_ok h2, of_decide_eq_true h3, of_decide_eq_true h4, of_decide_eq_true h5, of_decide_eq_true h6⟩
    | succ i =>
      obtain ⟨p, q⟩ := slAll_ok hb i f h
      exact ⟨p, by rw [show k + (i + 1) = k + 1 + i by omega]; exact q⟩
def slB (K : PySem.W.Frag) (q : Str × List Str) : Bool := PySem.W.plainGet K (ga K q.1) Str.empty && (PySem.W.isClsIn K (ga K q.1) && (PySem.W.plainOver K (ga K q.1) && (eqO (PySem.W.findIn K (.ref (ga K q.1)) "__setattr__") (some (some (.builtin "object.__setattr__"))) && slAll K (ga K q.1) 0 q.2)))
theorem slB_ok {K : PySem.W.Frag} {x : Str} {fs : List Str} (h : slB K (x, fs) = true) : SlC K (ga K x) fs := by
  obtain ⟨h1, h⟩ := Bool.and_eq_true_iff.mp h
  obtain ⟨h2, h⟩ := Bool.and_eq_true_iff.mp h
  obtain ⟨h3, h⟩ := Bool.and_eq_true_iff.mp h
  obtain ⟨h4, h⟩ := Bool.and_eq_true_iff.mp h
  refine ⟨⟨h1, h2, h3, eqO_ok h4⟩, fun i f hf => ?_⟩
  obtain ⟨p, q⟩ := slAll_ok h i f hf
  exact ⟨p, by rw [Nat.zero_add] at q; exact q⟩
/-! ### classes with an own == -/
def eqB (K : PySem.W.Frag) (x : Str) : Bool := (Fa.cls x).ok K && (eqO (PySem.W.findIn K (.ref (ga K x)) "__class__") (some (some (.builtin "object.__class__"))) && (eqO (PySem.W.specialIn K (.builtin "object.__class__") "__get__") (some (some (.builtin "getset_descriptor.__get__"))) &&
  (decide (PySem.W.takesIn K (.builtin "object.__class__") = some true) && (decide (PySem.W.mroIn K (ga K x) (.type "object") = some true) && eqO (PySem.W.findIn K (.ref (ga K x)) "__ne__") (some (some (.builtin "object.__ne__")))))))
theorem eqB_ok {K : PySem.W.Frag} {x : Str} (h : eqB K x = true) : OwnC K (ga K x) ∧ PySem.W.findIn K (.ref (ga K x)) "__ne__" = some (some (.builtin "object.__ne__")) := by
  obtain ⟨h1, h⟩ := Bool.and_eq_true_iff.mp h
  obtain ⟨h2, h⟩ := Bool.and_eq_true_iff.mp h
  obtain ⟨h3, h⟩ := Bool.and_eq_true_iff.mp h
  obtain ⟨h4, h⟩ := Bool.and_eq_true_iff.mp h
  obtain ⟨h5, h⟩ := Bool.and_eq_true_iff.mp h
  exact ⟨⟨cls_ok h1, eqO_ok h2, eqO_ok h3, of_decide_eq_true h4, of_decide_eq_true h5⟩, eqO_ok h⟩
/-! ### the Hook -/
structure Sp where
  fa : List Fa
  dd : List Dd
  pr : List (Str × Str)
  ta : List (Str × List (Str × Dt))
  sl : List (Str × List Str)
  eq : List Str
abbrev Al : Type := Bool × List FnW × List (Option (List (Option (Str × Int))))
def obsK (S : Sp) (K : PySem.W.Frag) : Al := ((S.fa.all fun f => f.ok K) && ((S.dd.all fun d => d.ok K) && ((S.pr.all fun q => propB K q) && ((S.ta.all fun q => dicB K q) && ((S.sl.all fun q => slB K q) && S.eq.all fun x => eqB K x)))), S.dd.map (fun d => fnA K (d.adr K)), S.ta.map fun q => dicW K (ga K q.1))
def valK (S : Sp) (w : World) : Al := (true, S.dd.map Dd.val, S.ta.map fun q => some (keysIn w.params (q.2.map (·.1))))
def Says (S : Sp) (w : World) (K : PySem.W.Frag) : Prop := obsK S K = valK S w
/-- what these names of the module reach, step by step -/
def lv0 (ns : List Str) (g : Addr → Option Obj) : List Addr := match g mainGlobals with
  | some ⟨_, _, .dict es _, _⟩ => es.toList.flatMap fun e => match e.key with
    | .str y _ => if ns.contains y then refV e.val else []
    | _ => []
  | _ => []
def lvs (g : Addr → Option Obj) : Nat → List Addr → List Addr
  | 0, l => l
  | n + 1, l => l ++ lvs g n (l.flatMap fun a => match g a with
    | some o => refsD o
    | none => [])
def asN (n : Nat) (ns : List Str) (g : Addr → Option Obj) : List Addr := mainGlobals :: lvs g n (lv0 ns g)
def obsG (n : Nat) (ns : List Str) (S : Sp) (g : Addr → Option Obj) : Al := obsK S (frG g (asN n ns g))
def hook (n : Nat) (ns : List Str) (S : Sp) : PySem.W.Hook where
  α := Al
  obs := fun s => obsG n ns S s.heap.get?
  val := fun w => valK S w
  says := fun w h => ∃ K : PySem.W.Frag, K.In h ∧ Says S w K
  of := fun _ _ e => ⟨_, frG_in, e⟩
  keeps := fun _ _ _ ⟨K, hK, c⟩ k => ⟨K, PySem.W.Frag.In.keeps hK k, c⟩
theorem obsG_eq {n : Nat} {ns : List Str} {S : Sp} {g : Addr → Option Obj} {s : Shared} (h : ∀ a, g a = s.heap.get? a) : obsG n ns S g = (hook n ns S).obs s := by
  have e : g = s.heap.get? := funext h
  rw [e] <;> rfl
section
variable {S : Sp} {w : World} {K : PySem.W.Frag}
theorem Says.fa (c : Says S w K) {f : Fa} (h : f ∈ S.fa) : f.ok K = true := by
  have b := Bool.and_eq_true_iff.mp (congrArg (fun z : Al => z.1) c)
  exact List.all_eq_true.mp b.1 f h
theorem Says.pr (c : Says S w K) {q : Str × Str} (h : q ∈ S.pr) : propB K q = true := by
  have b := Bool.and_eq_true_iff.mp (Bool.and_eq_true_iff.mp (Bool.and_eq_true_iff.mp (congrArg (fun z : Al => z.1) c)).2).2
  exact List.all_eq_true.mp b.1 q h
theorem Says.dd (c : Says S w K) (i : Nat) {d : Dd} (h : S.dd[i]? = some d) : ∃ fd, FunD K d.name d.qual (defArgs d.st) (defBody d.st) (defScope d.st) d.dfl [] (d.adr K) fd := by
  have b := Bool.and_eq_true_iff.mp (Bool.and_eq_true_iff.mp (congrArg (fun z : Al => z.1) c)).2
  have e : S.dd.map (fun d => fnA K (d.adr K)) = S.dd.map Dd.val := congrArg (fun z : Al => z.2.1) c
  have e2 : (S.dd.map fun d => fnA K (d.adr K))[i]? = (S.dd.map Dd.val)[i]? := by rw [e]
  rw [List.getElem?_map, List.getElem?_map, h] at e2
  exact Dd.funD (Option.some.inj e2) (List.all_eq_true.mp b.1 d (List.mem_of_getElem? h))
theorem Says.ta (c : Says S w K) (i : Nat) {x : Str} {qs : List (Str × Dt)} (h : S.ta[i]? = some (x, qs)) (nd : (qs.map (·.1)).Nodup) : ∃ kvs, WrD K w (ga K x) kvs ∧ ∀ M Z H, RepF K M Z H kvs (qs.map fun q => (q.1, q.2.d)) := by
  have b := Bool.and_eq_true_iff.mp (Bool.and_eq_true_iff.mp (Bool.and_eq_true_iff.mp (congrArg (fun z : Al => z.1) c)).2).2
  have e : S.ta.map (fun q => dicW K (ga K q.1)) = S.ta.map fun q => some (keysIn w.params (q.2.map (·.1))) := congrArg (fun z : Al => z.2.2) c
  have e2 : (S.ta.map fun q => dicW K (ga K q.1))[i]? = (S.ta.map fun q => some (keysIn w.params (q.2.map (·.1))))[i]? := by rw [e]
  rw [List.getElem?_map, List.getElem?_map, h] at e2
  exact dicB_ok (List.all_eq_true.mp (Bool.and_eq_true_iff.mp b.2).1 _ (List.mem_of_getElem? h)) (Option.some.inj e2) nd
theorem Says.sl (c : Says S w K) {x : Str} {fs : List Str} (h : (x, fs) ∈ S.sl) : SlC K (ga K x) fs := by
  have b := Bool.and_eq_true_iff.mp (Bool.and_eq_true_iff.mp (Bool.and_eq_true_iff.mp (congrArg (fun z : Al => z.1) c)).2).2
  exact slB_ok (List.all_eq_true.mp (Bool.and_eq_true_iff.mp (Bool.and_eq_true_iff.mp b.2).2).1 _ h)
theorem Says.eqs (c : Says S w K) {x : Str} (h : x ∈ S.eq) : OwnC K (ga K x) ∧ PySem.W.findIn K (.ref (ga K x)) "__ne__" = some (some (.builtin "object.__ne__")) := by
  have b := Bool.and_eq_true_iff.mp (Bool.and_eq_true_iff.mp (Bool.and_eq_true_iff.mp (congrArg (fun z : Al => z.1) c)).2).2
  exact eqB_ok (List.all_eq_true.mp (Bool.and_eq_true_iff.mp (Bool.and_eq_true_iff.mp b.2).2).2 _ h)
end
/-! ### a head's run in parts -/
def Sp.app (S T : Sp) : Sp := ⟨S.fa ++ T.fa, S.dd ++ T.dd, S.pr ++ T.pr, S.ta ++ T.ta, S.sl ++ T.sl, S.eq ++ T.eq⟩
def Sp.lo (S : Sp) (a b : Nat) : Sp := ⟨S.fa.take a, S.dd.take b, S.pr, S.ta, S.sl, S.eq⟩
def Sp.hi (S : Sp) (a b : Nat) : Sp := ⟨S.fa.drop a, S.dd.drop b, [], [], [], []⟩
theorem Sp.cut (S : Sp) (a b : Nat) : (S.lo a b).app (S.hi a b) = S := by
  obtain ⟨fa, dd, pr, ta, sl, eq⟩ := S
  unfold Sp.app Sp.lo Sp.hi
  simp only [List.take_append_drop, List.append_nil]
theorem obsK_app {S T : Sp} {w : World} {K : PySem.W.Frag} (h1 : obsK S K = valK S w) (h2 : obsK T K = valK T w) : obsK (S.app T) K = valK (S.app T) w := by
  have a1 : ((S.fa.all fun f => f.ok K) && ((S.dd.all fun d => d.ok K) && ((S.pr.all fun q => propB K q) && ((S.ta.all fun q => dicB K q) && ((S.sl.all fun q => slB K q) && S.eq.all fun x => eqB K x))))) = true := congrArg (fun z : Al => z.1) h1
  have a2 : ((T.fa.all fun f => f.ok K) && ((T.dd.all fun d => d.ok K) && ((T.pr.all fun q => propB K q) && ((T.ta.all fun q => dicB K q) && ((T.sl.all fun q => slB K q) && T.eq.all fun x => eqB K x))))) = true := congrArg (fun z : Al => z.1) h2
  have b1 : S.dd.map (fun d => fnA K (d.adr K)) = S.dd.map Dd.val := congrArg (fun z : Al => z.2.1) h1
  have b2 : T.dd.map (fun d => fnA K (d.adr K)) = T.dd.map Dd.val := congrArg (fun z : Al => z.2.1) h2
  have c1 : S.ta.map (fun q => dicW K (ga K q.1)) = S.ta.map fun q => some (keysIn w.params (q.2.map (·.1))) := congrArg (fun z : Al => z.2.2) h1
  have c2 : T.ta.map (fun q => dicW K (ga K q.1)) = T.ta.map fun q => some (keysIn w.params (q.2.map (·.1))) := congrArg (fun z : Al => z.2.2) h2
  simp only [Bool.and_eq_true] at a1 a2
  unfold obsK valK Sp.app
  simp only [List.all_append, List.map_append, a1, a2, b1, b2, c1, c2, Bool.and_self, Bool.and_true, Bool.true_and]
theorem map_pair {α β γ δ ε ζ : Type} {X : Option α} {p : α → β} {q : α → γ} {o1 : α → δ} {o2 : α → ε} {o : α → ζ} {u : β} {v : γ} {w1 : δ} {w2 : ε} {w : ζ} (h1 : X.map (fun s => (p s, q s, o1 s)) = some (u, v, w1)) (h2 : X.map (fun s => (p s, q s, o2 s)) = some (u, v, w2)) (k : ∀ s, o1 s = w1 → o2 s = w2 → o s = w) : X.map (fun s => (p s, q s, o s)) = some (u, v, w) := by
  cases X with
  | none => cases h1
  | some s =>
    have e1 := Option.some.inj h1
    have e2 := Option.some.inj h2
    show some (p s, q s, o s) = _
    rw [show p s = u from congrArg (fun z => z.1) e1, show q s = v from congrArg (fun z => z.2.1) e1, k s (congrArg (fun z => z.2.2) e1) (congrArg (fun z => z.2.2) e2)]
abbrev obT (n : Nat) (ns : List Str) (S : Sp) (s : PySem.W.SharedT) : Al := obsG n ns S (HandSHeadRun.getT s)
theorem run_cut {r : PySem.W.OpenRow} {q : Program} {n M : Nat} {ns loose : List Str} {S : Sp} {w : World} (a b : Nat) (h1 : HandSHeadRun.RunEq r q (hook n ns (S.lo a b)) (obT n ns (S.lo a b)) M loose w) (h2 : HandSHeadRun.RunEq r q (hook n ns (S.hi a b)) (obT n ns (S.hi a b)) M loose w) : HandSHeadRun.RunEq r q (hook n ns S) (obT n ns S) M loose w := fun os => by
  refine map_pair (h1 os) (h2 os) fun s e1 e2 => ?_
  have := obsK_app (S := S.lo a b) (T := S.hi a b) (w := w) e1 e2
  rw [Sp.cut] at this
  exact this
end HK
/-! PM1: plan trees, their texts, and how a text falls into its parts. No program here. -/
namespace PL
open PySem SX TL

/-- a plan: a person, an unknown crowd, so many copies, a row; false: beside, true: introduced -/
inductive T where
  | one | name (x : List Nat) | cop (s : Bool) (n : Nat) (t : T) | row (s : Bool) (ts : List T)

def opn (s : Bool) : Nat := if s then 123 else 91
def cls (s : Bool) : Nat := if s then 125 else 93
def sgn (s : Bool) : Nat := if s then 42 else 43
def sep (s : Bool) : List Nat := [32, sgn s, 32]
mutual
def txt : T → List Nat
  | .one => [49]
  | .name x => x
  | .cop s n t => opn s :: (numL n ++ 32 :: (txt t ++ [cls s]))
  | .row s ts => 40 :: (joinL (sep s) (txts ts) ++ [41])
def txts : List T → List (List Nat)
  | [] => []
  | t :: ts => txt t :: txts ts
end
theorem txts_map : ∀ ts : List T, txts ts = ts.map txt
  | [] => rfl
  | t :: ts => by rw [txts, txts_map ts, List.map_cons]

def letter (c : Nat) : Bool := decide (97 ≤ c) && decide (c ≤ 122)
mutual
/-- a plan as the texts allow it -/
def Good : T → Prop
  | .one => True
  | .name x => x ≠ [] ∧ x.length ≤ 8 ∧ ∀ c ∈ x, letter c = true
  | .cop _ n t => 2 ≤ n ∧ n ≤ 10 ^ 30 ∧ Good t
  | .row _ ts => 2 ≤ ts.length ∧ Goods ts
def Goods : List T → Prop
  | [] => True
  | t :: ts => Good t ∧ Goods ts
end
theorem goods_all : ∀ {ts : List T}, Goods ts ↔ ∀ t ∈ ts, Good t
  | [] => by simp [Goods]
  | t :: ts => by simp [Goods, goods_all (ts := ts)]
mutual
/-- nobody is unknown -/
def Told : T → Prop
  | .one => True
  | .name _ => False
  | .cop _ _ t => Told t
  | .row _ ts => Tolds ts
def Tolds : List T → Prop
  | [] => True
  | t :: ts => Told t ∧ Tolds ts
end
theorem tolds_all : ∀ {ts : List T}, Tolds ts ↔ ∀ t ∈ ts, Told t
  | [] => by simp [Tolds]
  | t :: ts => by simp [Tolds, tolds_all (ts := ts)]
mutual
def ht : T → Nat
  | .one => 0
  | .name _ => 0
  | .cop _ _ t => ht t + 1
  | .row _ ts => hts ts + 1
def hts : List T → Nat
  | [] => 0
  | t :: ts => max (ht t) (hts ts)
end
theorem hts_le : ∀ {ts : List T} {t : T}, t ∈ ts → ht t ≤ hts ts
  | u :: ts, t, h => by
    rcases List.mem_cons.mp h with rfl | h
    · exact Nat.le_max_left _ _
    · exact Nat.le_trans (hts_le h) (Nat.le_max_right _ _)

/-! ### depth of brackets -/
def wgt (c : Nat) : Int := (if c = 40 ∨ c = 91 ∨ c = 123 then 1 else 0) - (if c = 41 ∨ c = 93 ∨ c = 125 then 1 else 0)
def dep : List Nat → Int
  | [] => 0
  | c :: r => wgt c + dep r
theorem dep_app : ∀ p q : List Nat, dep (p ++ q) = dep p + dep q
  | [], q => by simp [dep]
  | c :: p, q => by rw [List.cons_append, dep, dep, dep_app p q]; omega
/-- no bracket is closed too much -/
def nn (d : Int) : List Nat → Prop
  | [] => True
  | c :: r => 0 ≤ d + wgt c ∧ nn (d + wgt c) r
theorem nn_app : ∀ (d : Int) (p q : List Nat), nn d p → nn (d + dep p) q → nn d (p ++ q)
  | d, [], q, _, h => by simpa [dep] using h
  | d, c :: p, q, h1, h2 => ⟨h1.1, nn_app _ p q h1.2 (by rw [dep] at h2; rw [show d + wgt c + dep p = d + (wgt c + dep p) by omega]; exact h2)⟩
theorem nn_up : ∀ (d e : Int) (p : List Nat), d ≤ e → nn d p → nn e p
  | _, _, [], _, _ => trivial
  | d, e, c :: p, h, q => ⟨by have := q.1; omega, nn_up _ _ p (by omega) q.2⟩
/-- .. and no blank stands outside of brackets -/
def qu (d : Int) : List Nat → Prop
  | [] => True
  | c :: r => 0 ≤ d + wgt c ∧ (d + wgt c ≠ 0 ∨ c ≠ 32) ∧ qu (d + wgt c) r
theorem qu_app : ∀ (d : Int) (p q : List Nat), qu d p → qu (d + dep p) q → qu d (p ++ q)
  | d, [], q, _, h => by simpa [dep] using h
  | d, c :: p, q, h1, h2 => ⟨h1.1, h1.2.1, qu_app _ p q h1.2.2 (by rw [dep] at h2; rw [show d + wgt c + dep p = d + (wgt c + dep p) by omega]; exact h2)⟩
theorem qu_nn : ∀ (d : Int) (p : List Nat), qu d p → nn d p
  | _, [], _ => trivial
  | d, c :: p, h => ⟨h.1, qu_nn _ p h.2.2⟩
theorem nn_qu : ∀ (d : Int) (p : List Nat), nn d p → qu (d + 1) p
  | _, [], _ => trivial
  | d, c :: p, h => ⟨by have := h.1; omega, .inl (by have := h.1; omega), by have := nn_qu _ p h.2; rw [show d + 1 + wgt c = d + wgt c + 1 by omega]; exact this⟩
theorem wgt0 {c : Nat} (h : c ≠ 40 ∧ c ≠ 91 ∧ c ≠ 123 ∧ c ≠ 41 ∧ c ≠ 93 ∧ c ≠ 125) : wgt c = 0 := by
  unfold wgt
  rw [if_neg (by omega), if_neg (by omega)]; rfl
theorem plain_dep : ∀ {p : List Nat}, (∀ c ∈ p, wgt c = 0) → dep p = 0
  | [], _ => rfl
  | c :: p, h => by rw [dep, h c List.mem_cons_self, plain_dep fun x hx => h x (List.mem_cons_of_mem _ hx)]; rfl
theorem plain_nn : ∀ {d : Int} {p : List Nat}, 0 ≤ d → (∀ c ∈ p, wgt c = 0) → nn d p
  | _, [], _, _ => trivial
  | d, c :: p, h0, h => by
    have e := h c List.mem_cons_self
    refine ⟨by rw [e]; omega, ?_⟩
    rw [e, Int.add_zero]
    exact plain_nn h0 fun x hx => h x (List.mem_cons_of_mem _ hx)
theorem plain_qu : ∀ {d : Int} {p : List Nat}, 0 ≤ d → (∀ c ∈ p, wgt c = 0 ∧ c ≠ 32) → qu d p
  | _, [], _, _ => trivial
  | d, c :: p, h0, h => by
    obtain ⟨e, e2⟩ := h c List.mem_cons_self
    refine ⟨by rw [e]; omega, .inr e2, ?_⟩
    rw [e, Int.add_zero]
    exact plain_qu h0 fun x hx => h x (List.mem_cons_of_mem _ hx)
/-- o p c, brackets around -/
theorem around_ok {o c : Nat} {p : List Nat} (ho : wgt o = 1 ∧ o ≠ 32) (hc : wgt c = -1 ∧ c ≠ 32) (hp : nn 0 p) (hd : dep p = 0) : dep (o :: (p ++ [c])) = 0 ∧ qu 0 (o :: (p ++ [c])) := by
  have e1 : dep (p ++ [c]) = -1 := by rw [dep_app, hd, dep, dep, hc.1]; rfl
  refine ⟨by rw [dep, ho.1, e1]; rfl, by rw [ho.1]; decide, .inr ho.2, ?_⟩
  rw [ho.1]
  refine qu_app _ _ _ (nn_qu 0 p hp) ⟨?_, .inr hc.2, trivial⟩
  rw [hd, hc.1]; decide
theorem wgt_opn (s : Bool) : wgt (opn s) = 1 ∧ opn s ≠ 32 := by cases s <;> decide
theorem wgt_cls (s : Bool) : wgt (cls s) = -1 ∧ cls s ≠ 32 := by cases s <;> decide
theorem wgt_num {n c : Nat} (h : c ∈ numL n) : wgt c = 0 ∧ c ≠ 32 := by
  have q := numL_digits n c h
  exact ⟨wgt0 (by omega), by omega⟩
theorem wgt_letter {c : Nat} (h : letter c = true) : wgt c = 0 ∧ c ≠ 32 := by
  simp [letter] at h
  exact ⟨wgt0 (by omega), by omega⟩
theorem sep_ok (s : Bool) : dep (sep s) = 0 ∧ nn 0 (sep s) := by cases s <;> (unfold nn dep sep sgn; simp [wgt, nn, dep])
theorem join_ok (s : Bool) : ∀ {ps : List (List Nat)}, (∀ p ∈ ps, dep p = 0 ∧ nn 0 p) → dep (joinL (sep s) ps) = 0 ∧ nn 0 (joinL (sep s) ps)
  | [], _ => ⟨rfl, trivial⟩
  | [p], h => h p List.mem_cons_self
  | p :: q :: r, h => by
    obtain ⟨h1, h2⟩ := h p List.mem_cons_self
    obtain ⟨i1, i2⟩ := join_ok s (ps := q :: r) fun x hx => h x (List.mem_cons_of_mem _ hx)
    obtain ⟨s1, s2⟩ := sep_ok s
    refine ⟨?_, ?_⟩
    · rw [joinL, dep_app, dep_app, h1, s1, i1]; rfl
    · rw [joinL]
      refine nn_app _ _ _ h2 ?_
      rw [h1]
      refine nn_app _ _ _ s2 ?_
      rw [s1]; exact i2
mutual
theorem txt_ok : ∀ {t : T}, Good t → dep (txt t) = 0 ∧ qu 0 (txt t)
  | .one, _ => by simp [txt, dep, qu, wgt]
  | .name x, h => by
    obtain ⟨h0, h1, h2⟩ := h
    rw [txt]
    exact ⟨plain_dep fun c hc => (wgt_letter (h2 c hc)).1, plain_qu (by decide) fun c hc => wgt_letter (h2 c hc)⟩
  | .cop s n t, h => by
    obtain ⟨h1, h2, h3⟩ := h
    obtain ⟨e1, e2⟩ := txt_ok h3
    rw [txt, show numL n ++ 32 :: (txt t ++ [cls s]) = (numL n ++ 32 :: txt t) ++ [cls s] by simp]
    have d0 : dep (numL n) = 0 := plain_dep fun c hc => (wgt_num hc).1
    refine around_ok (wgt_opn s) (wgt_cls s) (nn_app _ _ _ (plain_nn (by decide) fun c hc => (wgt_num hc).1) ?_) ?_
    · rw [d0]
      exact ⟨by decide, qu_nn _ _ e2⟩
    · rw [dep_app, d0, dep, e1]; decide
  | .row s ts, h => by
    rw [txt]
    obtain ⟨j1, j2⟩ := join_ok s (ps := txts ts) fun p hp => by
      obtain ⟨q1, q2⟩ := txts_ok h.2 p hp
      exact ⟨q1, qu_nn _ _ q2⟩
    exact around_ok (by decide) (by decide) j2 j1
theorem txts_ok : ∀ {ts : List T}, Goods ts → ∀ p ∈ txts ts, dep p = 0 ∧ qu 0 p
  | [], _, p, hp => by simp [txts] at hp
  | t :: ts, h, p, hp => by
    rw [txts] at hp
    rcases List.mem_cons.mp hp with rfl | hp
    · exact txt_ok h.1
    · exact txts_ok h.2 p hp
end
/-- the first sign -/
theorem txt_head {t : T} (h : Good t) : ∃ c r, txt t = c :: r ∧ c ≠ 32 ∧ c ≠ 43 ∧ c ≠ 42 := by
  cases t with
  | one => exact ⟨49, [], by rw [txt], by decide, by decide, by decide⟩
  | name x =>
    obtain ⟨h0, h1, h2⟩ := h
    cases x with
    | nil => exact absurd rfl h0
    | cons c r =>
      have q := h2 c List.mem_cons_self
      simp [letter] at q
      exact ⟨c, r, by rw [txt], by omega, by omega, by omega⟩
  | cop s n t => exact ⟨opn s, _, by rw [txt], by cases s <;> decide, by cases s <;> decide, by cases s <;> decide⟩
  | row s ts => exact ⟨40, _, by rw [txt], by decide, by decide, by decide⟩

/-! ### falling into parts -/
/-- the rest of the walk through L: at place i, depth d, begin b, found f -/
def G (L S : List Nat) : List Nat → Nat → Int → Nat → List (List Nat) → List (List Nat)
  | [], _, _, b, f => f ++ [L.drop b]
  | c :: r, i, d, b, f => if d + wgt c = 0 ∧ pre S (c :: r) = true then G L S r (i + 1) (d + wgt c) (i + S.length) (f ++ [(L.take i).drop b]) else G L S r (i + 1) (d + wgt c) b f
theorem G_qu {L : List Nat} (s : Nat) (S : List Nat) (hs : s = 32) : ∀ (p R : List Nat) (i : Nat) (d : Int) (b : Nat) (f : List (List Nat)), qu d p → G L (s :: S) (p ++ R) i d b f = G L (s :: S) R (i + p.length) (d + dep p) b f
  | [], R, i, d, b, f, _ => by simp [dep]
  | c :: p, R, i, d, b, f, h => by
    obtain ⟨h1, h2, h3⟩ := h
    rw [List.cons_append, G, if_neg, G_qu s S hs p R _ _ b f h3, dep, List.length_cons]
    · congr 1 <;> omega
    · rintro ⟨z, y⟩
      rcases h2 with h2 | h2
      · exact h2 z
      · rw [pre_of_head _ _ (by rw [hs]; exact h2)] at y
        cases y
theorem sep_len (s : Bool) : (sep s).length = 3 := rfl
theorem pre_other {x y z : Nat} {r : List Nat} (s : Bool) (h : y ≠ sgn s) : pre (sep s) (x :: y :: r) = false := by
  cases e : pre (sep s) (x :: y :: r) with
  | false => rfl
  | true =>
    unfold pre sep at e
    simp at e
    exact absurd e.2.1 h
/-- the sign itself: one more part -/
theorem G_sep {L : List Nat} (s : Bool) {c : Nat} {R : List Nat} (i b : Nat) (f : List (List Nat)) (hc : c ≠ 43 ∧ c ≠ 42) : G L (sep s) (sep s ++ (c :: R)) i 0 b f = G L (sep s) (c :: R) (i + 3) 0 (i + 3) (f ++ [(L.take i).drop b]) := by
  have w1 : wgt 32 = 0 := by decide
  have w2 : wgt (sgn s) = 0 := by cases s <;> decide
  show G L (sep s) (32 :: sgn s :: 32 :: c :: R) i 0 b f = _
  rw [G, if_pos ⟨by rw [w1]; rfl, by rw [show 32 :: sgn s :: 32 :: c :: R = sep s ++ (c :: R) from rfl]; exact pre_self _ _⟩]
  rw [G, if_neg (by rintro ⟨_, y⟩; rw [show sep s = 32 :: [sgn s, 32] from rfl, pre_of_head _ _ (by cases s <;> decide)] at y; cases y)]
  rw [G, if_neg (by rintro ⟨_, y⟩; rw [pre_other (z := 0) s (by cases s <;> simp [sgn, hc.1, hc.2])] at y; cases y)]
  rw [w1, w2]; rfl
/-- another sign: nothing -/
theorem G_no {L : List Nat} (s : Bool) {c : Nat} {R : List Nat} (i b : Nat) (f : List (List Nat)) (hc : c ≠ 43 ∧ c ≠ 42) : G L (sep s) (sep (!s) ++ (c :: R)) i 0 b f = G L (sep s) (c :: R) (i + 3) 0 b f := by
  have w1 : wgt 32 = 0 := by decide
  have w2 : wgt (sgn (!s)) = 0 := by cases s <;> decide
  show G L (sep s) (32 :: sgn (!s) :: 32 :: c :: R) i 0 b f = _
  rw [G, if_neg (by rintro ⟨_, y⟩; rw [pre_other (z := 0) s (by cases s <;> decide)] at y; cases y)]
  rw [G, if_neg (by rintro ⟨_, y⟩; rw [show sep s = 32 :: [sgn s, 32] from rfl, pre_of_head _ _ (by cases s <;> decide)] at y; cases y)]
  rw [G, if_neg (by rintro ⟨_, y⟩; rw [pre_other (z := 0) s (by cases s <;> simp [sgn, hc.1, hc.2])] at y; cases y)]
  rw [w1, w2]; rfl
theorem join_head {s : Bool} : ∀ {t : T} {ts : List T}, Good t → ∃ c r, joinL (sep s) (txts (t :: ts)) = c :: r ∧ c ≠ 43 ∧ c ≠ 42
  | t, [], h => by
    obtain ⟨c, r, e, h1, h2, h3⟩ := txt_head h
    exact ⟨c, r, by rw [txts, txts, joinL, e], h2, h3⟩
  | t, u :: ts, h => by
    obtain ⟨c, r, e, h1, h2, h3⟩ := txt_head h
    exact ⟨c, _, by rw [txts, txts, joinL, e, List.cons_append], h2, h3⟩
theorem G_join {s : Bool} : ∀ {ts : List T} {L P : List Nat} (f : List (List Nat)), ts ≠ [] → Goods ts → L = P ++ joinL (sep s) (txts ts) → G L (sep s) (joinL (sep s) (txts ts)) P.length 0 P.length f = f ++ txts ts
  | [], _, _, _, h, _, _ => absurd rfl h
  | [t], L, P, f, _, h, e => by
    obtain ⟨d0, q0⟩ := txt_ok h.1
    rw [txts, txts, joinL] at e ⊢
    have := G_qu (L := L) 32 [sgn s, 32] rfl (txt t) [] P.length 0 P.length f q0
    rw [List.append_nil] at this
    rw [show sep s = 32 :: [sgn s, 32] from rfl, this, G, e, List.drop_left]
  | t :: u :: ts, L, P, f, _, h, e => by
    obtain ⟨d0, q0⟩ := txt_ok h.1
    obtain ⟨c, R, ej, c1, c2⟩ := join_head (s := s) (ts := ts) h.2.1
    have e1 : joinL (sep s) (txts (t :: u :: ts)) = txt t ++ (sep s ++ joinL (sep s) (txts (u :: ts))) := by rw [txts, txts, joinL]
    rw [e1] at e ⊢
    rw [show G L (sep s) = G L (32 :: [sgn s, 32]) from rfl, G_qu 32 [sgn s, 32] rfl _ _ _ _ _ _ q0, d0, ej]
    show G L (sep s) (sep s ++ (c :: R)) (P.length + (txt t).length) (0 + 0) P.length f = _
    rw [show (0 : Int) + 0 = 0 from rfl, G_sep s _ _ _ ⟨c1, c2⟩]
    have e2 : (L.take (P.length + (txt t).length)).drop P.length = txt t := by
      rw [e, ← List.length_append, ← List.append_assoc, List.take_left, List.drop_left]
    have ih := G_join (s := s) (ts := u :: ts) (L := L) (P := P ++ txt t ++ sep s) (f ++ [txt t]) (by simp) h.2 (by rw [e]; simp)
    rw [ej] at ih
    rw [e2]
    have el : (P ++ txt t ++ sep s).length = P.length + (txt t).length + 3 := by simp [sep_len]; omega
    rw [el] at ih
    rw [ih, show txts (t :: u :: ts) = txt t :: txts (u :: ts) by rw [txts]]
    simp
theorem G_none {s : Bool} : ∀ {ts : List T} {L : List Nat} (i b : Nat) (f : List (List Nat)), ts ≠ [] → Goods ts → G L (sep s) (joinL (sep (!s)) (txts ts)) i 0 b f = f ++ [L.drop b]
  | [], _, _, _, _, h, _ => absurd rfl h
  | [t], L, i, b, f, _, h => by
    obtain ⟨d0, q0⟩ := txt_ok h.1
    rw [txts, txts, joinL]
    have := G_qu (L := L) 32 [sgn s, 32] rfl (txt t) [] i 0 b f q0
    rw [List.append_nil] at this
    rw [show sep s = 32 :: [sgn s, 32] from rfl, this, G]
  | t :: u :: ts, L, i, b, f, _, h => by
    obtain ⟨d0, q0⟩ := txt_ok h.1
    obtain ⟨c, R, ej, c1, c2⟩ := join_head (s := !s) (ts := ts) h.2.1
    have e1 : joinL (sep (!s)) (txts (t :: u :: ts)) = txt t ++ (sep (!s) ++ joinL (sep (!s)) (txts (u :: ts))) := by rw [txts, txts, joinL]
    rw [e1, show G L (sep s) = G L (32 :: [sgn s, 32]) from rfl, G_qu 32 [sgn s, 32] rfl _ _ _ _ _ _ q0, d0, ej]
    show G L (sep s) (sep (!s) ++ (c :: R)) (i + (txt t).length) (0 + 0) b f = _
    rw [show (0 : Int) + 0 = 0 from rfl, G_no s _ _ _ ⟨c1, c2⟩, ← ej]
    exact G_none _ _ _ (by simp) h.2
/-- what parted tells -/
def parts (L S : List Nat) : List (List Nat) := G L S L 0 0 0 []
theorem parts_join {s : Bool} {ts : List T} (h0 : ts ≠ []) (h : Goods ts) : parts (joinL (sep s) (txts ts)) (sep s) = txts ts := G_join (P := []) [] h0 h rfl
theorem parts_none {s : Bool} {ts : List T} (h0 : ts ≠ []) (h : Goods ts) : parts (joinL (sep (!s)) (txts ts)) (sep s) = [joinL (sep (!s)) (txts ts)] := G_none 0 0 [] h0 h

/-! ### numbers -/
theorem numL_head : ∀ {n : Nat}, 1 ≤ n → ∃ c r, numL n = c :: r ∧ c ≠ 48 := by
  intro n
  induction n using Nat.strongRecOn with
  | _ n ih =>
    intro h
    by_cases hn : n < 10
    · exact ⟨48 + n, [], numL_lt hn, by omega⟩
    · obtain ⟨c, r, e, hc⟩ := ih (n / 10) (by omega) (by omega)
      exact ⟨c, r ++ [48 + n % 10], by rw [numL_step (by omega), e, List.cons_append], hc⟩
end PL
namespace W
open PySem PySem.Spec PyProof.Rows L2 DL
abbrev pw : Program := PySem.Challenge.pw_greetall_k36_whole_great_seatings
def top (i : Nat) : Stmt := pw.main.body.getD i (.Pass ⟨0, 0, 0, 0⟩)
abbrev s_CrowdError___init__ : Stmt := inClass (top 1) 0
abbrev s_is_integer : Stmt := top 20
abbrev s_is_name : Stmt := top 21
abbrev s_number_in : Stmt := top 22
abbrev s_parted : Stmt := top 32
abbrev s_copies_in : Stmt := top 33
abbrev s_row_in : Stmt := top 34
abbrev s_groups_in : Stmt := top 35
abbrev s_is_plan_text : Stmt := top 36
abbrev s_names_in : Stmt := top 37
abbrev s_Plan___init__ : Stmt := inClass (top 38) 0
abbrev s_Plan_text : Stmt := inClass (top 38) 1
abbrev s_Plan_names : Stmt := inClass (top 38) 2
abbrev s_Plan_word : Stmt := inClass (top 38) 3
abbrev s_Plan_many : Stmt := inClass (top 38) 4
abbrev s_Plan_people : Stmt := inClass (top 38) 5
abbrev s_Plan_part : Stmt := inClass (top 38) 6
abbrev s_Plan_copies : Stmt := inClass (top 38) 7
abbrev s_Plan_put : Stmt := inClass (top 38) 8
abbrev s_Plan___add__ : Stmt := inClass (top 38) 9
abbrev s_Plan___mul__ : Stmt := inClass (top 38) 10
abbrev s_Plan___invert__ : Stmt := inClass (top 38) 11
abbrev s_Plan___eq__ : Stmt := inClass (top 38) 12
abbrev s_check_told : Stmt := top 39
abbrev s_row_text : Stmt := top 40
abbrev s_copies_text : Stmt := top 41
abbrev s_text_put : Stmt := top 42
abbrev s_part_at : Stmt := top 44
abbrev s_ahead_of : Stmt := top 45
abbrev s_spot_of : Stmt := top 46
abbrev s_is_person : Stmt := top 47
abbrev s_check_person : Stmt := top 48
abbrev s_nth_person : Stmt := top 49
abbrev s_place_of : Stmt := top 50
abbrev s_parts_of : Stmt := top 52
abbrev s_OneLine___init__ : Stmt := inClass (top 53) 0
abbrev s_OneLine_start : Stmt := inClass (top 53) 1
abbrev s_OneLine_row_of : Stmt := inClass (top 53) 2
abbrev s_OneLine_at : Stmt := inClass (top 53) 3
abbrev s_OneLine_spot_of : Stmt := inClass (top 53) 4
abbrev s_BesideLine___init__ : Stmt := inClass (top 54) 0
abbrev s_BesideLine_block : Stmt := inClass (top 54) 1
abbrev s_BesideLine_start : Stmt := inClass (top 54) 2
abbrev s_BesideLine_row_of : Stmt := inClass (top 54) 3
abbrev s_BesideLine_at : Stmt := inClass (top 54) 4
abbrev s_BesideLine_spot_of : Stmt := inClass (top 54) 5
abbrev s_CopiesLine___init__ : Stmt := inClass (top 55) 0
abbrev s_CopiesLine_start : Stmt := inClass (top 55) 1
abbrev s_CopiesLine_row_of : Stmt := inClass (top 55) 2
abbrev s_CopiesLine_at : Stmt := inClass (top 55) 3
abbrev s_CopiesLine_spot_of : Stmt := inClass (top 55) 4
abbrev s_Crowd___init__ : Stmt := inClass (top 56) 0
abbrev s_Crowd_at : Stmt := inClass (top 56) 1
abbrev s_Crowd_number_of : Stmt := inClass (top 56) 2
abbrev s_by_people : Stmt := top 57
abbrev s_HalvesLine___init__ : Stmt := inClass (top 58) 0
abbrev s_HalvesLine_start : Stmt := inClass (top 58) 1
abbrev s_HalvesLine_row_of : Stmt := inClass (top 58) 2
abbrev s_HalvesLine_half : Stmt := inClass (top 58) 3
abbrev s_HalvesLine_at : Stmt := inClass (top 58) 4
abbrev s_HalvesLine_spot_of : Stmt := inClass (top 58) 5
abbrev s_WovenLine___init__ : Stmt := inClass (top 59) 0
abbrev s_WovenLine_singles : Stmt := inClass (top 59) 1
abbrev s_WovenLine_piece_of : Stmt := inClass (top 59) 2
abbrev s_WovenLine_other_spot : Stmt := inClass (top 59) 3
abbrev s_WovenLine_ahead : Stmt := inClass (top 59) 4
abbrev s_WovenLine_start : Stmt := inClass (top 59) 5
abbrev s_WovenLine_row_of : Stmt := inClass (top 59) 6
abbrev s_WovenLine_at : Stmt := inClass (top 59) 7
abbrev s_WovenLine_spot_of : Stmt := inClass (top 59) 8
abbrev s_most_and_others : Stmt := top 60
abbrev s_line_of : Stmt := top 61
abbrev s_Seating___init__ : Stmt := inClass (top 62) 0
abbrev s_Seating_made : Stmt := inClass (top 62) 1
abbrev s_Seating_plan : Stmt := inClass (top 62) 2
abbrev s_Seating_rows : Stmt := inClass (top 62) 3
abbrev s_Seating_length : Stmt := inClass (top 62) 4
abbrev s_Seating_at : Stmt := inClass (top 62) 5
abbrev s_Seating_place : Stmt := inClass (top 62) 6
abbrev s__law_pot : Stmt := top 64
abbrev s__law_take : Stmt := top 65
abbrev s__law_far : Stmt := top 66
abbrev s__law_of : Stmt := top 67
abbrev s__law_cells : Stmt := top 68
abbrev s__law_person : Stmt := top 69
abbrev s__law_great : Stmt := top 70
abbrev s__law_deep : Stmt := top 71
abbrev s__law_wide : Stmt := top 72
abbrev s__law_text : Stmt := top 73
abbrev s__law_size : Stmt := top 74
abbrev s__law_parts_of : Stmt := top 75
abbrev s__law_part : Stmt := top 76
abbrev s__law_anybody : Stmt := top 77
abbrev s__law_is_known : Stmt := top 78
abbrev s__law_is_person : Stmt := top 79
abbrev s__law_both : Stmt := top 80
abbrev s__law_numbers : Stmt := top 81
abbrev s__law_is_seated : Stmt := top 82
abbrev s__law_right : Stmt := top 83
abbrev s_law : Stmt := top 84
end W
/-! C1: the text functions of the package keep their contracts. -/
namespace W
open PySem PySem.Spec PyProof.Rows L2 DL SX PL
def bns : List Str := ["isinstance", "int", "bool", "str", "len", "all", "sum", "range", "enumerate", "sorted", "set", "tuple", "list", "zip", "repr", "abs", "max", "min"]
abbrev tS (l : List Nat) : D := .str (S l)
def signsD : List (Str × D) := [("beside", .str " + "), ("introduced", .str " * ")]
def aroundD : List (Str × D) := [("beside", .tup [.str "[", .str "]"]), ("introduced", .tup [.str "{", .str "}"])]
def turnedD : List (Str × D) := [("+", .str "*"), ("*", .str "+"), ("[", .str "{"), ("{", .str "["), ("]", .str "}"), ("}", .str "]")]
/-- what is known of the module behind the top -/
structure Fx (w : World) (K : PySem.W.Frag) (mg : Str → Option Value) : Prop where
  bn : ∀ x, x ∈ bns → mg x = none
  gONE : ∃ t, mg "ONE" = some (.str "one" t)
  gNAME : ∃ t, mg "NAME" = some (.str "name" t)
  gBESIDE : ∃ t, mg "BESIDE" = some (.str "beside" t)
  gINTRODUCED : ∃ t, mg "INTRODUCED" = some (.str "introduced" t)
  gBLANK : ∃ t, mg "BLANK" = some (.str " " t)
  gLETTERS : ∃ t, mg "LETTERS" = some (.str "abcdefghijklmnopqrstuvwxyz" t)
  gFIGURES : ∃ t, mg "FIGURES" = some (.str "0123456789" t)
  gMOST_LETTERS : ∃ t, mg "MOST_LETTERS" = some (.int 8 t)
  gPERSON : ∃ t, mg "PERSON" = some (.str "1" t)
  gLEAST_MANY : ∃ t, mg "LEAST_MANY" = some (.int 2 t)
  gMOST_MANY : ∃ t, mg "MOST_MANY" = some (.int (10 ^ 30) t)
  gMOST_NAMES : ∃ t, mg "MOST_NAMES" = some (.int 3 t)
  gMOST_DEPTH : ∃ t, mg "MOST_DEPTH" = some (.int 60 t)
  gSIGNS : ∃ a kvs, mg "SIGNS" = some (.ref a) ∧ WrD K w a kvs ∧ ∀ M Z H, RepF K M Z H kvs signsD
  gAROUND : ∃ a kvs, mg "AROUND" = some (.ref a) ∧ WrD K w a kvs ∧ ∀ M Z H, RepF K M Z H kvs aroundD
  gTURNED : ∃ a kvs, mg "TURNED" = some (.ref a) ∧ WrD K w a kvs ∧ ∀ M Z H, RepF K M Z H kvs turnedD
section
variable {P : Program} {w : World} {K : PySem.W.Frag} {mg : Str → Option Value} {base : Heap}

/-! ### is_integer, is_name, number_in -/
def cIsInt : Con := fun ds M Φ => ∃ i l h, ds = [.int i, .int l, .int h] ∧ Φ (.bl (decide (l ≤ i) && decide (i ≤ h))) M
theorem ok_is_integer (F : Fx w K mg) : BodyOk P w K mg base "is_integer" s_is_integer ["value", "low", "high"] 3 0 cIsInt := by
  intro f cdv A outer s H E hr ds M Φ hl hc
  obtain ⟨i, l, h, rfl, hc⟩ := hc
  refine wss_cons (ws_if (wt_ww (ww_or (wt_not (wt_val (we_isi (F.bn _ (by decide +kernel)) (we_var 0 rfl (we_bty (F.bn _ (by decide +kernel)) rfl ⟨_, _, true, rfl, rfl, (by intro C h; cases h), rfl, _, rfl, ?_⟩))))))))
  refine ww_or1 (wt_val (we_isi (F.bn _ (by decide +kernel)) (we_var 0 rfl (we_bty (F.bn _ (by decide +kernel)) rfl ⟨_, _, false, rfl, rfl, (by intro C h; cases h), rfl, _, rfl, ?_⟩))))
  refine wss_nil (wss_cons (ws_ret (we_and (we_or (we_isN (we_var 1 rfl ⟨_, rfl, we_one (we_leI (we_var 1 rfl (we_var 0 rfl ⟨_, _, rfl, rfl, _, rfl, ?_⟩)))⟩))))))
  refine ite_dec (fun h1 => ?_) fun h1 => ?_
  · refine we_one (we_or (we_isN (we_var 2 rfl ⟨_, rfl, we_one (we_leI (we_var 0 rfl (we_var 2 rfl ⟨_, _, rfl, rfl, Lets.of ?_⟩)))⟩)))
    rw [decide_eq_true h1] at hc; exact hc
  · rw [decide_eq_false h1] at hc; exact Lets.of hc
def isNameL (l : List Nat) : Bool := decide (1 ≤ l.length) && (decide (l.length ≤ 8) && l.all letter)
theorem letters_eq : ("abcdefghijklmnopqrstuvwxyz" : Str) = S ((List.range 26).map (97 + ·)) := by decide +kernel
theorem figures_eq : ("0123456789" : Str) = S ((List.range 10).map (48 + ·)) := by decide +kernel
theorem mem_letters (c : Nat) : decide (c ∈ ("abcdefghijklmnopqrstuvwxyz" : Str).cps.toList) = letter c := by
  rw [letters_eq]
  unfold letter
  rw [← Bool.decide_and]
  apply decide_eq_decide.mpr
  show c ∈ (List.range 26).map (97 + ·) ↔ _
  simp only [List.mem_map, List.mem_range]
  constructor
  · rintro ⟨a, h, rfl⟩; omega
  · rintro ⟨h1, h2⟩; exact ⟨c - 97, by omega, by omega⟩
def figure (c : Nat) : Bool := decide (48 ≤ c) && decide (c ≤ 57)
theorem mem_figures (c : Nat) : decide (c ∈ ("0123456789" : Str).cps.toList) = figure c := by
  rw [figures_eq]
  unfold figure
  rw [← Bool.decide_and]
  apply decide_eq_decide.mpr
  show c ∈ (List.range 10).map (48 + ·) ↔ _
  simp only [List.mem_map, List.mem_range]
  constructor
  · rintro ⟨a, h, rfl⟩; omega
  · rintro ⟨h1, h2⟩; exact ⟨c - 48, by omega, by omega⟩
theorem signs_S (l : List Nat) : DL.signs (S l) = l.map fun c => D.str ⟨#[c]⟩ := rfl
theorem signs_get {l : List Nat} {i : Nat} {x : D} (h : (DL.signs (S l))[i]? = some x) : ∃ c, l[i]? = some c ∧ x = .str ⟨#[c]⟩ := by
  rw [signs_S, List.getElem?_map] at h
  obtain ⟨c, h1, rfl⟩ := Option.map_eq_some_iff.mp h
  exact ⟨c, h1, rfl⟩
theorem take_snoc {α : Type} {l : List α} {i : Nat} {c : α} (h : l[i]? = some c) : l.take (i + 1) = l.take i ++ [c] := by
  rw [List.take_add_one, h]; rfl
def cIsName : Con := fun ds M Φ => ∃ l, ds = [tS l] ∧ l.length ≤ 1000000 ∧ Φ (.bl (isNameL l)) M
theorem ok_is_name (F : Fx w K mg) : BodyOk P w K mg base "is_name" s_is_name ["value", "letter"] 1 0 cIsName := by
  intro f cdv A outer s H E hr ds M Φ hl hc
  obtain ⟨l, rfl, hl, hc⟩ := hc
  have nd : (["value", "letter"] : List Str).Nodup := by decide +kernel
  refine wss_cons (ws_if (wt_ww (ww_or (wt_not (wt_val (we_isi (F.bn _ (by decide +kernel)) (we_var 0 rfl (we_bty (F.bn _ (by decide +kernel)) rfl ⟨_, _, true, rfl, rfl, (by intro C h; cases h), rfl, _, rfl, ?_⟩))))))))
  refine ww_or1 (wt_not (wt_chainI (we_int (we_len (F.bn _ (by decide +kernel)) (we_var 0 rfl ⟨_, lenS (by rw [S_len, sizeLine_eq]; omega), _, _, rfl, rfl, ?_⟩)))))
  have e0 : ((S l).length : Int) = (l.length : Int) := by rw [S_len]
  have ret : ∀ c, isNameL l = c → Φ (.bl c) M := fun c e => e ▸ hc
  refine ite_dec (fun h1 => we_gint F.gMOST_LETTERS ⟨_, rfl, ?_⟩) fun h1 => ?_
  · by_cases h2 : ((S l).length : Int) ≤ 8
    · rw [decide_eq_true h2]
      refine wss_nil (wss_cons (ws_ret (we_all (F.bn _ (by decide +kernel)) (we_lc nd (blkOk_by (N := ["value", "letter"]) (sc := defScope s_is_name) (own := [("letter", 1)]) (by decide +kernel)) (fun _ _ _ _ _ => pg_name (i := 1) nd rfl (Or.inl rfl)) (gt_name (by decide)) (fun _ _ _ _ _ => pts_nil) tk_nil
        (wi_str (we_var 0 rfl ⟨_, rfl, ?_⟩))))))
      refine ⟨by rw [signs_S, List.length_map, sizeLine_eq]; omega, fun i acc M' => M' = M ∧ acc = (l.take i).map fun c => .bl (letter c), ⟨rfl, rfl⟩, ?_, ?_⟩
      · rintro i x acc M' hx ⟨rfl, rfl⟩ 
        obtain ⟨c, hc1, rfl⟩ := signs_get hx
        intro s1 H1 C cl fp
        refine we_inC (we_var 1 rfl (we_gstr F.gLETTERS ⟨c, _, rfl, rfl, rfl, ?_⟩))
        rw [mem_letters, take_snoc hc1, List.map_append]; rfl
      · rintro acc M' ⟨rfl, rfl⟩
        rw [signs_S, List.length_map, List.take_length]
        refine ⟨l.map letter, by rw [List.map_map]; rfl, Lets.of (ret _ ?_)⟩
        unfold isNameL
        rw [decide_eq_true (show 1 ≤ l.length by omega), decide_eq_true (show l.length ≤ 8 by omega)]
        simp
    · rw [decide_eq_false h2]
      refine wss_cons (ws_ret (we_bl (Lets.of (ret _ ?_))))
      unfold isNameL
      rw [decide_eq_false (show ¬ l.length ≤ 8 by omega)]; simp
  · refine wss_cons (ws_ret (we_bl (Lets.of (ret _ ?_))))
    unfold isNameL
    rw [decide_eq_false (show ¬ 1 ≤ l.length by omega)]; rfl
end
end W
/-! C2: number_in, parted. -/
namespace W
open PySem PySem.Spec PyProof.Rows L2 DL SX PL
section
variable {P : Program} {w : World} {K : PySem.W.Frag} {mg : Str → Option Value} {base : Heap}
theorem num_len {n : Nat} (h : n ≤ 10 ^ 30) : (TL.numL n).length ≤ 31 := TL.numL_len (by decide) (Nat.lt_of_le_of_lt h (by decide))
theorem num_int (n : Nat) (h : n ≤ 10 ^ 30) : PySem.intText? (S (TL.numL n)) = some (n : Int) := by
  rw [← num_S]
  exact TL.int_num (by have := num_len h; omega)
def cNumberIn : Con := fun ds M Φ => ∃ n : Nat, ds = [tS (TL.numL n)] ∧ 1 ≤ n ∧ n ≤ 10 ^ 30 ∧ Φ (.int n) M
theorem ok_number_in (F : Fx w K mg) : BodyOk P w K mg base "number_in" s_number_in ["text", "figure"] 1 0 cNumberIn := by
  intro f cdv A outer s H E hr ds M Φ hl hc
  obtain ⟨n, rfl, n1, n2, hc⟩ := hc
  have nd : (["text", "figure"] : List Str).Nodup := by decide +kernel
  obtain ⟨c, r, ec, c48⟩ := numL_head n1
  have hlen := num_len n2
  have e1 : decide (S (TL.numL n) = ("" : Str)) = false := decide_eq_false fun h => by
    have := S_inj (h.trans (show ("" : Str) = S [] by decide +kernel))
    rw [ec] at this; cases this
  have e2 : decide (S (TL.numL n) = ("0" : Str)) = false := decide_eq_false fun h => by
    have := S_inj (h.trans (show ("0" : Str) = S [48] by decide +kernel))
    rw [ec] at this; injection this with h1 _; exact c48 h1
  refine wss_cons (ws_if (wt_ww (ww_or (wt_eqS (we_var 0 rfl (we_str ⟨_, rfl, ?_⟩))))))
  rw [e1]
  refine ww_or1 (wt_not (wt_val (we_all (F.bn _ (by decide +kernel)) (we_lc nd (blkOk_by (N := ["text", "figure"]) (sc := defScope s_number_in) (own := [("figure", 1)]) (by decide +kernel)) (fun _ _ _ _ _ => pg_name (i := 1) nd rfl (Or.inl rfl)) (gt_name (by decide)) (fun _ _ _ _ _ => pts_nil) tk_nil
        (wi_str (we_var 0 rfl ⟨_, rfl, ?_⟩))))))
  refine ⟨by rw [signs_S, List.length_map, sizeLine_eq]; omega, fun i acc M' => M' = M ∧ acc = ((TL.numL n).take i).map fun c => .bl (figure c), ⟨rfl, rfl⟩, ?_, ?_⟩
  · rintro i x acc M' hx ⟨rfl, rfl⟩
    obtain ⟨c, hc1, rfl⟩ := signs_get hx
    intro s1 H1 C cl fp
    refine we_inC (we_var 1 rfl (we_gstr F.gFIGURES ⟨c, _, rfl, rfl, rfl, ?_⟩))
    rw [mem_figures, take_snoc hc1, List.map_append]; rfl
  · rintro acc M' ⟨rfl, rfl⟩
    rw [signs_S, List.length_map, List.take_length]
    refine ⟨(TL.numL n).map figure, by rw [List.map_map]; rfl, _, rfl, ?_⟩
    have e3 : ((TL.numL n).map figure).all id = true := by
      rw [List.all_map]
      refine List.all_eq_true.mpr fun c hc => ?_
      have q := TL.numL_digits n c hc
      show (decide (48 ≤ c) && decide (c ≤ 57)) = true
      rw [decide_eq_true q.1, decide_eq_true q.2]; rfl
    rw [e3]
    refine wss_nil (wss_cons (ws_ret (we_if (wt_ww (ww_or (wt_eqS (we_var 0 rfl (we_str ⟨_, rfl, ?_⟩))))))))
    rw [e2]
    refine ww_or1 (wt_neS (we_ix (we_var 0 rfl (we_int ⟨0, _, rfl, .inr (.inr ⟨_, c, rfl, by rw [S_len, sizeLine_eq]; omega, by show atI (TL.numL n) 0 = some c; rw [ec]; exact atI_nat (j := 0) rfl, rfl⟩), we_str ⟨_, rfl, ?_⟩⟩))))
    have e4 : decide ((⟨#[c]⟩ : Str) = ("0" : Str)) = false := decide_eq_false fun h => by
      have := S_inj (a := [c]) (h.trans (show ("0" : Str) = S [48] by decide +kernel))
      injection this with h1 _; exact c48 h1
    rw [e4]
    exact we_intS (F.bn _ (by decide +kernel)) (we_var 0 rfl ⟨_, _, rfl, num_int n n2, by rw [S_len]; omega, Lets.of hc⟩)

/-! ### parted -/
theorem cut_bi (l : List Nat) (b i : Nat) (h : i ≤ l.length) : cutS (S l) (some (b : Int)) (some (i : Int)) = S ((l.take i).drop b) := by
  unfold cutS
  rw [S_len, HT.sIx_nat, HT.sIx_nat, Nat.min_eq_left h]
  show S ((l.drop (min b l.length)).take (i - min b l.length)) = _
  congr 1
  by_cases hb : b ≤ l.length
  · rw [Nat.min_eq_left hb, List.drop_take]
  · rw [Nat.min_eq_right (by omega), List.drop_length, List.drop_eq_nil_of_le (by rw [List.length_take]; omega)]; simp
theorem cut_b (l : List Nat) (b : Nat) : cutS (S l) (some (b : Int)) none = S (l.drop b) := by
  unfold cutS
  rw [S_len, HT.sIx_nat, HT.sIx_none]
  show S ((l.drop (min b l.length)).take (l.length - min b l.length)) = _
  congr 1
  by_cases hb : b ≤ l.length
  · rw [Nat.min_eq_left hb]; exact List.take_of_length_le (by rw [List.length_drop]; omega)
  · rw [Nat.min_eq_right (by omega), List.drop_length, List.drop_eq_nil_of_le (by omega)]; simp
theorem starts_at {l s : List Nat} (hs : s ≠ []) (i : Nat) (hi : i ≤ l.length) : Txt.startswith3 (S l) (S s) (i : Int) = TL.pre s (l.drop i) := by
  have e : PySem.fromIndex (S l).length (i : Int) = i := by
    rw [S_len]; unfold PySem.fromIndex; rw [if_neg (by omega)]; omega
  unfold Txt.startswith3
  rw [e]
  have q := TL.at_iff (x := S l) (y := S s) hs i
  cases hp : TL.pre s (l.drop i) with
  | true =>
    obtain ⟨h1, h2⟩ := q.mpr hp
    rw [h2, decide_eq_true h1]; rfl
  | false =>
    cases h1 : decide (i + (S s).length ≤ (S l).length) with
    | false => rfl
    | true =>
      cases h2 : Builtin.Str.subAt (S l) (S s) i with
      | false => rfl
      | true =>
        have := q.mp ⟨of_decide_eq_true h1, h2⟩
        rw [show TL.pre (TL.tl (S s)) ((TL.tl (S l)).drop i) = TL.pre s (l.drop i) from rfl, hp] at this
        cases this
theorem enumS_get {l : List Nat} {i : Nat} {x : D} (h : (enumS (S l))[i]? = some x) : ∃ c, l[i]? = some c ∧ x = .tup [.int (i : Nat), .str ⟨#[c]⟩] := by
  unfold enumS at h
  rw [List.getElem?_map] at h
  obtain ⟨j, h1, rfl⟩ := Option.map_eq_some_iff.mp h
  obtain ⟨h2, rfl⟩ := List.getElem?_eq_some_iff.mp h1
  rw [List.length_range] at h2
  rw [List.getElem_range]
  have h3 : i < l.length := by simpa using h2
  refine ⟨l[i], List.getElem?_eq_getElem h3, ?_⟩
  have : (S l).cps.getD i 0 = l[i] := by simp [Array.getD, h3]
  rw [this]
theorem enumS_len (l : List Nat) : (enumS (S l)).length = l.length := by simp [enumS]
theorem opens (c : Nat) : decide (c ∈ ("([{" : Str).cps.toList) = decide (c = 40 ∨ c = 91 ∨ c = 123) := by
  rw [show ("([{" : Str) = S [40, 91, 123] by decide +kernel]
  simp
theorem closes (c : Nat) : decide (c ∈ (")]}" : Str).cps.toList) = decide (c = 41 ∨ c = 93 ∨ c = 125) := by
  rw [show (")]}" : Str) = S [41, 93, 125] by decide +kernel]
  simp
theorem wgt_code (d : Int) (c : Nat) : d + (if decide (c ∈ ("([{" : Str).cps.toList) = true then 1 else 0) - (if decide (c ∈ (")]}" : Str).cps.toList) = true then 1 else 0) = d + wgt c := by
  rw [opens, closes]
  unfold wgt
  simp only [decide_eq_true_eq]
  omega
def cParted : Con := fun ds M Φ => ∃ l b, ds = [tS l, tS (sep b)] ∧ l.length ≤ 1000000 ∧ Φ (.lst ((parts l (sep b)).map tS)) M
theorem les_new {M : Mp} {p : Addr} {o : MO} (h : M p = none) : Les M (mset M p o) := fun b => by
  by_cases e : b = p
  · rw [e]; exact .inr h
  · rw [mset_ne e]; exact .inl rfl
theorem ok_parted (F : Fx w K mg) : BodyOk P w K mg base "parted" s_parted ["text", "sign", "found", "depth", "begin", "at", "letter"] 2 0 cParted := by
  intro f cdv A outer s H E hr ds M Φ hl hc
  obtain ⟨l, sb, rfl, hl, hc⟩ := hc
  have nd : (["text", "sign", "found", "depth", "begin", "at", "letter"] : List Str).Nodup := by decide +kernel
  refine wss_cons (ws_set 2 nd (we_lstM (wa_nil ⟨by decide, fun p hp => ?_⟩)))
  refine wss_cons (ws_set 3 nd (we_int ?_))
  refine wss_cons (ws_set 4 nd (we_int ?_))
  refine wss_cons (ws_for PassesOwn.never (wi_enumS (F.bn _ (by decide +kernel)) (we_var 0 rfl ⟨_, rfl, ?_⟩)))
  refine ⟨fun i ρ' M' => ∃ o1 o2 d b fo, ρ' = [some (tS l), some (tS (sep sb)), some (.ob p), some (.int d), some (.int (b : Nat)), o1, o2] ∧ M' = mset M p (.lst (fo.map tS)) ∧ fo.length ≤ i ∧ G l (sep sb) (l.drop i) i d b fo = parts l (sep sb), ?_, ?_, ?_⟩
  · exact ⟨none, none, 0, 0, [], rfl, rfl, Nat.le_refl _, rfl⟩
  · rintro i x ρ' M' hx ⟨o1, o2, d, b, fo, rfl, rfl, hf, hG⟩
    obtain ⟨c, hc1, rfl⟩ := enumS_get hx
    have hi : i < l.length := (List.getElem?_eq_some_iff.mp hc1).1
    refine wg_tup ⟨rfl, rfl, wgs_cons (wg_name 5 (wgs_cons (wg_name 6 (wgs_nil ⟨rfl, ?_⟩) nd)) nd)⟩
    refine wss_cons (ws_set 3 nd (we_subI (we_addI (we_var 3 rfl (we_intN (F.bn _ (by decide +kernel)) (we_inC (we_var 6 rfl (we_str ⟨c, _, rfl, rfl, .inr ⟨_, rfl, _, _, rfl, rfl, ?_⟩⟩))))))))
    refine we_intN (F.bn _ (by decide +kernel)) (we_inC (we_var 6 rfl (we_str ⟨c, _, rfl, rfl, .inr ⟨_, rfl, _, _, rfl, rfl, ?_⟩⟩)))
    rw [wgt_code]
    have ed : l.drop i = c :: l.drop (i + 1) := by
      rw [List.drop_eq_getElem_cons hi]
      rw [List.getElem?_eq_getElem hi] at hc1; cases hc1; rfl
    rw [ed, PL.G] at hG
    refine wss_cons (ws_if (wt_ww (ww_and (wt_eqS (we_var 3 rfl (we_int ⟨_, rfl, ?_⟩))))))
    by_cases h0 : d + wgt c = 0
    · rw [decide_eq_true h0]
      refine ww_and1 (wt_val (we_startsAt (we_var 0 rfl ⟨_, rfl, we_var 1 rfl (we_var 5 rfl ⟨_, _, rfl, rfl, _, rfl, ?_⟩)⟩)))
      rw [starts_at (by simp [sep]) i (by omega), ed]
      cases hp2 : TL.pre (sep sb) (c :: l.drop (i + 1)) with
      | true =>
        rw [if_pos ⟨h0, hp2⟩] at hG
        refine wss_cons (ws_expr (we_append (we_var 2 rfl ⟨p, _, rfl, mset_same, we_slice (we_var 0 rfl (we_var 4 rfl ⟨_, rfl, we_var 5 rfl ⟨_, rfl, _, .inr (.inr ⟨_, rfl, by rw [S_len, sizeLine_eq]; omega, rfl⟩), _, mset_same, by rw [List.length_map, sizeLine_eq]; omega, ?_⟩⟩))⟩)))
        rw [mset_mset, cut_bi _ _ _ (by omega)]
        refine wss_cons (ws_set 4 nd (we_addI (we_var 5 rfl (we_len (F.bn _ (by decide +kernel)) (we_var 1 rfl ⟨_, lenS (by rw [S_len, sizeLine_eq, sep_len]; omega), _, _, rfl, rfl, wss_nil (wss_nil ?_)⟩)))))
        refine ⟨some (.int (i : Nat)), some (.str ⟨#[c]⟩), d + wgt c, i + 3, fo ++ [(l.take i).drop b], ?_, ?_, by rw [List.length_append, List.length_singleton]; omega, hG⟩
        · rw [S_len, sep_len]
          rfl
        · rw [List.map_append]; rfl
      | false =>
        rw [if_neg (by rintro ⟨_, y⟩; rw [hp2] at y; cases y)] at hG
        exact wss_nil (wss_nil ⟨_, _, _, b, fo, rfl, rfl, by omega, hG⟩)
    · rw [decide_eq_false h0]
      rw [if_neg (fun y => h0 y.1)] at hG
      exact wss_nil (wss_nil ⟨_, _, _, b, fo, rfl, rfl, by omega, hG⟩)
  · rintro ρ' M' ⟨o1, o2, d, b, fo, rfl, rfl, hf, hG⟩
    rw [enumS_len] at hG hf
    rw [List.drop_length, PL.G] at hG
    refine wss_cons (ws_ret (we_lst (wa_star (we_var 2 rfl ⟨_, .inl mset_same, wa_cons (we_slice (we_var 0 rfl (we_var 4 rfl ⟨_, rfl, _, .inr (.inr ⟨_, rfl, by rw [S_len, sizeLine_eq]; omega, rfl⟩), wa_nil fun ys ey => ⟨?_, ?_⟩⟩)))⟩))))
    · rw [ey, List.length_append, List.length_map, List.length_singleton, sizeLine_eq]; omega
    · refine ⟨_, M, les_new hp, .same _, ?_⟩
      rw [ey, cut_b]
      rw [← hG, List.map_append] at hc
      exact hc
end
end W
/-! C3: copies_in, row_in, groups_in. -/
namespace W
open PySem PySem.Spec PyProof.Rows L2 DL SX PL
section
variable {P : Program} {w : World} {K : PySem.W.Frag} {mg : Str → Option Value} {base : Heap}
theorem le30 {n : Nat} (h : n ≤ 10 ^ 30) : (n : Int) ≤ 10 ^ 30 := by
  have e : ((10 ^ 30 : Nat) : Int) = 10 ^ 30 := by decide +kernel
  omega
theorem sz1 : 1 ≤ sizeLine := by decide
theorem sz2 : 2 ≤ sizeLine := by decide
theorem sz3 : 3 ≤ sizeLine := by decide
def wrd (b : Bool) : Str := if b then "introduced" else "beside"
theorem starts1 (c d : Nat) (r : List Nat) : Txt.startswith (S (c :: r)) (S [d]) = decide (c = d) := by
  have q := TL.at_iff (x := S (c :: r)) (y := S [d]) (by simp [TL.tl]) 0
  have e : TL.pre (TL.tl (S [d])) ((TL.tl (S (c :: r))).drop 0) = decide (c = d) := by
    show TL.pre [d] (c :: r) = _
    unfold TL.pre
    simp
    rfl
  rw [e] at q
  unfold Txt.startswith
  rw [S_len, S_len]
  rw [show decide (0 + [d].length ≤ (c :: r).length) = true from decide_eq_true (by simp), Bool.true_and]
  by_cases h : c = d
  · rw [decide_eq_true h] at q ⊢
    exact (q.mpr rfl).2
  · rw [decide_eq_false h] at q ⊢
    cases hs : Builtin.Str.subAt (S (c :: r)) (S [d]) 0 with
    | false => rfl
    | true => exact absurd (q.mp ⟨by rw [S_len, S_len]; simp, hs⟩) (by decide)
theorem ends1 (c d : Nat) (r : List Nat) : Txt.endswith (S (r ++ [c])) (S [d]) = decide (c = d) := by
  have q := TL.at_iff (x := S (r ++ [c])) (y := S [d]) (by simp [TL.tl]) r.length
  have e : TL.pre (TL.tl (S [d])) ((TL.tl (S (r ++ [c]))).drop r.length) = decide (c = d) := by
    show TL.pre [d] ((r ++ [c]).drop r.length) = _
    rw [List.drop_left]
    unfold TL.pre
    simp
    rfl
  rw [e] at q
  unfold Txt.endswith
  have el : (S (r ++ [c])).length - (S [d]).length = r.length := by rw [S_len, S_len]; simp
  rw [el, S_len, S_len]
  rw [show decide (0 + [d].length ≤ (r ++ [c]).length) = true from decide_eq_true (by simp), Bool.true_and]
  by_cases h : c = d
  · rw [decide_eq_true h] at q ⊢
    exact (q.mpr rfl).2
  · rw [decide_eq_false h] at q ⊢
    cases hs : Builtin.Str.subAt (S (r ++ [c])) (S [d]) r.length with
    | false => rfl
    | true => exact absurd (q.mp ⟨by rw [S_len, S_len]; simp, hs⟩) (by decide)
theorem cut_mid (o c : Nat) (m : List Nat) : cutS (S (o :: (m ++ [c]))) (some 1) (some (-1)) = S m := by
  unfold cutS
  rw [S_len, show (some (1 : Int)) = some ((1 : Nat) : Int) from rfl, HT.sIx_nat]
  have e1 : (o :: (m ++ [c])).length = m.length + 2 := by simp
  have e2 : HT.sIx (o :: (m ++ [c])).length (o :: (m ++ [c])).length (some (-1)) = m.length + 1 := by
    rw [e1]; simp only [HT.sIx]; rw [if_pos (by decide)]; omega
  rw [e2, e1, Nat.min_eq_left (by omega)]
  show S (((m ++ [c]).drop 0).take (m.length + 1 - 1)) = _
  rw [List.drop_zero, Nat.add_sub_cancel, List.take_left]
theorem br_S (b : Bool) : (S [opn b], S [cls b]) = (if b then (("{" : Str), ("}" : Str)) else (("[" : Str), ("]" : Str))) := by
  cases b <;> decide +kernel
theorem around_get {i : Nat} {x : D} (h : (gitems aroundD)[i]? = some x) : ∃ b : Bool, x = .tup [.str (wrd b), .tup [tS [opn b], tS [cls b]]] ∧ i = if b then 1 else 0 := by
  match i, h with
  | 0, h =>
    cases h
    refine ⟨false, ?_, rfl⟩
    have := br_S false
    injection this with h1 h2
    rw [tS, tS, h1, h2]; rfl
  | 1, h =>
    cases h
    refine ⟨true, ?_, rfl⟩
    have := br_S true
    injection this with h1 h2
    rw [tS, tS, h1, h2]; rfl
  | n + 2, h => simp [gitems, aroundD] at h
theorem sep_S (b : Bool) : S (sep b) = (if b then (" * " : Str) else (" + " : Str)) := by cases b <;> decide +kernel
theorem signs_of {i : Nat} {x : D} (h : (gitems signsD)[i]? = some x) : ∃ b : Bool, x = .tup [.str (wrd b), tS (sep b)] ∧ i = if b then 1 else 0 := by
  match i, h with
  | 0, h => cases h; refine ⟨false, ?_, rfl⟩; rw [tS, sep_S]; rfl
  | 1, h => cases h; refine ⟨true, ?_, rfl⟩; rw [tS, sep_S]; rfl
  | n + 2, h => simp [gitems, signsD] at h
/-- the first sign, and no bracket of copies -/
theorem txt_no {t : T} (h : Good t) (hn : ∀ s n u, t ≠ .cop s n u) : ∃ c r, txt t = c :: r ∧ ∀ b, c ≠ opn b := by
  cases t with
  | one => exact ⟨49, [], by rw [txt], fun b => by cases b <;> decide⟩
  | name x =>
    obtain ⟨h0, h1, h2⟩ := h
    cases x with
    | nil => exact absurd rfl h0
    | cons c r =>
      have q := h2 c List.mem_cons_self
      simp [letter] at q
      exact ⟨c, r, by rw [txt], fun b => by cases b <;> simp [opn] <;> omega⟩
  | cop s n u => exact absurd rfl (hn s n u)
  | row s ts => exact ⟨40, _, by rw [txt], fun b => by cases b <;> decide⟩
def copR : T → D
  | .cop s n t => .tup [.str (wrd s), .lst [.tup [.int (n : Nat), tS (txt t)]]]
  | _ => .non
theorem opn_inj {a b : Bool} : decide (opn a = opn b) = decide (a = b) := by cases a <;> cases b <;> decide
theorem cls_inj {a b : Bool} : decide (cls a = cls b) = decide (a = b) := by cases a <;> cases b <;> decide
def cCopiesIn : Con := fun ds M Φ => ∃ t, ds = [tS (txt t)] ∧ Good t ∧ (txt t).length ≤ 1000000 ∧ Φ (copR t) M
theorem ok_copies_in (F : Fx w K mg) (Fn : Fc P w K mg base "number_in" [] 1 1 cNumberIn) : BodyOk P w K mg base "copies_in" s_copies_in ["text", "word", "head", "end", "number", "blank", "rest", "many"] 1 1 cCopiesIn := by
  intro f cdv A outer s H E hr ds M Φ hl hc
  obtain ⟨t, rfl, hg, hl, hc⟩ := hc
  have nd : (["text", "word", "head", "end", "number", "blank", "rest", "many"] : List Str).Nodup := by decide +kernel
  obtain ⟨a, kvs, h1, h2, h3⟩ := F.gAROUND
  refine wss_cons (ws_for PassesOwn.never (wi_gitems h1 h2 h3 ?_))
  refine ⟨fun i ρ' M' => ∃ o1 o2 o3 o4 o5 o6 o7, ρ' = [some (tS (txt t)), o1, o2, o3, o4, o5, o6, o7] ∧ M' = M ∧ ∀ s n u, t = .cop s n u → i ≤ if s then 1 else 0, ?_, ?_, ?_⟩
  · exact ⟨none, none, none, none, none, none, none, rfl, rfl, fun s n u _ => Nat.zero_le _⟩
  · rintro i x ρ' M' hx ⟨o1, o2, o3, o4, o5, o6, o7, rfl, rfl, hi⟩
    obtain ⟨b, rfl, rfl⟩ := around_get hx
    refine wg_tup ⟨rfl, rfl, wgs_cons (wg_name 1 (wgs_cons (wg_tup ⟨rfl, rfl, wgs_cons (wg_name 2 (wgs_cons (wg_name 3 (wgs_nil ⟨rfl, wgs_nil ⟨rfl, ?_⟩⟩) nd)) nd)⟩)) nd)⟩
    refine wss_cons (ws_if (wt_ww (ww_and (wt_val (we_startswith (we_var 0 rfl ⟨_, rfl, we_var 2 rfl ⟨_, rfl, _, rfl, ?_⟩⟩))))))
    by_cases hcop : ∃ s n u, t = .cop s n u
    · obtain ⟨s, n, u, rfl⟩ := hcop
      obtain ⟨n1, n2, hu⟩ := hg
      have et : txt (.cop s n u) = opn s :: ((TL.numL n ++ 32 :: txt u) ++ [cls s]) := by rw [txt]; simp
      have hl2 : (TL.numL n).length + (txt u).length + 3 ≤ 1000000 := by rw [et] at hl; simp at hl; omega
      rw [et, starts1, opn_inj]
      by_cases hs : s = b
      · subst hs
        rw [decide_eq_true rfl]
        refine ww_and1 (wt_val (we_endswith (we_var 0 (by rfl) ⟨_, rfl, we_var 3 rfl ⟨_, rfl, _, rfl, ?_⟩⟩)))
        rw [show opn s :: ((TL.numL n ++ 32 :: txt u) ++ [cls s]) = (opn s :: (TL.numL n ++ 32 :: txt u)) ++ [cls s] from rfl, ends1, decide_eq_true rfl]
        refine wss_cons (ws_asg (we_partition (we_slice (we_var 0 rfl (we_int ⟨1, rfl, we_negI (we_int ⟨1, rfl, _, rfl, _, .inr (.inr ⟨_, rfl, ?_, rfl⟩), _, rfl, we_gstr F.gBLANK ⟨_, rfl, ?_, ?_, ?_⟩⟩)⟩)))))
        · rw [S_len, sizeLine_eq]; simp; omega
        · decide +kernel
        · refine Nat.le_trans (cutS_length _ _ _) ?_
          rw [S_len, sizeLine_eq]; simp; omega
        · rw [show (opn s :: (TL.numL n ++ 32 :: txt u)) ++ [cls s] = opn s :: ((TL.numL n ++ 32 :: txt u) ++ [cls s]) from rfl, cut_mid, show (" " : Str) = S [32] by decide +kernel]
          have hp : Txt.partition (S (TL.numL n ++ 32 :: txt u)) (S [32]) = (S (TL.numL n), S [32], S (txt u)) :=
            partition_some (by simp) (par_head (c := 32) (sep := []) (p := TL.numL n) (txt u) (TL.numL_free (by omega)))
          rw [hp]
          refine wg_tup ⟨rfl, rfl, wgs_cons (wg_name 4 (wgs_cons (wg_name 5 (wgs_cons (wg_name 6 (wgs_nil ⟨rfl, ?_⟩) nd)) nd)) nd)⟩
          refine wss_cons (ws_set 7 nd (we_call Fn (hr.mono (by decide)) (wa_cons (we_var 4 rfl (wa_nil ⟨rfl, n, rfl, by omega, n2, ?_⟩)))))
          refine wss_cons (ws_if (wt_ww (ww_and (wt_notN (we_var 7 rfl ?_)))))
          refine ww_and1 (wt_chainI (we_gint F.gLEAST_MANY (we_var 7 rfl ⟨_, _, rfl, rfl, ?_⟩)))
          rw [decide_eq_true (show (2 : Int) ≤ (n : Int) by omega)]
          refine we_gint F.gMOST_MANY ⟨_, rfl, ?_⟩
          rw [decide_eq_true (le30 n2)]
          refine wss_cons (ws_ret (we_tup (wa_cons (we_var 1 rfl (wa_cons (we_lst (wa_cons (we_tup (wa_cons (we_var 7 rfl (wa_cons (we_var 6 rfl (wa_nil ⟨sz2, wa_nil ⟨sz1, wa_nil ⟨sz2, Lets.of hc⟩⟩⟩)))))))))))))
      · rw [decide_eq_false hs]
        refine wss_nil (wss_nil ⟨_, _, _, _, _, _, _, rfl, rfl, fun s' n' u' e => ?_⟩)
        cases e
        have := hi s n u rfl
        cases s <;> cases b <;> simp_all
    · obtain ⟨c, r, et, hno⟩ := txt_no hg fun s n u e => hcop ⟨s, n, u, e⟩
      rw [et, starts1, decide_eq_false (hno b)]
      exact wss_nil (wss_nil ⟨_, _, _, _, _, _, _, by rw [← et]; rfl, rfl, fun s' n' u' e => absurd ⟨s', n', u', e⟩ hcop⟩)
  · rintro ρ' M' ⟨o1, o2, o3, o4, o5, o6, o7, rfl, rfl, hi⟩
    refine wss_cons (ws_ret (we_non (Lets.of ?_)))
    cases t with
    | cop s n u =>
      have := hi s n u rfl
      cases s <;> simp [gitems, aroundD] at this
    | one => exact hc
    | name x => exact hc
    | row s ts => exact hc

/-! ### row_in -/
def rowR (s : Bool) (ts : List T) : D := .tup [.str (wrd s), .lst (ts.map fun t => .tup [.int 1, tS (txt t)])]
theorem txts_len (ts : List T) : (txts ts).length = ts.length := by rw [txts_map, List.length_map]
theorem joins_len (s : Bool) : ∀ (ps : List (List Nat)), ps.length ≤ (TL.joinL (sep s) ps).length + 1
  | [] => Nat.zero_le _
  | [p] => by simp
  | p :: q :: r => by
    have ih := joins_len s (q :: r)
    rw [TL.joinL, List.length_append, List.length_append, sep_len]
    simp only [List.length_cons] at ih ⊢
    omega
theorem row_txt (s : Bool) (ts : List T) : txt (.row s ts) = 40 :: (TL.joinL (sep s) (txts ts) ++ [41]) := by rw [txt]
theorem row_len (s : Bool) (ts : List T) : (txt (.row s ts)).length = (TL.joinL (sep s) (txts ts)).length + 2 := by rw [row_txt]; simp
def cRowIn : Con := fun ds M Φ => ∃ s ts, ds = [tS (txt (.row s ts))] ∧ Good (.row s ts) ∧ (txt (.row s ts)).length ≤ 1000000 ∧ Φ (rowR s ts) M
theorem ok_row_in (F : Fx w K mg) (Fp : Fc P w K mg base "parted" [] 1 2 cParted) : BodyOk P w K mg base "row_in" s_row_in ["text", "word", "sign", "parts", "part"] 1 1 cRowIn := by
  intro f cdv A outer s H E hr ds M Φ hl hc
  obtain ⟨b, ts, rfl, ⟨hg1, hg⟩, hl, hc⟩ := hc
  have nd : (["text", "word", "sign", "parts", "part"] : List Str).Nodup := by decide +kernel
  obtain ⟨a, kvs, h1, h2, h3⟩ := F.gSIGNS
  have hz := row_len b ts
  have hn : ts ≠ [] := by rintro rfl; simp at hg1
  have hj := joins_len b (txts ts)
  rw [txts_len] at hj
  refine wss_cons (ws_if (wt_ww (ww_or (wt_not (wt_val (we_startswith (we_var 0 rfl ⟨_, rfl, we_str ⟨_, rfl, _, rfl, ?_⟩⟩)))))))
  have e1 : Txt.startswith (S (txt (.row b ts))) ("(" : Str) = true := by rw [row_txt, show ("(" : Str) = S [40] by decide +kernel, starts1, decide_eq_true rfl]
  have e2 : Txt.endswith (S (txt (.row b ts))) (")" : Str) = true := by rw [row_txt, show (")" : Str) = S [41] by decide +kernel, show 40 :: (TL.joinL (sep b) (txts ts) ++ [41]) = (40 :: TL.joinL (sep b) (txts ts)) ++ [41] from rfl, ends1, decide_eq_true rfl]
  rw [e1]
  refine ww_or1 (wt_not (wt_val (we_endswith (we_var 0 rfl ⟨_, rfl, we_str ⟨_, rfl, _, rfl, ?_⟩⟩))))
  rw [e2]
  refine wss_nil (wss_cons (ws_for PassesOwn.never (wi_gitems h1 h2 h3 ?_)))
  refine ⟨fun i ρ' M' => ∃ o1 o2 o3 o4, ρ' = [some (tS (txt (.row b ts))), o1, o2, o3, o4] ∧ M' = M ∧ i ≤ if b then 1 else 0, ?_, ?_, ?_⟩
  · exact ⟨none, none, none, none, rfl, rfl, Nat.zero_le _⟩
  · rintro i x ρ' M' hx ⟨o1, o2, o3, o4, rfl, rfl, hi⟩
    obtain ⟨c, rfl, rfl⟩ := signs_of hx
    refine wg_tup ⟨rfl, rfl, wgs_cons (wg_name 1 (wgs_cons (wg_name 2 (wgs_nil ⟨rfl, ?_⟩) nd)) nd)⟩
    refine wss_cons (ws_set 3 nd (we_call Fp (hr.mono (by decide)) (wa_cons (we_slice (we_var 0 rfl (we_int ⟨1, rfl, we_negI (we_int ⟨1, rfl, _, rfl, _, .inr (.inr ⟨_, rfl, ?_, rfl⟩), wa_cons (we_var 2 rfl (wa_nil ⟨rfl, TL.joinL (sep b) (txts ts), c, ?_, ?_, ?_⟩))⟩)⟩))))))
    · rw [S_len, sizeLine_eq]; omega
    · rw [row_txt, cut_mid]; rfl
    · omega
    · by_cases hbc : b = c
      · subst hbc
        rw [parts_join hn hg]
        refine wss_cons (ws_if (wt_gtI (we_len (F.bn _ (by decide +kernel)) (we_var 3 rfl ⟨_, lenL, we_int ⟨_, _, rfl, rfl, ?_⟩⟩))))
        rw [List.length_map, txts_len, decide_eq_true (show (1 : Int) < (ts.length : Int) by omega)]
        refine wss_cons (ws_ret (we_tup (wa_cons (we_var 1 rfl (wa_cons (we_lc nd (blkOk_by (N := ["text", "word", "sign", "parts", "part"]) (sc := defScope s_row_in) (own := [("part", 4)]) (by decide +kernel)) (fun _ _ _ _ _ => pg_name (i := 4) nd rfl (Or.inl rfl)) (gt_name (by decide)) (fun _ _ _ _ _ => pts_nil) tk_nil
          (wi_list (we_var 3 rfl ⟨_, .inl rfl, ?_⟩)))))))) 
        refine ⟨by rw [List.length_map, txts_len, sizeLine_eq]; omega, fun i acc M'' => M'' = M' ∧ acc = (ts.take i).map fun t => .tup [.int 1, tS (txt t)], ⟨rfl, rfl⟩, ?_, ?_⟩
        · rintro i x acc M'' hx ⟨rfl, rfl⟩
          rw [txts_map, List.map_map, List.getElem?_map] at hx
          obtain ⟨t, ht, rfl⟩ := Option.map_eq_some_iff.mp hx
          intro s1 H1 C cl fp
          refine we_tup (wa_cons (we_int (wa_cons (we_var 4 rfl (wa_nil ⟨sz2, rfl, ?_⟩)))))
          rw [take_snoc ht, List.map_append]; rfl
        · rintro acc M'' ⟨rfl, rfl⟩
          rw [List.length_map, txts_len, List.take_length]
          exact wa_nil ⟨sz2, Lets.of hc⟩
      · have hcb : c = !b := by cases b <;> cases c <;> simp_all
        subst hcb
        have := parts_none (s := !b) hn hg
        rw [Bool.not_not] at this
        rw [this]
        refine wss_cons (ws_if (wt_gtI (we_len (F.bn _ (by decide +kernel)) (we_var 3 rfl ⟨_, lenL, we_int ⟨_, _, rfl, rfl, ?_⟩⟩))))
        rw [show decide ((1 : Int) < ((([TL.joinL (sep b) (txts ts)].map tS).length : Nat) : Int)) = false from rfl]
        refine wss_nil (wss_nil ⟨_, _, _, _, rfl, rfl, ?_⟩)
        cases b <;> simp_all
  · rintro ρ' M' ⟨o1, o2, o3, o4, rfl, rfl, hi⟩
    cases b <;> simp [gitems, signsD] at hi
end
end W
/-! PM2: the parts of a plan, its people, lengths and sizes. -/
namespace PL
open PySem SX TL
/-- how often, what -/
def kids : T → List (Nat × T)
  | .cop _ n t => [(n, t)]
  | .row _ ts => ts.map fun t => (1, t)
  | _ => []
def isCop : T → Bool
  | .cop _ _ _ => true
  | _ => false
mutual
def ppl : T → Nat
  | .one => 1
  | .name _ => 1
  | .cop _ n t => n * ppl t
  | .row _ ts => ppls ts
def ppls : List T → Nat
  | [] => 0
  | t :: ts => ppl t + ppls ts
end
theorem ppls_sum : ∀ ts : List T, ppls ts = (ts.map ppl).sum
  | [] => rfl
  | t :: ts => by rw [ppls, ppls_sum ts, List.map_cons, List.sum_cons]
theorem ppl_kids {t : T} (h : kids t ≠ []) : ppl t = ((kids t).map fun q => q.1 * ppl q.2).sum := by
  cases t with
  | one => simp [kids] at h
  | name x => simp [kids] at h
  | cop s n t => simp [kids, ppl]
  | row s ts =>
    rw [ppl, ppls_sum, kids, List.map_map]
    congr 1
    apply List.map_congr_left
    intro t _
    simp
theorem ppl_none {t : T} (h : kids t = []) (hg : Good t) : ppl t = 1 := by
  cases t with
  | one => rw [ppl]
  | name x => rw [ppl]
  | cop s n t => simp [kids] at h
  | row s ts =>
    have := hg.1
    simp [kids] at h
    subst h
    simp at this
theorem join_len_mem {S : List Nat} : ∀ {ps : List (List Nat)} {p : List Nat}, p ∈ ps → p.length ≤ (joinL S ps).length
  | [q], p, h => by
    have : p = q := by simpa using h
    subst this
    rw [joinL]; exact Nat.le_refl _
  | q :: r :: ps, p, h => by
    rw [joinL, List.length_append, List.length_append]
    rcases List.mem_cons.mp h with rfl | h
    · omega
    · have := join_len_mem (S := S) h
      omega
theorem kids_ok {t : T} {q : Nat × T} (hq : q ∈ kids t) (hg : Good t) : Good q.2 ∧ ht q.2 < ht t ∧ (txt q.2).length < (txt t).length ∧ 1 ≤ q.1 ∧ q.1 ≤ 10 ^ 30 := by
  cases t with
  | one => simp [kids] at hq
  | name x => simp [kids] at hq
  | cop s n t =>
    have : q = (n, t) := by simpa [kids] using hq
    subst this
    obtain ⟨h1, h2, h3⟩ := hg
    refine ⟨h3, by rw [ht]; exact Nat.lt_succ_self _, by rw [txt]; simp; omega, by show 1 ≤ n; omega, h2⟩
  | row s ts =>
    obtain ⟨t, ht', rfl⟩ := List.mem_map.mp (show q ∈ ts.map (fun t => (1, t)) from hq)
    refine ⟨goods_all.mp hg.2 t ht', ?_, ?_, Nat.le_refl _, show 1 ≤ 10 ^ 30 by decide⟩
    · rw [ht]; have := hts_le ht'; show ht t < _; omega
    · rw [txt]
      have : (txt t).length ≤ (joinL (sep s) (txts ts)).length := join_len_mem (by rw [txts_map]; exact List.mem_map_of_mem ht')
      simp; omega
theorem kids_told {t : T} {q : Nat × T} (hq : q ∈ kids t) (hg : Told t) : Told q.2 := by
  cases t with
  | one => simp [kids] at hq
  | name x => simp [kids] at hq
  | cop s n t =>
    have : q = (n, t) := by simpa [kids] using hq
    subst this
    exact hg
  | row s ts =>
    obtain ⟨t, ht', rfl⟩ := List.mem_map.mp (show q ∈ ts.map (fun t => (1, t)) from hq)
    exact tolds_all.mp hg t ht'
theorem numL_lt16 : ∀ n : Nat, n < 16 ^ (numL n).length := by
  intro n
  induction n using Nat.strongRecOn with
  | _ n ih =>
    by_cases hn : n < 10
    · rw [numL_lt hn]; show n < 16 ^ 1; omega
    · have := ih (n / 10) (by omega)
      rw [numL_step (by omega), List.length_append, List.length_singleton, Nat.pow_succ]
      omega
theorem pow16_add {a b m n : Nat} (h1 : a < 16 ^ m) (h2 : b < 16 ^ n) : a + b < 16 ^ (m + n + 1) := by
  have e1 : 16 ^ m ≤ 16 ^ (m + n) := Nat.pow_le_pow_right (by decide) (by omega)
  have e2 : 16 ^ n ≤ 16 ^ (m + n) := Nat.pow_le_pow_right (by decide) (by omega)
  rw [Nat.pow_succ]
  omega
theorem pow16_le {a m n : Nat} (h1 : a < 16 ^ m) (h : m ≤ n) : a < 16 ^ n := Nat.lt_of_lt_of_le h1 (Nat.pow_le_pow_right (by decide) h)
mutual
theorem ppl_lt : ∀ {t : T}, Good t → ppl t < 16 ^ (txt t).length
  | .one, _ => by rw [ppl, txt]; decide
  | .name x, h => by
    rw [ppl, txt]
    have : 0 < x.length := List.length_pos_iff.mpr h.1
    exact pow16_le (m := 1) (by decide) this
  | .cop s n t, h => by
    rw [ppl, txt]
    have h1 := numL_lt16 n
    have h2 := ppl_lt h.2.2
    have h3 : n * ppl t < 16 ^ ((numL n).length + (txt t).length) := by
      rw [Nat.pow_add]
      exact Nat.mul_lt_mul'' h1 h2
    exact pow16_le h3 (by simp; omega)
  | .row s ts, h => by
    rw [ppl, txt]
    exact pow16_le (ppls_lt (s := s) h.2) (by simp; omega)
theorem ppls_lt {s : Bool} : ∀ {ts : List T}, Goods ts → ppls ts < 16 ^ (joinL (sep s) (txts ts)).length
  | [], _ => by rw [ppls]; exact Nat.pow_pos (by decide)
  | [t], h => by rw [ppls, ppls, txts, txts, joinL]; exact ppl_lt h.1
  | t :: u :: ts, h => by
    have h1 := ppl_lt h.1
    have h2 := ppls_lt (s := s) (ts := u :: ts) h.2
    rw [ppls, show txts (t :: u :: ts) = txt t :: txt u :: txts ts by rw [txts, txts], joinL]
    rw [show txts (u :: ts) = txt u :: txts ts by rw [txts]] at h2
    refine pow16_le (pow16_add h1 h2) ?_
    rw [List.length_append, List.length_append, sep_len]; omega
end
mutual
theorem txt_lt : ∀ {t : T}, Good t → ∀ c ∈ txt t, c < 128
  | .one, _, c, hc => by rw [txt] at hc; simp at hc; omega
  | .name x, h, c, hc => by
    rw [txt] at hc
    have q := h.2.2 c hc
    simp [letter] at q; omega
  | .cop s n t, h, c, hc => by
    rw [txt] at hc
    simp at hc
    rcases hc with rfl | hc | rfl | hc | rfl
    · cases s <;> decide
    · have := numL_digits n c hc; omega
    · decide
    · exact txt_lt h.2.2 c hc
    · cases s <;> decide
  | .row s ts, h, c, hc => by
    rw [txt] at hc
    simp at hc
    rcases hc with rfl | hc | rfl
    · decide
    · exact txts_lt (s := s) h.2 c hc
    · decide
theorem txts_lt {s : Bool} : ∀ {ts : List T}, Goods ts → ∀ c ∈ joinL (sep s) (txts ts), c < 128
  | [], _, c, hc => by rw [txts, joinL] at hc; simp at hc
  | [t], h, c, hc => by rw [txts, txts, joinL] at hc; exact txt_lt h.1 c hc
  | t :: u :: ts, h, c, hc => by
    rw [show txts (t :: u :: ts) = txt t :: txt u :: txts ts by rw [txts, txts], joinL] at hc
    rcases List.mem_append.mp hc with hc | hc
    · exact txt_lt h.1 c hc
    · rcases List.mem_append.mp hc with hc | hc
      · cases s <;> (simp [sep, sgn] at hc; omega)
      · exact txts_lt (s := s) (ts := u :: ts) h.2 c (by rw [show txts (u :: ts) = txt u :: txts ts by rw [txts]]; exact hc)
end
theorem log16 {a m : Nat} (h : a < 16 ^ m) : a.log2 ≤ 4 * m := by
  by_cases h0 : a = 0
  · subst h0; simp
  · have e : a < 2 ^ (4 * m) := by rw [Nat.pow_mul]; exact h
    exact Nat.le_of_lt ((Nat.log2_lt h0).mpr e)
end PL
/-! C4: groups_in, is_plan_text, names_in. -/
namespace W
open PySem PySem.Spec PyProof.Rows L2 DL SX PL
section
variable {P : Program} {w : World} {K : PySem.W.Frag} {mg : Str → Option Value} {base : Heap}
def wordT : T → Str
  | .one => "one"
  | .name _ => "name"
  | .cop s _ _ => wrd s
  | .row s _ => wrd s
def grpD (t : T) : List D := (kids t).map fun q => .tup [.int (q.1 : Nat), tS (txt q.2)]
def isOne : T → Bool
  | .one => true
  | _ => false
def isNm : T → Bool
  | .name _ => true
  | _ => false
theorem first_no {t : T} (h : Good t) (h1 : isNm t = false) : ∃ c r, txt t = c :: r ∧ letter c = false := by
  cases t with
  | one => exact ⟨49, [], by rw [txt], by decide⟩
  | name x => cases h1
  | cop s n u => exact ⟨opn s, _, by rw [txt], by cases s <;> decide⟩
  | row s ts => exact ⟨40, _, by rw [txt], by decide⟩
theorem isName_txt {t : T} (h : Good t) : isNameL (txt t) = isNm t := by
  cases hn : isNm t with
  | true =>
    cases t with
    | name x =>
      obtain ⟨h0, h1, h2⟩ := h
      rw [txt]
      unfold isNameL
      rw [decide_eq_true (show 1 ≤ x.length from List.length_pos_iff.mpr h0), decide_eq_true h1, List.all_eq_true.mpr h2]; rfl
    | _ => cases hn
  | false =>
    obtain ⟨c, r, e, hc⟩ := first_no h hn
    rw [e]
    unfold isNameL
    rw [List.all_cons, hc]; simp
theorem isOne_txt {t : T} (h : Good t) : decide (S (txt t) = ("1" : Str)) = isOne t := by
  rw [show ("1" : Str) = S [49] by decide +kernel]
  have e : decide (S (txt t) = S [49]) = decide (txt t = [49]) := decide_eq_decide.mpr ⟨S_inj, fun h => by rw [h]⟩
  rw [e]
  cases t with
  | one => rw [txt]; rfl
  | name x =>
    obtain ⟨h0, h1, h2⟩ := h
    rw [txt]
    refine decide_eq_false fun q => ?_
    subst q
    exact absurd (h2 49 (by simp)) (by decide)
  | cop s n u => rw [txt]; refine decide_eq_false fun q => ?_; injection q with q1 _; cases s <;> cases q1
  | row s ts => rw [txt]; refine decide_eq_false fun q => ?_; injection q with q1 _; cases q1
def cGroupsIn : Con := fun ds M Φ => ∃ t, ds = [tS (txt t)] ∧ Good t ∧ (txt t).length ≤ 1000000 ∧ Φ (.tup [.str (wordT t), .lst (grpD t)]) M
theorem ok_groups_in (F : Fx w K mg) (F1 : Fc P w K mg base "is_name" [] 1 1 cIsName) (F2 : Fc P w K mg base "copies_in" [] 2 1 cCopiesIn) (F3 : Fc P w K mg base "row_in" [] 2 1 cRowIn) :
    BodyOk P w K mg base "groups_in" s_groups_in ["text", "found"] 1 2 cGroupsIn := by
  intro f cdv A outer s H E hr ds M Φ hl hc
  obtain ⟨t, rfl, hg, hl, hc⟩ := hc
  have nd : (["text", "found"] : List Str).Nodup := by decide +kernel
  refine wss_cons (ws_if (wt_eqS (we_var 0 rfl (we_gstr F.gPERSON ⟨_, rfl, ?_⟩))))
  rw [isOne_txt hg]
  cases h1 : isOne t with
  | true =>
    cases t with
    | one => exact wss_cons (ws_ret (we_tup (wa_cons (we_gstr F.gONE (wa_cons (we_lst (wa_nil ⟨Nat.zero_le _, wa_nil ⟨sz2, Lets.of hc⟩⟩)))))))
    | _ => cases h1
  | false =>
    refine wss_nil (wss_cons (ws_if (wt_val (we_call F1 (hr.mono (by decide)) (wa_cons (we_var 0 rfl (wa_nil ⟨rfl, _, rfl, hl, _, rfl, ?_⟩)))))))
    rw [isName_txt hg]
    cases h2 : isNm t with
    | true =>
      cases t with
      | name x => exact wss_cons (ws_ret (we_tup (wa_cons (we_gstr F.gNAME (wa_cons (we_lst (wa_nil ⟨Nat.zero_le _, wa_nil ⟨sz2, Lets.of hc⟩⟩)))))))
      | _ => cases h2
    | false =>
      refine wss_nil (wss_cons (ws_set 1 nd (we_call F2 (hr.mono (by decide)) (wa_cons (we_var 0 rfl (wa_nil ⟨rfl, _, rfl, hg, hl, ?_⟩))))))
      refine wss_cons (ws_ret (we_if (wt_isN (we_var 1 rfl ?_))))
      cases t with
      | one => cases h1
      | name x => cases h2
      | cop b n u => exact we_var 1 rfl (Lets.of hc)
      | row b ts =>
        refine we_call F3 (hr.mono (by decide)) (wa_cons (we_var 0 rfl (wa_nil ⟨rfl, _, _, rfl, hg, hl, Lets.of ?_⟩)))
        unfold grpD kids at hc
        rw [List.map_map] at hc
        exact hc

/-! ### is_plan_text -/
def cPlanText (h : Nat) : Con := fun ds M Φ => ∃ t d, ds = [tS (txt t), .int (d : Nat)] ∧ Good t ∧ (txt t).length ≤ 1000000 ∧ ht t ≤ h ∧ d + ht t ≤ 60 ∧ Φ (.bl true) M
theorem kids_len {t : T} (hg : Good t) : (kids t).length ≤ (txt t).length := by
  cases t with
  | one => simp [kids]
  | name x => simp [kids]
  | cop s n u => rw [txt]; simp [kids]
  | row s ts =>
    have := joins_len s (txts ts)
    rw [txts_len] at this
    rw [row_len]; simp [kids]; omega
theorem ok_is_plan_text (h : Nat) (F : Fx w K mg) (F1 : Fc P w K mg base "groups_in" [] 3 1 cGroupsIn) (F2 : ∀ j, h = j + 1 → Fc P w K mg base "is_plan_text" [] (j + 4) 2 (cPlanText j)) :
    BodyOk P w K mg base "is_plan_text" s_is_plan_text ["text", "depth", "found", "many", "part"] 2 (h + 3) (cPlanText h) := by
  intro f cdv A outer s H E hr ds M Φ hl hc
  obtain ⟨t, d, rfl, hg, hl, hh, hd, hc⟩ := hc
  have nd : (["text", "depth", "found", "many", "part"] : List Str).Nodup := by decide +kernel
  have hk := kids_len hg
  refine wss_cons (ws_set 2 nd (we_if (wt_leI (we_var 1 rfl (we_gint F.gMOST_DEPTH ⟨_, _, rfl, rfl, ?_⟩)))))
  rw [decide_eq_true (show (d : Int) ≤ 60 by omega)]
  refine we_call F1 (hr.mono (by omega)) (wa_cons (we_var 0 rfl (wa_nil ⟨rfl, _, rfl, hg, hl, ?_⟩)))
  refine wss_cons (ws_ret (we_and (we_notN (we_var 2 rfl ⟨_, rfl, ?_⟩))))
  refine we_one (we_all (F.bn _ (by decide +kernel)) (we_lc nd (blkOk_by (N := ["text", "depth", "found", "many", "part"]) (sc := defScope s_is_plan_text) (own := [("many", 3), ("part", 4)]) (by decide +kernel)) (fun _ _ _ _ _ => pg_tup rfl (pgs_cons (pg_name (i := 3) nd rfl (Or.inl rfl)) (pgs_cons (pg_name (i := 4) nd rfl (Or.inl rfl)) pgs_nil)) rfl rfl) (gt_two (by decide) (by decide)) (fun _ _ _ _ _ => pts_nil) tk_nil
    (wi_list (we_ix (we_var 2 rfl (we_int ⟨1, _, rfl, ixT (atI_nat (j := 1) rfl), _, .inl rfl, ?_⟩))))))
  refine ⟨by rw [grpD, List.length_map, sizeLine_eq]; omega, fun i acc M' => M' = M ∧ acc = (List.replicate i true).map D.bl, ⟨rfl, rfl⟩, ?_, ?_⟩
  · rintro i x acc M' hx ⟨rfl, rfl⟩
    rw [grpD, List.getElem?_map] at hx
    obtain ⟨q, hq, rfl⟩ := Option.map_eq_some_iff.mp hx
    obtain ⟨g1, g2, g3, g4, g5⟩ := kids_ok (List.mem_of_getElem? hq) hg
    refine ⟨_, _, rfl, ?_⟩
    intro s1 H1 C cl fp
    obtain ⟨j, rfl⟩ : ∃ j, h = j + 1 := ⟨h - 1, by omega⟩
    refine we_call (F2 j rfl) (hr.mono (by omega)) (wa_cons (we_var 4 rfl (wa_cons (we_addI (we_var 1 rfl (we_int ⟨_, _, rfl, rfl, wa_nil ⟨rfl, q.2, d + 1, rfl, g1, by omega, by omega, by omega, rfl, ?_⟩⟩))))))
    rw [List.replicate_succ', List.map_append]; rfl
  · rintro acc M' ⟨rfl, rfl⟩
    exact ⟨_, rfl, by rw [List.all_replicate]; simp; exact Lets.of hc⟩

/-! ### names_in, of a told plan -/
def cNamesIn (h : Nat) : Con := fun ds M Φ => ∃ t, ds = [tS (txt t)] ∧ Good t ∧ Told t ∧ (txt t).length ≤ 1000000 ∧ ht t ≤ h ∧ Φ (.lst []) M
theorem wordT_told {t : T} (h : Told t) : decide (wordT t = ("name" : Str)) = false := by
  cases t with
  | one => decide +kernel
  | name x => exact h.elim
  | cop s n u =>
    show decide (wrd s = ("name" : Str)) = false
    cases s <;> decide +kernel
  | row s ts =>
    show decide (wrd s = ("name" : Str)) = false
    cases s <;> decide +kernel
theorem ok_names_in (h : Nat) (F : Fx w K mg) (F1 : Fc P w K mg base "groups_in" [] 3 1 cGroupsIn) (F2 : ∀ j, h = j + 1 → Fc P w K mg base "names_in" [] (j + 4) 1 (cNamesIn j)) :
    BodyOk P w K mg base "names_in" s_names_in ["text", "word", "groups", "found", "many", "part", "name"] 1 (h + 3) (cNamesIn h) := by
  intro f cdv A outer s H E hr ds M Φ hl hc
  obtain ⟨t, rfl, hg, htd, hl, hh, hc⟩ := hc
  have nd : (["text", "word", "groups", "found", "many", "part", "name"] : List Str).Nodup := by decide +kernel
  refine wss_cons (ws_asg (we_call F1 (hr.mono (by omega)) (wa_cons (we_var 0 rfl (wa_nil ⟨rfl, _, rfl, hg, hl, ?_⟩)))))
  refine wg_tup ⟨rfl, rfl, wgs_cons (wg_name 1 (wgs_cons (wg_name 2 (wgs_nil ⟨rfl, ?_⟩) nd)) nd)⟩
  refine wss_cons (ws_if (wt_eqS (we_var 1 rfl (we_gstr F.gNAME ⟨_, rfl, ?_⟩))))
  rw [wordT_told htd]
  refine wss_nil (wss_cons (ws_set 3 nd (we_lstM (wa_nil ⟨Nat.zero_le _, fun p hp => ?_⟩))))
  refine wss_cons (ws_for PassesOwn.never (wi_list (we_var 2 rfl ⟨_, .inl rfl, ?_⟩)))
  refine ⟨fun i ρ' M' => ∃ o1 o2, ρ' = [some (tS (txt t)), some (.str (wordT t)), some (.lst (grpD t)), some (.ob p), o1, o2, none] ∧ M' = mset M p (.lst []), ⟨_, _, rfl, rfl⟩, ?_, ?_⟩
  · rintro i x ρ' M' hx ⟨o1, o2, rfl, rfl⟩
    rw [grpD, List.getElem?_map] at hx
    obtain ⟨q, hq, rfl⟩ := Option.map_eq_some_iff.mp hx
    obtain ⟨g1, g2, g3, g4, g5⟩ := kids_ok (List.mem_of_getElem? hq) hg
    refine wg_tup ⟨rfl, rfl, wgs_cons (wg_name 4 (wgs_cons (wg_name 5 (wgs_nil ⟨rfl, ?_⟩) nd)) nd)⟩
    obtain ⟨j, rfl⟩ : ∃ j, h = j + 1 := ⟨h - 1, by omega⟩
    refine wss_cons (ws_expr (we_extend (we_var 3 rfl ⟨p, _, rfl, mset_same, we_call (F2 j rfl) (hr.mono (by omega)) (wa_cons (we_var 5 rfl (wa_nil ⟨rfl, q.2, rfl, g1, kids_told (List.mem_of_getElem? hq) htd, by omega, by omega, _, _, mset_same, rfl, Nat.zero_le _, ?_⟩)))⟩)))
    rw [mset_mset]
    exact wss_nil ⟨_, _, rfl, rfl⟩
  · rintro ρ' M' ⟨o1, o2, rfl, rfl⟩
    refine wss_let (M' := M) (ρ' := [some (tS (txt t)), some (.str (wordT t)), some (.lst (grpD t)), some (.lst []), none, none, none]) (les_new hp) ?_ ?_
    · exact .val (.same _) (.val (.same _) (.val (.same _) (.val (.lst mset_same hp) (.drop (.drop (.drop .nil))))))
    refine wss_cons (ws_ret (we_sortedNone (F.bn _ (by decide +kernel)) (F.bn _ (by decide +kernel)) (we_lc nd (blkOk_by (N := ["text", "word", "groups", "found", "many", "part", "name"]) (sc := defScope s_names_in) (own := [("name", 6)]) (by decide +kernel)) (fun _ _ _ _ _ => pg_name (i := 6) nd rfl (Or.inl rfl)) (gt_name (by decide)) (fun _ _ _ _ _ => pts_nil) tk_nil
      (wi_list (we_var 3 rfl ⟨_, .inl rfl, ?_⟩)))))
    refine ⟨Nat.zero_le _, fun i acc M' => M' = M ∧ acc = [], ⟨rfl, rfl⟩, ?_, ?_⟩
    · rintro i x acc M' hx
      simp at hx
    · rintro acc M' ⟨rfl, rfl⟩
      exact ⟨rfl, Lets.of hc⟩
end
end W
/-! C5: the class Plan. -/
namespace W
open PySem PySem.Spec PyProof.Rows L2 DL SX PL
def fNames : List Str := ["own_text", "own_names", "own_word", "own_groups", "own_copies", "own_people"]
def six (a b c d e f : D) : List (Str × D) := [("own_text", a), ("own_names", b), ("own_word", c), ("own_groups", d), ("own_copies", e), ("own_people", f)]
theorem putD_ne {g f : Str} {d y : D} {r : List (Str × D)} (h : g ≠ f) : putD f d ((g, y) :: r) = (g, y) :: putD f d r := by
  rw [putD, if_neg h]
def f1 (a : D) : List (Str × D) := [("own_text", a)]
def f2 (a b : D) : List (Str × D) := [("own_text", a), ("own_names", b)]
def f3 (a b c : D) : List (Str × D) := [("own_text", a), ("own_names", b), ("own_word", c)]
def f4 (a b c d : D) : List (Str × D) := [("own_text", a), ("own_names", b), ("own_word", c), ("own_groups", d)]
def f5 (a b c d e : D) : List (Str × D) := [("own_text", a), ("own_names", b), ("own_word", c), ("own_groups", d), ("own_copies", e)]
section
variable {a b c d e f x : D}
theorem put1 : putD "own_text" x [] = f1 x := rfl
theorem put2 : putD "own_names" x (f1 a) = f2 a x := by unfold f1; rw [putD_ne] <;> first | rfl | decide +kernel
theorem put3 : putD "own_word" x (f2 a b) = f3 a b x := by unfold f2; rw [putD_ne, putD_ne] <;> first | rfl | decide +kernel
theorem put4 : putD "own_groups" x (f3 a b c) = f4 a b c x := by unfold f3; rw [putD_ne, putD_ne, putD_ne] <;> first | rfl | decide +kernel
theorem put5 : putD "own_copies" x (f4 a b c d) = f5 a b c d x := by unfold f4; rw [putD_ne, putD_ne, putD_ne, putD_ne] <;> first | rfl | decide +kernel
theorem put6 : putD "own_people" x (f5 a b c d e) = six a b c d e x := by unfold f5; rw [putD_ne, putD_ne, putD_ne, putD_ne, putD_ne] <;> first | rfl | decide +kernel
theorem sl1 : (f1 a).length < 1000 := by show 1 < 1000; decide
theorem sl2 : (f2 a b).length < 1000 := by show 2 < 1000; decide
theorem sl3 : (f3 a b c).length < 1000 := by show 3 < 1000; decide
theorem sl4 : (f4 a b c d).length < 1000 := by show 4 < 1000; decide
theorem sl5 : (f5 a b c d e).length < 1000 := by show 5 < 1000; decide
theorem lk_hit {g : Str} {y : D} {r : List (Str × D)} : ((g, y) :: r).lookup g = some y := by rw [List.lookup_cons]; simp
theorem lk_miss {g h : Str} {y : D} {r : List (Str × D)} (hn : (g == h) = false) : ((h, y) :: r).lookup g = r.lookup g := by rw [List.lookup_cons, hn]
theorem lk_text : List.lookup ("own_text" : Str) (six a b c d e f) = some a := lk_hit
theorem lk_names : List.lookup ("own_names" : Str) (six a b c d e f) = some b := by unfold six; rw [lk_miss, lk_hit]; decide +kernel
theorem lk_word : List.lookup ("own_word" : Str) (six a b c d e f) = some c := by unfold six; rw [lk_miss, lk_miss, lk_hit] <;> decide +kernel
theorem lk_groups : List.lookup ("own_groups" : Str) (six a b c d e f) = some d := by unfold six; rw [lk_miss, lk_miss, lk_miss, lk_hit] <;> decide +kernel
theorem lk_copies : List.lookup ("own_copies" : Str) (six a b c d e f) = some e := by unfold six; rw [lk_miss, lk_miss, lk_miss, lk_miss, lk_hit] <;> decide +kernel
theorem lk_people : List.lookup ("own_people" : Str) (six a b c d e f) = some f := by unfold six; rw [lk_miss, lk_miss, lk_miss, lk_miss, lk_miss, lk_hit] <;> decide +kernel
theorem lk5_groups : List.lookup ("own_groups" : Str) (f5 a b c d e) = some d := by unfold f5; rw [lk_miss, lk_miss, lk_miss, lk_hit] <;> decide +kernel
end
mutual
/-- the plan as an instance of the class at C -/
def planD (C : Addr) : T → D
  | .one => .ins C (six (tS (txt .one)) (.tup []) (.str (wordT .one)) (.lst []) (.bl false) (.int (ppl .one : Nat)))
  | .name x => .ins C (six (tS (txt (.name x))) (.tup [tS x]) (.str (wordT (.name x))) (.lst []) (.bl false) (.int (ppl (.name x) : Nat)))
  | .cop s n t => .ins C (six (tS (txt (.cop s n t))) (.tup []) (.str (wordT (.cop s n t))) (.lst [.tup [.int (n : Nat), planD C t]]) (.bl true) (.int (ppl (.cop s n t) : Nat)))
  | .row s ts => .ins C (six (tS (txt (.row s ts))) (.tup []) (.str (wordT (.row s ts))) (.lst (plansD C ts)) (.bl false) (.int (ppl (.row s ts) : Nat)))
def plansD (C : Addr) : List T → List D
  | [] => []
  | t :: ts => .tup [.int ((1 : Nat) : Int), planD C t] :: plansD C ts
end
theorem plansD_map (C : Addr) : ∀ ts : List T, plansD C ts = ts.map fun t => .tup [.int ((1 : Nat) : Int), planD C t]
  | [] => by rw [plansD]; rfl
  | t :: ts => by rw [plansD, plansD_map C ts, List.map_cons]
def subsD (C : Addr) (t : T) : List D := (kids t).map fun q => .tup [.int (q.1 : Nat), planD C q.2]
def fldsD (C : Addr) (t : T) : List (Str × D) := six (tS (txt t)) (.tup []) (.str (wordT t)) (.lst (subsD C t)) (.bl (isCop t)) (.int (ppl t : Nat))
theorem planD_told {C : Addr} {t : T} (h : Told t) : planD C t = .ins C (fldsD C t) := by
  cases t with
  | one => rw [planD]; rfl
  | name x => exact h.elim
  | cop s n t => rw [planD]; rfl
  | row s ts =>
    rw [planD, plansD_map]
    unfold fldsD subsD kids
    rw [List.map_map]; rfl
/-- what is known of the class -/
structure Px (K : PySem.W.Frag) (mg : Str → Option Value) (C : Addr) : Prop where
  at_ : mg "Plan" = some (.ref C)
  cl : Cls K C
  na : ∀ f, f ∈ fNames → NoAttr K C f
  init : ∃ f, Mk K C f ∧ Md K C "__init__" "Plan.__init__" s_Plan___init__ f
  text : ∃ p f, PropOf K C "text" p f ∧ Md K C "text" "Plan.text" s_Plan_text f
  names : ∃ p f, PropOf K C "names" p f ∧ Md K C "names" "Plan.names" s_Plan_names f
  word : ∃ p f, PropOf K C "word" p f ∧ Md K C "word" "Plan.word" s_Plan_word f
  many : ∃ p f, PropOf K C "many" p f ∧ Md K C "many" "Plan.many" s_Plan_many f
  invert : ∃ f, Meth K C "__invert__" f ∧ Md K C "__invert__" "Plan.__invert__" s_Plan___invert__ f
section
variable {P : Program} {w : World} {K : PySem.W.Frag} {mg : Str → Option Value} {base : Heap} {C : Addr}
def cInit (C : Addr) (h : Nat) : Con := fun ds M Φ => ∃ a t, ds = [.ob a, tS (txt t)] ∧ Good t ∧ Told t ∧ (txt t).length ≤ 100000 ∧ ht t ≤ h ∧ ht t ≤ 60 ∧ M a = some (.ins C []) ∧ Φ .non (mset M a (.ins C (fldsD C t)))
/-- Plan(e) -/
theorem we_plan {X : Cx} {ρ : Rho} {M : Mp} {Φ : D → Mp → Prop} {e : Expr} {p pos : Pos} {h k : Nat} (F : Kc X.prog X.w X.K X.mg X.base "Plan" C [] k 2 (cInit C h)) (hr : Room (k + 1) X.A)
    (q : WE X ρ M e fun d M1 => ∃ t, d = tS (txt t) ∧ Good t ∧ Told t ∧ (txt t).length ≤ 100000 ∧ ht t ≤ h ∧ ht t ≤ 60 ∧ Φ (planD C t) M1) (hg : Gl X "Plan" := by rfl)
    (he : starEach [e] X.env = (false, eval e X.env) :: starEach [] X.env := by rfl) (hpl : (backTo pos (starEach [] X.env)).any (·.1) = false := by rfl) : WE X ρ M (.Call (.Name "Plan" p) [e] [] pos) Φ :=
  we_make F hr (wa_cons (q.imp fun d M1 ⟨t, e1, h1, h2, h3, h4, h5, h6⟩ => wa_nil fun a ha => ⟨rfl, a, t, by rw [e1]; rfl, h1, h2, h3, h4, h5, mset_same, rfl, by
    rw [mset_mset]
    exact ⟨_, M1, les_new ha, .ins mset_same ha, by rw [← planD_told h2]; exact h6⟩⟩) he) hg (he := he) (hpl := hpl)
theorem cop_in {t : T} (h : Good t) : ∃ c r, txt t = c :: r ∧ decide (S [c] ∈ (["[", "{"] : List Str)) = isCop t := by
  have e1 : (["[", "{"] : List Str) = [S [91], S [123]] := by decide +kernel
  rw [e1]
  have key : ∀ c : Nat, decide (S [c] ∈ [S [91], S [123]]) = (decide (c = 91) || decide (c = 123)) := fun c => by
    rw [← Bool.decide_or]
    refine decide_eq_decide.mpr ?_
    simp only [List.mem_cons, List.not_mem_nil, or_false]
    constructor
    · rintro (h | h)
      · left; injection S_inj h
      · right; injection S_inj h
    · rintro (rfl | rfl)
      · exact .inl rfl
      · exact .inr rfl
  cases t with
  | one => exact ⟨49, [], by rw [txt], by rw [key]; rfl⟩
  | name x =>
    obtain ⟨h0, h1, h2⟩ := h
    cases x with
    | nil => exact absurd rfl h0
    | cons c r =>
      have q := h2 c List.mem_cons_self
      simp [letter] at q
      exact ⟨c, r, by rw [txt], by rw [key, decide_eq_false (by omega), decide_eq_false (by omega)]; rfl⟩
  | cop s n u => exact ⟨opn s, _, by rw [txt], by rw [key]; cases s <;> rfl⟩
  | row s ts => exact ⟨40, _, by rw [txt], by rw [key]; rfl⟩
theorem cut_1 (c : Nat) (r : List Nat) : cutS (S (c :: r)) none (some 1) = S [c] := by
  unfold cutS
  rw [S_len, show (some (1 : Int)) = some ((1 : Nat) : Int) from rfl, HT.sIx_nat, HT.sIx_none, Nat.min_eq_left (by simp)]
  rfl
theorem grp_cmp {t : T} (h : Good t) : ∃ ps, CmpDs (grpD t) ps 1 :=
  ⟨_, cmps_map (j := 1) (Nat.le_refl _) (g := fun q => .tuple [.int (q.1 : Nat), .str (S (txt q.2))]) fun q hq => cmp_tup (cmps_cons (cmp_int _) (Nat.le_refl _) (cmps_cons (cmp_str fun c hc => by
    have := txt_lt (kids_ok hq h).1 c hc; omega) (Nat.le_refl _) cmps_nil))⟩
end
end W
/-! the head of law_k36_whole_great_seatings. -/
namespace W
open PySem PySem.Spec PyProof.Rows L2 DL He HK
def gl (x : Str) (st : Stmt) : Dd := ⟨fun K => ga K x, x, x, st, []⟩
def me (m qual : Str) (st : Stmt) : Dd := ⟨fun K => ma K (ga K "Plan") m, m, qual, st, []⟩
def pg (m qual : Str) (st : Stmt) : Dd := ⟨pgA "Plan" m, m, qual, st, []⟩
def dds : List Dd := [
  ⟨fun K => ga K "is_integer", "is_integer", "is_integer", s_is_integer, [.non, .non]⟩, me "__init__" "Plan.__init__" s_Plan___init__, pg "text" "Plan.text" s_Plan_text, pg "names" "Plan.names" s_Plan_names, pg "word" "Plan.word" s_Plan_word, pg "many" "Plan.many" s_Plan_many, pg "people" "Plan.people" s_Plan_people, me "__invert__" "Plan.__invert__" s_Plan___invert__,
  ⟨fun K => ma K (ga K "Crowd") "at", "at", "Crowd.at", s_Crowd_at, []⟩, ⟨fun K => ma K (ga K "Crowd") "number_of", "number_of", "Crowd.number_of", s_Crowd_number_of, []⟩, ⟨fun K => ma K (ga K "Seating") "made", "made", "Seating.made", s_Seating_made, []⟩, ⟨fun K => ma K (ga K "Seating") "length", "length", "Seating.length", s_Seating_length, []⟩, ⟨fun K => ma K (ga K "Seating") "at", "at", "Seating.at", s_Seating_at, []⟩, ⟨fun K => ma K (ga K "Seating") "place", "place", "Seating.place", s_Seating_place, []⟩, ⟨fun K => ma K (ga K "OneLine") "start", "start", "OneLine.start", s_OneLine_start, []⟩, ⟨fun K => ma K (ga K "OneLine") "row_of", "row_of", "OneLine.row_of", s_OneLine_row_of, []⟩,
  ⟨fun K => ma K (ga K "OneLine") "at", "at", "OneLine.at", s_OneLine_at, []⟩, ⟨fun K => ma K (ga K "OneLine") "spot_of", "spot_of", "OneLine.spot_of", s_OneLine_spot_of, []⟩, ⟨fun K => ma K (ga K "BesideLine") "block", "block", "BesideLine.block", s_BesideLine_block, []⟩, ⟨fun K => ma K (ga K "BesideLine") "start", "start", "BesideLine.start", s_BesideLine_start, []⟩, ⟨fun K => ma K (ga K "BesideLine") "row_of", "row_of", "BesideLine.row_of", s_BesideLine_row_of, []⟩, ⟨fun K => ma K (ga K "BesideLine") "at", "at", "BesideLine.at", s_BesideLine_at, []⟩, ⟨fun K => ma K (ga K "BesideLine") "spot_of", "spot_of", "BesideLine.spot_of", s_BesideLine_spot_of, []⟩, ⟨fun K => ma K (ga K "CopiesLine") "start", "start", "CopiesLine.start", s_CopiesLine_start, []⟩,
  ⟨fun K => ma K (ga K "CopiesLine") "row_of", "row_of", "CopiesLine.row_of", s_CopiesLine_row_of, []⟩, ⟨fun K => ma K (ga K "CopiesLine") "at", "at", "CopiesLine.at", s_CopiesLine_at, []⟩, ⟨fun K => ma K (ga K "CopiesLine") "spot_of", "spot_of", "CopiesLine.spot_of", s_CopiesLine_spot_of, []⟩, ⟨fun K => ma K (ga K "HalvesLine") "start", "start", "HalvesLine.start", s_HalvesLine_start, []⟩, ⟨fun K => ma K (ga K "HalvesLine") "row_of", "row_of", "HalvesLine.row_of", s_HalvesLine_row_of, []⟩, ⟨fun K => ma K (ga K "HalvesLine") "half", "half", "HalvesLine.half", s_HalvesLine_half, []⟩, ⟨fun K => ma K (ga K "HalvesLine") "at", "at", "HalvesLine.at", s_HalvesLine_at, []⟩, ⟨fun K => ma K (ga K "HalvesLine") "spot_of", "spot_of", "HalvesLine.spot_of", s_HalvesLine_spot_of, []⟩,
  ⟨fun K => ma K (ga K "WovenLine") "singles", "singles", "WovenLine.singles", s_WovenLine_singles, []⟩, ⟨fun K => ma K (ga K "WovenLine") "piece_of", "piece_of", "WovenLine.piece_of", s_WovenLine_piece_of, []⟩, ⟨fun K => ma K (ga K "WovenLine") "other_spot", "other_spot", "WovenLine.other_spot", s_WovenLine_other_spot, []⟩, ⟨fun K => ma K (ga K "WovenLine") "ahead", "ahead", "WovenLine.ahead", s_WovenLine_ahead, []⟩, ⟨fun K => ma K (ga K "WovenLine") "start", "start", "WovenLine.start", s_WovenLine_start, []⟩, ⟨fun K => ma K (ga K "WovenLine") "row_of", "row_of", "WovenLine.row_of", s_WovenLine_row_of, []⟩, ⟨fun K => ma K (ga K "WovenLine") "at", "at", "WovenLine.at", s_WovenLine_at, []⟩, ⟨fun K => ma K (ga K "WovenLine") "spot_of", "spot_of", "WovenLine.spot_of", s_WovenLine_spot_of, []⟩,
  ⟨fun K => ma K (ga K "Crowd") "__init__", "__init__", "Crowd.__init__", s_Crowd___init__, []⟩, ⟨fun K => ma K (ga K "Seating") "__init__", "__init__", "Seating.__init__", s_Seating___init__, []⟩, ⟨fun K => ma K (ga K "OneLine") "__init__", "__init__", "OneLine.__init__", s_OneLine___init__, []⟩, ⟨fun K => ma K (ga K "BesideLine") "__init__", "__init__", "BesideLine.__init__", s_BesideLine___init__, []⟩, ⟨fun K => ma K (ga K "CopiesLine") "__init__", "__init__", "CopiesLine.__init__", s_CopiesLine___init__, []⟩, ⟨fun K => ma K (ga K "HalvesLine") "__init__", "__init__", "HalvesLine.__init__", s_HalvesLine___init__, []⟩, ⟨fun K => ma K (ga K "WovenLine") "__init__", "__init__", "WovenLine.__init__", s_WovenLine___init__, []⟩, ⟨pgA "Seating" "plan", "plan", "Seating.plan", s_Seating_plan, []⟩,
  ⟨pgA "Seating" "rows", "rows", "Seating.rows", s_Seating_rows, []⟩, gl "is_name" s_is_name, gl "number_in" s_number_in, gl "parted" s_parted, gl "copies_in" s_copies_in, gl "row_in" s_row_in, gl "groups_in" s_groups_in, gl "is_plan_text" s_is_plan_text,
  gl "names_in" s_names_in, gl "check_told" s_check_told, gl "part_at" s_part_at, gl "is_person" s_is_person, gl "check_person" s_check_person, gl "ahead_of" s_ahead_of, gl "spot_of" s_spot_of, gl "nth_person" s_nth_person,
  gl "place_of" s_place_of, gl "parts_of" s_parts_of, gl "by_people" s_by_people, gl "most_and_others" s_most_and_others, gl "line_of" s_line_of, gl "_law_take" s__law_take, gl "_law_of" s__law_of, gl "_law_cells" s__law_cells,
  gl "_law_pot" s__law_pot, gl "_law_far" s__law_far, gl "_law_person" s__law_person, gl "_law_great" s__law_great, gl "_law_deep" s__law_deep, gl "_law_wide" s__law_wide, gl "_law_text" s__law_text, gl "_law_size" s__law_size,
  gl "_law_parts_of" s__law_parts_of, gl "_law_part" s__law_part, gl "_law_both" s__law_both, gl "_law_numbers" s__law_numbers, gl "_law_anybody" s__law_anybody, gl "_law_is_known" s__law_is_known, gl "_law_is_person" s__law_is_person, gl "_law_is_seated" s__law_is_seated,
  gl "_law_right" s__law_right, gl "law" s_law]
def globs0 : List Str := ["is_integer", "is_name", "number_in", "parted", "copies_in", "row_in", "groups_in", "is_plan_text", "names_in", "check_told", "part_at", "is_person", "check_person", "ahead_of", "spot_of", "nth_person", "place_of", "parts_of"]
def globs1 : List Str := ["by_people", "most_and_others", "line_of", "_law_take", "_law_of", "_law_cells", "_law_pot", "_law_far", "_law_person", "_law_great", "_law_deep", "_law_wide", "_law_text", "_law_size", "_law_parts_of", "_law_part", "_law_both", "_law_numbers"]
def globs2 : List Str := ["_law_anybody", "_law_is_known", "_law_is_person", "_law_is_seated", "_law_right", "law", "Plan", "SIGNS", "AROUND", "TURNED", "Crowd", "Seating", "OneLine", "BesideLine", "CopiesLine", "HalvesLine", "WovenLine"]
def globsA : List Str := globs0 ++ globs1 ++ globs2
def consts : List Fa := [
  .str "ONE" "one", .str "NAME" "name", .str "BESIDE" "beside", .str "INTRODUCED" "introduced", .str "BLANK" " ", .str "LETTERS" "abcdefghijklmnopqrstuvwxyz", .str "FIGURES" "0123456789", .int "MOST_LETTERS" 8, .str "PERSON" "1", .int "LEAST_MANY" 2, .int "MOST_MANY" (10 ^ 30), .int "MOST_NAMES" 3, .int "MOST_DEPTH" 60,
  .cls "Plan", .meth "Plan" "__invert__", .mkr "Plan", .cls "Crowd", .noat "Crowd" "own_blocks", .noat "Crowd" "own_people", .mkr "Crowd", .meth "Crowd" "at", .meth "Crowd" "number_of", .cls "Seating", .noat "Seating" "own_plan", .noat "Seating" "own_line", .mkr "Seating", .meth "Seating" "made", .meth "Seating" "length", .meth "Seating" "at", .meth "Seating" "place", .cls "OneLine", .noat "OneLine" "own_people", .noat "OneLine" "own_rows", .noat "OneLine" "own_blocks", .noat "OneLine" "own_many", .noat "OneLine" "own_part", .noat "OneLine" "own_crowd", .noat "OneLine" "own_number", .noat "OneLine" "own_line", .noat "OneLine" "own_others", .noat "OneLine" "own_single", .mkr "OneLine", .meth "OneLine" "start", .meth "OneLine" "row_of", .meth "OneLine" "at", .meth "OneLine" "spot_of", .cls "BesideLine", .noat "BesideLine" "own_people", .noat "BesideLine" "own_rows", .noat "BesideLine" "own_blocks", .noat "BesideLine" "own_many", .noat "BesideLine" "own_part", .noat "BesideLine" "own_crowd", .noat "BesideLine" "own_number", .noat "BesideLine" "own_line", .noat "BesideLine" "own_others", .noat "BesideLine" "own_single", .mkr "BesideLine", .meth "BesideLine" "block", .meth "BesideLine" "start", .meth "BesideLine" "row_of", .meth "BesideLine" "at", .meth "BesideLine" "spot_of", .cls "CopiesLine", .noat "CopiesLine" "own_people", .noat "CopiesLine" "own_rows", .noat "CopiesLine" "own_blocks", .noat "CopiesLine" "own_many", .noat "CopiesLine" "own_part", .noat "CopiesLine" "own_crowd", .noat "CopiesLine" "own_number", .noat "CopiesLine" "own_line", .noat "CopiesLine" "own_others", .noat "CopiesLine" "own_single", .mkr "CopiesLine", .meth "CopiesLine" "start", .meth "CopiesLine" "row_of", .meth "CopiesLine" "at", .meth "CopiesLine" "spot_of", .cls "HalvesLine", .noat "HalvesLine" "own_people", .noat "HalvesLine" "own_rows", .noat "HalvesLine" "own_blocks", .noat "HalvesLine" "own_many", .noat "HalvesLine" "own_part", .noat "HalvesLine" "own_crowd", .noat "HalvesLine" "own_number", .noat "HalvesLine" "own_line", .noat "HalvesLine" "own_others", .noat "HalvesLine" "own_single", .mkr "HalvesLine", .meth "HalvesLine" "start", .meth "HalvesLine" "row_of", .meth "HalvesLine" "half", .meth "HalvesLine" "at", .meth "HalvesLine" "spot_of", .cls "WovenLine", .noat "WovenLine" "own_people", .noat "WovenLine" "own_rows", .noat "WovenLine" "own_blocks", .noat "WovenLine" "own_many", .noat "WovenLine" "own_part", .noat "WovenLine" "own_crowd", .noat "WovenLine" "own_number", .noat "WovenLine" "own_line", .noat "WovenLine" "own_others", .noat "WovenLine" "own_single", .mkr "WovenLine", .meth "WovenLine" "singles", .meth "WovenLine" "piece_of", .meth "WovenLine" "other_spot", .meth "WovenLine" "ahead", .meth "WovenLine" "start", .meth "WovenLine" "row_of", .meth "WovenLine" "at", .meth "WovenLine" "spot_of"]
def fas : List Fa := bns.map Fa.free ++ (globsA.map Fa.glo ++ (fNames.map (Fa.noat "Plan") ++ consts))
def tSigns : List (Str × Dt) := [("beside", .s " + "), ("introduced", .s " * ")]
def tAround : List (Str × Dt) := [("beside", .t ["[", "]"]), ("introduced", .t ["{", "}"])]
def tTurned : List (Str × Dt) := [("+", .s "*"), ("*", .s "+"), ("[", .s "{"), ("{", .s "["), ("]", .s "}"), ("}", .s "]")]
def spec : HK.Sp := ⟨fas, dds, [("Plan", "text"), ("Plan", "names"), ("Plan", "word"), ("Plan", "many"), ("Plan", "people"), ("Seating", "plan"), ("Seating", "rows")], [("SIGNS", tSigns), ("AROUND", tAround), ("TURNED", tTurned)], [], []⟩
theorem mem_bn {x : Str} (h : x ∈ bns) : Fa.free x ∈ spec.fa := List.mem_append_left _ (List.mem_map_of_mem h)
theorem mem_glo {x : Str} (h : x ∈ globsA) : Fa.glo x ∈ spec.fa := List.mem_append_right _ (List.mem_append_left _ (List.mem_map_of_mem h))
theorem mem_na {x : Str} (h : x ∈ fNames) : Fa.noat "Plan" x ∈ spec.fa := List.mem_append_right _ (List.mem_append_right _ (List.mem_append_left _ (List.mem_map_of_mem h)))
theorem mem_co (i : Nat) {f : Fa} (h : consts[i]? = some f) : f ∈ spec.fa := List.mem_append_right _ (List.mem_append_right _ (List.mem_append_right _ (List.mem_of_getElem? h)))
abbrev hk : PySem.W.Hook := hook 4 globsA spec
def ob (s : PySem.W.SharedT) : HK.Al := obsG 4 globsA spec (HandSHeadRun.getT s)
theorem ob_eq (s : PySem.W.SharedT) : ob s = hk.obs s.abs := obsG_eq (HandSHeadRun.getT_eq s)
def names0 : List PySem.Str := ["__name__", "CrowdError", "Unknown", "BadPlan", "NoPart", "BadMany", "NoName", "NoPlan", "NoPerson", "NoRow", "NoSeat", "ONE", "NAME", "BESIDE", "INTRODUCED", "BLANK", "LETTERS", "FIGURES", "MOST_LETTERS", "is_integer", "is_name", "number_in", "PERSON", "LEAST_MANY", "MOST_MANY", "MOST_NAMES", "MOST_DEPTH", "SIGNS"]
def names1 : List PySem.Str := ["AROUND", "TURNED", "parted", "copies_in", "row_in", "groups_in", "is_plan_text", "names_in", "Plan", "check_told", "row_text", "copies_text", "text_put", "part_at", "ahead_of", "spot_of", "is_person", "check_person", "nth_person", "place_of", "parts_of", "OneLine", "BesideLine", "CopiesLine", "Crowd", "by_people", "HalvesLine", "WovenLine"]
def names2 : List PySem.Str := ["most_and_others", "line_of", "Seating", "_law_pot", "_law_take", "_law_far", "_law_of", "_law_cells", "_law_person", "_law_great", "_law_deep", "_law_wide", "_law_text", "_law_size", "_law_parts_of", "_law_part", "_law_anybody", "_law_is_known", "_law_is_person", "_law_both", "_law_numbers", "_law_is_seated", "_law_right"]
abbrev R : PySem.W.OpenRow := PySem.W.OpenLaw.row PySem.Challenge.rw_greetall_k36_whole_great_seatings
theorem run0a (w : World) : HandSHeadRun.RunEq R (PySem.W.view R.prog [84]) (hook 4 globsA (Sp.lo spec 80 0)) (obT 4 globsA (Sp.lo spec 80 0)) 9000 (names0 ++ names1 ++ names2) (w.withFollow "special-get-raises" false) := by
  intro os
  kernel_rfl
theorem run0b (w : World) : HandSHeadRun.RunEq R (PySem.W.view R.prog [84]) (hook 4 globsA (Sp.lo spec 80 0)) (obT 4 globsA (Sp.lo spec 80 0)) 9000 (names0 ++ names1 ++ names2) (w.withFollow "special-get-raises" true) := by
  intro os
  kernel_rfl
theorem run0 (w : World) : HandSHeadRun.RunEq R (PySem.W.view R.prog [84]) (hook 4 globsA (Sp.lo spec 80 0)) (obT 4 globsA (Sp.lo spec 80 0)) 9000 (names0 ++ names1 ++ names2) w :=
  PySem.W.byRow2 "special-get-raises" (P := fun w => HandSHeadRun.RunEq R (PySem.W.view R.prog [84]) (hook 4 globsA (Sp.lo spec 80 0)) (obT 4 globsA (Sp.lo spec 80 0)) 9000 (names0 ++ names1 ++ names2) w) run0a run0b w
theorem run1a (w : World) : HandSHeadRun.RunEq R (PySem.W.view R.prog [84]) (hook 4 globsA (Sp.lo (Sp.hi spec 80 0) 80 0)) (obT 4 globsA (Sp.lo (Sp.hi spec 80 0) 80 0)) 9000 (names0 ++ names1 ++ names2) (w.withFollow "special-get-raises" false) := by
  intro os
  kernel_rfl
theorem run1b (w : World) : HandSHeadRun.RunEq R (PySem.W.view R.prog [84]) (hook 4 globsA (Sp.lo (Sp.hi spec 80 0) 80 0)) (obT 4 globsA (Sp.lo (Sp.hi spec 80 0) 80 0)) 9000 (names0 ++ names1 ++ names2) (w.withFollow "special-get-raises" true) := by
  intro os
  kernel_rfl
theorem run1 (w : World) : HandSHeadRun.RunEq R (PySem.W.view R.prog [84]) (hook 4 globsA (Sp.lo (Sp.hi spec 80 0) 80 0)) (obT 4 globsA (Sp.lo (Sp.hi spec 80 0) 80 0)) 9000 (names0 ++ names1 ++ names2) w :=
  PySem.W.byRow2 "special-get-raises" (P := fun w => HandSHeadRun.RunEq R (PySem.W.view R.prog [84]) (hook 4 globsA (Sp.lo (Sp.hi spec 80 0) 80 0)) (obT 4 globsA (Sp.lo (Sp.hi spec 80 0) 80 0)) 9000 (names0 ++ names1 ++ names2) w) run1a run1b w
theorem run2a (w : World) : HandSHeadRun.RunEq R (PySem.W.view R.prog [84]) (hook 4 globsA (Sp.lo (Sp.hi (Sp.hi spec 80 0) 80 0) 80 0)) (obT 4 globsA (Sp.lo (Sp.hi (Sp.hi spec 80 0) 80 0) 80 0)) 9000 (names0 ++ names1 ++ names2) (w.withFollow "special-get-raises" false) := by
  intro os
  kernel_rfl
theorem run2b (w : World) : HandSHeadRun.RunEq R (PySem.W.view R.prog [84]) (hook 4 globsA (Sp.lo (Sp.hi (Sp.hi spec 80 0) 80 0) 80 0)) (obT 4 globsA (Sp.lo (Sp.hi (Sp.hi spec 80 0) 80 0) 80 0)) 9000 (names0 ++ names1 ++ names2) (w.withFollow "special-get-raises" true) := by
  intro os
  kernel_rfl
theorem run2 (w : World) : HandSHeadRun.RunEq R (PySem.W.view R.prog [84]) (hook 4 globsA (Sp.lo (Sp.hi (Sp.hi spec 80 0) 80 0) 80 0)) (obT 4 globsA (Sp.lo (Sp.hi (Sp.hi spec 80 0) 80 0) 80 0)) 9000 (names0 ++ names1 ++ names2) w :=
  PySem.W.byRow2 "special-get-raises" (P := fun w => HandSHeadRun.RunEq R (PySem.W.view R.prog [84]) (hook 4 globsA (Sp.lo (Sp.hi (Sp.hi spec 80 0) 80 0) 80 0)) (obT 4 globsA (Sp.lo (Sp.hi (Sp.hi spec 80 0) 80 0) 80 0)) 9000 (names0 ++ names1 ++ names2) w) run2a run2b w
theorem run3a (w : World) : HandSHeadRun.RunEq R (PySem.W.view R.prog [84]) (hook 4 globsA (Sp.lo (Sp.hi (Sp.hi (Sp.hi spec 80 0) 80 0) 80 0) 0 30)) (obT 4 globsA (Sp.lo (Sp.hi (Sp.hi (Sp.hi spec 80 0) 80 0) 80 0) 0 30)) 9000 (names0 ++ names1 ++ names2) (w.withFollow "special-get-raises" false) := by
  intro os
  kernel_rfl
theorem run3b (w : World) : HandSHeadRun.RunEq R (PySem.W.view R.prog [84]) (hook 4 globsA (Sp.lo (Sp.hi (Sp.hi (Sp.hi spec 80 0) 80 0) 80 0) 0 30)) (obT 4 globsA (Sp.lo (Sp.hi (Sp.hi (Sp.hi spec 80 0) 80 0) 80 0) 0 30)) 9000 (names0 ++ names1 ++ names2) (w.withFollow "special-get-raises" true) := by
  intro os
  kernel_rfl
theorem run3 (w : World) : HandSHeadRun.RunEq R (PySem.W.view R.prog [84]) (hook 4 globsA (Sp.lo (Sp.hi (Sp.hi (Sp.hi spec 80 0) 80 0) 80 0) 0 30)) (obT 4 globsA (Sp.lo (Sp.hi (Sp.hi (Sp.hi spec 80 0) 80 0) 80 0) 0 30)) 9000 (names0 ++ names1 ++ names2) w :=
  PySem.W.byRow2 "special-get-raises" (P := fun w => HandSHeadRun.RunEq R (PySem.W.view R.prog [84]) (hook 4 globsA (Sp.lo (Sp.hi (Sp.hi (Sp.hi spec 80 0) 80 0) 80 0) 0 30)) (obT 4 globsA (Sp.lo (Sp.hi (Sp.hi (Sp.hi spec 80 0) 80 0) 80 0) 0 30)) 9000 (names0 ++ names1 ++ names2) w) run3a run3b w
theorem run4a (w : World) : HandSHeadRun.RunEq R (PySem.W.view R.prog [84]) (hook 4 globsA (Sp.lo (Sp.hi (Sp.hi (Sp.hi (Sp.hi spec 80 0) 80 0) 80 0) 0 30) 0 30)) (obT 4 globsA (Sp.lo (Sp.hi (Sp.hi (Sp.hi (Sp.hi spec 80 0) 80 0) 80 0) 0 30) 0 30)) 9000 (names0 ++ names1 ++ names2) (w.withFollow "special-get-raises" false) := by
  intro os
  kernel_rfl
theorem run4b (w : World) : HandSHeadRun.RunEq R (PySem.W.view R.prog [84]) (hook 4 globsA (Sp.lo (Sp.hi (Sp.hi (Sp.hi (Sp.hi spec 80 0) 80 0) 80 0) 0 30) 0 30)) (obT 4 globsA (Sp.lo (Sp.hi (Sp.hi (Sp.hi (Sp.hi spec 80 0) 80 0) 80 0) 0 30) 0 30)) 9000 (names0 ++ names1 ++ names2) (w.withFollow "special-get-raises" true) := by
  intro os
  kernel_rfl
theorem run4 (w : World) : HandSHeadRun.RunEq R (PySem.W.view R.prog [84]) (hook 4 globsA (Sp.lo (Sp.hi (Sp.hi (Sp.hi (Sp.hi spec 80 0) 80 0) 80 0) 0 30) 0 30)) (obT 4 globsA (Sp.lo (Sp.hi (Sp.hi (Sp.hi (Sp.hi spec 80 0) 80 0) 80 0) 0 30) 0 30)) 9000 (names0 ++ names1 ++ names2) w :=
  PySem.W.byRow2 "special-get-raises" (P := fun w => HandSHeadRun.RunEq R (PySem.W.view R.prog [84]) (hook 4 globsA (Sp.lo (Sp.hi (Sp.hi (Sp.hi (Sp.hi spec 80 0) 80 0) 80 0) 0 30) 0 30)) (obT 4 globsA (Sp.lo (Sp.hi (Sp.hi (Sp.hi (Sp.hi spec 80 0) 80 0) 80 0) 0 30) 0 30)) 9000 (names0 ++ names1 ++ names2) w) run4a run4b w
theorem run5a (w : World) : HandSHeadRun.RunEq R (PySem.W.view R.prog [84]) (hook 4 globsA (Sp.hi (Sp.hi (Sp.hi (Sp.hi (Sp.hi spec 80 0) 80 0) 80 0) 0 30) 0 30)) (obT 4 globsA (Sp.hi (Sp.hi (Sp.hi (Sp.hi (Sp.hi spec 80 0) 80 0) 80 0) 0 30) 0 30)) 9000 (names0 ++ names1 ++ names2) (w.withFollow "special-get-raises" false) := by
  intro os
  kernel_rfl
theorem run5b (w : World) : HandSHeadRun.RunEq R (PySem.W.view R.prog [84]) (hook 4 globsA (Sp.hi (Sp.hi (Sp.hi (Sp.hi (Sp.hi spec 80 0) 80 0) 80 0) 0 30) 0 30)) (obT 4 globsA (Sp.hi (Sp.hi (Sp.hi (Sp.hi (Sp.hi spec 80 0) 80 0) 80 0) 0 30) 0 30)) 9000 (names0 ++ names1 ++ names2) (w.withFollow "special-get-raises" true) := by
  intro os
  kernel_rfl
theorem run5 (w : World) : HandSHeadRun.RunEq R (PySem.W.view R.prog [84]) (hook 4 globsA (Sp.hi (Sp.hi (Sp.hi (Sp.hi (Sp.hi spec 80 0) 80 0) 80 0) 0 30) 0 30)) (obT 4 globsA (Sp.hi (Sp.hi (Sp.hi (Sp.hi (Sp.hi spec 80 0) 80 0) 80 0) 0 30) 0 30)) 9000 (names0 ++ names1 ++ names2) w :=
  PySem.W.byRow2 "special-get-raises" (P := fun w => HandSHeadRun.RunEq R (PySem.W.view R.prog [84]) (hook 4 globsA (Sp.hi (Sp.hi (Sp.hi (Sp.hi (Sp.hi spec 80 0) 80 0) 80 0) 0 30) 0 30)) (obT 4 globsA (Sp.hi (Sp.hi (Sp.hi (Sp.hi (Sp.hi spec 80 0) 80 0) 80 0) 0 30) 0 30)) 9000 (names0 ++ names1 ++ names2) w) run5a run5b w
theorem run (w : World) : HandSHeadRun.RunEq R (PySem.W.view R.prog [84]) hk ob 9000 (names0 ++ names1 ++ names2) w := run_cut 80 0 (run0 w) (run_cut 80 0 (run1 w) (run_cut 80 0 (run2 w) (run_cut 0 30 (run3 w) (run_cut 0 30 (run4 w) (run5 w)))))
end W
/-! C6: Plan's methods. -/
namespace W
open PySem PySem.Spec PyProof.Rows L2 DL SX PL
section
variable {P : Program} {w : World} {K : PySem.W.Frag} {mg : Str → Option Value} {base : Heap} {C : Addr}
abbrev nInit : List Str := ["self", "text", "groups", "many", "part"]
theorem mul_ok {n p m : Nat} (h1 : n ≤ 10 ^ 30) (h2 : p < 16 ^ m) (h3 : m ≤ 100000) : CMulW (n : Nat) (p : Nat) := by
  show ((n : Int)).natAbs.log2 + ((p : Int)).natAbs.log2 < 1000000
  rw [Int.natAbs_natCast, Int.natAbs_natCast]
  have e1 := log16 h2
  have e2 : n < 16 ^ 26 := Nat.lt_of_le_of_lt h1 (by decide)
  have e3 := log16 e2
  omega
theorem sum_cast {α : Type} (f : α → Nat) : ∀ l : List α, (l.map fun q => ((f q : Nat) : Int)).sum = (((l.map f).sum : Nat) : Int)
  | [] => rfl
  | x :: l => by simp [sum_cast f l]
theorem ok_init (h : Nat) (F : Fx w K mg) (X : Px K mg C) (F1 : Fc P w K mg base "is_plan_text" [] (h + 4) 2 (cPlanText h)) (F2 : Fc P w K mg base "names_in" [] (h + 4) 1 (cNamesIn h)) (F3 : Fc P w K mg base "groups_in" [] 3 1 cGroupsIn)
    (F4 : ∀ j, h = j + 1 → Kc P w K mg base "Plan" C [] (2 * j + 6) 2 (cInit C j)) : BodyOk P w K mg base "Plan.__init__" s_Plan___init__ nInit 2 (2 * h + 5) (cInit C h) := by
  intro f cdv A outer s H E hr ds M Φ hl hc
  obtain ⟨a, t, rfl, hg, htd, hl, hh, h60, hM, hc⟩ := hc
  have nd : nInit.Nodup := by decide +kernel
  have hk := kids_len hg
  obtain ⟨ps, hcmp⟩ := grp_cmp hg
  -- nothing is wrong
  refine wss_cons (ws_if (wt_ww (ww_or (wt_not (wt_val (we_isi (F.bn _ (by decide +kernel)) (we_var 1 rfl (we_bty (F.bn _ (by decide +kernel)) rfl ⟨_, _, true, rfl, rfl, (by intro C h; cases h), rfl, _, rfl, ?_⟩))))))))
  refine ww_or (wt_not (wt_val (we_call F1 (hr.mono (by omega)) (wa_cons (we_var 1 rfl (wa_cons (we_int (wa_nil ⟨rfl, t, 0, rfl, hg, by omega, hh, by omega, _, rfl, ?_⟩))))))))
  refine ww_or1 (wt_gtI (we_len (F.bn _ (by decide +kernel)) (we_call F2 (hr.mono (by omega)) (wa_cons (we_var 1 rfl (wa_nil ⟨rfl, t, rfl, hg, htd, by omega, hh, _, lenL, we_gint F.gMOST_NAMES ⟨_, _, rfl, rfl, ?_⟩⟩))))))
  refine wss_nil ?_
  -- the fields
  refine wss_cons (ws_fld (C := C) (we_var 1 rfl (we_var 0 rfl ⟨a, _, rfl, hM, X.cl, X.na _ (by decide +kernel), by decide, ?_⟩)))
  rw [put1]
  refine wss_cons (ws_fld (C := C) (we_tupleOf (F.bn _ (by decide +kernel)) (we_call F2 (hr.mono (by omega)) (wa_cons (we_var 1 rfl (wa_nil ⟨rfl, t, rfl, hg, htd, by omega, hh, _, .inl rfl, we_var 0 rfl ⟨a, _, rfl, mset_same, X.cl, X.na _ (by decide +kernel), sl1, ?_⟩⟩))))))
  rw [mset_mset, put2]
  refine wss_cons (ws_asg (we_call F3 (hr.mono (by omega)) (wa_cons (we_var 1 rfl (wa_nil ⟨rfl, t, rfl, hg, by omega, ?_⟩)))))
  refine wg_tup ⟨rfl, rfl, wgs_cons (wg_fld (C := C) (we_var 0 rfl ⟨a, _, rfl, mset_same, X.cl, X.na _ (by decide +kernel), sl2, wgs_cons (wg_name 2 (wgs_nil ⟨rfl, ?_⟩) nd)⟩))⟩
  rw [mset_mset, put3]
  refine wss_cons (ws_fld (C := C) (we_lc nd (blkOk_by (N := nInit) (sc := defScope s_Plan___init__) (own := [("many", 3), ("part", 4)]) (by decide +kernel)) (fun _ _ _ _ _ => pg_tup rfl (pgs_cons (pg_name (i := 3) nd rfl (Or.inl rfl)) (pgs_cons (pg_name (i := 4) nd rfl (Or.inl rfl)) pgs_nil)) rfl rfl) (gt_two (by decide) (by decide)) (fun _ _ _ _ _ => pts_nil) tk_nil
    (wi_list (we_var 2 rfl ⟨_, .inl rfl, ?_⟩))))
  refine ⟨by rw [grpD, List.length_map, sizeLine_eq]; omega, fun i acc M' => M' = mset M a (.ins C (f3 (tS (txt t)) (.tup []) (.str (wordT t)))) ∧ acc = ((kids t).take i).map fun q => .tup [.int (q.1 : Nat), planD C q.2], ⟨rfl, rfl⟩, ?_, ?_⟩
  · rintro i x acc M' hx ⟨rfl, rfl⟩
    rw [grpD, List.getElem?_map] at hx
    obtain ⟨q, hq, rfl⟩ := Option.map_eq_some_iff.mp hx
    have hm := List.mem_of_getElem? hq
    obtain ⟨g1, g2, g3, g4, g5⟩ := kids_ok hm hg
    refine ⟨_, _, rfl, ?_⟩
    intro s1 H1 C' cl fp
    obtain ⟨j, rfl⟩ : ∃ j, h = j + 1 := ⟨h - 1, by omega⟩
    refine we_tup (wa_cons (we_var 3 rfl (wa_cons (we_plan (F4 j rfl) (hr.mono (by omega)) (we_var 4 rfl ⟨q.2, rfl, g1, kids_told hm htd, by omega, by omega, by omega, wa_nil ⟨sz2, rfl, ?_⟩⟩)))))
    rw [take_snoc hq, List.map_append]; rfl
  rintro acc M' ⟨rfl, rfl⟩
  refine we_var 0 rfl ⟨a, _, rfl, mset_same, X.cl, X.na _ (by decide +kernel), sl3, ?_⟩
  have el : (grpD t).length = (kids t).length := by rw [grpD, List.length_map]
  rw [mset_mset, put4, el, List.take_length]
  obtain ⟨c, r, ec, hcop⟩ := cop_in hg
  refine wss_cons (ws_fld (C := C) (we_inS (we_slice (we_var 1 rfl (we_int ⟨1, rfl, _, .inr (.inr ⟨_, rfl, by rw [S_len, sizeLine_eq]; omega, rfl⟩), we_txts ⟨_, _, rfl, .inl rfl, we_var 0 rfl ⟨a, _, rfl, mset_same, X.cl, X.na _ (by decide +kernel), sl4, ?_⟩⟩⟩)))))
  rw [mset_mset, put5, show cutS (S (txt t)) none (some 1) = S [c] by rw [ec, cut_1], hcop]
  -- people
  have fin : ∀ n : Int, n = (ppl t : Nat) → Φ .non (mset (mset M a (.ins C (f5 (tS (txt t)) (.tup []) (.str (wordT t)) (.lst (subsD C t)) (.bl (isCop t))))) a (.ins C (putD "own_people" (.int n) (f5 (tS (txt t)) (.tup []) (.str (wordT t)) (.lst (subsD C t)) (.bl (isCop t)))))) := fun n hn => by
    rw [mset_mset, put6, hn]
    exact hc
  refine wss_cons (ws_fld (C := C) (we_if (wt_neNil hr.units (we_var 2 rfl ⟨_, ps, 1, rfl, hcmp, by decide, ?_⟩))))
  by_cases hk0 : kids t = []
  · 
    have e1 : (grpD t).isEmpty = true := by unfold grpD; rw [hk0]; rfl
    rw [e1]
    refine we_int (we_var 0 rfl ⟨a, _, rfl, mset_same, X.cl, X.na _ (by decide +kernel), sl5, ?_⟩)
    exact wss_nil (fin 1 (by rw [ppl_none hk0 hg]; rfl))
  · have e1 : (grpD t).isEmpty = false := by
      unfold grpD
      cases hh2 : kids t with
      | nil => exact absurd hh2 hk0
      | cons q qs => rfl
    rw [e1]
    refine we_sum (F.bn _ (by decide +kernel)) (we_lc nd (blkOk_by (N := nInit) (sc := defScope s_Plan___init__) (own := [("many", 3), ("part", 4)]) (by decide +kernel)) (fun _ _ _ _ _ => pg_tup rfl (pgs_cons (pg_name (i := 3) nd rfl (Or.inl rfl)) (pgs_cons (pg_name (i := 4) nd rfl (Or.inl rfl)) pgs_nil)) rfl rfl) (gt_two (by decide) (by decide)) (fun _ _ _ _ _ => pts_nil) tk_nil
      (wi_list (we_fld (C := C) (we_var 0 rfl ⟨_, _, mset_same, X.cl, X.na _ (by decide +kernel), lk5_groups, _, .inl rfl, ?_⟩))))
    refine ⟨by rw [List.length_map, sizeLine_eq]; omega, fun i acc M' => M' = mset M a (.ins C (f5 (tS (txt t)) (.tup []) (.str (wordT t)) (.lst (subsD C t)) (.bl (isCop t)))) ∧ acc = (((kids t).take i).map fun q => ((q.1 * ppl q.2 : Nat) : Int)).map D.int, ⟨rfl, rfl⟩, ?_, ?_⟩
    · rintro i x acc M' hx ⟨rfl, rfl⟩
      rw [List.getElem?_map] at hx
      obtain ⟨q, hq, rfl⟩ := Option.map_eq_some_iff.mp hx
      have hm := List.mem_of_getElem? hq
      obtain ⟨g1, g2, g3, g4, g5⟩ := kids_ok hm hg
      refine ⟨_, _, rfl, ?_⟩
      intro s1 H1 C' cl fp
      refine we_mulI (we_var 3 rfl (we_fld (C := C) (we_var 4 rfl ⟨_, _, by rw [planD_told (kids_told hm htd)]; exact ⟨rfl, rfl⟩, X.cl, X.na _ (by decide +kernel), lk_people, _, _, rfl, rfl, mul_ok g5 (ppl_lt g1) (by omega), rfl, ?_⟩)))
      rw [take_snoc hq, List.map_append, List.map_append, ← Int.natCast_mul]; rfl
    · rintro acc M' ⟨rfl, rfl⟩
      refine ⟨_, rfl, we_var 0 rfl ⟨a, _, rfl, mset_same, X.cl, X.na _ (by decide +kernel), sl5, ?_⟩⟩
      rw [List.length_map, List.take_length]
      refine wss_nil (fin _ ?_)
      rw [ppl_kids hk0, sum_cast]
end
end W
/-! PM3: mirrors, people, who knows whom. -/
namespace PL
open PySem SX TL
def Ok (t : T) : Prop := Good t ∧ Told t ∧ (txt t).length ≤ 100000
theorem kids_Ok {t : T} {q : Nat × T} (hq : q ∈ kids t) (h : Ok t) : Ok q.2 := by
  obtain ⟨h1, h2, h3⟩ := h
  obtain ⟨g1, g2, g3, g4, g5⟩ := kids_ok hq h1
  exact ⟨g1, kids_told hq h2, by omega⟩
def cnt (t : T) : Nat := ((kids t).map (·.1)).sum
/-- the part with the number i (of copies: any) -/
def piece : T → Nat → Option T
  | .cop _ _ t, _ => some t
  | .row _ ts, i => ts[i]?
  | _, _ => none
theorem cnt_cop (s : Bool) (n : Nat) (t : T) : cnt (.cop s n t) = n := by simp [cnt, kids]
theorem ones_sum : ∀ ts : List T, ((ts.map fun t => (1, t)).map (fun q : Nat × T => q.1)).sum = ts.length
  | [] => rfl
  | t :: ts => by rw [List.map_cons, List.map_cons, List.sum_cons, ones_sum ts, List.length_cons]; show 1 + _ = _; omega
theorem cnt_row (s : Bool) (ts : List T) : cnt (.row s ts) = ts.length := by
  unfold cnt kids; exact ones_sum ts
theorem piece_some {t : T} {i : Nat} (h : i < cnt t) : ∃ u, piece t i = some u := by
  cases t with
  | one => simp [cnt, kids] at h
  | name x => simp [cnt, kids] at h
  | cop s n t => exact ⟨t, rfl⟩
  | row s ts => rw [cnt_row] at h; exact ⟨ts[i], List.getElem?_eq_getElem h⟩
theorem piece_mem {t u : T} {i : Nat} (h : piece t i = some u) : ∃ q ∈ kids t, q.2 = u := by
  cases t with
  | one => cases h
  | name x => cases h
  | cop s n v => exact ⟨(n, v), by simp [kids], Option.some.inj h⟩
  | row s ts => exact ⟨(1, u), by unfold kids; exact List.mem_map.mpr ⟨u, List.mem_of_getElem? h, rfl⟩, rfl⟩
theorem piece_Ok {t u : T} {i : Nat} (h : piece t i = some u) (ok : Ok t) : Ok u := by
  obtain ⟨q, hq, rfl⟩ := piece_mem h
  exact kids_Ok hq ok
/-- going down -/
def desc : T → List Nat → Option T
  | t, [] => some t
  | t, i :: p => if i < cnt t then (piece t i).bind fun u => desc u p else none
theorem desc_snoc : ∀ {t : T} {p : List Nat} {i : Nat}, desc t (p ++ [i]) = (desc t p).bind fun u => if i < cnt u then piece u i else none
  | t, [], i => by
    simp only [List.nil_append, desc, Option.bind_some]
    split
    · cases piece t i <;> rfl
    · rfl
  | t, j :: p, i => by
    simp only [List.cons_append, desc]
    split
    · cases h : piece t j with
      | none => rfl
      | some u => simp only [Option.bind_some]; exact desc_snoc
    · rfl
theorem desc_Ok : ∀ {t u : T} {p : List Nat}, desc t p = some u → Ok t → Ok u
  | t, u, [], h, ok => by cases h; exact ok
  | t, u, i :: p, h, ok => by
    simp only [desc] at h
    split at h
    · obtain ⟨v, h1, h2⟩ := Option.bind_eq_some_iff.mp h
      exact desc_Ok h2 (piece_Ok h1 ok)
    · cases h
theorem desc_none {t : T} {p q : List Nat} (h : desc t p = none) : desc t (p ++ q) = none := by
  induction p generalizing t with
  | nil => cases h
  | cons i p ih =>
    simp only [List.cons_append, desc] at h ⊢
    split
    · rename_i hc
      rw [if_pos hc] at h
      cases e : piece t i with
      | none => rfl
      | some u => rw [e] at h; simp only [Option.bind_some] at h ⊢; exact ih h
    · rfl
def isOneT : T → Bool
  | .one => true
  | _ => false
/-- is it a person of the plan -/
def isPers (t : T) (p : List Nat) : Bool := match desc t p with
  | some u => isOneT u
  | none => false
/-- whether the parts know one another -/
def intr : T → Bool
  | .cop s _ _ => s
  | .row s _ => s
  | _ => false
/-- whom do_know tells -/
def knowsB : T → List Nat → List Nat → Bool
  | t, i :: p, j :: q => if i = j then (match piece t i with | some u => knowsB u p q | none => false) else intr t
  | _, _, _ => false

/-! ### the mirror -/
def flip (c : Nat) : Nat := if c = 43 then 42 else if c = 42 then 43 else if c = 91 then 123 else if c = 123 then 91 else if c = 93 then 125 else if c = 125 then 93 else c
mutual
def mir : T → T
  | .one => .one
  | .name x => .name x
  | .cop s n t => .cop (!s) n (mir t)
  | .row s ts => .row (!s) (mirs ts)
def mirs : List T → List T
  | [] => []
  | t :: ts => mir t :: mirs ts
end
theorem mirs_map : ∀ ts : List T, mirs ts = ts.map mir
  | [] => rfl
  | t :: ts => by rw [mirs, mirs_map ts, List.map_cons]
theorem flip_id {c : Nat} (h : c ≠ 43 ∧ c ≠ 42 ∧ c ≠ 91 ∧ c ≠ 123 ∧ c ≠ 93 ∧ c ≠ 125) : flip c = c := by
  unfold flip
  obtain ⟨h1, h2, h3, h4, h5, h6⟩ := h
  rw [if_neg h1, if_neg h2, if_neg h3, if_neg h4, if_neg h5, if_neg h6]
theorem map_flip_id : ∀ {l : List Nat}, (∀ c ∈ l, c ≠ 43 ∧ c ≠ 42 ∧ c ≠ 91 ∧ c ≠ 123 ∧ c ≠ 93 ∧ c ≠ 125) → l.map flip = l
  | [], _ => rfl
  | c :: l, h => by rw [List.map_cons, flip_id (h c List.mem_cons_self), map_flip_id fun x hx => h x (List.mem_cons_of_mem _ hx)]
theorem flip_sep (s : Bool) : (sep s).map flip = sep (!s) := by cases s <;> rfl
theorem map_join (f : Nat → Nat) {S S' : List Nat} (hs : S.map f = S') : ∀ ps : List (List Nat), (joinL S ps).map f = joinL S' (ps.map (·.map f))
  | [] => rfl
  | [p] => by rw [joinL]; rfl
  | p :: q :: r => by
    rw [joinL, List.map_append, List.map_append, hs, map_join f hs (q :: r)]; rfl
mutual
theorem txt_mir : ∀ {t : T}, Good t → txt (mir t) = (txt t).map flip
  | .one, _ => by rw [mir, txt]; rfl
  | .name x, h => by
    rw [mir, txt]
    refine (map_flip_id fun c hc => ?_).symm
    have q := h.2.2 c hc
    simp [letter] at q
    omega
  | .cop s n t, h => by
    rw [mir, txt, txt, txt_mir h.2.2]
    have e : (numL n).map flip = numL n := map_flip_id fun c hc => by have := numL_digits n c hc; omega
    simp only [List.map_cons, List.map_append, e]
    cases s <;> rfl
  | .row s ts, h => by
    rw [mir, txt, txt, txts_mir h.2]
    simp only [List.map_cons, List.map_append, map_join flip (flip_sep s)]
    rfl
theorem txts_mir : ∀ {ts : List T}, Goods ts → txts (mirs ts) = (txts ts).map (·.map flip)
  | [], _ => by rw [mirs, txts]; rfl
  | t :: ts, h => by rw [mirs, txts, txts, txt_mir h.1, txts_mir h.2, List.map_cons]
end
mutual
theorem mir_good : ∀ {t : T}, Good t → Good (mir t)
  | .one, _ => by rw [mir]; trivial
  | .name x, h => by rw [mir]; exact h
  | .cop s n t, h => by rw [mir]; exact ⟨h.1, h.2.1, mir_good h.2.2⟩
  | .row s ts, h => by
    rw [mir]
    refine ⟨by rw [mirs_map, List.length_map]; exact h.1, mirs_good h.2⟩
theorem mirs_good : ∀ {ts : List T}, Goods ts → Goods (mirs ts)
  | [], _ => by rw [mirs]; trivial
  | t :: ts, h => by rw [mirs]; exact ⟨mir_good h.1, mirs_good h.2⟩
end
mutual
theorem mir_told : ∀ {t : T}, Told t → Told (mir t)
  | .one, _ => by rw [mir]; trivial
  | .name x, h => h.elim
  | .cop s n t, h => by rw [mir]; exact mir_told (t := t) h
  | .row s ts, h => by rw [mir]; exact mirs_told (ts := ts) h
theorem mirs_told : ∀ {ts : List T}, Tolds ts → Tolds (mirs ts)
  | [], _ => by rw [mirs]; trivial
  | t :: ts, h => by rw [mirs]; exact ⟨mir_told h.1, mirs_told h.2⟩
end
mutual
theorem mir_ht : ∀ t : T, ht (mir t) = ht t
  | .one => by rw [mir]
  | .name x => by rw [mir]
  | .cop s n t => by rw [mir, ht, ht, mir_ht t]
  | .row s ts => by rw [mir, ht, ht, mirs_ht ts]
theorem mirs_ht : ∀ ts : List T, hts (mirs ts) = hts ts
  | [] => by rw [mirs]
  | t :: ts => by rw [mirs, hts, hts, mir_ht t, mirs_ht ts]
end
theorem mir_Ok {t : T} (h : Ok t) : Ok (mir t) := ⟨mir_good h.1, mir_told h.2.1, by rw [txt_mir h.1, List.length_map]; exact h.2.2⟩
theorem mir_cnt (t : T) : cnt (mir t) = cnt t := by
  cases t with
  | one => rw [mir]
  | name x => rw [mir]
  | cop s n t => rw [mir, cnt_cop, cnt_cop]
  | row s ts => rw [mir, cnt_row, cnt_row, mirs_map, List.length_map]
theorem mir_piece (t : T) (i : Nat) : piece (mir t) i = (piece t i).map mir := by
  cases t with
  | one => rw [mir]; rfl
  | name x => rw [mir]; rfl
  | cop s n t => rw [mir]; rfl
  | row s ts => rw [mir]; show (mirs ts)[i]? = _; rw [mirs_map, List.getElem?_map]; rfl
theorem mir_desc : ∀ (t : T) (p : List Nat), desc (mir t) p = (desc t p).map mir
  | t, [] => rfl
  | t, i :: p => by
    simp only [desc]
    rw [mir_cnt, mir_piece]
    split
    · cases piece t i with
      | none => rfl
      | some u => simp only [Option.map_some, Option.bind_some]; exact mir_desc u p
    · rfl
theorem mir_isOne (t : T) : isOneT (mir t) = isOneT t := by cases t <;> rw [mir] <;> rfl
theorem mir_isPers (t : T) (p : List Nat) : isPers (mir t) p = isPers t p := by
  unfold isPers
  rw [mir_desc]
  cases desc t p with
  | none => rfl
  | some u => exact mir_isOne u
end PL
/-! C7: the properties, check_told, ~. -/
namespace W
open PySem PySem.Spec PyProof.Rows L2 DL SX PL
section
variable {P : Program} {w : World} {K : PySem.W.Frag} {mg : Str → Option Value} {base : Heap} {C : Addr}
/-- what a question of the plan tells -/
def cGet (C : Addr) (g : T → D) : Con := fun ds M Φ => ∃ t, ds = [planD C t] ∧ Ok t ∧ Φ (g t) M
theorem insP {M : Mp} {t : T} (h : Told t) : InsOf M C (planD C t) (fldsD C t) := by rw [planD_told h]; exact ⟨rfl, rfl⟩
theorem ok_text (X : Px K mg C) : BodyOk P w K mg base "Plan.text" s_Plan_text ["self"] 1 0 (cGet C fun t => tS (txt t)) := by
  intro f cdv A outer s H E hr ds M Φ hl hc
  obtain ⟨t, rfl, ok, hc⟩ := hc
  exact wss_cons (ws_ret (we_fld (C := C) (we_var 0 rfl ⟨_, _, insP ok.2.1, X.cl, X.na _ (by decide +kernel), lk_text, Lets.of hc⟩)))
theorem ok_names (X : Px K mg C) : BodyOk P w K mg base "Plan.names" s_Plan_names ["self"] 1 0 (cGet C fun t => .tup []) := by
  intro f cdv A outer s H E hr ds M Φ hl hc
  obtain ⟨t, rfl, ok, hc⟩ := hc
  exact wss_cons (ws_ret (we_fld (C := C) (we_var 0 rfl ⟨_, _, insP ok.2.1, X.cl, X.na _ (by decide +kernel), lk_names, Lets.of hc⟩)))
theorem ok_word (X : Px K mg C) : BodyOk P w K mg base "Plan.word" s_Plan_word ["self"] 1 0 (cGet C fun t => .str (wordT t)) := by
  intro f cdv A outer s H E hr ds M Φ hl hc
  obtain ⟨t, rfl, ok, hc⟩ := hc
  exact wss_cons (ws_ret (we_fld (C := C) (we_var 0 rfl ⟨_, _, insP ok.2.1, X.cl, X.na _ (by decide +kernel), lk_word, Lets.of hc⟩)))
theorem ok_many (F : Fx w K mg) (X : Px K mg C) : BodyOk P w K mg base "Plan.many" s_Plan_many ["self", "many", "part"] 1 0 (cGet C fun t => .int (cnt t : Nat)) := by
  intro f cdv A outer s H E hr ds M Φ hl hc
  obtain ⟨t, rfl, ok, hc⟩ := hc
  have nd : (["self", "many", "part"] : List Str).Nodup := by decide +kernel
  have hk := kids_len ok.1
  have h3 := ok.2.2
  refine wss_cons (ws_ret (we_sum (F.bn _ (by decide +kernel)) (we_lc nd (blkOk_by (N := ["self", "many", "part"]) (sc := defScope s_Plan_many) (own := [("many", 1), ("part", 2)]) (by decide +kernel)) (fun _ _ _ _ _ => pg_tup rfl (pgs_cons (pg_name (i := 1) nd rfl (Or.inl rfl)) (pgs_cons (pg_name (i := 2) nd rfl (Or.inl rfl)) pgs_nil)) rfl rfl) (gt_two (by decide) (by decide)) (fun _ _ _ _ _ => pts_nil) tk_nil
    (wi_list (we_fld (C := C) (we_var 0 rfl ⟨_, _, insP ok.2.1, X.cl, X.na _ (by decide +kernel), lk_groups, _, .inl rfl, ?_⟩))))))
  refine ⟨by rw [subsD, List.length_map, sizeLine_eq]; omega, fun i acc M' => M' = M ∧ acc = (((kids t).take i).map fun q => ((q.1 : Nat) : Int)).map D.int, ⟨rfl, rfl⟩, ?_, ?_⟩
  · rintro i x acc M' hx ⟨rfl, rfl⟩
    rw [subsD, List.getElem?_map] at hx
    obtain ⟨q, hq, rfl⟩ := Option.map_eq_some_iff.mp hx
    refine ⟨_, _, rfl, ?_⟩
    intro s1 H1 C' cl fp
    refine we_var 1 rfl ⟨rfl, ?_⟩
    rw [take_snoc hq, List.map_append, List.map_append]; rfl
  · rintro acc M' ⟨rfl, rfl⟩
    refine ⟨_, rfl, Lets.of ?_⟩
    rw [subsD, List.length_map, List.take_length, sum_cast (fun q : Nat × T => q.1)]
    exact hc
def cTold (C : Addr) : Con := fun ds M Φ => ∃ t, ds = [planD C t] ∧ Ok t ∧ Φ .non M
theorem ok_check_told (F1 : Pc P w K mg base C "names" 1 (cGet C fun t => .tup [])) : BodyOk P w K mg base "check_told" s_check_told ["plan"] 1 2 (cTold C) := by
  intro f cdv A outer s H E hr ds M Φ hl hc
  obtain ⟨t, rfl, ok, hc⟩ := hc
  exact wss_cons (ws_if (wt_neNilT hr.units (we_prop F1 (hr.mono (by decide)) (we_var 0 rfl ⟨_, insP ok.2.1, t, rfl, ok, [], [], 0, rfl, cmps_nil, by decide, wss_nil (wss_nil hc)⟩))))
/-- one sign turned -/
theorem turned (c : Nat) : (List.lookup (S [c]) turnedD).getD (.str (S [c])) = .str (S [PL.flip c]) := by
  have e : turnedD = [(S [43], tS [42]), (S [42], tS [43]), (S [91], tS [123]), (S [123], tS [91]), (S [93], tS [125]), (S [125], tS [93])] := by
    unfold turnedD
    rw [show ("+" : Str) = S [43] by decide +kernel, show ("*" : Str) = S [42] by decide +kernel, show ("[" : Str) = S [91] by decide +kernel, show ("{" : Str) = S [123] by decide +kernel, show ("]" : Str) = S [93] by decide +kernel, show ("}" : Str) = S [125] by decide +kernel]
  have b : ∀ d, (S [c] == S [d]) = decide (c = d) := fun d => by
    rw [S_beq_eq]
    exact decide_eq_decide.mpr ⟨fun h => by injection h, fun h => by rw [h]⟩
  rw [e]
  unfold PL.flip
  simp only [List.lookup_cons, b, List.lookup_nil]
  by_cases h1 : c = 43
  · subst h1; rfl
  by_cases h2 : c = 42
  · subst h2; rfl
  by_cases h3 : c = 91
  · subst h3; rfl
  by_cases h4 : c = 123
  · subst h4; rfl
  by_cases h5 : c = 93
  · subst h5; rfl
  by_cases h6 : c = 125
  · subst h6; rfl
  rw [if_neg h1, if_neg h2, if_neg h3, if_neg h4, if_neg h5, if_neg h6]
  simp [h1, h2, h3, h4, h5, h6]
theorem join_signs : ∀ l : List Nat, TL.joinL [] (l.map fun c => [c]) = l
  | [] => rfl
  | [c] => rfl
  | c :: d :: r => by
    have ih := join_signs (d :: r)
    simp only [List.map_cons] at ih ⊢
    rw [TL.joinL, ih]; rfl
theorem sum_ones : ∀ l : List Nat, (l.map fun _ => 1).sum = l.length
  | [] => rfl
  | c :: l => by rw [List.map_cons, List.sum_cons, sum_ones l, List.length_cons]; omega
def cInv (C : Addr) (h : Nat) : Con := fun ds M Φ => ∃ t, ds = [planD C t] ∧ Ok t ∧ ht t ≤ h ∧ ht t ≤ 60 ∧ Φ (planD C (mir t)) M
theorem ok_invert (h : Nat) (F : Fx w K mg) (F1 : Fc P w K mg base "check_told" [] 3 1 (cTold C)) (F2 : Pc P w K mg base C "text" 1 (cGet C fun t => tS (txt t))) (F3 : Kc P w K mg base "Plan" C [] (2 * h + 6) 2 (cInit C h)) :
    BodyOk P w K mg base "Plan.__invert__" s_Plan___invert__ ["self", "sign"] 1 (2 * h + 7) (cInv C h) := by
  intro f cdv A outer s H E hr ds M Φ hl hc
  obtain ⟨t, rfl, ok, hh, h60, hc⟩ := hc
  have nd : (["self", "sign"] : List Str).Nodup := by decide +kernel
  have h3 := ok.2.2
  obtain ⟨a, kvs, h1, h2, h3'⟩ := F.gTURNED
  refine wss_cons (ws_expr (we_call F1 (hr.mono (by omega)) (wa_cons (we_var 0 rfl (wa_nil ⟨rfl, t, rfl, ok, ?_⟩)))))
  refine wss_cons (ws_ret (we_plan F3 (hr.mono (by omega)) (we_join (we_str ⟨_, rfl, we_lc nd (blkOk_by (N := ["self", "sign"]) (sc := defScope s_Plan___invert__) (own := [("sign", 1)]) (by decide +kernel)) (fun _ _ _ _ _ => pg_name (i := 1) nd rfl (Or.inl rfl)) (gt_name (by decide)) (fun _ _ _ _ _ => pts_nil) tk_nil
    (wi_str (we_prop F2 (hr.mono (by omega)) (we_var 0 rfl ⟨_, insP ok.2.1, t, rfl, ok, _, rfl, ?_⟩)))⟩))))
  refine ⟨by rw [signs_S, List.length_map, sizeLine_eq]; omega, fun i acc M' => M' = M ∧ acc = ((((txt t).take i).map fun c => [PL.flip c]).map S).map D.str, ⟨rfl, rfl⟩, ?_, ?_⟩
  · rintro i x acc M' hx ⟨rfl, rfl⟩
    obtain ⟨c, hc1, rfl⟩ := signs_get hx
    intro s1 H1 C' cl fp
    refine we_gget h1 h2 h3' (we_var 1 rfl ⟨_, rfl, we_var 1 rfl ⟨rfl, ?_⟩⟩)
    rw [show (⟨#[c]⟩ : Str) = S [c] from rfl, turned, take_snoc hc1, List.map_append, List.map_append, List.map_append]; rfl
  · rintro acc M' ⟨rfl, rfl⟩
    rw [signs_S, List.length_map, List.take_length]
    have el : ((((txt t).map fun c => [PL.flip c]).map S).map (·.length)).sum = (txt t).length := by
      rw [lens, List.map_map]
      exact sum_ones (txt t)
    refine ⟨((txt t).map fun c => [PL.flip c]).map S, .inl rfl, ?_, ?_⟩
    · rw [el]
      have : ("" : Str).length = 0 := by decide +kernel
      rw [this]; omega
    · rw [show ("" : Str) = S [] by decide +kernel, join_S, show ((txt t).map fun c => [PL.flip c]) = ((txt t).map PL.flip).map fun c => [c] by rw [List.map_map]; rfl, join_signs, ← txt_mir ok.1]
      have mo := mir_Ok ok
      exact ⟨mir t, rfl, mo.1, mo.2.1, mo.2.2, by rw [mir_ht]; exact hh, by rw [mir_ht]; exact h60, Lets.of hc⟩
end
end W
/-! C9: what the law draws. -/
namespace W
open PySem PySem.Spec PyProof.Rows L2 DL SX PL
section
variable {P : Program} {w : World} {K : PySem.W.Frag} {mg : Str → Option Value} {base : Heap} {C : Addr}
abbrev potL (a c d : Int) : MO := .lst [.int a, .int c, .int d]
def cOk (c : Int) : Prop := 0 ≤ c ∧ c < 2305843009213693921
def cTake : Con := fun ds M Φ => ∃ p u a c d, ds = [.ob p, .int u] ∧ 1 ≤ u ∧ u ≤ 10 ^ 40 ∧ M p = some (potL a c d) ∧ cOk c ∧ 0 ≤ d ∧ d < 100000 ∧ ∀ r a' d', 0 ≤ r → r < u → d ≤ d' → d' ≤ d + 1 → Φ (.int r) (mset M p (potL a' c d'))
theorem at0 {a c d : Int} : atI [D.int a, D.int c, D.int d] 0 = some (.int a) := atI_nat (j := 0) rfl
theorem at1 {a c d : Int} : atI [D.int a, D.int c, D.int d] 1 = some (.int c) := atI_nat (j := 1) rfl
theorem at2 {a c d : Int} : atI [D.int a, D.int c, D.int d] 2 = some (.int d) := atI_nat (j := 2) rfl
def primes : List Int := [2147483647, 2147483629, 2147483587, 2147483579, 2147483563]
theorem prime_at {i : Int} (h0 : 0 ≤ i) (h5 : i < 5) : ∃ q, atI (primes.map D.int) i = some (.int q) ∧ 2147483563 ≤ q ∧ q ≤ 2147483647 := by
  obtain ⟨n, rfl⟩ := Int.eq_ofNat_of_zero_le h0
  have : n < 5 := by omega
  match n, this with
  | 0, _ => exact ⟨2147483647, atI_nat (j := 0) rfl, by decide, by decide⟩
  | 1, _ => exact ⟨2147483629, atI_nat (j := 1) rfl, by decide, by decide⟩
  | 2, _ => exact ⟨2147483587, atI_nat (j := 2) rfl, by decide, by decide⟩
  | 3, _ => exact ⟨2147483579, atI_nat (j := 3) rfl, by decide, by decide⟩
  | 4, _ => exact ⟨2147483563, atI_nat (j := 4) rfl, by decide, by decide⟩
theorem log40 {u : Int} (h1 : 1 ≤ u) (h2 : u ≤ 10 ^ 40) : u.natAbs.log2 < 9000 := by
  have e : u.natAbs < 16 ^ 40 := by
    have : (10 : Int) ^ 40 < 16 ^ 40 := by decide +kernel
    have e2 : ((16 ^ 40 : Nat) : Int) = 16 ^ 40 := by decide +kernel
    omega
  have := log16 e
  omega
abbrev nTake : List Str := ["_law_pot_here", "_law_upto", "_law_digit", "_law_prime", "_law_stirred"]
theorem sq_le {d : Int} (h0 : 0 ≤ d) (h : d ≤ 100000) : 0 ≤ 100237 * d * d ∧ 100237 * d * d ≤ 100237 * 100000 * 100000 := by
  have h1 : 0 ≤ d * d := Int.mul_nonneg h0 h0
  have h2 : d * d ≤ 100000 * 100000 := Int.mul_le_mul h h h0 (by decide)
  rw [Int.mul_assoc]
  omega
theorem ok_take (F : Fx w K mg) : BodyOk P w K mg base "_law_take" s__law_take nTake 2 0 cTake := by
  intro f cdv A outer s H E hr ds M Φ hl hc
  obtain ⟨p, u, a, c, d, rfl, hu, hu2, hM, ⟨c0, c1⟩, d0, d1, hc⟩ := hc
  have nd : nTake.Nodup := by decide +kernel
  refine wss_cons (ws_if (wt_gtI (we_ix (we_var 0 rfl (we_int ⟨0, _, rfl, ixO hM at0, we_int ⟨_, _, rfl, rfl, ?_⟩⟩)))))
  refine ite_dec (fun ha => ?_) fun ha => ?_
  · refine wss_cons (ws_set 2 nd (we_modI (we_intN (F.bn _ (by decide +kernel)) (we_ix (we_var 0 rfl (we_int ⟨0, _, rfl, ixO hM at0, .inl ⟨_, rfl, we_var 1 rfl ⟨_, _, rfl, rfl, by omega, ?_⟩⟩⟩))))))
    refine wss_cons (ws_asg (we_divI (we_ix (we_var 0 rfl (we_int ⟨0, _, rfl, ixO hM at0, we_var 1 rfl ⟨_, _, rfl, rfl, ⟨by omega, ?_⟩, ?_⟩⟩)))))
    · exact log40 hu hu2
    · refine wg_sub (we_var 0 rfl (we_int ⟨p, _, 0, 0, rfl, rfl, hM, rfl, ?_⟩))
      refine wss_cons (ws_ret (we_var 2 rfl (Lets.of ?_)))
      exact hc _ _ _ (Int.emod_nonneg _ (by omega)) (Int.emod_lt_of_pos _ (by omega)) (Int.le_refl _) (by omega)
  · refine wss_nil ?_
    refine wss_cons (ws_asg (we_addI (we_ix (we_var 0 rfl (we_int ⟨2, _, rfl, ixO hM at2, we_int ⟨_, _, rfl, rfl, ?_⟩⟩)))))
    refine wg_sub (we_var 0 rfl (we_int ⟨p, _, 2, 2, rfl, rfl, hM, rfl, ?_⟩))
    show WSs _ _ (mset M p (potL a c (d + 1))) _ _
    have hM2 : mset M p (potL a c (d + 1)) p = some (potL a c (d + 1)) := mset_same
    obtain ⟨q, hq, q1, q2⟩ := prime_at (i := (d + 1) % 5) (Int.emod_nonneg _ (by decide)) (Int.emod_lt_of_pos _ (by decide))
    refine wss_cons (ws_set 3 nd (we_ix (we_lst (wa_cons (we_int (wa_cons (we_int (wa_cons (we_int (wa_cons (we_int (wa_cons (we_int (wa_nil ⟨by show 5 ≤ sizeLine; decide, ?_⟩))))))))))))))
    refine we_modI (we_intN (F.bn _ (by decide +kernel)) (we_ix (we_var 0 rfl (we_int ⟨2, _, rfl, ixO hM2 at2, .inl ⟨_, rfl, we_int ⟨_, _, rfl, rfl, by decide, _, _, rfl, ixL hq, ?_⟩⟩⟩))))
    obtain ⟨s1, s2⟩ := sq_le (d := d + 1) (by omega) (by omega)
    refine wss_cons (ws_set 4 nd (we_modI (we_intN (F.bn _ (by decide +kernel)) (we_powI (we_intN (F.bn _ (by decide +kernel)) (we_addI (we_addI (we_ix (we_var 0 rfl (we_int ⟨1, _, rfl, ixO hM2 at1, ?_⟩))))))))))
    refine we_mulS (we_mulS (we_int (we_ix (we_var 0 rfl (we_int ⟨2, _, rfl, ixO hM2 at2, _, _, rfl, rfl, .inl ⟨by decide, by decide⟩, we_ix (we_var 0 rfl (we_int ⟨2, _, rfl, ixO hM2 at2, _, _, rfl, rfl, .inr ⟨by omega, by omega⟩, _, _, rfl, rfl, ?_⟩))⟩)))))
    refine we_int ⟨_, _, rfl, rfl, .inl ⟨_, rfl, we_int ⟨_, _, rfl, rfl, ⟨by decide, by decide, ?_⟩, .inl ⟨_, rfl, we_var 3 rfl ⟨_, _, rfl, rfl, by omega, ?_⟩⟩⟩⟩⟩
    · omega
    generalize hm : ((c + 100237 * (d + 1) * (d + 1) + 59) ^ (3 : Int).toNat) % q = m
    have m0 : 0 ≤ m := by rw [← hm]; exact Int.emod_nonneg _ (by omega)
    have m1 : m < q := by rw [← hm]; exact Int.emod_lt_of_pos _ (by omega)
    refine wss_cons (ws_set 4 nd (we_modI (we_intN (F.bn _ (by decide +kernel)) (we_mulS (we_var 4 rfl (we_addI (we_modI (we_intN (F.bn _ (by decide +kernel)) (we_var 4 rfl (.inl ⟨_, rfl, we_int ⟨_, _, rfl, rfl, by decide, ?_⟩⟩))))))))))
    refine we_mulS (we_int (we_ix (we_var 0 rfl (we_int ⟨2, _, rfl, ixO hM2 at2, _, _, rfl, rfl, .inl ⟨by decide, by decide⟩, _, _, rfl, rfl, _, _, rfl, rfl, .inl ⟨by omega, by omega⟩, .inl ⟨_, rfl, we_int ⟨_, _, rfl, rfl, by decide, ?_⟩⟩⟩))))
    refine wss_cons (ws_ret (we_modI (we_intN (F.bn _ (by decide +kernel)) (we_divI (we_var 4 rfl (we_int ⟨_, _, rfl, rfl, ⟨by decide, by decide⟩, .inl ⟨_, rfl, we_var 1 rfl ⟨_, _, rfl, rfl, by omega, Lets.of ?_⟩⟩⟩))))))
    exact hc _ _ _ (Int.emod_nonneg _ (by omega)) (Int.emod_lt_of_pos _ (by omega)) (by omega) (by omega)
end
end W
/-! C8: people: part_at, is_person, check_person, do_know, knows. -/
namespace W
open PySem PySem.Spec PyProof.Rows L2 DL SX PL
section
variable {P : Program} {w : World} {K : PySem.W.Frag} {mg : Str → Option Value} {base : Heap} {C : Addr}
/-- a person as data -/
abbrev perD (p : List Nat) : D := .tup (p.map fun (i : Nat) => D.int (i : Nat))
def cPartAt (C : Addr) : Con := fun ds M Φ => ∃ t i u, ds = [planD C t, .int (i : Nat)] ∧ Ok t ∧ piece t i = some u ∧ Φ (planD C u) M
theorem ok_part_at (X : Px K mg C) : BodyOk P w K mg base "part_at" s_part_at ["plan", "number"] 2 0 (cPartAt C) := by
  intro f cdv A outer s H E hr ds M Φ hl hc
  obtain ⟨t, i, u, rfl, ok, hp, hc⟩ := hc
  refine wss_cons (ws_ret (we_if (wt_val (we_fld (C := C) (we_var 0 rfl ⟨_, _, insP ok.2.1, X.cl, X.na _ (by decide +kernel), lk_copies, _, rfl, ?_⟩)))))
  cases t with
  | one => cases hp
  | name x => cases hp
  | cop b n v =>
    obtain rfl : v = u := Option.some.inj hp
    exact we_ix (we_ix (we_fld (C := C) (we_var 0 rfl ⟨_, _, insP ok.2.1, X.cl, X.na _ (by decide +kernel), lk_groups, we_int ⟨0, _, rfl, ixL (atI_nat (j := 0) rfl), we_int ⟨1, _, rfl, ixT (atI_nat (j := 1) rfl), Lets.of hc⟩⟩⟩)))
  | row b ts =>
    have hq : (subsD C (.row b ts))[i]? = some (.tup [.int ((1 : Nat) : Int), planD C u]) := by
      show ((ts.map fun t => (1, t)).map fun q : Nat × T => D.tup [.int (q.1 : Nat), planD C q.2])[i]? = _
      rw [List.map_map, List.getElem?_map, show ts[i]? = some u from hp]; rfl
    exact we_ix (we_ix (we_fld (C := C) (we_var 0 rfl ⟨_, _, insP ok.2.1, X.cl, X.na _ (by decide +kernel), lk_groups, we_var 1 rfl ⟨i, _, rfl, ixL (atI_nat hq), we_int ⟨1, _, rfl, ixT (atI_nat (j := 1) rfl), Lets.of hc⟩⟩⟩)))

/-! ### is_person -/
def cIsPerson (C : Addr) : Con := fun ds M Φ => ∃ t p, ds = [planD C t, perD p] ∧ Ok t ∧ Φ (.bl (isPers t p)) M
theorem pers_get {p : List Nat} {i : Nat} {x : D} (h : (p.map fun (i : Nat) => D.int (i : Nat))[i]? = some x) : ∃ n, p[i]? = some n ∧ x = .int (n : Nat) := by
  rw [List.getElem?_map] at h
  obtain ⟨n, h1, rfl⟩ := Option.map_eq_some_iff.mp h
  exact ⟨n, h1, rfl⟩
theorem one_word {t : T} (h : Told t) : decide (wordT t = ("one" : Str)) = isOneT t := by
  cases t with
  | one => decide +kernel
  | name x => exact h.elim
  | cop s n u =>
    show decide (wrd s = ("one" : Str)) = false
    cases s <;> decide +kernel
  | row s ts =>
    show decide (wrd s = ("one" : Str)) = false
    cases s <;> decide +kernel
theorem ok_is_person (F : Fx w K mg) (F1 : Fc P w K mg base "is_integer" [] 1 3 cIsInt) (F2 : Pc P w K mg base C "many" 1 (cGet C fun t => .int (cnt t : Nat))) (F3 : Fc P w K mg base "part_at" [] 1 2 (cPartAt C)) (F4 : Pc P w K mg base C "word" 1 (cGet C fun t => .str (wordT t))) :
    BodyOk P w K mg base "is_person" s_is_person ["plan", "value", "here", "number"] 2 2 (cIsPerson C) := by
  intro f cdv A outer s H E hr ds M Φ hl hc
  obtain ⟨t, p, rfl, ok, hc⟩ := hc
  have nd : (["plan", "value", "here", "number"] : List Str).Nodup := by decide +kernel
  refine wss_cons (ws_if (wt_not (wt_val (we_isi (F.bn _ (by decide +kernel)) (we_var 1 rfl (we_bty (F.bn _ (by decide +kernel)) rfl ⟨_, _, true, rfl, rfl, (by intro C h; cases h), rfl, _, rfl, ?_⟩))))))
  refine wss_nil (wss_cons (ws_set 2 nd (we_var 0 rfl ?_)))
  refine wss_cons (ws_for PassesOwn.never (wi_tup (we_var 1 rfl ⟨_, rfl, ?_⟩)))
  refine ⟨fun i ρ' M' => ∃ o u, ρ' = [some (planD C t), some (perD p), some (planD C u), o] ∧ M' = M ∧ desc t (p.take i) = some u, ⟨_, t, rfl, rfl, rfl⟩, ?_, ?_⟩
  · rintro i x ρ' M' hx ⟨o, u, rfl, rfl, hd⟩
    obtain ⟨n, hn, rfl⟩ := pers_get hx
    have oku := desc_Ok hd ok
    refine wg_name 3 ?_ nd
    refine wss_cons (ws_if (wt_not (wt_val (we_call F1 (hr.mono (by decide)) (wa_cons (we_var 3 rfl (wa_cons (we_int (wa_cons (we_subI (we_prop F2 (hr.mono (by decide)) (we_var 2 rfl ⟨_, insP oku.2.1, u, rfl, oku, we_int ⟨_, _, rfl, rfl, wa_nil ⟨rfl, _, _, _, rfl, _, rfl, ?_⟩⟩⟩))))))))))))
    have e : (decide ((0 : Int) ≤ (n : Nat)) && decide (((n : Nat) : Int) ≤ (cnt u : Nat) - 1)) = decide (n < cnt u) := by
      rw [decide_eq_true (show (0 : Int) ≤ (n : Nat) by omega), Bool.true_and]
      exact decide_eq_decide.mpr (by omega)
    rw [e]
    have ed : desc t (p.take (i + 1)) = if n < cnt u then piece u n else none := by
      rw [take_snoc hn, desc_snoc, hd]; rfl
    by_cases hlt : n < cnt u
    · rw [decide_eq_true hlt]
      rw [if_pos hlt] at ed
      obtain ⟨v, hv⟩ := piece_some hlt
      refine wss_nil (wss_cons (ws_set 2 nd (we_call F3 (hr.mono (by decide)) (wa_cons (we_var 2 rfl (wa_cons (we_var 3 rfl (wa_nil ⟨rfl, u, n, v, rfl, oku, hv, wss_nil ⟨_, v, rfl, rfl, ed.trans hv⟩⟩))))))))
    · rw [decide_eq_false hlt]
      rw [if_neg hlt] at ed
      refine wss_cons (ws_ret (we_bl (Lets.of ?_)))
      have : isPers t p = false := by
        unfold isPers
        have e2 := desc_none (q := p.drop (i + 1)) ed
        rw [List.take_append_drop] at e2
        rw [e2]
      rw [this] at hc
      exact hc
  · rintro ρ' M' ⟨o, u, rfl, rfl, hd⟩
    rw [List.length_map, List.take_length] at hd
    have oku := desc_Ok hd ok
    refine wss_cons (ws_ret (we_eqS (we_prop F4 (hr.mono (by decide)) (we_var 2 rfl ⟨_, insP oku.2.1, u, rfl, oku, we_gstr F.gONE ⟨_, rfl, Lets.of ?_⟩⟩))))
    rw [one_word oku.2.1]
    have : isPers t p = isOneT u := by unfold isPers; rw [hd]
    rw [← this]; exact hc
def cCheckPerson (C : Addr) : Con := fun ds M Φ => ∃ t p, ds = [planD C t, perD p] ∧ Ok t ∧ isPers t p = true ∧ Φ .non M
theorem ok_check_person (F1 : Fc P w K mg base "is_person" [] 3 2 (cIsPerson C)) : BodyOk P w K mg base "check_person" s_check_person ["plan", "value"] 2 3 (cCheckPerson C) := by
  intro f cdv A outer s H E hr ds M Φ hl hc
  obtain ⟨t, p, rfl, ok, hp, hc⟩ := hc
  refine wss_cons (ws_if (wt_not (wt_val (we_call F1 (hr.mono (by decide)) (wa_cons (we_var 0 rfl (wa_cons (we_var 1 rfl (wa_nil ⟨rfl, t, p, rfl, ok, _, rfl, ?_⟩)))))))))
  rw [hp]
  exact wss_nil (wss_nil hc)

end
end W
/-! PM4: all people; who knows whom by going down; drawn plans. -/
namespace PL
open PySem SX TL
theorem fm_congr {α β : Type} {f g : α → List β} : ∀ {l : List α}, (∀ x ∈ l, f x = g x) → l.flatMap f = l.flatMap g
  | [], _ => rfl
  | x :: l, h => by rw [List.flatMap_cons, List.flatMap_cons, h x List.mem_cons_self, fm_congr fun y hy => h y (List.mem_cons_of_mem _ hy)]
mutual
def persL : T → List (List Nat)
  | .one => [[]]
  | .name _ => []
  | .cop _ n t => (List.range n).flatMap fun i => (persL t).map (i :: ·)
  | .row _ ts => persR 0 ts
def persR : Nat → List T → List (List Nat)
  | _, [] => []
  | k, t :: ts => (persL t).map (k :: ·) ++ persR (k + 1) ts
end
def pieceP (t : T) (j : Nat) : List (List Nat) := match piece t j with
  | some u => (persL u).map (j :: ·)
  | none => []
def upTo (t : T) (i : Nat) : List (List Nat) := (List.range i).flatMap (pieceP t)
theorem upTo_succ {t u : T} {i : Nat} (h : piece t i = some u) : upTo t (i + 1) = upTo t i ++ (persL u).map (i :: ·) := by
  unfold upTo
  rw [List.range_succ, List.flatMap_append]
  simp [pieceP, h]
theorem persR_eq : ∀ (ts : List T) (k : Nat), persR k ts = (List.range ts.length).flatMap fun j => match ts[j]? with
    | some u => (persL u).map ((k + j) :: ·)
    | none => []
  | [], k => by rw [persR]; rfl
  | t :: ts, k => by
    rw [persR, persR_eq ts (k + 1), List.length_cons, List.range_succ_eq_map, List.flatMap_cons, List.flatMap_map]
    congr 1
    refine fm_congr ?_
    intro j _
    simp only [Function.comp, Nat.succ_eq_add_one, List.getElem?_cons_succ]
    rw [show k + 1 + j = k + (j + 1) by omega]
theorem persL_upTo {t : T} (h : isOneT t = false) : persL t = upTo t (cnt t) := by
  cases t with
  | one => cases h
  | name x => rw [persL]; rfl
  | cop s n t => rw [persL, cnt_cop]; rfl
  | row s ts =>
    rw [persL, cnt_row, persR_eq]
    unfold upTo
    refine fm_congr ?_
    intro j _
    simp only [pieceP, piece, Nat.zero_add]
theorem mem_upTo {t : T} {i : Nat} {p : List Nat} (h : p ∈ upTo t i) : ∃ j u q, j < i ∧ piece t j = some u ∧ q ∈ persL u ∧ p = j :: q := by
  unfold upTo at h
  obtain ⟨j, hj, hp⟩ := List.mem_flatMap.mp h
  unfold pieceP at hp
  cases e : piece t j with
  | none => rw [e] at hp; simp at hp
  | some u =>
    rw [e] at hp
    obtain ⟨q, hq, rfl⟩ := List.mem_map.mp hp
    exact ⟨j, u, q, List.mem_range.mp hj, e, hq, rfl⟩
theorem piece_ht {t u : T} {i : Nat} (h : piece t i = some u) : ht u < ht t := by
  cases t with
  | one => cases h
  | name x => cases h
  | cop s n v => obtain rfl := Option.some.inj h; rw [ht]; omega
  | row s ts => have := hts_le (List.mem_of_getElem? (show ts[i]? = some u from h)); rw [ht]; omega
theorem pers_is : ∀ (n : Nat) {t : T} {p : List Nat}, ht t ≤ n → p ∈ persL t → isPers t p = true := by
  intro n
  induction n with
  | zero =>
    intro t p hn hp
    cases h : isOneT t with
    | true =>
      cases t with
      | one =>
        rw [persL] at hp
        have : p = [] := by simpa using hp
        subst this; rfl
      | _ => cases h
    | false =>
      rw [persL_upTo h] at hp
      obtain ⟨j, u, q, h1, h2, h3, rfl⟩ := mem_upTo hp
      have := piece_ht h2
      omega
  | succ n ih =>
    intro t p hn hp
    cases h : isOneT t with
    | true =>
      cases t with
      | one =>
        rw [persL] at hp
        have : p = [] := by simpa using hp
        subst this; rfl
      | _ => cases h
    | false =>
      rw [persL_upTo h] at hp
      obtain ⟨j, u, q, h1, h2, h3, rfl⟩ := mem_upTo hp
      have h4 := piece_ht h2
      have h5 := ih (by omega) h3
      unfold isPers at h5 ⊢
      simp only [desc]
      rw [if_pos h1, h2]
      exact h5
theorem pers_len {t : T} {i j : Nat} (h : i ≤ j) : (upTo t i).length ≤ (upTo t j).length := by
  obtain ⟨k, rfl⟩ := Nat.exists_eq_add_of_le h
  unfold upTo
  rw [List.range_add, List.flatMap_append, List.length_append]
  omega
mutual
theorem persL_le : ∀ t : T, (persL t).length ≤ ppl t
  | .one => by rw [persL, ppl]; simp
  | .name x => by rw [persL, ppl]; simp
  | .cop s n t => by
    rw [persL, ppl]
    have ih := persL_le t
    have : ∀ m : Nat, ((List.range m).flatMap fun i => (persL t).map (i :: ·)).length = m * (persL t).length := by
      intro m
      induction m with
      | zero => simp
      | succ m ih => rw [List.range_succ, List.flatMap_append, List.length_append, ih]; simp [Nat.succ_mul]
    rw [this]
    exact Nat.mul_le_mul_left _ ih
  | .row s ts => by rw [persL, ppl]; exact persR_le 0 ts
theorem persR_le : ∀ (k : Nat) (ts : List T), (persR k ts).length ≤ ppls ts
  | k, [] => by rw [persR, ppls]; simp
  | k, t :: ts => by
    rw [persR, ppls, List.length_append, List.length_map]
    have h1 := persL_le t
    have h2 := persR_le (k + 1) ts
    omega
end
/-- a person that is nothing further down -/
theorem pers_nil {t : T} (h : isPers t [] = true) : t = .one := by
  unfold isPers at h
  simp only [desc] at h
  cases t with
  | one => rfl
  | _ => cases h
theorem pers_cons {t : T} {i : Nat} {p : List Nat} (h : isPers t (i :: p) = true) : ∃ u, i < cnt t ∧ piece t i = some u ∧ isPers u p = true := by
  unfold isPers at h
  simp only [desc] at h
  split at h
  · rename_i u hu
    split at hu
    · rename_i hlt
      obtain ⟨v, h1, h2⟩ := Option.bind_eq_some_iff.mp hu
      exact ⟨v, hlt, h1, by unfold isPers; rw [h2]; exact h⟩
    · cases hu
  · cases h
theorem pers_ht : ∀ {p : List Nat} {t : T}, isPers t p = true → p.length ≤ ht t
  | [], _, _ => Nat.zero_le _
  | i :: p, t, h => by
    obtain ⟨u, h1, h2, h3⟩ := pers_cons h
    have a := pers_ht h3
    have b := piece_ht h2
    rw [List.length_cons]; omega
theorem mem_le_sum : ∀ {l : List Nat} {n : Nat}, n ∈ l → n ≤ l.sum
  | x :: l, n, h => by
    rw [List.sum_cons]
    rcases List.mem_cons.mp h with rfl | h
    · omega
    · have := mem_le_sum h; omega
theorem pers_one {p : List Nat} (h : isPers .one p = true) : p = [] := by
  cases p with
  | nil => rfl
  | cons i p =>
    obtain ⟨u, h1, _⟩ := pers_cons h
    simp [cnt, kids] at h1
theorem two_pers {t : T} {p q : List Nat} (hp : isPers t p = true) (hq : isPers t q = true) (hn : p ≠ q) : ∃ i p' j q' u v, p = i :: p' ∧ q = j :: q' ∧ i < cnt t ∧ j < cnt t ∧ piece t i = some u ∧ piece t j = some v ∧ isPers u p' = true ∧ isPers v q' = true := by
  cases p with
  | nil =>
    have := pers_nil hp
    subst this
    exact absurd (pers_one hq).symm hn
  | cons i p' =>
    cases q with
    | nil =>
      have := pers_nil hq
      subst this
      exact absurd (pers_one hp) hn
    | cons j q' =>
      obtain ⟨u, h1, h2, h3⟩ := pers_cons hp
      obtain ⟨v, g1, g2, g3⟩ := pers_cons hq
      exact ⟨i, p', j, q', u, v, rfl, rfl, h1, g1, h2, g2, h3, g3⟩
theorem knows_self : ∀ (p : List Nat) (t : T), knowsB t p p = false
  | [], t => by simp [knowsB]
  | i :: p, t => by
    rw [knowsB, if_pos rfl]
    cases piece t i with
    | none => rfl
    | some u => exact knows_self p u
theorem mir_intr {t : T} (h : 0 < cnt t) : intr (mir t) = !intr t := by
  cases t with
  | one => simp [cnt, kids] at h
  | name x => simp [cnt, kids] at h
  | cop s n t => rw [mir]; rfl
  | row s ts => rw [mir]; rfl
/-- the other way round in the mirror -/
theorem mir_knows : ∀ (p : List Nat) {q : List Nat} {t : T}, isPers t p = true → isPers t q = true → knowsB (mir t) p q = (decide (p ≠ q) && !knowsB t p q)
  | [], q, t, hp, hq => by
    have e := pers_nil hp
    subst e
    have := pers_one hq
    subst this
    simp [knowsB]
  | i :: p, [], t, hp, hq => by
    have e := pers_nil hq
    subst e
    have := pers_one hp
    cases this
  | i :: p, j :: q, t, hp, hq => by
    obtain ⟨u, h1, h2, h3⟩ := pers_cons hp
    obtain ⟨v, g1, g2, g3⟩ := pers_cons hq
    rw [knowsB, knowsB]
    by_cases hij : i = j
    · subst hij
      rw [if_pos rfl, if_pos rfl, mir_piece, h2]
      rw [h2] at g2
      obtain rfl := Option.some.inj g2
      show knowsB (mir u) p q = _
      rw [mir_knows p h3 g3]
      congr 1
      exact decide_eq_decide.mpr ⟨fun h e => h (by injection e), fun h e => h (by rw [e])⟩
    · rw [if_neg hij, if_neg hij, mir_intr (by omega)]
      rw [decide_eq_true (show i :: p ≠ j :: q from fun e => hij (by injection e))]; rfl

/-! ### drawn plans -/
/-- a drawn plan of s people, dp deep -/
def Bt (t : T) (s dp : Nat) : Prop := Good t ∧ Told t ∧ ppl t = s ∧ ht t ≤ dp + 1 ∧ (txt t).length ≤ 40 * (s * (dp + 2))
def Bts : List T → List Nat → Nat → Prop
  | [], [], _ => True
  | t :: ts, z :: zs, dp => Bt t z dp ∧ Bts ts zs dp
  | _, _, _ => False
theorem bts_snoc {t : T} {z dp : Nat} (h : Bt t z dp) : ∀ {ts : List T} {zs : List Nat}, Bts ts zs dp → Bts (ts ++ [t]) (zs ++ [z]) dp
  | [], [], _ => ⟨h, trivial⟩
  | _ :: _, _ :: _, g => ⟨g.1, bts_snoc h g.2⟩
  | [], _ :: _, g => g.elim
  | _ :: _, [], g => g.elim
theorem bts_len {dp : Nat} : ∀ {ts : List T} {zs : List Nat}, Bts ts zs dp → ts.length = zs.length
  | [], [], _ => rfl
  | _ :: _, _ :: _, g => by rw [List.length_cons, List.length_cons, bts_len g.2]
  | [], _ :: _, g => g.elim
  | _ :: _, [], g => g.elim
theorem bts_all {dp : Nat} (b : Bool) : ∀ {ts : List T} {zs : List Nat}, Bts ts zs dp → Goods ts ∧ Tolds ts ∧ ppls ts = zs.sum ∧ hts ts ≤ dp + 1 ∧ (joinL (sep b) (txts ts)).length ≤ 40 * (zs.sum * (dp + 2)) + 3 * ts.length
  | [], [], _ => ⟨trivial, trivial, rfl, Nat.zero_le _, by rw [txts, joinL]; simp⟩
  | [t], [z], g => by
    obtain ⟨⟨g1, g2, g3, g4, g5⟩, _⟩ := g
    refine ⟨⟨g1, trivial⟩, ⟨g2, trivial⟩, by rw [ppls, ppls, g3]; simp, by rw [hts, hts]; simp; exact g4, ?_⟩
    rw [txts, txts, joinL]
    simp; omega
  | t :: u :: ts, z :: y :: zs, g => by
    obtain ⟨⟨g1, g2, g3, g4, g5⟩, r⟩ := g
    obtain ⟨h1, h2, h3, h4, h5⟩ := bts_all b r
    refine ⟨⟨g1, h1⟩, ⟨g2, h2⟩, by rw [ppls, g3, h3]; simp, by rw [hts]; omega, ?_⟩
    have e1 : joinL (sep b) (txts (t :: u :: ts)) = txt t ++ (sep b ++ joinL (sep b) (txts (u :: ts))) := by rw [txts, txts, joinL]
    rw [e1, List.length_append, List.length_append, sep_len, List.length_cons]
    have e2 : (z :: y :: zs).sum * (dp + 2) = z * (dp + 2) + (y :: zs).sum * (dp + 2) := by rw [List.sum_cons, Nat.add_mul]
    rw [e2]
    omega
  | [], _ :: _, g => g.elim
  | _ :: _, [], g => g.elim
  | [_], _ :: _ :: _, g => g.2.elim
  | _ :: _ :: _, [_], g => g.2.elim
mutual
theorem ppl_pos : ∀ {t : T}, Good t → 1 ≤ ppl t
  | .one, _ => by rw [ppl]; omega
  | .name x, _ => by rw [ppl]; omega
  | .cop s n t, h => by
    rw [ppl]
    have h1 := ppl_pos h.2.2
    have h2 := h.1
    exact Nat.mul_pos (by omega) h1
  | .row s ts, h => by
    rw [ppl]
    have := ppls_pos h.2
    have := h.1
    omega
theorem ppls_pos : ∀ {ts : List T}, Goods ts → ts.length ≤ ppls ts
  | [], _ => Nat.zero_le _
  | t :: ts, h => by
    rw [ppls, List.length_cons]
    have h1 := ppl_pos h.1
    have h2 := ppls_pos h.2
    omega
end
theorem ht_one {t : T} (h : Good t) (h1 : ppl t = 1) : ht t = 0 := by
  cases t with
  | one => rw [ht]
  | name x => rw [ht]
  | cop s n t =>
    rw [ppl] at h1
    have h2 := ppl_pos h.2.2
    have h3 := Nat.mul_le_mul h.1 h2
    omega
  | row s ts =>
    rw [ppl] at h1
    have h2 := ppls_pos h.2
    have h3 := h.1
    omega
theorem bt_one (dp : Nat) : Bt .one 1 dp := ⟨trivial, trivial, by rw [ppl], by rw [ht]; omega, by rw [txt]; simp; omega⟩
theorem bt_row {ts : List T} {zs : List Nat} {dp s : Nat} (b : Bool) (h : Bts ts zs dp) (h2 : 2 ≤ zs.length) (h3 : zs.length ≤ 3) (hs : zs.sum = s) (h1 : 2 ≤ s) : Bt (.row b ts) s (dp + 1) := by
  obtain ⟨g1, g2, g3, g4, g5⟩ := bts_all b h
  have hl := bts_len h
  refine ⟨⟨by omega, g1⟩, g2, by rw [ppl, g3, hs], by rw [ht]; omega, ?_⟩
  rw [txt]
  simp only [List.length_cons, List.length_append, List.length_nil]
  rw [hs] at g5
  have e : s * (dp + 1 + 2) = s * (dp + 2) + s := by rw [show dp + 1 + 2 = (dp + 2) + 1 by omega, Nat.mul_succ]
  rw [e]
  omega
theorem bt_cop {t : T} {n s' s dp dp' : Nat} (b : Bool) (h : Bt t s' dp') (hn : 2 ≤ n) (hn2 : n ≤ 10 ^ 30) (hs : n * s' = s) (h1 : 1 ≤ s') (hd : dp' + 1 ≤ dp ∨ (s' = 1 ∧ dp = 0 ∧ dp' = 0 ∧ ht t = 0)) : Bt (.cop b n t) s dp := by
  obtain ⟨g1, g2, g3, g4, g5⟩ := h
  have hlen : (numL n).length ≤ 31 := numL_len (by decide) (Nat.lt_of_le_of_lt hn2 (by decide))
  have hss : 2 * s' ≤ s := by rw [← hs]; exact Nat.mul_le_mul_right _ hn
  refine ⟨⟨hn, hn2, g1⟩, g2, by rw [ppl, g3, hs], by rw [ht]; omega, ?_⟩
  rw [txt]
  simp only [List.length_cons, List.length_append, List.length_nil]
  have key : s' * (dp' + 2) + 1 ≤ s * (dp + 2) := by
    rcases hd with hd | ⟨rfl, rfl, rfl, _⟩
    · have e1 : s' * (dp' + 2) ≤ s' * (dp + 2) := Nat.mul_le_mul_left _ (by omega)
      have e2 : 2 * s' * (dp + 2) ≤ s * (dp + 2) := Nat.mul_le_mul_right _ hss
      have e3 : 2 * s' * (dp + 2) = s' * (dp + 2) + s' * (dp + 2) := by rw [Nat.mul_assoc]; omega
      have e4 : 1 ≤ s' * (dp + 2) := Nat.mul_pos h1 (by omega)
      omega
    · omega
  omega
end PL
/-! CT16: parts lie deeper. -/
namespace W
open PySem PySem.Spec PyProof.Rows L2 DL SX PL
theorem kids_ht {t : T} {q : Nat × T} (h : q ∈ kids t) : ht q.2 < ht t := by
  cases t with
  | one => simp [kids] at h
  | name x => simp [kids] at h
  | cop b n v =>
    simp [kids] at h
    subst h
    exact piece_ht (t := .cop b n v) (i := 0) rfl
  | row b ts =>
    unfold kids at h
    obtain ⟨u, hu, rfl⟩ := List.mem_map.mp h
    obtain ⟨i, hi, rfl⟩ := List.getElem_of_mem hu
    exact piece_ht (t := .row b ts) (i := i) (List.getElem?_eq_getElem hi)
end W
/-! PM5: people by their numbers. -/
namespace PL
open PySem SX TL
theorem flat_const {β : Type} {m : Nat} (f : Nat → List β) (hf : ∀ i, (f i).length = m) : ∀ (n : Nat) {l : Nat}, l < n * m → ((List.range n).flatMap f)[l]? = (f (l / m))[l % m]?
  | 0, l, h => by simp at h
  | n + 1, l, h => by
    rw [List.range_succ, List.flatMap_append]
    have hlen : ((List.range n).flatMap f).length = n * m := by
      clear h
      induction n with
      | zero => simp
      | succ n ih => rw [List.range_succ, List.flatMap_append, List.length_append, ih]; simp [hf, Nat.succ_mul]
    by_cases hl : l < n * m
    · rw [List.getElem?_append_left (by rw [hlen]; exact hl)]
      exact flat_const f hf n hl
    · have hm : 0 < m := by
        rcases Nat.eq_zero_or_pos m with h0 | h0
        · subst h0; simp at h
        · exact h0
      rw [List.getElem?_append_right (by rw [hlen]; omega), hlen]
      have e1 : l = n * m + (l - n * m) := by omega
      have e2 : l - n * m < m := by rw [Nat.succ_mul] at h; omega
      have e3 : l / m = n := by rw [e1, Nat.add_comm, Nat.add_mul_div_right _ _ hm, Nat.div_eq_of_lt e2]; omega
      have e4 : l % m = l - n * m := by rw [e1, Nat.add_comm, Nat.add_mul_mod_self_right]; simp; exact Nat.mod_eq_of_lt e2
      rw [e3, e4]; simp
mutual
theorem persL_len : ∀ {t : T}, Told t → (persL t).length = ppl t
  | .one, _ => by rw [persL, ppl]; rfl
  | .name x, h => h.elim
  | .cop s n t, h => by
    rw [persL, ppl]
    have ih := persL_len (t := t) h
    have : ∀ m : Nat, ((List.range m).flatMap fun i => (persL t).map (i :: ·)).length = m * (persL t).length := by
      intro m
      induction m with
      | zero => simp
      | succ m ih => rw [List.range_succ, List.flatMap_append, List.length_append, ih]; simp [Nat.succ_mul]
    rw [this, ih]
  | .row s ts, h => by rw [persL, ppl]; exact persR_len 0 h
theorem persR_len : ∀ (k : Nat) {ts : List T}, Tolds ts → (persR k ts).length = ppls ts
  | k, [], _ => by rw [persR, ppls]; rfl
  | k, t :: ts, h => by rw [persR, ppls, List.length_append, List.length_map, persL_len h.1, persR_len (k + 1) h.2]
end
/-- how many people stand ahead of the part j -/
def ahead (t : T) (j : Nat) : Nat := match t with
  | .cop _ _ u => j * ppl u
  | .row _ ts => ((ts.take j).map ppl).sum
  | _ => 0
/-- the part in which the l-th of a row stands, and its number there -/
def spotR : List T → Nat → Nat × Nat
  | [], l => (0, l)
  | t :: ts, l => if l < ppl t then (0, l) else ((spotR ts (l - ppl t)).1 + 1, (spotR ts (l - ppl t)).2)
def spotT : T → Nat → Nat × Nat
  | .cop _ _ u, l => (l / ppl u, l % ppl u)
  | .row _ ts, l => spotR ts l
  | _, l => (0, l)
theorem spotR_ok : ∀ {ts : List T} {l k : Nat}, Tolds ts → l < ppls ts → ∃ v q, ts[(spotR ts l).1]? = some v ∧ (persL v)[(spotR ts l).2]? = some q ∧ (persR k ts)[l]? = some ((k + (spotR ts l).1) :: q) ∧ l = ((ts.take (spotR ts l).1).map ppl).sum + (spotR ts l).2 ∧ (spotR ts l).2 < ppl v
  | [], l, k, _, h => by rw [ppls] at h; omega
  | t :: ts, l, k, hT, h => by
    have hl := persL_len hT.1
    rw [spotR]
    by_cases hc : l < ppl t
    · rw [if_pos hc]
      have hq : (persL t)[l]? = some (persL t)[l] := List.getElem?_eq_getElem (by omega)
      refine ⟨t, _, rfl, hq, ?_, by simp, hc⟩
      rw [persR, List.getElem?_append_left (by rw [List.length_map]; omega), List.getElem?_map, hq]; rfl
    · rw [if_neg hc]
      rw [ppls] at h
      obtain ⟨v, q, h1, h2, h3, h4, h5⟩ := spotR_ok (ts := ts) (l := l - ppl t) (k := k + 1) hT.2 (by omega)
      refine ⟨v, q, by simpa using h1, h2, ?_, ?_, h5⟩
      · rw [persR, List.getElem?_append_right (by rw [List.length_map]; omega), List.length_map, hl, h3]
        congr 2; omega
      · show l = ((List.take ((spotR ts (l - ppl t)).1 + 1) (t :: ts)).map ppl).sum + _
        rw [List.take_succ_cons, List.map_cons, List.sum_cons]
        show l = ppl t + _ + (spotR ts (l - ppl t)).2
        omega
theorem spotT_ok {t : T} {l : Nat} (hT : Told t) (h1 : isOneT t = false) (h : l < ppl t) : ∃ v q, (spotT t l).1 < cnt t ∧ piece t (spotT t l).1 = some v ∧ (persL v)[(spotT t l).2]? = some q ∧ (persL t)[l]? = some ((spotT t l).1 :: q) ∧ l = ahead t (spotT t l).1 + (spotT t l).2 ∧ (spotT t l).2 < ppl v := by
  cases t with
  | one => cases h1
  | name x => exact hT.elim
  | cop s n u =>
    rw [ppl] at h
    have hu := persL_len (t := u) hT
    have hm : 0 < ppl u := by
      rcases Nat.eq_zero_or_pos (ppl u) with h0 | h0
      · rw [h0] at h; omega
      · exact h0
    have h2 : l % ppl u < ppl u := Nat.mod_lt _ hm
    have h3 : l / ppl u < n := (Nat.div_lt_iff_lt_mul hm).mpr h
    have hq : (persL u)[l % ppl u]? = some (persL u)[l % ppl u] := List.getElem?_eq_getElem (by omega)
    refine ⟨u, _, by rw [cnt_cop]; exact h3, rfl, hq, ?_, ?_, h2⟩
    · rw [persL, flat_const (m := ppl u) _ (fun i => by rw [List.length_map, hu]) n h]
      show (List.map (l / ppl u :: ·) (persL u))[l % ppl u]? = _
      rw [List.getElem?_map, hq]; rfl
    · show l = l / ppl u * ppl u + l % ppl u
      rw [Nat.mul_comm]; exact (Nat.div_add_mod l (ppl u)).symm
  | row s ts =>
    rw [ppl] at h
    obtain ⟨v, q, h1, h2, h3, h4, h5⟩ := spotR_ok (k := 0) (ts := ts) hT h
    refine ⟨v, q, ?_, h1, h2, ?_, h4, h5⟩
    · rw [cnt_row]; exact (List.getElem?_eq_some_iff.mp h1).1
    · rw [persL, h3, Nat.zero_add]; rfl
end PL
/-! E8: people by their numbers. -/
namespace W
open PySem PySem.Spec PyProof.Rows L2 DL SX PL
section
variable {P : Program} {w : World} {K : PySem.W.Frag} {mg : Str → Option Value} {base : Heap} {C : Addr}
theorem cut_to {α : Type} (xs : List α) (j : Nat) : DL.cutD xs none (some (j : Int)) = xs.take j := by
  unfold DL.cutD
  rw [HT.sIx_nat, HT.sIx_none, List.drop_zero, Nat.sub_zero]
  by_cases h : j ≤ xs.length
  · rw [Nat.min_eq_left h]
  · rw [Nat.min_eq_right (by omega), List.take_of_length_le (Nat.le_refl _), List.take_of_length_le (by omega)]
def cAhead (C : Addr) : Con := fun ds M Φ => ∃ t j, ds = [planD C t, .int (j : Nat)] ∧ Ok t ∧ j < PL.cnt t ∧ Φ (.int (ahead t j : Nat)) M
theorem ok_ahead_of (F : Fx w K mg) (X : Px K mg C) : BodyOk P w K mg base "ahead_of" s_ahead_of ["plan", "number", "many", "part"] 2 0 (cAhead C) := by
  intro f cdv A outer s H E hr ds M Φ hl hc
  obtain ⟨t, j, rfl, ok, hj, hc⟩ := hc
  have nd : (["plan", "number", "many", "part"] : List Str).Nodup := by decide +kernel
  have hk := kids_len ok.1
  have hlen := ok.2.2
  refine wss_cons (ws_if (wt_val (we_fld (C := C) (we_var 0 rfl ⟨_, _, insP ok.2.1, X.cl, X.na _ (by decide +kernel), lk_copies, _, rfl, ?_⟩))))
  cases t with
  | one => simp [PL.cnt, kids] at hj
  | name x => simp [PL.cnt, kids] at hj
  | cop b n v =>
    rw [cnt_cop] at hj
    have okv : Ok v := kids_Ok (q := (n, v)) (by simp [kids]) ok
    have h3 := ok.1.2.1
    refine wss_cons (ws_ret (we_mulI (we_var 1 rfl (we_fld (C := C) (we_ix (we_ix (we_fld (C := C) (we_var 0 rfl ⟨_, _, insP ok.2.1, X.cl, X.na _ (by decide +kernel), lk_groups, we_int ⟨0, _, rfl, ixL (atI_nat (j := 0) rfl), we_int ⟨1, _, rfl, ixT (atI_nat (j := 1) rfl), _, _, insP okv.2.1, X.cl, X.na _ (by decide +kernel), lk_people, _, _, rfl, rfl, mul_ok (by omega) (ppl_lt okv.1) okv.2.2, Lets.of ?_⟩⟩⟩))))))))
    rw [← Int.natCast_mul]; exact hc
  | row b ts =>
    rw [cnt_row] at hj
    have hk2 : (kids (.row b ts)).length = ts.length := by unfold kids; rw [List.length_map]
    refine wss_nil (wss_cons (ws_ret (we_sum (F.bn _ (by decide +kernel)) (we_lc nd (blkOk_by (N := ["plan", "number", "many", "part"]) (sc := defScope s_ahead_of) (own := [("many", 2), ("part", 3)]) (by decide +kernel)) (fun _ _ _ _ _ => pg_tup rfl (pgs_cons (pg_name (i := 2) nd rfl (Or.inl rfl)) (pgs_cons (pg_name (i := 3) nd rfl (Or.inl rfl)) pgs_nil)) rfl rfl) (gt_two (by decide) (by decide)) (fun _ _ _ _ _ => pts_nil) tk_nil (wi_list (we_slice (we_fld (C := C) (we_var 0 rfl ⟨_, _, insP ok.2.1, X.cl, X.na _ (by decide +kernel), lk_groups, we_var 1 rfl ⟨_, rfl, _, .inl ⟨_, rfl, rfl⟩, _, .inl rfl, ?_⟩⟩))))))))
    have es : DL.cutD (subsD C (.row b ts)) none (some (j : Int)) = (ts.take j).map fun t => .tup [.int ((1 : Nat) : Int), planD C t] := by
      rw [cut_to]
      show List.take j ((ts.map fun t => (1, t)).map fun q : Nat × T => D.tup [.int (q.1 : Nat), planD C q.2]) = _
      rw [List.map_map, ← List.map_take]; rfl
    rw [es]
    refine ⟨by rw [List.length_map, List.length_take, sizeLine_eq]; omega, fun i acc M' => M' = M ∧ acc = (((ts.take j).take i).map fun t => ((ppl t : Nat) : Int)).map D.int, ⟨rfl, rfl⟩, ?_, ?_⟩
    · rintro i x acc M' hx ⟨rfl, rfl⟩
      rw [List.getElem?_map] at hx
      obtain ⟨u, hu, rfl⟩ := Option.map_eq_some_iff.mp hx
      have hm : u ∈ ts := List.mem_of_mem_take (List.mem_of_getElem? hu)
      have oku : Ok u := kids_Ok (q := (1, u)) (by unfold kids; exact List.mem_map.mpr ⟨u, hm, rfl⟩) ok
      refine ⟨_, _, rfl, ?_⟩
      intro s1 H1 C' cl fp
      refine we_fld (C := C) (we_var 3 rfl ⟨_, _, insP oku.2.1, X.cl, X.na _ (by decide +kernel), lk_people, rfl, ?_⟩)
      rw [take_snoc hu, List.map_append, List.map_append]; rfl
    · rintro acc M' ⟨rfl, rfl⟩
      rw [List.length_map, List.take_length]
      exact ⟨_, rfl, by rw [sum_cast]; exact Lets.of hc⟩
def cPlace (C : Addr) : Con := fun ds M Φ => ∃ t p l, ds = [planD C t, perD p] ∧ Ok t ∧ (persL t)[l]? = some p ∧ Φ (.int (l : Nat)) M
theorem ok_place_of (F1 : Fc P w K mg base "ahead_of" [] 1 2 (cAhead C)) (F2 : Fc P w K mg base "part_at" [] 1 2 (cPartAt C)) : BodyOk P w K mg base "place_of" s_place_of ["plan", "person", "found", "here", "spot"] 2 1 (cPlace C) := by
  intro f cdv A outer s H E hr ds M Φ hl hc
  obtain ⟨t, p, l, rfl, ok, hp, hc⟩ := hc
  have nd : (["plan", "person", "found", "here", "spot"] : List Str).Nodup := by decide +kernel
  refine wss_cons (ws_par 2 3 nd (wa_cons (we_int (wa_cons (we_var 0 rfl (wa_nil ⟨_, _, rfl, ?_⟩))))))
  refine wss_cons (ws_for PassesOwn.never (wi_tup (we_var 1 rfl ⟨_, rfl, ?_⟩)))
  refine ⟨fun i ρ' M' => ∃ (o : Option D) (u : T) (x y : Nat), ρ' = [some (planD C t), some (perD p), some (.int (x : Nat)), some (planD C u), o] ∧ M' = M ∧ Ok u ∧ (persL u)[y]? = some (p.drop i) ∧ x + y = l, ⟨none, t, 0, l, rfl, rfl, ok, by simpa using hp, by omega⟩, ?_, ?_⟩
  · rintro i x ρ' M' hx ⟨o, u, x1, y1, rfl, rfl, oku, hy, hxy⟩
    obtain ⟨n, hn, rfl⟩ := pers_get hx
    obtain ⟨hi, hn2⟩ := List.getElem?_eq_some_iff.mp hn
    rw [List.drop_eq_getElem_cons hi, hn2] at hy
    have h1 : isOneT u = false := by
      cases u with
      | one => rw [persL] at hy; cases y1 <;> simp at hy
      | _ => rfl
    have hlt : y1 < ppl u := by
      have := (List.getElem?_eq_some_iff.mp hy).1
      rw [persL_len oku.2.1] at this; exact this
    obtain ⟨v, q, a1, a2, a3, a4, a5, a6⟩ := spotT_ok oku.2.1 h1 hlt
    rw [hy] at a4
    injection a4 with a4
    injection a4 with e1 e2
    rw [← e1] at a1 a2 a5
    refine wg_name 4 ?_ nd
    refine wss_cons (ws_aug 2 ip_add rfl nd (we_call F1 (hr.mono (by decide)) (wa_cons (we_var 3 rfl (wa_cons (we_var 4 rfl (wa_nil ⟨rfl, u, n, rfl, oku, a1, ?_⟩)))))))
    refine rd_I0 (g := fun i j => i + j) ⟨_, _, rfl, rfl, ?_⟩
    refine wss_cons (ws_set 3 nd (we_call F2 (hr.mono (by decide)) (wa_cons (we_var 3 rfl (wa_cons (we_var 4 rfl (wa_nil ⟨rfl, u, n, v, rfl, oku, a2, wss_nil ⟨some (.int (n : Nat)), v, x1 + ahead u n, (spotT u y1).2, ?_, rfl, piece_Ok a2 oku, by rw [e2]; exact a3, by omega⟩⟩)))))))
    rw [Int.natCast_add]; rfl
  · rintro ρ' M' ⟨o, u, x1, y1, rfl, rfl, oku, hy, hxy⟩
    rw [List.length_map, List.drop_length] at hy
    have : y1 = 0 := by
      cases h1 : isOneT u with
      | true =>
        cases u with
        | one => rw [persL] at hy; cases y1 with
          | zero => rfl
          | succ n => simp at hy
        | _ => cases h1
      | false =>
        have hlt : y1 < ppl u := by
          have := (List.getElem?_eq_some_iff.mp hy).1
          rw [persL_len oku.2.1] at this; exact this
        obtain ⟨v, q, a1, a2, a3, a4, a5, a6⟩ := spotT_ok oku.2.1 h1 hlt
        rw [hy] at a4; cases a4
    refine wss_cons (ws_ret (we_var 2 rfl (Lets.of ?_)))
    rw [show x1 = l by omega]; exact hc
/-! ### spot_of, nth_person -/
def cSpot (C : Addr) : Con := fun ds M Φ => ∃ t l, ds = [planD C t, .int (l : Nat)] ∧ Ok t ∧ isOneT t = false ∧ l < ppl t ∧ ppl t ≤ 10 ^ 40 ∧ Φ (.tup [.int ((spotT t l).1 : Nat), .int ((spotT t l).2 : Nat)]) M
theorem ok_spot_of (X : Px K mg C) : BodyOk P w K mg base "spot_of" s_spot_of ["plan", "number", "size", "spot", "left"] 2 0 (cSpot C) := by
  intro f cdv A outer s H E hr ds M Φ hl hc
  obtain ⟨t, l, rfl, ok, h1, hlt, hbig, hc⟩ := hc
  have nd : (["plan", "number", "size", "spot", "left"] : List Str).Nodup := by decide +kernel
  refine wss_cons (ws_if (wt_val (we_fld (C := C) (we_var 0 rfl ⟨_, _, insP ok.2.1, X.cl, X.na _ (by decide +kernel), lk_copies, _, rfl, ?_⟩))))
  cases t with
  | one => cases h1
  | name x => exact ok.2.1.elim
  | cop b n v =>
    have okv : Ok v := kids_Ok (q := (n, v)) (by simp [kids]) ok
    have hpos := ppl_pos okv.1
    have hp0 : (0 : Int) < ((ppl v : Nat) : Int) := by omega
    have hle : ppl v ≤ 10 ^ 40 := by
      rw [ppl] at hbig
      exact Nat.le_trans (Nat.le_mul_of_pos_left _ (by have := ok.1.1; omega)) hbig
    have hle2 : ((ppl v : Nat) : Int) ≤ 10 ^ 40 := by
      have e : ((10 ^ 40 : Nat) : Int) = 10 ^ 40 := by decide +kernel
      omega
    refine wss_cons (ws_set 2 nd (we_fld (C := C) (we_ix (we_ix (we_fld (C := C) (we_var 0 rfl ⟨_, _, insP ok.2.1, X.cl, X.na _ (by decide +kernel), lk_groups, we_int ⟨0, _, rfl, ixL (atI_nat (j := 0) rfl), we_int ⟨1, _, rfl, ixT (atI_nat (j := 1) rfl), _, _, insP okv.2.1, X.cl, X.na _ (by decide +kernel), lk_people, ?_⟩⟩⟩))))))
    refine wss_cons (ws_ret (we_tup (wa_cons (we_divI (we_var 1 rfl (we_var 2 rfl ⟨_, _, rfl, rfl, ⟨hp0, log40 hp0 hle2⟩, wa_cons (we_modI (we_var 1 rfl (we_var 2 rfl ⟨_, _, rfl, rfl, hp0, wa_nil ⟨sz2, Lets.of ?_⟩⟩)))⟩))))))
    have q1 : ((l : Nat) : Int) / (ppl v : Nat) = ((l / ppl v : Nat) : Int) := (Int.natCast_ediv l (ppl v)).symm
    have q2 : ((l : Nat) : Int) % (ppl v : Nat) = ((l % ppl v : Nat) : Int) := (Int.natCast_emod l (ppl v)).symm
    rw [q1, q2]; exact hc
  | row b ts =>
    rw [ppl] at hlt
    refine wss_nil (wss_cons (ws_par 3 4 nd (wa_cons (we_int (wa_cons (we_var 1 rfl (wa_nil ⟨_, _, rfl, ?_⟩)))))))
    have at_ : ∀ {M : Mp} {i : Nat} {u : T}, ts[i]? = some u → IxD M (.lst (subsD C (.row b ts))) (i : Nat) (.tup [.int ((1 : Nat) : Int), planD C u]) := fun {M i u} h => by
      refine ixL (atI_nat ?_)
      show ((ts.map fun t => (1, t)).map fun q : Nat × T => D.tup [.int (q.1 : Nat), planD C q.2])[i]? = _
      rw [List.map_map, List.getElem?_map, h]; rfl
    have hT : Tolds ts := ok.2.1
    refine wss_cons (ws_while PassesOwn.never (fun n ρ' M' => ∃ i x : Nat, ρ' = [some (planD C (.row b ts)), some (.int (l : Nat)), none, some (.int (i : Nat)), some (.int (x : Nat))] ∧ M' = M ∧ n = ts.length - i ∧ i ≤ ts.length ∧ x < ppls (ts.drop i) ∧ spotR ts l = (i + (spotR (ts.drop i) x).1, (spotR (ts.drop i) x).2)) ts.length ⟨0, l, rfl, rfl, by omega, by omega, by simpa using hlt, by simp⟩ ?_)
    rintro n ρ' M' ⟨i, x, rfl, rfl, rfl, hi, hx, he⟩
    have hi2 : i < ts.length := by
      rcases Nat.lt_or_ge i ts.length with h | h
      · exact h
      · rw [List.drop_eq_nil_of_le h, ppls] at hx; omega
    obtain ⟨u, hu⟩ : ∃ u, ts[i]? = some u := ⟨ts[i], List.getElem?_eq_getElem hi2⟩
    have oku : Ok u := kids_Ok (q := (1, u)) (by unfold kids; exact List.mem_map.mpr ⟨u, List.mem_of_getElem? hu, rfl⟩) ok
    have ed : ts.drop i = u :: ts.drop (i + 1) := by
      rw [List.drop_eq_getElem_cons hi2]
      rw [List.getElem?_eq_getElem hi2] at hu
      rw [Option.some.inj hu]
    rw [ed, ppls] at hx
    rw [ed, spotR] at he
    refine wt_geI (we_var 4 rfl (we_fld (C := C) (we_ix (we_ix (we_fld (C := C) (we_var 0 rfl ⟨_, _, insP ok.2.1, X.cl, X.na _ (by decide +kernel), lk_groups, we_var 3 rfl ⟨_, _, rfl, at_ hu, we_int ⟨1, _, rfl, ixT (atI_nat (j := 1) rfl), _, _, insP oku.2.1, X.cl, X.na _ (by decide +kernel), lk_people, _, _, rfl, rfl, ?_⟩⟩⟩))))))
    refine ite_dec (fun hge => ?_) fun hge => ?_
    · rw [if_neg (by omega)] at he
      refine wss_cons (ws_aug 4 ip_sub rfl nd (we_fld (C := C) (we_ix (we_ix (we_fld (C := C) (we_var 0 rfl ⟨_, _, insP ok.2.1, X.cl, X.na _ (by decide +kernel), lk_groups, we_var 3 rfl ⟨_, _, rfl, at_ hu, we_int ⟨1, _, rfl, ixT (atI_nat (j := 1) rfl), _, _, insP oku.2.1, X.cl, X.na _ (by decide +kernel), lk_people, rd_I0 (g := fun i j => i - j) ⟨_, _, rfl, rfl, ?_⟩⟩⟩⟩))))))
      refine wss_cons (ws_aug 3 ip_add rfl nd (we_int (rd_I0 (g := fun i j => i + j) ⟨_, _, rfl, rfl, wss_nil ⟨ts.length - (i + 1), by omega, i + 1, x - ppl u, ?_, rfl, rfl, by omega, by omega, ?_⟩⟩)))
      · rw [show ((x : Nat) : Int) - (ppl u : Nat) = ((x - ppl u : Nat) : Int) by omega]; rfl
      · rw [he]
        congr 1
        omega
    · rw [if_pos (by omega)] at he
      refine wss_cons (ws_ret (we_tup (wa_cons (we_var 3 rfl (wa_cons (we_var 4 rfl (wa_nil ⟨sz2, Lets.of ?_⟩)))))))
      have e2 : spotT (.row b ts) l = (i, x) := by show spotR ts l = _; rw [he]; rfl
      rw [e2] at hc
      exact hc
abbrev nNth : List Str := ["plan", "number", "found", "here", "left", "spot"]
def cNth (C : Addr) : Con := fun ds M Φ => ∃ t l p, ds = [planD C t, .int (l : Nat)] ∧ Ok t ∧ ppl t ≤ 10 ^ 40 ∧ ht t ≤ 60 ∧ (persL t)[l]? = some p ∧ Φ (perD p) M
theorem piece_le {t u : T} {i : Nat} (h : piece t i = some u) (hg : Good t) : ppl u ≤ ppl t := by
  cases t with
  | one => cases h
  | name x => cases h
  | cop s n v =>
    obtain rfl : v = u := Option.some.inj h
    rw [show ppl (.cop s n v) = n * ppl v by rw [ppl]]
    exact Nat.le_mul_of_pos_left _ (by have := hg.1; omega)
  | row s ts =>
    rw [ppl, ppls_sum]
    exact mem_le_sum (List.mem_map_of_mem (List.mem_of_getElem? (show ts[i]? = some u from h)))
theorem ok_nth_person (F : Fx w K mg) (F1 : Pc P w K mg base C "word" 1 (cGet C fun t => .str (wordT t))) (F2 : Fc P w K mg base "spot_of" [] 1 2 (cSpot C)) (F3 : Fc P w K mg base "part_at" [] 1 2 (cPartAt C)) : BodyOk P w K mg base "nth_person" s_nth_person nNth 2 2 (cNth C) := by
  intro f cdv A outer s H E hr ds M Φ hl hc
  obtain ⟨t, l, p, rfl, ok, hbig, h60, hp, hc⟩ := hc
  have nd : nNth.Nodup := by decide +kernel
  refine wss_cons (ws_par3 2 3 4 nd (wa_cons (we_lstM (wa_nil ⟨Nat.zero_le _, fun q hq => wa_cons (we_var 0 rfl (wa_cons (we_var 1 rfl (wa_nil ⟨_, _, _, rfl, ?_⟩))))⟩))))
  refine wss_cons (ws_while PassesOwn.never (fun n ρ' M' => ∃ (o : Option D) (u : T) (y : Nat) (fo r : List Nat), ρ' = [some (planD C t), some (.int (l : Nat)), some (.ob q), some (planD C u), some (.int (y : Nat)), o] ∧ M' = mset M q (.lst (fo.map fun (i : Nat) => D.int (i : Nat))) ∧ n = ht u ∧ Ok u ∧ ppl u ≤ 10 ^ 40 ∧ (persL u)[y]? = some r ∧ p = fo ++ r ∧ fo.length + ht u ≤ 60) (ht t) ⟨none, t, l, [], p, rfl, rfl, rfl, ok, hbig, hp, rfl, by simpa using h60⟩ ?_)
  rintro n ρ' M' ⟨o, u, y, fo, r, rfl, rfl, rfl, oku, hub, hy, hpr, hfo⟩
  refine wt_neS (we_prop F1 (hr.mono (by decide)) (we_var 3 rfl ⟨_, insP oku.2.1, u, rfl, oku, we_gstr F.gONE ⟨_, rfl, ?_⟩⟩))
  rw [one_word oku.2.1]
  cases h1 : isOneT u with
  | true =>
    have hr0 : r = [] := by
      cases u with
      | one => rw [persL] at hy; cases y with
        | zero => simp at hy; exact hy
        | succ n => simp at hy
      | _ => cases h1
    refine wss_cons (ws_ret (we_tupleOf (F.bn _ (by decide +kernel)) (we_var 2 rfl ⟨_, .inl mset_same, ⟨_, M, les_new hq, .same _, ?_⟩⟩)))
    rw [hpr, hr0, List.append_nil] at hc
    exact hc
  | false =>
    have hlt : y < ppl u := by
      have := (List.getElem?_eq_some_iff.mp hy).1
      rw [persL_len oku.2.1] at this; exact this
    obtain ⟨v, q', a1, a2, a3, a4, a5, a6⟩ := spotT_ok oku.2.1 h1 hlt
    have hv := piece_ht a2
    rw [hy] at a4
    have er : r = (spotT u y).1 :: q' := Option.some.inj a4
    refine wss_cons (ws_asg (we_call F2 (hr.mono (by decide)) (wa_cons (we_var 3 rfl (wa_cons (we_var 4 rfl (wa_nil ⟨rfl, u, y, rfl, oku, h1, hlt, hub, ?_⟩)))))))
    refine wg_tup ⟨rfl, rfl, wgs_cons (wg_name 5 (wgs_cons (wg_name 4 (wgs_nil ⟨rfl, ?_⟩) nd)) nd)⟩
    refine wss_cons (ws_expr (we_append (we_var 2 rfl ⟨q, _, rfl, mset_same, we_var 5 rfl ⟨_, mset_same, by rw [List.length_map, sizeLine_eq]; omega, ?_⟩⟩)))
    rw [mset_mset]
    refine wss_cons (ws_set 3 nd (we_call F3 (hr.mono (by decide)) (wa_cons (we_var 3 rfl (wa_cons (we_var 5 rfl (wa_nil ⟨rfl, u, (spotT u y).1, v, rfl, oku, a2, wss_nil ⟨ht v, hv, some (.int ((spotT u y).1 : Nat)), v, (spotT u y).2, fo ++ [(spotT u y).1], q', rfl, ?_, rfl, piece_Ok a2 oku, Nat.le_trans (piece_le a2 oku.1) hub, a3, ?_, ?_⟩⟩)))))))
    · rw [List.map_append]; rfl
    · rw [hpr, er]; simp
    · rw [List.length_append, List.length_singleton]; omega
end
end W
/-! PM7: friends and common friends. -/
namespace PL
open PySem SX TL
theorem not_one {t : T} {i : Nat} (hi : i < cnt t) : isOneT t = false := by
  cases t with
  | one => simp [cnt, kids] at hi
  | _ => rfl
theorem ahead_succ {t u : T} {i : Nat} (hp : piece t i = some u) : ahead t (i + 1) = ahead t i + ppl u := by
  cases t with
  | one => cases hp
  | name x => cases hp
  | cop s n v =>
    obtain rfl : v = u := Option.some.inj hp
    show (i + 1) * ppl v = i * ppl v + ppl v
    rw [Nat.succ_mul]
  | row s ts =>
    have h : ts[i]? = some u := hp
    show ((ts.take (i + 1)).map ppl).sum = ((ts.take i).map ppl).sum + ppl u
    rw [List.take_add_one, h]
    simp
theorem piece_upto {t u : T} {i : Nat} (hp : piece t i = some u) {j : Nat} (h : j ≤ i) : ∃ v, piece t j = some v := by
  cases t with
  | one => cases hp
  | name x => cases hp
  | cop s n v => exact ⟨v, rfl⟩
  | row s ts =>
    have h1 : ts[i]? = some u := hp
    have := (List.getElem?_eq_some_iff.mp h1).1
    exact ⟨ts[j], List.getElem?_eq_getElem (by omega)⟩
theorem piece_told {t u : T} {i : Nat} (h : piece t i = some u) (ok : Ok t) : Told u := (piece_Ok h ok).2.1
theorem upTo_len {t v : T} {i : Nat} (ok : Ok t) (hv : piece t i = some v) : (upTo t i).length = ahead t i := by
  induction i generalizing v with
  | zero =>
    cases t with
    | cop s n v => show 0 = 0 * ppl v; simp
    | _ => rfl
  | succ i ih =>
    obtain ⟨x, hx⟩ := piece_upto hv (Nat.le_succ i)
    rw [upTo_succ hx, List.length_append, List.length_map, ahead_succ hx, persL_len (piece_told hx ok), ih hx]
theorem upTo_rest {t : T} {i : Nat} : ∀ {n : Nat}, i + 1 ≤ n → ∃ B, upTo t n = upTo t (i + 1) ++ B ∧ ∀ x ∈ B, ∃ j q, x = j :: q ∧ j ≠ i
  | 0, h => by omega
  | n + 1, h => by
    rcases Nat.eq_or_lt_of_le h with e | e
    · exact ⟨[], by rw [← e]; simp, fun x hx => nomatch hx⟩
    · obtain ⟨B, h1, h2⟩ := upTo_rest (t := t) (n := n) (i := i) (by omega)
      refine ⟨B ++ pieceP t n, ?_, fun x hx => ?_⟩
      · have : upTo t (n + 1) = upTo t n ++ pieceP t n := by
          unfold upTo
          rw [List.range_succ, List.flatMap_append]
          simp
        rw [this, h1, List.append_assoc]
      · rcases List.mem_append.mp hx with y | y
        · exact h2 x y
        · unfold pieceP at y
          cases e2 : piece t n with
          | none => rw [e2] at y; simp at y
          | some u =>
            rw [e2] at y
            obtain ⟨q, _, rfl⟩ := List.mem_map.mp y
            exact ⟨n, q, rfl, by omega⟩
/-- the people of a part stand together -/
theorem pers_split {t u : T} {i : Nat} (ok : Ok t) (hi : i < cnt t) (hp : piece t i = some u) : ∃ A B, persL t = A ++ ((persL u).map (i :: ·) ++ B) ∧ A.length = ahead t i ∧ (∀ x ∈ A, ∃ j q, x = j :: q ∧ j ≠ i) ∧ ∀ x ∈ B, ∃ j q, x = j :: q ∧ j ≠ i := by
  obtain ⟨B, h1, h2⟩ := upTo_rest (t := t) (i := i) (n := cnt t) hi
  refine ⟨upTo t i, B, ?_, upTo_len ok hp, fun x hx => ?_, h2⟩
  · rw [persL_upTo (not_one hi), h1, upTo_succ hp, List.append_assoc]
  · obtain ⟨j, _, q, h3, _, _, rfl⟩ := mem_upTo hx
    exact ⟨j, q, rfl, by omega⟩
/-- the people whom p knows -/
def frL (t : T) (p : List Nat) : List (List Nat) := (persL t).filter (knowsB t p)
theorem knows_in {t u : T} {i : Nat} {p q : List Nat} (hp : piece t i = some u) : knowsB t (i :: p) (i :: q) = knowsB u p q := by rw [knowsB, if_pos rfl, hp]
theorem knows_out {t : T} {i j : Nat} {p q : List Nat} (h : j ≠ i) : knowsB t (i :: p) (j :: q) = intr t := by rw [knowsB, if_neg (fun e => h e.symm)]
theorem filt_map {i : Nat} {f g : List Nat → Bool} (h : ∀ q, f (i :: q) = g q) : ∀ l : List (List Nat), (l.map (i :: ·)).filter f = (l.filter g).map (i :: ·)
  | [] => rfl
  | q :: l => by
    rw [List.map_cons, List.filter_cons, List.filter_cons, h q, filt_map h l]
    split <;> rfl
theorem fr_split {t u : T} {i : Nat} (ok : Ok t) (hi : i < cnt t) (hp : piece t i = some u) (p : List Nat) : ∃ A B, persL t = A ++ ((persL u).map (i :: ·) ++ B) ∧ A.length = ahead t i ∧ frL t (i :: p) = (if intr t = true then A ++ ((frL u p).map (i :: ·) ++ B) else (frL u p).map (i :: ·)) := by
  obtain ⟨A, B, h1, h2, h3, h4⟩ := pers_split ok hi hp
  refine ⟨A, B, h1, h2, ?_⟩
  unfold frL
  rw [h1, List.filter_append, List.filter_append, filt_map (g := knowsB u p) (fun q => knows_in hp)]
  by_cases hI : intr t = true
  · rw [if_pos hI]
    have e : ∀ L : List (List Nat), (∀ x ∈ L, ∃ j q, x = j :: q ∧ j ≠ i) → L.filter (knowsB t (i :: p)) = L := fun L hL => List.filter_eq_self.mpr fun x hx => by
      obtain ⟨j, q, rfl, hj⟩ := hL x hx
      rw [knows_out hj]; exact hI
    rw [e A h3, e B h4]
  · rw [if_neg hI]
    have e : ∀ L : List (List Nat), (∀ x ∈ L, ∃ j q, x = j :: q ∧ j ≠ i) → L.filter (knowsB t (i :: p)) = [] := fun L hL => List.filter_eq_nil_iff.mpr fun x hx => by
      obtain ⟨j, q, rfl, hj⟩ := hL x hx
      rw [knows_out hj]; exact hI
    rw [e A h3, e B h4, List.nil_append, List.append_nil]
/-- how many p knows -/
def mf : T → List Nat → Nat
  | t, i :: p => match piece t i with
    | some u => (if intr t = true then ppl t - ppl u else 0) + mf u p
    | none => 0
  | _, [] => 0
theorem mf_cons {t u : T} {i : Nat} (hp : piece t i = some u) (p : List Nat) : mf t (i :: p) = (if intr t = true then ppl t - ppl u else 0) + mf u p := by rw [mf, hp]
theorem mf_len : ∀ {p : List Nat} {t : T}, Ok t → isPers t p = true → (frL t p).length = mf t p
  | [], t, ok, h => by
    obtain rfl := pers_nil h
    rw [mf]; unfold frL
    rw [persL]; rfl
  | i :: p, t, ok, h => by
    obtain ⟨u, hi, hp, hu⟩ := pers_cons h
    obtain ⟨A, B, h1, h2, h3⟩ := fr_split ok hi hp p
    have ih := mf_len (piece_Ok hp ok) hu
    have l1 := persL_len ok.2.1
    have l2 := persL_len (piece_Ok hp ok).2.1
    rw [h1, List.length_append, List.length_append, List.length_map, l2] at l1
    rw [h3, mf_cons hp]
    by_cases hI : intr t = true
    · rw [if_pos hI, if_pos hI, List.length_append, List.length_append, List.length_map, ih]; omega
    · rw [if_neg hI, if_neg hI, List.length_map, ih]; omega
theorem nth_fr {t u : T} {i n : Nat} {p q : List Nat} (ok : Ok t) (hi : i < cnt t) (hp : piece t i = some u) (hu : isPers u p = true) (h : (frL t (i :: p))[n]? = some q) :
    (intr t = false → ∃ q', q = i :: q' ∧ (frL u p)[n]? = some q') ∧ (intr t = true → n < ahead t i → (persL t)[n]? = some q) ∧ (intr t = true → ahead t i ≤ n → n < ahead t i + mf u p → ∃ q', q = i :: q' ∧ (frL u p)[n - ahead t i]? = some q') ∧
    (intr t = true → ahead t i + mf u p ≤ n → (persL t)[n - mf u p + ppl u]? = some q) := by
  obtain ⟨A, B, h1, h2, h3⟩ := fr_split ok hi hp p
  have l2 := persL_len (piece_Ok hp ok).2.1
  have ih := mf_len (piece_Ok hp ok) hu
  rw [h3] at h
  refine ⟨fun hI => ?_, fun hI => ?_, fun hI h4 h5 => ?_, fun hI h4 => ?_⟩
  · rw [if_neg (by rw [hI]; simp), List.getElem?_map] at h
    obtain ⟨q', a, b⟩ := Option.map_eq_some_iff.mp h
    exact ⟨q', b.symm, a⟩
  · intro h4
    rw [if_pos hI, List.getElem?_append_left (by omega)] at h
    rw [h1, List.getElem?_append_left (by omega)]; exact h
  · rw [if_pos hI, List.getElem?_append_right (by omega), List.getElem?_append_left (by rw [List.length_map]; omega), List.getElem?_map, h2] at h
    obtain ⟨q', a, b⟩ := Option.map_eq_some_iff.mp h
    exact ⟨q', b.symm, a⟩
  · rw [if_pos hI, List.getElem?_append_right (by omega), List.getElem?_append_right (by rw [List.length_map]; omega), List.length_map] at h
    rw [h1, List.getElem?_append_right (by omega), List.getElem?_append_right (by rw [List.length_map]; omega), List.length_map]
    rw [← h]; congr 1; omega
/-- how many know both -/
def cm (t : T) (p q : List Nat) : Nat := (persL t).countP fun x => knowsB t p x && knowsB t q x
theorem cm_self {t : T} {p : List Nat} (ok : Ok t) (h : isPers t p = true) : cm t p p = mf t p := by
  rw [← mf_len ok h]
  unfold cm frL
  rw [List.countP_eq_length_filter]
  congr 2; funext x; simp
theorem cnt_map {i : Nat} {f g : List Nat → Bool} (h : ∀ q, f (i :: q) = g q) (l : List (List Nat)) : (l.map (i :: ·)).countP f = l.countP g := by
  rw [List.countP_eq_length_filter, filt_map h, List.length_map, List.countP_eq_length_filter]
theorem cm_in {t u : T} {i : Nat} {p q : List Nat} (ok : Ok t) (hi : i < cnt t) (hp : piece t i = some u) : cm t (i :: p) (i :: q) = (if intr t = true then ppl t - ppl u else 0) + cm u p q := by
  obtain ⟨A, B, h1, h2, h3, h4⟩ := pers_split ok hi hp
  have l1 := persL_len ok.2.1
  have l2 := persL_len (piece_Ok hp ok).2.1
  unfold cm
  rw [h1, List.length_append, List.length_append, List.length_map, l2] at l1
  rw [h1, List.countP_append, List.countP_append, cnt_map (g := fun x => knowsB u p x && knowsB u q x) (fun x => by rw [knows_in hp, knows_in hp])]
  by_cases hI : intr t = true
  · rw [if_pos hI]
    have e : ∀ L : List (List Nat), (∀ x ∈ L, ∃ j q, x = j :: q ∧ j ≠ i) → L.countP (fun x => knowsB t (i :: p) x && knowsB t (i :: q) x) = L.length := fun L hL => List.countP_eq_length.mpr fun x hx => by
      obtain ⟨j, y, rfl, hj⟩ := hL x hx
      rw [knows_out hj, knows_out hj, hI]; rfl
    rw [e A h3, e B h4]; omega
  · rw [if_neg hI]
    have e : ∀ L : List (List Nat), (∀ x ∈ L, ∃ j q, x = j :: q ∧ j ≠ i) → L.countP (fun x => knowsB t (i :: p) x && knowsB t (i :: q) x) = 0 := fun L hL => List.countP_eq_zero.mpr fun x hx => by
      obtain ⟨j, y, rfl, hj⟩ := hL x hx
      rw [knows_out hj, knows_out hj]; simp [hI]
    rw [e A h3, e B h4]; omega
theorem pers_heads {t : T} (h : isOneT t = false) {x : List Nat} (hx : x ∈ persL t) : ∃ k y, x = k :: y := by
  rw [persL_upTo h] at hx
  obtain ⟨j, _, q, _, _, _, rfl⟩ := mem_upTo hx
  exact ⟨j, q, rfl⟩
theorem cm_out0 {t : T} {i j : Nat} {p q : List Nat} (hi : i < cnt t) (hn : i ≠ j) (hI : intr t = false) : cm t (i :: p) (j :: q) = 0 := by
  unfold cm
  refine List.countP_eq_zero.mpr fun x hx => ?_
  obtain ⟨k, y, rfl⟩ := pers_heads (not_one hi) hx
  by_cases e : k = i
  · subst e
    rw [knows_out (p := q) hn, hI]; simp
  · rw [knows_out (p := p) e, hI]; simp
theorem cnt_two (f g : List Nat → Bool) : ∀ l : List (List Nat), l.countP (fun x => f x && g x) + l.countP (fun x => f x || g x) = l.countP f + l.countP g
  | [] => rfl
  | x :: l => by
    have ih := cnt_two f g l
    rw [List.countP_cons, List.countP_cons, List.countP_cons, List.countP_cons]
    cases f x <;> cases g x <;> simp <;> omega
theorem cm_out {t u v : T} {i j : Nat} {p q : List Nat} (ok : Ok t) (hi : i < cnt t) (hj : j < cnt t) (hn : i ≠ j) (hp : piece t i = some u) (hq : piece t j = some v) (pu : isPers u p = true) (pv : isPers v q = true) (hI : intr t = true) :
    cm t (i :: p) (j :: q) + ppl u + ppl v = ppl t + mf u p + mf v q := by
  have l1 := persL_len ok.2.1
  have a1 : (persL t).countP (knowsB t (i :: p)) = ppl t - ppl u + mf u p ∧ ppl u ≤ ppl t := by
    obtain ⟨A, B, h1, h2, h3⟩ := fr_split ok hi hp p
    have l2 := persL_len (piece_Ok hp ok).2.1
    have ih := mf_len (piece_Ok hp ok) pu
    have l3 := l1
    rw [h1, List.length_append, List.length_append, List.length_map, l2] at l3
    refine ⟨?_, by omega⟩
    rw [List.countP_eq_length_filter]
    show (frL t (i :: p)).length = _
    rw [h3, if_pos hI, List.length_append, List.length_append, List.length_map, ih]; omega
  have a2 : (persL t).countP (knowsB t (j :: q)) = ppl t - ppl v + mf v q ∧ ppl v ≤ ppl t := by
    obtain ⟨A, B, h1, h2, h3⟩ := fr_split ok hj hq q
    have l2 := persL_len (piece_Ok hq ok).2.1
    have ih := mf_len (piece_Ok hq ok) pv
    have l3 := l1
    rw [h1, List.length_append, List.length_append, List.length_map, l2] at l3
    refine ⟨?_, by omega⟩
    rw [List.countP_eq_length_filter]
    show (frL t (j :: q)).length = _
    rw [h3, if_pos hI, List.length_append, List.length_append, List.length_map, ih]; omega
  have a3 : (persL t).countP (fun x => knowsB t (i :: p) x || knowsB t (j :: q) x) = ppl t := by
    rw [← l1]
    refine List.countP_eq_length.mpr fun x hx => ?_
    obtain ⟨k, y, rfl⟩ := pers_heads (not_one hi) hx
    by_cases e : k = i
    · subst e
      rw [knows_out (p := q) hn, hI]; simp
    · rw [knows_out (p := p) e, hI]; simp
  have a4 := cnt_two (knowsB t (i :: p)) (knowsB t (j :: q)) (persL t)
  unfold cm
  omega
/-- what the law counts -/
theorem cm_law (t : T) (p q : List Nat) : ((frL t p).filter fun x => decide (x ∈ frL t q)).length = cm t p q := by
  unfold cm
  rw [List.countP_eq_length_filter]
  unfold frL
  rw [List.filter_filter]
  congr 1
  refine List.filter_congr fun x hx => ?_
  rw [Bool.and_comm]
  congr 1
  by_cases h : knowsB t q x = true
  · rw [h]; exact decide_eq_true (List.mem_filter.mpr ⟨hx, h⟩)
  · rw [decide_eq_false (fun z => h (List.mem_filter.mp z).2)]
    cases e : knowsB t q x with
    | true => exact absurd e h
    | false => rfl
end PL
/-! PM9: rows and bars. -/
namespace PL
open PySem SX TL
mutual
/-- the fewest rows -/
def rws : T → Nat
  | .one => 1
  | .name _ => 1
  | .cop s n t => if s = true then max 1 (rws t + ppl t - n * ppl t) else n * rws t
  | .row s ts => if s = true then max 1 (exs ts - ppls ts) else rwss ts
def rwss : List T → Nat
  | [] => 0
  | t :: ts => rws t + rwss ts
def exs : List T → Nat
  | [] => 0
  | t :: ts => max (rws t + ppl t) (exs ts)
end
theorem piece_le' {t u : T} {i : Nat} (h : piece t i = some u) (hg : Good t) : ppl u ≤ ppl t ∧ Good u := by
  cases t with
  | one => cases h
  | name x => cases h
  | cop s n v =>
    obtain rfl : v = u := Option.some.inj h
    rw [show ppl (.cop s n v) = n * ppl v by rw [ppl]]
    exact ⟨Nat.le_mul_of_pos_left _ (by have := hg.1; omega), hg.2.2⟩
  | row s ts =>
    have hm := List.mem_of_getElem? (show ts[i]? = some u from h)
    refine ⟨?_, goods_all.mp hg.2 u hm⟩
    rw [ppl, ppls_sum]
    exact mem_le_sum (List.mem_map_of_mem hm)
theorem exs_mem : ∀ {ts : List T} {u : T}, u ∈ ts → rws u + ppl u ≤ exs ts
  | t :: ts, u, h => by
    rw [exs]
    rcases List.mem_cons.mp h with rfl | h
    · exact Nat.le_max_left _ _
    · exact Nat.le_trans (exs_mem h) (Nat.le_max_right _ _)
mutual
theorem rws_pos : ∀ {t : T}, Good t → 1 ≤ rws t
  | .one, _ => by rw [rws]; exact Nat.le_refl _
  | .name x, _ => by rw [rws]; exact Nat.le_refl _
  | .cop s n t, h => by
    rw [rws]
    have := rws_pos h.2.2
    split
    · exact Nat.le_max_left _ _
    · exact Nat.mul_pos (by have := h.1; omega) this
  | .row s ts, h => by
    rw [rws]
    split
    · exact Nat.le_max_left _ _
    · have := rwss_pos h.2
      have := h.1
      omega
theorem rwss_pos : ∀ {ts : List T}, Goods ts → ts.length ≤ rwss ts
  | [], _ => Nat.zero_le _
  | t :: ts, h => by
    have h1 := rws_pos h.1
    have h2 := rwss_pos h.2
    rw [rwss, List.length_cons]; omega
end
mutual
theorem rws_le : ∀ {t : T}, Good t → rws t ≤ ppl t
  | .one, _ => by rw [rws, ppl]; exact Nat.le_refl _
  | .name x, _ => by rw [rws, ppl]; exact Nat.le_refl _
  | .cop s n t, h => by
    have h1 := rws_le h.2.2
    have h2 := ppl_pos h.2.2
    have h3 : 1 * ppl t ≤ n * ppl t := Nat.mul_le_mul_right _ (by have := h.1; omega)
    rw [rws, ppl]
    split
    · refine Nat.max_le.mpr ⟨by omega, by omega⟩
    · exact Nat.mul_le_mul_left _ h1
  | .row s ts, h => by
    have h1 := rwss_le h.2
    have h2 := exs_le h.2
    have h3 := ppls_pos h.2
    have h4 := h.1
    rw [rws, ppl]
    split
    · refine Nat.max_le.mpr ⟨by omega, by omega⟩
    · exact h1
theorem rwss_le : ∀ {ts : List T}, Goods ts → rwss ts ≤ ppls ts
  | [], _ => by rw [rwss]; exact Nat.zero_le _
  | t :: ts, h => by
    have h1 := rws_le h.1
    have h2 := rwss_le h.2
    rw [rwss, ppls]; omega
theorem exs_le : ∀ {ts : List T}, Goods ts → exs ts ≤ 2 * ppls ts
  | [], _ => by rw [exs]; exact Nat.zero_le _
  | t :: ts, h => by
    have h1 := rws_le h.1
    have h2 := exs_le h.2
    rw [exs, ppls]
    refine Nat.max_le.mpr ⟨by omega, by omega⟩
end
theorem rws_piece {t u : T} {i : Nat} (h : piece t i = some u) (hI : intr t = true) : rws u + ppl u ≤ ppl t + rws t := by
  cases t with
  | one => cases h
  | name x => cases h
  | cop s n v =>
    obtain rfl : v = u := Option.some.inj h
    have hs : s = true := hI
    rw [show rws (.cop s n v) = max 1 (rws v + ppl v - n * ppl v) by rw [rws, if_pos hs], show ppl (.cop s n v) = n * ppl v by rw [ppl]]
    have := Nat.le_max_right 1 (rws v + ppl v - n * ppl v)
    omega
  | row s ts =>
    have hs : s = true := hI
    have hm := exs_mem (List.mem_of_getElem? (show ts[i]? = some u from h))
    rw [show rws (.row s ts) = max 1 (exs ts - ppls ts) by rw [rws, if_pos hs], show ppl (.row s ts) = ppls ts by rw [ppl]]
    have := Nat.le_max_right 1 (exs ts - ppls ts)
    omega
/-! ### pieces -/
mutual
def pcs : T → Nat
  | .one => 1
  | .name _ => 1
  | .cop s n t => if s = true then 1 else n * pcs t
  | .row s ts => if s = true then 1 else pcss ts
def pcss : List T → Nat
  | [] => 0
  | t :: ts => pcs t + pcss ts
end
mutual
theorem pcs_le : ∀ {t : T}, Good t → pcs t ≤ rws t
  | .one, _ => by rw [rws, pcs]; exact Nat.le_refl _
  | .name x, _ => by rw [rws, pcs]; exact Nat.le_refl _
  | .cop s n t, h => by
    rw [rws, pcs]
    by_cases hs : s = true
    · rw [if_pos hs, if_pos hs]; exact Nat.le_max_left _ _
    · rw [if_neg hs, if_neg hs]; exact Nat.mul_le_mul_left _ (pcs_le h.2.2)
  | .row s ts, h => by
    rw [rws, pcs]
    by_cases hs : s = true
    · rw [if_pos hs, if_pos hs]; exact Nat.le_max_left _ _
    · rw [if_neg hs, if_neg hs]; exact pcss_le h.2
theorem pcss_le : ∀ {ts : List T}, Goods ts → pcss ts ≤ rwss ts
  | [], _ => by rw [rwss, pcss]; exact Nat.le_refl _
  | t :: ts, h => by
    have h1 := pcs_le h.1
    have h2 := pcss_le h.2
    rw [rwss, pcss]; omega
end
/-! ### bars -/
inductive Bar where
  | nil | at_ (i : Nat) (b : Bar) | bes (bs : List Bar)
mutual
/-- b is a bar of t: f pieces stay, l people leave -/
inductive Lb : T → Bar → Nat → Nat → Prop where
  | nil (t : T) : Lb t .nil (pcs t) 0
  | at_ {t u : T} {i f l : Nat} {b : Bar} (hI : intr t = true) (hi : i < cnt t) (hp : piece t i = some u) (h : Lb u b f l) : Lb t (.at_ i b) f (l + (ppl t - ppl u))
  | cop {t : T} {n f l : Nat} {b : Bar} (h : Lb t b f l) : Lb (.cop false n t) (.bes [b]) (n * f) (n * l)
  | row {ts : List T} {bs : List Bar} {f l : Nat} (h : Lbs ts bs f l) : Lb (.row false ts) (.bes bs) f l
inductive Lbs : List T → List Bar → Nat → Nat → Prop where
  | nil : Lbs [] [] 0 0
  | cons {t : T} {ts : List T} {b : Bar} {bs : List Bar} {f l f' l' : Nat} (h : Lb t b f l) (r : Lbs ts bs f' l') : Lbs (t :: ts) (b :: bs) (f + f') (l + l')
end
mutual
theorem Lb.sum : ∀ {t : T} {b : Bar} {f l : Nat}, Lb t b f l → Good t → f + l ≤ ppl t
  | _, _, _, _, .nil t, g => by
    have h1 := pcs_le g
    have h2 := rws_le g
    omega
  | _, _, _, _, .at_ hI hi hp h, g => by
    obtain ⟨h1, h2⟩ := piece_le' hp g
    have := Lb.sum h h2
    omega
  | _, _, _, _, .cop (n := n) h, g => by
    have := Lb.sum h g.2.2
    rw [ppl, ← Nat.mul_add]
    exact Nat.mul_le_mul_left _ this
  | _, _, _, _, .row h, g => by rw [ppl]; exact Lbs.sum h g.2
theorem Lbs.sum : ∀ {ts : List T} {bs : List Bar} {f l : Nat}, Lbs ts bs f l → Goods ts → f + l ≤ ppls ts
  | _, _, _, _, .nil, _ => Nat.zero_le _
  | _, _, _, _, .cons h r, g => by
    have h1 := Lb.sum h g.1
    have h2 := Lbs.sum r g.2
    rw [ppls]; omega
end
mutual
theorem Lb.worth : ∀ {t : T} {b : Bar} {f l : Nat}, Lb t b f l → Good t → f ≤ l + rws t
  | _, _, _, _, .nil t, g => by have := pcs_le g; omega
  | _, _, _, _, .at_ hI hi hp h, g => by
    obtain ⟨h1, h2⟩ := piece_le' hp g
    have h3 := Lb.worth h h2
    have h4 := rws_piece hp hI
    omega
  | _, _, _, _, .cop (n := n) (f := f) (l := l) (t := t) h, g => by
    have := Lb.worth h g.2.2
    rw [rws, if_neg (by simp), ← Nat.mul_add]
    exact Nat.mul_le_mul_left _ this
  | _, _, _, _, .row h, g => by
    rw [rws, if_neg (by simp)]; exact Lbs.worth h g.2
theorem Lbs.worth : ∀ {ts : List T} {bs : List Bar} {f l : Nat}, Lbs ts bs f l → Goods ts → f ≤ l + rwss ts
  | _, _, _, _, .nil, _ => Nat.zero_le _
  | _, _, _, _, .cons h r, g => by
    have h1 := Lb.worth h g.1
    have h2 := Lbs.worth r g.2
    rw [rwss]; omega
end
/-- a bar that tells the rows -/
def Best (t : T) (b : Bar) : Prop := ∃ f l, Lb t b f l ∧ f = l + rws t
theorem Lbs.len : ∀ {ts : List T} {bs : List Bar} {f l : Nat}, Lbs ts bs f l → bs.length = ts.length
  | _, _, _, _, .nil => rfl
  | _, _, _, _, .cons h r => by rw [List.length_cons, List.length_cons, Lbs.len r]
theorem best_cop {t : T} {n : Nat} {b : Bar} (h : Best t b) : Best (.cop false n t) (.bes [b]) := by
  obtain ⟨f, l, h1, h2⟩ := h
  exact ⟨n * f, n * l, .cop h1, by rw [rws, if_neg (by simp), ← Nat.mul_add, h2]⟩
inductive Bests : List T → List Bar → Prop where
  | nil : Bests [] []
  | cons {t : T} {b : Bar} {ts : List T} {bs : List Bar} (h : Best t b) (r : Bests ts bs) : Bests (t :: ts) (b :: bs)
theorem bests_sum : ∀ {ts : List T} {bs : List Bar}, Bests ts bs → ∃ f l, Lbs ts bs f l ∧ f = l + rwss ts
  | _, _, .nil => ⟨0, 0, .nil, rfl⟩
  | _, _, .cons h r => by
    obtain ⟨f, l, h1, h2⟩ := h
    obtain ⟨f', l', h3, h4⟩ := bests_sum r
    exact ⟨f + f', l + l', .cons h1 h3, by rw [rwss]; omega⟩
theorem best_row {ts : List T} {bs : List Bar} (h : Bests ts bs) : Best (.row false ts) (.bes bs) := by
  obtain ⟨f, l, h1, h2⟩ := bests_sum h
  exact ⟨f, l, .row h1, by rw [rws, if_neg (by simp)]; exact h2⟩
theorem best_at {t u : T} {i : Nat} {b : Bar} (hI : intr t = true) (hi : i < cnt t) (hp : piece t i = some u) (g : Good t) (h : Best u b) (hm : rws t + ppl t = rws u + ppl u) : Best t (.at_ i b) := by
  obtain ⟨f, l, h1, h2⟩ := h
  obtain ⟨h3, _⟩ := piece_le' hp g
  exact ⟨f, _, .at_ hI hi hp h1, by omega⟩
theorem best_nil {t : T} (h : pcs t = rws t) : Best t .nil := ⟨pcs t, 0, .nil t, by omega⟩
/-- joining the figures of one more part -/
theorem join_intr {p e p2 r2 : Nat} {m : Int} (h : 1 ≤ r2) (hm : m = 1 ∨ m = ((max 1 (e - p) : Nat) : Int) - (p2 : Nat) ∨ m = ((r2 : Nat) : Int) - (p : Nat)) (h1 : 1 ≤ m) (h2 : ((max 1 (e - p) : Nat) : Int) - (p2 : Nat) ≤ m) (h3 : ((r2 : Nat) : Int) - (p : Nat) ≤ m) (hp2 : 1 ≤ p2) : m = ((max 1 (max e (r2 + p2) - (p + p2)) : Nat) : Int) := by
  omega
end PL
/-! DL23: max of a list of pairs of ints; zip of a list and a tuple; a list taken apart; `{}` that nobody fills; shown ints. -/
namespace DL
open PySem PySem.Spec PyProof.Rows L2
abbrev prP (q : Int × Int) : PyData := .tuple [.int q.1, .int q.2]
abbrev prD (q : Int × Int) : D := .tup [.int q.1, .int q.2]
theorem lt_pair (p q : Int × Int) : (PySem.W.dataLt (prP p) (prP q) = true → p.1 ≤ q.1) ∧ (PySem.W.dataLt (prP p) (prP q) = false → q.1 ≤ p.1) := by
  by_cases e : p.1 = q.1
  · exact ⟨fun _ => by omega, fun _ => by omega⟩
  · rw [PySem.W.dataLt_tuple, PySem.W.dataLt_all_no (by simp [PySem.W.alike]) (by simp [PyData.eqv, e]), PySem.W.dataLt_int]
    exact ⟨fun h => by have := of_decide_eq_true h; omega, fun h => by have := of_decide_eq_false h; omega⟩
theorem best_top (qs : List (Int × Int)) : ∀ k, k < qs.length → ∃ q, qs[argBest (fun i j => PySem.W.dataLt ((qs.map prP).getD j .none) ((qs.map prP).getD i .none)) k]? = some q ∧ ∀ j r, j ≤ k → qs[j]? = some r → r.1 ≤ q.1
  | 0, h => ⟨qs[0], List.getElem?_eq_getElem h, fun j r hj hr => by
      rw [show j = 0 by omega, List.getElem?_eq_getElem h] at hr
      cases hr; exact Int.le_refl _⟩
  | k + 1, h => by
    obtain ⟨q, hq, hm⟩ := best_top qs k (by omega)
    have hk : qs[k + 1]? = some qs[k + 1] := List.getElem?_eq_getElem h
    have g1 : (qs.map prP).getD (k + 1) .none = prP qs[k + 1] := by rw [List.getD_eq_getElem?_getD, List.getElem?_map, hk]; rfl
    have g2 : (qs.map prP).getD (argBest (fun i j => PySem.W.dataLt ((qs.map prP).getD j .none) ((qs.map prP).getD i .none)) k) .none = prP q := by rw [List.getD_eq_getElem?_getD, List.getElem?_map, hq]; rfl
    rw [argBest]
    show ∃ q', qs[if PySem.W.dataLt ((qs.map prP).getD _ .none) ((qs.map prP).getD (k + 1) .none) = true then _ else _]? = _ ∧ _
    rw [g1, g2]
    obtain ⟨l1, l2⟩ := lt_pair q qs[k + 1]
    cases hb : PySem.W.dataLt (prP q) (prP qs[k + 1]) with
    | true =>
      rw [if_pos rfl]
      refine ⟨qs[k + 1], hk, fun j r hj hr => ?_⟩
      rcases Nat.lt_or_ge j (k + 1) with z | z
      · exact Int.le_trans (hm j r (by omega) hr) (l1 hb)
      · rw [show j = k + 1 by omega, hk] at hr
        cases hr; exact Int.le_refl _
    | false =>
      rw [if_neg (by simp)]
      refine ⟨q, hq, fun j r hj hr => ?_⟩
      rcases Nat.lt_or_ge j (k + 1) with z | z
      · exact hm j r (by omega) hr
      · rw [show j = k + 1 by omega, hk] at hr
        cases hr; exact l2 hb
def rMaxP (K : PySem.W.Frag) : List V → Hp → VK → Prop := fun vs H Q => ∃ (a : Addr) (us : List V) (qs : List (Int × Int)), vs = [V.ref a] ∧ SqL K H a us ∧ DpAll K H us (qs.map prP) ∧ qs ≠ [] ∧ ∀ (i : Nat) (u : V) (q : Int × Int), us[i]? = some u → qs[i]? = some q → (∀ r ∈ qs, r.1 ≤ q.1) → Q u H
theorem depth_pairs : ∀ qs : List (Int × Int), PyData.depthAll (qs.map prP) ≤ 1
  | [] => by simp [PyData.depthAll]
  | q :: qs => by
    have := depth_pairs qs
    simp only [List.map_cons, PyData.depthAll, PyData.depth]
    omega
section
variable {X : Cx} {ρ : Rho} {M : Mp} {Φ : D → Mp → Prop} {Θ : Bool → Mp → Prop} {a b e o : Expr} {es : List Expr} {pos p apos : Pos}
theorem cr_maxP (hc : X.calm = true) (hu : X.A.units + 64 < cLine) : CallR X (.builtin "max") (rMaxP X.K) := by
  intro pins s σ H vs us Q I r h
  obtain ⟨l, ws, qs, rfl, hq, hd, hne, q⟩ := h
  rw [Vals.ref1 r]
  obtain ⟨its, rv, pl, hz⟩ := I.list hq
  obtain ⟨as, hr⟩ := Dp.readsAll I (qs.map prP) ws its hd rv
  have hlen : its.toArray.size = qs.length := by
    have e := PySem.W.readsAll_len (vs := its.toArray) (by simpa using hr)
    rw [List.length_map] at e; exact e
  have h0 : 0 < qs.length := List.length_pos_iff.mpr hne
  have hh := I.ok.hd hc
  refine PySem.call_max_walkH (PySem.W.iter_listW (A := X.A.in1) hh pl.isList fun s2 e W st hfp hw hk => ?_)
  refine ⟨_, _, _, _, _, _, _, s.heap, _, rfl, W, st, hfp, by omega, hw, hk, PySem.W.cmpIn_gt (A := X.A.in1) (vs := its.toArray) (xs := qs.map prP) (as := as) (by simpa using hr) ⟨fun x hx y hy => ?_, fun x hx => ?_⟩ ?_, fun v s' hP m => ?_⟩
  · obtain ⟨x', _, rfl⟩ := List.mem_map.mp hx
    obtain ⟨y', _, rfl⟩ := List.mem_map.mp hy
    simp [PySem.W.alike, PySem.W.alikeAll]
  · obtain ⟨x', _, rfl⟩ := List.mem_map.mp hx
    simp
  · have := depth_pairs qs
    show X.A.units + 1 + _ < _
    omega
  · obtain ⟨h', tk, rfl, hk'⟩ := PySem.W.moved_old e rfl m
    obtain ⟨qq, hqq, htop⟩ := best_top qs (its.toArray.size - 1) (by omega)
    have hv : its[argBest (fun i j => PySem.W.dataLt ((qs.map prP).getD j .none) ((qs.map prP).getD i .none)) (its.toArray.size - 1)]? = some v := by simpa using hP
    have hi := (List.getElem?_eq_some_iff.mp hv).1
    rw [← rv.length] at hi
    have hu1 := List.getElem?_eq_getElem hi
    obtain ⟨v', hv', hu2⟩ := rv.get hu1
    rw [hv] at hv'
    cases hv'
    exact ⟨_, H, I.kept hk', hu2, q _ _ qq hu1 hqq fun r hr => by
      obtain ⟨j, hj, rfl⟩ := List.getElem_of_mem hr
      exact htop j _ (by omega) (List.getElem?_eq_getElem hj)⟩
theorem we_maxP (hm : X.mg "max" = none) (hu : X.A.units + 64 < cLine) (h : WE X ρ M e fun d M1 => ∃ qs : List (Int × Int), LstOf M1 d (qs.map prD) ∧ qs ≠ [] ∧ ∀ q ∈ qs, (∀ r ∈ qs, r.1 ≤ q.1) → Φ (prD q) M1) (hc : X.calm = true := by rfl) (hg : Gl X "max" := by rfl)
    (he : starEach [e] X.env = (false, eval e X.env) :: starEach [] X.env := by rfl) (hpl : (backTo pos (starEach [] X.env)).any (·.1) = false := by rfl) : WE X ρ M (.Call (.Name "max" p) [e] [] pos) Φ :=
  we_callB (cr_maxP hc hu) hm (by decide +kernel) (wa_cons (h.imp fun d M1 hz => wa_nil fun Z vs H Q w rr k => by
    obtain ⟨qs, hl, h0, hz⟩ := hz
    cases rr with
    | cons r1 r2 =>
      cases r2
      obtain ⟨q, us, rfl, hq, rs⟩ := r1.asLst w hl
      have hp : toPys (qs.map prD) = some (qs.map prP) := (cmps_map (f := prD) (g := prP) (k := 1) (Nat.le_refl _) fun x _ => cmp_tup (cmps_cons (cmp_int _) (Nat.le_refl _) (cmps_cons (cmp_int _) (Nat.le_refl _) cmps_nil))).eq
      refine ⟨q, us, qs, rfl, hq, rs.dp hp, h0, fun i u x hu hx ht => ?_⟩
      obtain ⟨u', e1, ru⟩ := rs.get (show (qs.map prD)[i]? = some (prD x) by rw [List.getElem?_map, hx]; rfl)
      rw [hu] at e1; cases e1
      exact k.now w ru (hz x (List.mem_of_getElem? hx) ht)) he) hg (he := he) (hpl := hpl)
/-! ### a list taken apart, `{}` -/
theorem wg_unl {d : D} {ds : List D} {k1 n : Nat} {Ω : Rho → Mp → Prop} (h : d = .lst ds ∧ ds.length = n ∧ WGs X es ds ρ M Ω) (hc : X.calm = true := by rfl) (hn : (assignEach es X.env).length = n := by rfl) (hst : (assignEach es X.env).findIdx? (·.1) = none := by rfl) : WG X (.Tuple es k1 pos) d ρ M Ω := .mk fun {Z} σ H v Q en w r k => by
  obtain ⟨rfl, hl, h⟩ := h
  obtain ⟨a, vs, rfl, hq, rs⟩ := r.asLst (ds := ds) w rfl
  exact gOf (L2.pg_unl hc pgs_sem hn hst) ⟨a, vs, rfl, hq, by rw [rs.length]; exact hl, h.run σ H vs Q en w rs k⟩
theorem we_dict0 (h : Φ (.dK []) M) : WE X ρ M (.Dict [] [] pos) Φ := .mk fun σ H Q en w k => eOf pe_dnewK fun p hp => k.new w hp (.dK upd_same (w.fresh hp) .nil) h
end
theorem sh_int {i : Int} (h : i.natAbs < 10 ^ 40) : (PyData.int i).showable = true ∧ (PyData.int i).shown.length ≤ sizeLine := by
  refine ⟨?_, ?_⟩
  · simp only [PyData.showable, decide_eq_true_eq]
    have : i.natAbs < 2 ^ 140 := Nat.lt_trans h (by decide)
    by_cases h0 : i.natAbs = 0
    · rw [h0]; decide
    · have := (Nat.log2_lt h0).mpr this; omega
  · have e := int_text_length_le10 (k := 40) (by decide) h
    show (Str.ofString (toString i)).length ≤ sizeLine
    rw [PySem.ofString_length, sizeLine_eq]; omega
end DL
/-! DL24: zip of a list and a tuple. -/
namespace DL
open PySem PySem.Spec PyProof.Rows L2
/-- the walk of zip(a list, a tuple) -/
def ItzM (K : PySem.W.Frag) (a b : Addr) : It :=
  ⟨fun i H => ∃ (xs ys : List V) (x y : V), SqL K H a xs ∧ SqT K H b ys ∧ xs[i]? = some x ∧ ys[i]? = some y,
    fun i H v H' => ∃ T x y, v = .ref T ∧ H T = none ∧ H' = upd H T (.tup [x, y]) ∧ (∀ xs, SqL K H a xs → xs[i]? = some x) ∧ ∀ ys, SqT K H b ys → ys[i]? = some y,
    fun i H => ∃ xs ys : List V, SqL K H a xs ∧ SqT K H b ys ∧ i ≤ xs.length ∧ i ≤ ys.length ∧ (i = xs.length ∨ i = ys.length)⟩
theorem turn_zipM {P : Program} {w : World} {K : PySem.W.Frag} {elts : List Expr} {kk : Nat} {tpos : Pos} {a b z TI TO i1 i2 : Addr} (S : ZipSep2 z TI TO i1 i2 [i1, a] [i2, b]) (ha : a ≠ i1) (hb : b ≠ i2) (da : a ≠ z) (da2 : a ≠ TO) (db : b ≠ z) (db2 : b ≠ TO) (a2 : a ≠ i2) (b1 : b ≠ i1) :
    Turn P w K (.Tuple elts kk tpos) (ItzM K a b) [z, TI, TO, i1, i2] z (fun i h => IsZip h z TI TO .none ∧ IsTupOf2 h TI (.ref i1) (.ref i2) ∧ (∃ x y, IsTupOf2 h TO x y) ∧ h.IsListIter i1 a i ∧ h.IsTupleIter i2 b i) where
  mem := by simp
  obj := fun i h st c hc => by
    obtain ⟨hz, hTI, ⟨x, y, hTO⟩, ⟨o1, e1, _, d1⟩, ⟨o2, e2, _, d2⟩⟩ := st
    have e' : c = z ∨ c = TI ∨ c = TO ∨ c = i1 ∨ c = i2 := by simpa using hc
    rcases e' with rfl | rfl | rfl | rfl | rfl
    · exact ⟨_, hz, fun v q => nomatch q⟩
    · exact ⟨_, hTI, fun v q => nomatch q⟩
    · exact ⟨_, hTO, fun v q => nomatch q⟩
    · exact ⟨o1, e1, fun v q => by rw [d1] at q; cases q⟩
    · exact ⟨o2, e2, fun v q => by rw [d2] at q; cases q⟩
  keep := fun i h h' st k => by
    obtain ⟨hz, hTI, ⟨x, y, hTO⟩, h1, h2⟩ := st
    exact ⟨k z (by simp) _ hz, k TI (by simp) _ hTI, ⟨x, y, k TO (by simp) _ hTO⟩, h1.at fun o q => k i1 (by simp) o q, h2.at fun o q => k i2 (by simp) o q⟩
  item := by
    intro X hP hw hK hc i pins s σ H E I hf st hg
    subst hP hw hK
    obtain ⟨hz, hTI, ⟨x0, y0, hTO⟩, h1, h2⟩ := st
    obtain ⟨xs, ys, x, y, hqx, hqy, hx, hy⟩ := hg
    obtain ⟨its, rv, p1, _⟩ := I.list hqx
    obtain ⟨its2, rv2, p2, _⟩ := I.tuple hqy
    obtain ⟨u, hu, ru⟩ := rv.get hx
    obtain ⟨u2, hu2, ru2⟩ := rv2.get hy
    have hh := I.ok.hd hc
    have hzl : z < s.heap.objs.size := Heap.lt_size hz
    have l1 : i < its.toArray.size := by simpa using (List.getElem?_eq_some_iff.mp hu).1
    have l2 : i < its2.toArray.size := by simpa using (List.getElem?_eq_some_iff.mp hu2).1
    refine wpAny_pyNext_zipD2_item S (Draws.list (A := X.A.in1) hh i1 a ha its.toArray) (Draws.tuple (A := X.A.in1) hh i2 b hb its2.toArray) hz hTI hTO ⟨h1, p1.isList⟩ ⟨h2, p2⟩ l1 l2 fun v1 v2 h' tk q1 q2 z' TO' s1' s2' hT hsz hk => ?_
    have e1 : u = v1 := by rw [show its.toArray[i]? = its[i]? by simp, hu] at q1; exact Option.some.inj q1
    have e2 : u2 = v2 := by rw [show its2.toArray[i]? = its2[i]? by simp, hu2] at q2; exact Option.some.inj q2
    subst e1 e2
    refine ⟨_, rfl, wpAny_letOwnedTupleGo_zip (s := { s with heap := h', toks := tk }) z' fun h'' z'' sb => ?_⟩
    have hT2 : h''.get? s.heap.objs.size = some { cls := .type "tuple", data := .seq #[u, u2] } := (sb.2 _ (Nat.ne_of_gt hzl)).trans hT
    have new : ObjOk X.prog X.w (upd H s.heap.objs.size (.tup [x, y])) h'' s.heap.objs.size (.tup [x, y]) := ⟨by show 2 ≤ sizeLine; decide, [u, u2], .cons ru (.cons ru2 .nil), ⟨_, hT2, rfl, _, rfl⟩⟩
    have I1 : Inv X pins σ (upd H s.heap.objs.size (.tup [x, y])) { s with heap := h'', toks := tk } :=
      I.turnedNew (t' := tk) (ch := [z, TI, TO, i1, i2]) (fun c o hb q => (sb.2 c (fun q' => hb (by simp [q']))).trans (hk c o (fun q' => hb (by simp [q'])) (fun q' => hb (by simp [q'])) (fun q' => hb (by simp [q'])) (fun q' => hb (by simp [q'])) q)) hf (Nat.le_refl _) new
    refine ⟨.ref s.heap.objs.size, _, I1, rfl, ⟨_, x, y, rfl, I.hok.fresh (Nat.le_refl _), rfl, fun l hl => by rw [I.list_inj hl hqx]; exact hx, fun l hl => by rw [I.tuple_inj hl hqy]; exact hy⟩, ⟨z'', ?_, ⟨u, u2, ?_⟩, ?_, ?_⟩, fun c hcm => ?_⟩
    · exact (sb.2 _ S.TIz).trans (hk _ _ S.TIz S.TITO S.TIi1 S.TIi2 hTI)
    · exact (sb.2 _ S.TOz).trans TO'
    · exact s1'.1.at fun o q => (sb.2 _ (Ne.symm S.zi1)).trans q
    · exact s2'.1.at fun o q => (sb.2 _ (Ne.symm S.zi2)).trans q
    · have hlt : c < s.heap.objs.size := by
        have e' : c = z ∨ c = TI ∨ c = TO ∨ c = i1 ∨ c = i2 := by simpa using hcm
        rcases e' with rfl | rfl | rfl | rfl | rfl
        · exact hzl
        · exact Heap.lt_size hTI
        · exact Heap.lt_size hTO
        · obtain ⟨_, e1, _⟩ := h1; exact Heap.lt_size e1
        · obtain ⟨_, e2, _⟩ := h2; exact Heap.lt_size e2
      rw [upd_ne (Nat.ne_of_lt hlt)]
      exact (hf c hcm).1
  done := by
    intro X hP hw hK hc i pins s σ H E I hf st hg
    subst hP hw hK
    obtain ⟨hz, hTI, ⟨x0, y0, hTO⟩, h1, h2⟩ := st
    obtain ⟨xs, ys, hqx, hqy, g1, g2, hend⟩ := hg
    obtain ⟨its, rv, p1, _⟩ := I.list hqx
    obtain ⟨its2, rv2, p2, _⟩ := I.tuple hqy
    have l1 := rv.length
    have l2 := rv2.length
    have hh := I.ok.hd hc
    refine wpAny_pyNext_zipD2_end S (Draws.list (A := X.A.in1) hh i1 a ha its.toArray) (Draws.tuple (A := X.A.in1) hh i2 b hb its2.toArray) hz hTI hTO ⟨h1, p1.isList⟩ ⟨h2, p2⟩ (by simp; omega) (by simp; omega) (by simp; omega) fun h' tk hk => ⟨rfl, I.turnedL (t' := tk) (ch := [z, TI, TO, i1, i2]) (fun c o hb q =>
      hk c o (fun q' => hb (by simp [q'])) (fun q' => hb (by simp [q'])) (fun q' => hb (by simp [q'])) (fun q' => hb (by simp [q'])) q) hf⟩
  self := fun A i s Q E st h => wpAny_pyIter_zip st.1 h
def iZipM (K : PySem.W.Frag) (ta : TA) : TI := fun σ H R => ta σ H fun vs H1 => ∃ a b xs ys, vs = [.ref a, .ref b] ∧ SqL K H1 a xs ∧ SqT K H1 b ys ∧ R (ItzM K a b) H1
theorem pi_zipM {X : Cx} {e e2 : Expr} {ta : TA} {p pos tpos : Pos} {elts : List Expr} {kk : Nat} (hg : Gl X "zip") (hm : X.mg "zip" = none) (ha : PA X [e, e2] ta)
    (hs : starEach [e, e2] X.env = (false, eval e X.env) :: starEach [e2] X.env := by rfl) (hpl : (backTo pos (starEach [e2] X.env)).any (·.1) = false := by rfl) : PI X (.Tuple elts kk tpos) (.Call (.Name "zip" p) [e, e2] [] pos) (iZipM X.K ta) := by
  refine ⟨fun pins s σ H R I h => ?_⟩
  refine Call_ (ld_blt I hg hm PyProof.Rows.boot_zip (PyProof.Rows.callWith_type1 (thn (ha.run pos pins s σ H _ I h) fun us s1 ⟨vs, H1, I1, r1, q1⟩ => ?_) hs hpl))
  obtain ⟨a, b, xs, ys, ex, hqx, hqy, q⟩ := q1
  subst ex
  cases r1 with
  | cons r rr =>
    cases rr with
    | cons r' rr =>
      cases rr
      cases r
      cases r'
      obtain ⟨its, rv, p1, _⟩ := I1.list hqx
      obtain ⟨its2, rv2, p2, _⟩ := I1.tuple hqy
      have la : a < s1.heap.objs.size := p1.lt
      have lb : b < s1.heap.objs.size := by obtain ⟨o, ho, _⟩ := p2; exact Heap.lt_size ho
      refine zip_begins2 (begins_list a its.toArray) (begins_tuple b its2.toArray) p1.isList p2 fun h' hz hTI hTO h1 h2 hsz hk => wpAny_pyIter_zip hz ?_
      have I2 : Inv X pins σ H1 { s1 with heap := h' } := I1.kept (t' := s1.toks) hk
      have le : ∀ {n : Nat}, a ≠ s1.heap.objs.size + n ∧ b ≠ s1.heap.objs.size + n := fun {n} => ⟨Nat.ne_of_lt (Nat.lt_of_lt_of_le la (Nat.le_add_right _ _)), Nat.ne_of_lt (Nat.lt_of_lt_of_le lb (Nat.le_add_right _ _))⟩
      have fresh5 : ∀ c, c ∈ [s1.heap.objs.size + 4, s1.heap.objs.size + 2, s1.heap.objs.size + 3, s1.heap.objs.size, s1.heap.objs.size + 1] → FpOk X pins H1 c := fun c hcm => by
        have hle : s1.heap.objs.size ≤ c := by
          have e' : c = s1.heap.objs.size + 4 ∨ c = s1.heap.objs.size + 2 ∨ c = s1.heap.objs.size + 3 ∨ c = s1.heap.objs.size ∨ c = s1.heap.objs.size + 1 := by simpa using hcm
          rcases e' with rfl | rfl | rfl | rfl | rfl <;> first | exact Nat.le_refl _ | exact Nat.le_add_right _ _
        exact I1.fpOk hle (I1.hok.fresh hle)
      have sep := zip_sep2 (N := s1.heap.objs.size) (fp1 := [a]) (fp2 := [b]) (fun c hc => by rw [List.mem_singleton.mp hc]; exact la) (fun c hc => by rw [List.mem_singleton.mp hc]; exact lb)
      exact ⟨s1.heap.objs.size + 4, [s1.heap.objs.size + 4, s1.heap.objs.size + 2, s1.heap.objs.size + 3, s1.heap.objs.size, s1.heap.objs.size + 1], _, _, H1, rfl, I2, turn_zipM sep (le (n := 0)).1 le.2 le.1 le.1 le.2 le.2 le.1 (le (n := 0)).2, ⟨hz, hTI, ⟨_, _, hTO⟩, ⟨_, h1, rfl, rfl⟩, ⟨_, h2, rfl, rfl⟩⟩, fresh5, q⟩
section
variable {X : Cx} {ρ : Rho} {M : Mp} {Φ : List D → Mp → Prop} {a b : Expr} {p pos : Pos}
theorem wi_zipM {elts : List Expr} {kk : Nat} {tpos : Pos} (hm : X.mg "zip" = none) (h : WE X ρ M a fun x M1 => WE X ρ M1 b fun y M2 => ∃ xs ys, x = .lst xs ∧ y = .tup ys ∧ Φ (zipD xs ys) M2) (hg : Gl X "zip" := by rfl)
    (ha : starEach [a, b] X.env = (false, eval a X.env) :: starEach [b] X.env := by rfl) (hb : starEach [b] X.env = (false, eval b X.env) :: starEach [] X.env := by rfl) (hpl : (backTo pos (starEach [b] X.env)).any (·.1) = false := by rfl) : WI X ρ M (.Tuple elts kk tpos) (.Call (.Name "zip" p) [a, b] [] pos) Φ := .mk fun σ H R en w k =>
  iOf (pi_zipM hg hm (pa_cons pe_sem (pa_cons pe_sem pa_nil hb) ha) ha hpl) (bind2 h en w fun v u x y H2 M2 e2 w2 r1 r2 hz => by
    obtain ⟨xs, ys, rfl, rfl, hz⟩ := hz
    obtain ⟨p2, us, rfl, hq2, rs2⟩ := r2.tupKeep
    cases r1 with
    | @lst p1 vs _ h1 m1 rs1 =>
      refine ⟨p1, p2, vs, us, rfl, .inl (.inl h1), hq2 _ _ _ ExI.refl, k _ _ H2 M2 e2 w2 ?_ hz⟩
      intro i M Z H e w
      have hq1 : SqL X.K H p1 vs := .inl (.inl (e _ _ h1 m1).1)
      refine ⟨fun hi => ⟨vs, us, hq1, hq2 _ _ _ e, ?_⟩, fun d hd => ?_⟩
      · rw [rs1.length, rs2.length]
        have : (zipD xs ys).length = min xs.length ys.length := by simp [zipD]
        omega
      · obtain ⟨x, y, hx, hy, rfl⟩ := zipD_get hd
        obtain ⟨v, hv, rv⟩ := rs1.get hx
        obtain ⟨u, hu, ru⟩ := rs2.get hy
        refine ⟨⟨vs, us, v, u, hq1, hq2 _ _ _ e, hv, hu⟩, fun z H' yl => ?_⟩
        obtain ⟨T, v', u', rfl, hT, rfl, h3, h4⟩ := yl
        have z1 := h3 vs hq1
        have z2 := h4 us (hq2 _ _ _ e)
        rw [hv] at z1; cases z1
        rw [hu] at z2; cases z2
        have x3 : Ext M Z H M (upd H T (.tup [v, u])) := Ext.new w hT
        exact ⟨x3, w.new hT, .tup (.inl upd_same) (w.fresh hT) (.cons ((rv.monoI e).mono x3) (.cons ((ru.monoI e).mono x3) .nil))⟩)
end
end DL
/-! EP: parts of plans. -/
namespace W
open PySem PySem.Spec PyProof.Rows L2 DL SX PL SlX
theorem wrd_beside (b : Bool) : decide (wrd b = ("beside" : Str)) = !b := by cases b <;> decide +kernel
theorem wrd_intr (b : Bool) : decide (wrd b = ("introduced" : Str)) = b := by cases b <;> decide +kernel
def besT : T → Bool
  | .cop s _ _ => !s
  | .row s _ => !s
  | _ => false
theorem bes_word {t : T} (h : Told t) : decide (wordT t = ("beside" : Str)) = besT t := by
  cases t with
  | one => decide +kernel
  | name x => exact h.elim
  | cop s n u => exact wrd_beside s
  | row s ts => exact wrd_beside s
theorem int_word {t : T} (h : Told t) : decide (wordT t = ("introduced" : Str)) = intr t := by
  cases t with
  | one => decide +kernel
  | name x => exact h.elim
  | cop s n u => exact wrd_intr s
  | row s ts => exact wrd_intr s
theorem kids_n {t : T} {q : Nat × T} (hm : q ∈ kids t) (ok : Ok t) : q.1 ≤ 10 ^ 30 := by
  cases t with
  | one => simp [kids] at hm
  | name x => simp [kids] at hm
  | cop b n v =>
    simp [kids] at hm
    subst hm
    exact ok.1.2.1
  | row b ts =>
    unfold kids at hm
    obtain ⟨u, hu, rfl⟩ := List.mem_map.mp hm
    exact Nat.one_le_pow _ _ (by decide)
def prts (C : Addr) : Nat → List (Nat × T) → List D
  | _, [] => []
  | k, q :: r => .tup [.int (k : Nat), .int (q.1 : Nat), planD C q.2] :: prts C (k + q.1) r
theorem prts_snoc (C : Addr) : ∀ (l : List (Nat × T)) (k : Nat) (q : Nat × T), prts C k (l ++ [q]) = prts C k l ++ [.tup [.int ((k + (l.map (·.1)).sum : Nat) : Int), .int (q.1 : Nat), planD C q.2]]
  | [], k, q => by simp [prts]
  | r :: l, k, q => by
    rw [List.cons_append, prts, prts, prts_snoc C l (k + r.1) q, List.cons_append, List.map_cons, List.sum_cons, Nat.add_assoc]
theorem prts_len (C : Addr) : ∀ (l : List (Nat × T)) (k : Nat), (prts C k l).length = l.length
  | [], k => rfl
  | q :: l, k => by rw [prts, List.length_cons, List.length_cons, prts_len C l]
theorem prts_get (C : Addr) : ∀ {l : List (Nat × T)} {k i : Nat} {x : D}, (prts C k l)[i]? = some x → ∃ q, l[i]? = some q ∧ x = .tup [.int ((k + ((l.take i).map (·.1)).sum : Nat) : Int), .int (q.1 : Nat), planD C q.2]
  | [], k, i, x, h => by simp [prts] at h
  | q :: l, k, 0, x, h => by
    rw [prts, List.getElem?_cons_zero] at h
    exact ⟨q, rfl, by rw [← Option.some.inj h]; simp⟩
  | q :: l, k, i + 1, x, h => by
    rw [prts, List.getElem?_cons_succ] at h
    obtain ⟨r, h1, h2⟩ := prts_get C h
    exact ⟨r, by rw [List.getElem?_cons_succ]; exact h1, by rw [h2, List.take_succ_cons, List.map_cons, List.sum_cons, Nat.add_assoc]⟩
theorem sum_1s : ∀ l : List T, (l.map ((fun q : Nat × T => q.1) ∘ fun t => (1, t))).sum = l.length
  | [] => rfl
  | a :: l => by rw [List.map_cons, List.sum_cons, sum_1s l, List.length_cons]; simp; omega
/-- the first number of a group of parts that are not copies -/
theorem first_of {t : T} {k : Nat} {q : Nat × T} (h : (kids t)[k]? = some q) (g : Good t) : ∃ f, f = (((kids t).take k).map (·.1)).sum ∧ (kids t)[f]? = some q ∧ piece t f = some q.2 ∧ f < PL.cnt t := by
  cases t with
  | one => simp [kids] at h
  | name x => simp [kids] at h
  | cop s n u =>
    have hk : k = 0 := by
      have := (List.getElem?_eq_some_iff.mp h).1
      simpa [kids] using this
    subst hk
    have : q = (n, u) := by simpa [kids] using h.symm
    subst this
    exact ⟨0, by simp, h, rfl, by have := g.1; simp [PL.cnt, kids]; omega⟩
  | row s ts =>
    unfold kids at h
    rw [List.getElem?_map] at h
    obtain ⟨u, hu, rfl⟩ := Option.map_eq_some_iff.mp h
    have hk := (List.getElem?_eq_some_iff.mp hu).1
    refine ⟨k, ?_, by unfold kids; rw [List.getElem?_map, hu]; rfl, hu, ?_⟩
    · unfold kids
      rw [← List.map_take, List.map_map, sum_1s, List.length_take]; omega
    · show k < ((kids (.row s ts)).map (·.1)).sum
      unfold kids
      rw [List.map_map, sum_1s]; exact hk
theorem intr_bes {t : T} (hb : besT t = false) (h1 : isOneT t = false) (ht : Told t) : intr t = true := by
  cases t with
  | one => cases h1
  | name x => exact ht.elim
  | cop s n u => cases s; cases hb; rfl
  | row s ts => cases s; cases hb; rfl
theorem bes_intr {t : T} (h : besT t = true) : intr t = false := by
  cases t with
  | one => rfl
  | name x => rfl
  | cop s n u => cases s; rfl; cases h
  | row s ts => cases s; rfl; cases h
section
variable {P : Program} {w : World} {K : PySem.W.Frag} {mg : Str → Option Value} {base : Heap} {C G : Addr}
def cParts (C : Addr) : Con := fun ds M Φ => ∃ t, ds = [planD C t] ∧ Ok t ∧ Φ (.lst (prts C 0 (kids t))) M
abbrev nParts : List Str := ["plan", "found", "first", "many", "part"]
theorem ok_parts_of (Y : Px K mg C) : BodyOk P w K mg base "parts_of" s_parts_of nParts 1 0 (cParts C) := by
  intro f cdv A outer s H E hr ds M Φ hl hc
  obtain ⟨t, rfl, ok, hc⟩ := hc
  have nd : nParts.Nodup := by decide +kernel
  have hk := kids_len ok.1
  have hlen := ok.2.2
  refine wss_cons (ws_par 1 2 nd (wa_cons (we_lstM (wa_nil ⟨Nat.zero_le _, fun q hq => wa_cons (we_int (wa_nil ⟨_, _, rfl, ?_⟩))⟩))))
  refine wss_cons (ws_for PassesOwn.never (wi_list (we_fld (C := C) (we_var 0 rfl ⟨_, _, insP ok.2.1, Y.cl, Y.na _ (by decide +kernel), lk_groups, _, .inl rfl, ?_⟩))))
  refine ⟨fun i ρ' M' => ∃ (o3 o4 : Option D), ρ' = [some (planD C t), some (.ob q), some (.int ((((kids t).take i).map (·.1)).sum : Nat)), o3, o4] ∧ M' = mset M q (.lst (prts C 0 ((kids t).take i))), ⟨none, none, rfl, rfl⟩, ?_, ?_⟩
  · rintro i x ρ' M' hx ⟨o3, o4, rfl, rfl⟩
    unfold subsD at hx
    rw [List.getElem?_map] at hx
    obtain ⟨p, hp, rfl⟩ := Option.map_eq_some_iff.mp hx
    have hi := (List.getElem?_eq_some_iff.mp hp).1
    refine wg_tup ⟨rfl, rfl, wgs_cons (wg_name 3 (wgs_cons (wg_name 4 (wgs_nil ⟨rfl, ?_⟩) nd)) nd)⟩
    refine wss_cons (ws_expr (we_append (we_var 1 rfl ⟨q, _, rfl, mset_same, we_tup (wa_cons (we_var 2 rfl (wa_cons (we_var 3 rfl (wa_cons (we_var 4 rfl (wa_nil ⟨sz3, _, mset_same, ?_, ?_⟩)))))))⟩)))
    · rw [prts_len, List.length_take, sizeLine_eq]; omega
    rw [mset_mset]
    refine wss_cons (ws_aug 2 ip_add rfl nd (we_var 3 rfl ?_))
    refine rd_I0 (g := fun i j => i + j) ⟨_, _, rfl, rfl, wss_nil ⟨some (.int (p.1 : Nat)), some (planD C p.2), ?_, ?_⟩⟩
    · rw [take_snoc hp, List.map_append, List.sum_append, Int.natCast_add]; simp
    · rw [take_snoc hp, prts_snoc]; simp
  · rintro ρ' M' ⟨o3, o4, rfl, rfl⟩
    unfold subsD
    rw [List.length_map, List.take_length]
    exact wss_cons (ws_ret (we_var 1 rfl ⟨_, M, les_new hq, .lst mset_same hq, hc⟩))
end
end W
/-! E45p: people of a plan. -/
namespace W
open PySem PySem.Spec PyProof.Rows L2 DL SX PL SlX
section
variable {P : Program} {w : World} {K : PySem.W.Frag} {mg : Str → Option Value} {base : Heap} {C G : Addr}
theorem ok_people (X : Px K mg C) : BodyOk P w K mg base "Plan.people" s_Plan_people ["self"] 1 0 (cGet C fun t => .int (ppl t : Nat)) := by
  intro f cdv A outer s H E hr ds M Φ hl hc
  obtain ⟨t, rfl, ok, hc⟩ := hc
  refine wss_cons (ws_ret (we_if (wt_eqNilT hr.units (we_fld (C := C) (we_var 0 rfl ⟨_, _, insP ok.2.1, X.cl, X.na _ (by decide +kernel), lk_names, [], [], 0, rfl, cmps_nil, by decide, ?_⟩)))))
  exact we_fld (C := C) (we_var 0 rfl ⟨_, _, insP ok.2.1, X.cl, X.na _ (by decide +kernel), lk_people, Lets.of hc⟩)
end
end W
/-! PM10: trees of drawn plans. -/
namespace PL
open PySem SX TL
mutual
def nds : T → Nat
  | .one => 1
  | .name _ => 1
  | .cop _ _ t => nds t + 1
  | .row _ ts => ndss ts + 1
def ndss : List T → Nat
  | [] => 0
  | t :: ts => nds t + ndss ts
end
def lmG : Nat → Nat
  | 0 => 1
  | d + 1 => 3 * lmG d + 60
def ndG : Nat → Nat
  | 0 => 1
  | d + 1 => 3 * ndG d + 1
/-- told plans of at most m people, d deep -/
def Gt (t : T) (m d : Nat) : Prop := Good t ∧ Told t ∧ ppl t ≤ m ∧ ht t ≤ d ∧ (txt t).length ≤ lmG d ∧ nds t ≤ ndG d
theorem gt_one {m : Nat} (d : Nat) (h : 1 ≤ m) : Gt .one m d := by
  refine ⟨trivial, trivial, by rw [ppl]; exact h, by rw [ht]; exact Nat.zero_le _, ?_, ?_⟩
  · rw [txt]
    cases d with
    | zero => exact Nat.le_refl _
    | succ d => show 1 ≤ 3 * lmG d + 60; omega
  · rw [nds]
    cases d with
    | zero => exact Nat.le_refl _
    | succ d => show 1 ≤ 3 * ndG d + 1; omega
theorem gt_cop {t : T} {n m d : Nat} (b : Bool) (h : Gt t (m / n) d) (h1 : 2 ≤ n) (h2 : n ≤ 10 ^ 30) : Gt (.cop b n t) m (d + 1) := by
  obtain ⟨g1, g2, g3, g4, g5, g6⟩ := h
  have hlen : (numL n).length ≤ 31 := numL_len (by decide) (Nat.lt_of_le_of_lt h2 (by decide))
  refine ⟨⟨h1, h2, g1⟩, g2, ?_, by rw [ht]; omega, ?_, ?_⟩
  · rw [ppl]
    exact Nat.le_trans (Nat.mul_le_mul_left _ g3) (Nat.mul_div_le m n)
  · rw [txt]
    simp only [List.length_cons, List.length_append, List.length_nil]
    show _ ≤ 3 * lmG d + 60
    omega
  · rw [nds]
    show _ ≤ 3 * ndG d + 1
    omega
theorem gts_all {m d : Nat} (b : Bool) : ∀ {ts : List T}, (∀ t ∈ ts, Gt t m d) → Goods ts ∧ Tolds ts ∧ ppls ts ≤ ts.length * m ∧ hts ts ≤ d ∧ (joinL (sep b) (txts ts)).length ≤ ts.length * (lmG d + 3) ∧ ndss ts ≤ ts.length * ndG d
  | [], _ => ⟨trivial, trivial, by rw [ppls]; exact Nat.zero_le _, by rw [hts]; exact Nat.zero_le _, by rw [txts, joinL]; exact Nat.zero_le _, by rw [ndss]; exact Nat.zero_le _⟩
  | [t], h => by
    obtain ⟨g1, g2, g3, g4, g5, g6⟩ := h t List.mem_cons_self
    refine ⟨⟨g1, trivial⟩, ⟨g2, trivial⟩, by rw [ppls, ppls]; simp; exact g3, by rw [hts, hts]; simp; exact g4, ?_, by rw [ndss, ndss]; simp; exact g6⟩
    rw [txts, txts, joinL]
    simp; omega
  | t :: u :: ts, h => by
    obtain ⟨g1, g2, g3, g4, g5, g6⟩ := h t List.mem_cons_self
    obtain ⟨h1, h2, h3, h4, h5, h6⟩ := gts_all b (ts := u :: ts) fun x hx => h x (List.mem_cons_of_mem _ hx)
    refine ⟨⟨g1, h1⟩, ⟨g2, h2⟩, ?_, by rw [hts]; omega, ?_, ?_⟩
    · rw [ppls, List.length_cons, Nat.succ_mul]; omega
    · have e1 : joinL (sep b) (txts (t :: u :: ts)) = txt t ++ (sep b ++ joinL (sep b) (txts (u :: ts))) := by rw [txts, txts, joinL]
      rw [e1, List.length_append, List.length_append, sep_len, List.length_cons, Nat.succ_mul]
      omega
    · rw [ndss, List.length_cons, Nat.succ_mul]; omega
theorem gt_row {ts : List T} {m d : Nat} (b : Bool) (h : ∀ t ∈ ts, Gt t (m / 4) d) (h1 : 2 ≤ ts.length) (h2 : ts.length ≤ 3) : Gt (.row b ts) m (d + 1) := by
  obtain ⟨g1, g2, g3, g4, g5, g6⟩ := gts_all b h
  refine ⟨⟨h1, g1⟩, g2, ?_, by rw [ht]; omega, ?_, ?_⟩
  · rw [ppl]
    have : ts.length * (m / 4) ≤ 3 * (m / 4) := Nat.mul_le_mul_right _ h2
    omega
  · rw [txt]
    simp only [List.length_cons, List.length_append, List.length_nil]
    have : ts.length * (lmG d + 3) ≤ 3 * (lmG d + 3) := Nat.mul_le_mul_right _ h2
    show _ ≤ 3 * lmG d + 60
    omega
  · rw [nds]
    have : ts.length * ndG d ≤ 3 * ndG d := Nat.mul_le_mul_right _ h2
    show _ ≤ 3 * ndG d + 1
    omega
/-- told plans that go deep -/
def Dp (t : T) (k : Nat) : Prop := Good t ∧ Told t ∧ ppl t ≤ 4 ^ k ∧ ht t ≤ k ∧ (txt t).length ≤ 1 + 10 * k ∧ nds t ≤ 1 + 3 * k
theorem dp_one : Dp .one 0 := ⟨trivial, trivial, by rw [ppl]; decide, by rw [ht]; exact Nat.le_refl _, by rw [txt]; exact Nat.le_refl _, by rw [nds]; exact Nat.le_refl _⟩
theorem dp_cop {t : T} {n k : Nat} (b : Bool) (h : Dp t k) (h1 : 2 ≤ n) (h2 : n ≤ 4) : Dp (.cop b n t) (k + 1) := by
  obtain ⟨g1, g2, g3, g4, g5, g6⟩ := h
  have hlen : (numL n).length ≤ 1 := numL_len (by decide) (Nat.lt_of_le_of_lt h2 (by decide))
  refine ⟨⟨h1, Nat.le_trans h2 (by decide), g1⟩, g2, ?_, by rw [ht]; omega, ?_, by rw [nds]; omega⟩
  · rw [ppl, Nat.pow_succ, Nat.mul_comm (4 ^ k)]; exact Nat.mul_le_mul h2 g3
  · rw [txt]
    simp only [List.length_cons, List.length_append, List.length_nil]
    omega
theorem dp_row2 {t : T} {k : Nat} (b : Bool) (h : Dp t k) : Dp (.row b [t, .one]) (k + 1) := by
  obtain ⟨g1, g2, g3, g4, g5, g6⟩ := h
  have := ppl_pos g1
  refine ⟨⟨Nat.le_refl _, g1, trivial, trivial⟩, ⟨g2, trivial, trivial⟩, ?_, ?_, ?_, ?_⟩
  · rw [ppl, ppls, ppls, ppls, ppl, Nat.pow_succ]; omega
  · rw [ht, hts, hts, hts, ht]; omega
  · rw [txt, txts, txts, txts, joinL, joinL, txt]
    simp only [List.length_cons, List.length_append, List.length_nil, sep_len]
    omega
  · rw [nds, ndss, ndss, ndss, nds]; omega
theorem dp_row3 {t : T} {k : Nat} (b : Bool) (h : Dp t k) : Dp (.row b [.one, t, .one]) (k + 1) := by
  obtain ⟨g1, g2, g3, g4, g5, g6⟩ := h
  have := ppl_pos g1
  refine ⟨⟨by simp, trivial, g1, trivial, trivial⟩, ⟨trivial, g2, trivial, trivial⟩, ?_, ?_, ?_, ?_⟩
  · rw [ppl, ppls, ppls, ppls, ppls, ppl, Nat.pow_succ]; omega
  · rw [ht, hts, hts, hts, hts, ht]; omega
  · rw [txt, txts, txts, txts, txts, joinL, joinL, joinL, txt]
    simp only [List.length_cons, List.length_append, List.length_nil, sep_len]
    omega
  · rw [nds, ndss, ndss, ndss, ndss, nds]; omega
/-- what is drawn -/
structure Wi (t : T) : Prop where
  ok : Ok t
  many : ppl t ≤ 10 ^ 30
  deep : ht t ≤ 10
  nodes : nds t ≤ 121
theorem wi_gt {t : T} (h : Gt t (10 ^ 30) 4) : Wi t := by
  obtain ⟨g1, g2, g3, g4, g5, g6⟩ := h
  have e1 : lmG 4 = 2481 := by decide
  have e2 : ndG 4 = 121 := by decide
  exact ⟨⟨g1, g2, by omega⟩, g3, by omega, by omega⟩
theorem wi_dp {t : T} (h : Dp t 10) : Wi t := by
  obtain ⟨g1, g2, g3, g4, g5, g6⟩ := h
  exact ⟨⟨g1, g2, by omega⟩, Nat.le_trans g3 (by decide), by omega, by omega⟩
end PL
/-! DL25: the greatest of three. -/
namespace DL
open PySem PySem.Spec PyProof.Rows L2
section
variable {X : Cx} {ρ : Rho} {M : Mp} {a b c : Expr} {p pos : Pos} {Φ : D → Mp → Prop}
theorem call_max3I (hc : X.calm = true) : CallR X (.builtin "max") (fun xs H Q => ∃ i j l, xs = [.int i, .int j, .int l] ∧ Q (.int (if j > i then (if l > j then l else j) else (if l > i then l else i))) H) := by
  intro pins s σ H xs us Q I r h
  obtain ⟨i, j, l, rfl, q⟩ := h
  cases r with
  | cons r1 r =>
  cases r with
  | cons r2 r =>
  cases r with
  | cons r3 r =>
  cases r
  obtain ⟨t1, rfl⟩ := r1
  obtain ⟨t2, rfl⟩ := r2
  obtain ⟨t3, rfl⟩ := r3
  refine max_three_ints (I.ok.hd hc) fun h' tk k => ⟨_, H, I.kept k, ?_, q⟩
  split <;> split <;> exact ⟨_, rfl⟩
theorem we_max3 (hm : X.mg "max" = none) (h : WE X ρ M a fun x M1 => WE X ρ M1 b fun y M2 => WE X ρ M2 c fun z M3 => ∃ i j l, x = .int i ∧ y = .int j ∧ z = .int l ∧ ∀ m, i ≤ m → j ≤ m → l ≤ m → (m = i ∨ m = j ∨ m = l) → Φ (.int m) M3) (hc : X.calm = true := by rfl) (hg : Gl X "max" := by rfl)
    (ha : starEach [a, b, c] X.env = (false, eval a X.env) :: starEach [b, c] X.env := by rfl) (hb : starEach [b, c] X.env = (false, eval b X.env) :: starEach [c] X.env := by rfl) (hd : starEach [c] X.env = (false, eval c X.env) :: starEach [] X.env := by rfl) (hpl : (backTo pos (starEach [b, c] X.env)).any (·.1) = false := by rfl) : WE X ρ M (.Call (.Name "max" p) [a, b, c] [] pos) Φ :=
  we_callB (call_max3I hc) hm (by decide +kernel) (wa_cons (h.imp fun x M1 h => wa_cons (h.imp fun y M2 h => wa_cons (h.imp fun z M3 h => wa_nil fun Z vs H Q w rr k => by
    obtain ⟨i, j, l, rfl, rfl, rfl, h⟩ := h
    cases rr with
    | cons r1 rr =>
    cases rr with
    | cons r2 rr =>
    cases rr with
    | cons r3 rr =>
    cases rr
    cases r1; cases r2; cases r3
    refine ⟨i, j, l, rfl, k.now w (.int _) (h _ ?_ ?_ ?_ ?_)⟩ <;> split <;> split <;> omega) hd) hb) ha) hg (he := ha) (hpl := hpl)
end
end DL
/-! C10: pots, cells, lores and their texts. -/
namespace W
open PySem PySem.Spec PyProof.Rows L2 DL SX PL
section
variable {P : Program} {w : World} {K : PySem.W.Frag} {mg : Str → Option Value} {base : Heap} {C : Addr}
def cOf : Con := fun ds M Φ => ∃ p xs a c d, ds = [.ob p, .lst xs] ∧ xs ≠ [] ∧ xs.length ≤ 1000000 ∧ M p = some (potL a c d) ∧ cOk c ∧ 0 ≤ d ∧ d < 100000 ∧ ∀ x a' d', x ∈ xs → d ≤ d' → d' ≤ d + 1 → Φ x (mset M p (potL a' c d'))
theorem ok_of (F : Fx w K mg) (F1 : Fc P w K mg base "_law_take" [] 1 2 cTake) : BodyOk P w K mg base "_law_of" s__law_of ["_law_pot_here", "_law_some"] 2 1 cOf := by
  intro f cdv A outer s H E hr ds M Φ hl hc
  obtain ⟨p, xs, a, c, d, rfl, hx, hx2, hM, co, d0, d1, hc⟩ := hc
  have hpos : 0 < xs.length := List.length_pos_iff.mpr hx
  refine wss_cons (ws_ret (we_ix (we_var 1 rfl (we_call F1 (hr.mono (by decide)) (wa_cons (we_var 0 rfl (wa_cons (we_len (F.bn _ (by decide +kernel)) (we_var 1 rfl ⟨_, lenL, wa_nil ⟨rfl, p, _, a, c, d, rfl, by omega, ?_, hM, co, d0, d1, ?_⟩⟩)))))))))
  · have : (1000000 : Int) ≤ 10 ^ 40 := by decide +kernel
    omega
  · intro r a' d' r0 r1 h1 h2
    obtain ⟨n, rfl⟩ := Int.eq_ofNat_of_zero_le r0
    have hn : n < xs.length := by omega
    exact ⟨_, _, rfl, ixL (atI_nat (List.getElem?_eq_getElem hn)), Lets.of (hc _ _ _ (List.getElem_mem hn) h1 h2)⟩
/-- the script -/
abbrev scrD (ns : List Int) : D := .rol (ns.map D.int)
theorem bb (c : Bool) : -(2 ^ 64) < (if c = true then (1 : Int) else 0) ∧ (if c = true then (1 : Int) else 0) < 2 ^ 64 := by cases c <;> decide
theorem join_sum (b : Bool) : ∀ ps : List (List Nat), (ps.map (·.length)).sum + ps.length * 3 ≤ (TL.joinL (sep b) ps).length + 3
  | [] => by simp
  | [p] => by rw [TL.joinL]; simp
  | p :: q :: r => by
    have ih := join_sum b (q :: r)
    rw [TL.joinL, List.length_append, List.length_append, sep_len, List.map_cons, List.sum_cons, List.length_cons]
    omega
def cCells : Con := fun ds M Φ => ∃ ns m, ds = [scrD ns, .int (m : Nat)] ∧ 1 ≤ m ∧ m ≤ 1000 ∧ ∀ n : Nat, n ≤ m → Φ (.lst (rngD 0 n)) M
theorem ok_cells (F : Fx w K mg) : BodyOk P w K mg base "_law_cells" s__law_cells ["_law_script", "_law_most"] 2 0 cCells := by
  intro f cdv A outer s H E hr ds M Φ hl hc
  obtain ⟨ns, m, rfl, h1, h2, hc⟩ := hc
  refine wss_cons (ws_ret (we_listRg1 (F.bn _ (by decide +kernel)) (F.bn _ (by decide +kernel)) (we_max2 (F.bn _ (by decide +kernel)) (we_int (we_min2 (F.bn _ (by decide +kernel)) (we_var 1 rfl (we_len (F.bn _ (by decide +kernel)) (we_var 0 rfl ⟨_, lenR, _, _, rfl, rfl, _, _, rfl, rfl, _, rfl, ?_, Lets.of (hc _ ?_)⟩))))))))
  · unfold RgOk; split <;> split <;> omega
  · split <;> split <;> omega

end
end W
/-! E40: the law's trees: parts, sizes, pieces. -/
namespace W
open PySem PySem.Spec PyProof.Rows L2 DL SX PL SlX
def kdS : T → Str
  | .cop _ _ _ => "copies"
  | .row _ _ => "row"
  | _ => "one"
def wdS : T → Str
  | .cop s _ _ => wrd s
  | .row s _ => wrd s
  | _ => ""
def mnT : T → Nat
  | .cop _ n _ => n
  | _ => 1
def pts : T → List T
  | .cop _ _ t => [t]
  | .row _ ts => ts
  | _ => []
mutual
def trD : T → D
  | .cop s n t => .tup [.str "copies", .str (wrd s), .int (n : Nat), .tup [trD t]]
  | .row s ts => .tup [.str "row", .str (wrd s), .int ((1 : Nat) : Int), .tup (trDs ts)]
  | _ => .tup [.str "one", .str "", .int ((1 : Nat) : Int), .tup []]
def trDs : List T → List D
  | [] => []
  | t :: ts => trD t :: trDs ts
end
theorem trDs_map : ∀ ts : List T, trDs ts = ts.map trD
  | [] => by rw [trDs]; rfl
  | t :: ts => by rw [trDs, trDs_map ts, List.map_cons]
theorem trD_eq (t : T) : trD t = .tup [.str (kdS t), .str (wdS t), .int (mnT t : Nat), .tup ((pts t).map trD)] := by
  cases t with
  | one => simp [trD, kdS, wdS, mnT, pts]
  | name x => simp [trD, kdS, wdS, mnT, pts]
  | cop s n u => simp [trD, kdS, wdS, mnT, pts]
  | row s ts => simp [trD, kdS, wdS, mnT, pts, trDs_map]
theorem tr0 {M : Mp} (t : T) : IxD M (trD t) 0 (.str (kdS t)) := by rw [trD_eq]; exact ixT (atI_nat (j := 0) rfl)
theorem tr1 {M : Mp} (t : T) : IxD M (trD t) 1 (.str (wdS t)) := by rw [trD_eq]; exact ixT (atI_nat (j := 1) rfl)
theorem tr2 {M : Mp} (t : T) : IxD M (trD t) 2 (.int (mnT t : Nat)) := by rw [trD_eq]; exact ixT (atI_nat (j := 2) rfl)
theorem tr3 {M : Mp} (t : T) : IxD M (trD t) 3 (.tup ((pts t).map trD)) := by rw [trD_eq]; exact ixT (atI_nat (j := 3) rfl)
theorem kd_one {t : T} (h : Told t) : decide (kdS t = ("one" : Str)) = isOneT t := by
  cases t with
  | one => decide +kernel
  | name x => exact h.elim
  | cop s n u => show decide (("copies" : Str) = "one") = false; decide +kernel
  | row s ts => show decide (("row" : Str) = "one") = false; decide +kernel
theorem kd_cop (t : T) : decide (kdS t = ("copies" : Str)) = isCop t := by
  cases t with
  | one => decide +kernel
  | name x => show decide (("one" : Str) = "copies") = false; decide +kernel
  | cop s n u => show decide (("copies" : Str) = "copies") = true; decide +kernel
  | row s ts => show decide (("row" : Str) = "copies") = false; decide +kernel
theorem kd_row {t : T} (h : isOneT t = false) (ht : Told t) : decide (kdS t = ("row" : Str)) = !isCop t := by
  cases t with
  | one => cases h
  | name x => exact ht.elim
  | cop s n u => show decide (("copies" : Str) = "row") = false; decide +kernel
  | row s ts => show decide (("row" : Str) = "row") = true; decide +kernel
theorem wd_bes (t : T) : decide (wdS t = ("beside" : Str)) = besT t := by
  cases t with
  | one => decide +kernel
  | name x => show decide (("" : Str) = "beside") = false; decide +kernel
  | cop s n u => exact wrd_beside s
  | row s ts => exact wrd_beside s
theorem wd_int (t : T) : decide (wdS t = ("introduced" : Str)) = intr t := by
  cases t with
  | one => decide +kernel
  | name x => show decide (("" : Str) = "introduced") = false; decide +kernel
  | cop s n u => exact wrd_intr s
  | row s ts => exact wrd_intr s
theorem pts_kids (t : T) : pts t = (kids t).map (·.2) := by
  cases t with
  | one => rfl
  | name x => rfl
  | cop s n u => rfl
  | row s ts =>
    show ts = (ts.map fun t => (1, t)).map (·.2)
    rw [List.map_map]; exact (List.map_id ts).symm
theorem pts_ht {t u : T} (h : u ∈ pts t) : ht u < ht t := by
  rw [pts_kids] at h
  obtain ⟨q, hq, rfl⟩ := List.mem_map.mp h
  exact kids_ht hq
theorem pts_Ok {t u : T} (h : u ∈ pts t) (ok : Ok t) : Ok u := by
  rw [pts_kids] at h
  obtain ⟨q, hq, rfl⟩ := List.mem_map.mp h
  exact kids_Ok hq ok
theorem pts_len {t : T} (ok : Ok t) : (pts t).length ≤ 100000 := by
  rw [pts_kids, List.length_map]
  have := kids_len ok.1
  have := ok.2.2
  omega
theorem mn_le {t : T} (ok : Ok t) : mnT t ≤ 10 ^ 30 := by
  cases t with
  | cop s n u => exact ok.1.2.1
  | _ => exact Nat.one_le_pow _ _ (by decide)
theorem ppl_pts {t : T} (h : isOneT t = false) (ht : Told t) : mnT t * ((pts t).map ppl).sum = ppl t := by
  cases t with
  | one => cases h
  | name x => exact ht.elim
  | cop s n u => rw [ppl]; simp [mnT, pts]
  | row s ts => rw [ppl, ppls_sum]; simp [mnT, pts]
theorem mn_pos {t : T} (ok : Ok t) : 1 ≤ mnT t := by
  cases t with
  | cop s n u => have := ok.1.1; show 1 ≤ n; omega
  | _ => exact Nat.le_refl _
theorem sum_lt {t : T} (ok : Ok t) {x y : Nat} (h : mnT t * x = y) (hy : y ≤ ppl t) : x < 16 ^ (txt t).length := by
  have h1 := mn_pos ok
  have h2 : 1 * x ≤ mnT t * x := Nat.mul_le_mul_right _ h1
  have h3 := ppl_lt ok.1
  omega
theorem bes_one {t : T} (h : besT t = true) : isOneT t = false := by cases t <;> first | rfl | cases h
section
variable {P : Program} {w : World} {K : PySem.W.Frag} {mg : Str → Option Value} {base : Heap} {C G : Addr}
def cPers1 : Con := fun ds M Φ => ds = [] ∧ Φ (trD .one) M
theorem ok_person1 : BodyOk P w K mg base "_law_person" s__law_person [] 0 0 cPers1 := by
  intro f cdv A outer s H E hr ds M Φ hl hc
  obtain ⟨rfl, hc⟩ := hc
  refine wss_cons (ws_ret (we_tup (wa_cons (we_str (wa_cons (we_str (wa_cons (we_int (wa_cons (we_tup (wa_nil ⟨Nat.zero_le _, wa_nil ⟨by show 4 ≤ sizeLine; decide, Lets.of ?_⟩⟩)))))))))))
  rw [trD] at hc
  · exact hc
  · intro _ _ _ h; cases h
  · intro _ _ h; cases h
def cPartsOf : Con := fun ds M Φ => ∃ t, ds = [trD t] ∧ Ok t ∧ Φ (.int (PL.cnt t : Nat)) M
theorem cnt_pts {t : T} (h : isCop t = false) : PL.cnt t = (pts t).length := by
  cases t with
  | one => rfl
  | name x => rfl
  | cop s n u => cases h
  | row s ts => rw [cnt_row]; rfl
theorem ok_tparts_of (F : Fx w K mg) : BodyOk P w K mg base "_law_parts_of" s__law_parts_of ["_law_tree"] 1 0 cPartsOf := by
  intro f cdv A outer s H E hr ds M Φ hl hc
  obtain ⟨t, rfl, ok, hc⟩ := hc
  refine wss_cons (ws_ret (we_if (wt_eqS (we_ix (we_var 0 rfl (we_int ⟨0, _, rfl, tr0 t, we_str ⟨_, rfl, ?_⟩⟩))))))
  rw [kd_cop]
  cases h1 : isCop t with
  | true =>
    cases t with
    | cop s n u =>
      rw [cnt_cop] at hc
      exact we_ix (we_var 0 rfl (we_int ⟨2, _, rfl, tr2 _, Lets.of hc⟩))
    | _ => cases h1
  | false =>
    rw [cnt_pts h1] at hc
    refine we_len (F.bn _ (by decide +kernel)) (we_ix (we_var 0 rfl (we_int ⟨3, _, rfl, tr3 _, _, lenT, Lets.of ?_⟩)))
    rw [List.length_map]; exact hc
def cPartT : Con := fun ds M Φ => ∃ t i u, ds = [trD t, .int (i : Nat)] ∧ piece t i = some u ∧ Φ (trD u) M
theorem ok_tpart : BodyOk P w K mg base "_law_part" s__law_part ["_law_tree", "_law_which"] 2 0 cPartT := by
  intro f cdv A outer s H E hr ds M Φ hl hc
  obtain ⟨t, i, u, rfl, hu, hc⟩ := hc
  refine wss_cons (ws_ret (we_if (wt_eqS (we_ix (we_var 0 rfl (we_int ⟨0, _, rfl, tr0 t, we_str ⟨_, rfl, ?_⟩⟩))))))
  rw [kd_cop]
  cases h1 : isCop t with
  | true =>
    cases t with
    | cop s n v =>
      obtain rfl : v = u := Option.some.inj hu
      exact we_ix (we_ix (we_var 0 rfl (we_int ⟨3, _, rfl, tr3 _, we_int ⟨0, _, rfl, ixT (atI_nat (j := 0) rfl), Lets.of hc⟩⟩)))
    | _ => cases h1
  | false =>
    cases t with
    | row s ts =>
      have hu : ts[i]? = some u := hu
      exact we_ix (we_ix (we_var 0 rfl (we_int ⟨3, _, rfl, tr3 _, we_var 1 rfl ⟨_, _, rfl, ixT (atI_nat (by show (ts.map trD)[i]? = _; rw [List.getElem?_map, hu]; rfl)), Lets.of hc⟩⟩)))
    | cop s n v => cases h1
    | one => cases hu
    | name x => cases hu
/-! ### size, fallen -/
def cSize (h : Nat) : Con := fun ds M Φ => ∃ t, ds = [trD t] ∧ Ok t ∧ ht t ≤ h ∧ Φ (.int (ppl t : Nat)) M
abbrev nSize : List Str := ["_law_tree", "_law_kind", "_law_word", "_law_many", "_law_parts", "_law_part_here"]
theorem ok_size (h : Nat) (F : Fx w K mg) (F1 : ∀ j, h = j + 1 → Fc P w K mg base "_law_size" [] (j + 1) 1 (cSize j)) : BodyOk P w K mg base "_law_size" s__law_size nSize 1 h (cSize h) := by
  intro f cdv A outer s H E hr ds M Φ hl hc
  obtain ⟨t, rfl, ok, hh, hc⟩ := hc
  have nd : nSize.Nodup := by decide +kernel
  refine wss_cons (ws_asg (we_var 0 rfl (wg_tup ⟨trD_eq t, rfl, wgs_cons (wg_name 1 (wgs_cons (wg_name 2 (wgs_cons (wg_name 3 (wgs_cons (wg_name 4 (wgs_nil ⟨rfl, ?_⟩) nd)) nd)) nd)) nd)⟩)))
  refine wss_cons (ws_if (wt_eqS (we_var 1 rfl (we_str ⟨_, rfl, ?_⟩))))
  rw [kd_one ok.2.1]
  cases h1 : isOneT t with
  | true =>
    cases t with
    | one => rw [ppl] at hc; exact wss_cons (ws_ret (we_int (Lets.of hc)))
    | _ => cases h1
  | false =>
  have e := ppl_pts h1 ok.2.1
  have hpl := pts_len ok
  refine wss_nil (wss_cons (ws_ret (we_mulI (we_var 3 rfl (we_sum (F.bn _ (by decide +kernel)) (we_lc nd (blkOk_by (N := nSize) (sc := defScope s__law_size) (own := [("_law_part_here", 5)]) (by decide +kernel)) (fun _ _ _ _ _ => pg_name (i := 5) nd rfl (Or.inl rfl)) (gt_name (by decide)) (fun _ _ _ _ _ => pts_nil) tk_nil (wi_tup (we_var 4 rfl ⟨_, rfl, ?_⟩))))))))
  refine ⟨by rw [List.length_map, sizeLine_eq]; omega, fun i acc M' => M' = M ∧ acc = (((pts t).take i).map fun u => ((ppl u : Nat) : Int)).map D.int, ⟨rfl, rfl⟩, ?_, ?_⟩
  · rintro i x acc M' hx ⟨rfl, rfl⟩
    rw [List.getElem?_map] at hx
    obtain ⟨u, hu, rfl⟩ := Option.map_eq_some_iff.mp hx
    have hm : u ∈ pts t := List.mem_of_getElem? hu
    have oku := pts_Ok hm ok
    have hut := pts_ht hm
    obtain ⟨j, rfl⟩ : ∃ j, h = j + 1 := ⟨h - 1, by omega⟩
    intro s1 H1 C' cl fp
    refine we_call (F1 j rfl) (hr.mono (by omega)) (wa_cons (we_var 5 rfl (wa_nil ⟨rfl, u, rfl, oku, by omega, rfl, ?_⟩)))
    rw [take_snoc hu, List.map_append, List.map_append]; rfl
  · rintro acc M' ⟨rfl, rfl⟩
    rw [List.length_map, List.take_length]
    refine ⟨_, rfl, _, _, rfl, rfl, ?_, Lets.of ?_⟩
    · rw [sum_cast]; exact mul_ok (mn_le ok) (sum_lt ok e (Nat.le_refl _)) ok.2.2
    · rw [sum_cast, ← Int.natCast_mul, e]; exact hc
end
end W
/-! E41: the law's numbers of trees. -/
namespace W
open PySem PySem.Spec PyProof.Rows L2 DL SX PL SlX
/-- rows of some parts -/
def rr (b : Bool) (l : List T) : Nat := if b = true then max 1 (exs l - ppls l) else rwss l
theorem exs_snoc : ∀ (l : List T) (u : T), exs (l ++ [u]) = max (exs l) (rws u + ppl u)
  | [], u => by simp [exs]
  | t :: l, u => by rw [List.cons_append, exs, exs, exs_snoc l u, Nat.max_assoc]
theorem ppls_snoc : ∀ (l : List T) (u : T), ppls (l ++ [u]) = ppls l + ppl u
  | [], u => by simp [ppls]
  | t :: l, u => by rw [List.cons_append, ppls, ppls, ppls_snoc l u]; omega
theorem rwss_snoc : ∀ (l : List T) (u : T), rwss (l ++ [u]) = rwss l + rws u
  | [], u => by simp [rwss]
  | t :: l, u => by rw [List.cons_append, rwss, rwss, rwss_snoc l u]; omega
theorem rr_snoc {b : Bool} {l : List T} {u : T} (h : 1 ≤ rws u) (hp : 1 ≤ ppl u) : (if b = true then max 1 (max (rr b l - ppl u) (rws u - ppls l)) else rr b l + rws u) = rr b (l ++ [u]) := by
  unfold rr
  rw [exs_snoc, ppls_snoc, rwss_snoc]
  by_cases hb : b = true
  · rw [if_pos hb, if_pos hb, if_pos hb]; omega
  · rw [if_neg hb, if_neg hb, if_neg hb]
theorem rr_one {b : Bool} {u : T} (h : 1 ≤ rws u) : rr b [u] = rws u := by
  unfold rr
  rw [exs, exs, ppls, ppls, rwss, rwss]
  split <;> omega
def numD (p : Nat) (c s : Int) (r : Nat) (h : Int) : D := .tup [.int (p : Nat), .int c, .int s, .int (r : Nat), .int h]
/-- rows of m copies -/
def crs (b : Bool) (r p m : Nat) : Nat := if b = true then max 1 (r + p - m * p) else m * r
theorem crs_add {b : Bool} {r p a c : Nat} (hp : 1 ≤ p) (ha : 1 ≤ a) (hc : 1 ≤ c) : (if b = true then max 1 (max (crs b r p a - c * p) (crs b r p c - a * p)) else crs b r p a + crs b r p c) = crs b r p (a + c) := by
  have h1 : 1 * p ≤ a * p := Nat.mul_le_mul_right _ ha
  have h2 : 1 * p ≤ c * p := Nat.mul_le_mul_right _ hc
  unfold crs
  by_cases hb : b = true
  · rw [if_pos hb, if_pos hb, if_pos hb, if_pos hb, Nat.add_mul]; omega
  · rw [if_neg hb, if_neg hb, if_neg hb, if_neg hb, Nat.add_mul]
theorem crs_one {b : Bool} {r p : Nat} (h : 1 ≤ r) : crs b r p 1 = r := by unfold crs; split <;> omega
theorem rws_cop (b : Bool) (n : Nat) (u : T) : rws (.cop b n u) = crs b (rws u) (ppl u) n := by rw [rws]; rfl
section
variable {P : Program} {w : World} {K : PySem.W.Frag} {mg : Str → Option Value} {base : Heap} {C G : Addr}
def cBoth : Con := fun ds M Φ => ∃ (b : Bool) (p1 r1 p2 r2 : Nat) (c1 s1 h1 c2 s2 h2 : Int), ds = [.str (wrd b), numD p1 c1 s1 r1 h1, numD p2 c2 s2 r2 h2] ∧ ∀ c s h : Int, Φ (numD (p1 + p2) c s (if b = true then max 1 (max (r1 - p2) (r2 - p1)) else r1 + r2) h) M
abbrev nBoth : List Str := ["_law_word", "_law_one", "_law_other", "_law_people", "_law_circle", "_law_strangers", "_law_rows", "_law_hall", "_law_mine", "_law_its"]
theorem sz5 {a b c d e : D} : [a, b, c, d, e].length ≤ sizeLine := by show 5 ≤ sizeLine; decide
theorem ok_both (F : Fx w K mg) : BodyOk P w K mg base "_law_both" s__law_both nBoth 3 0 cBoth := by
  intro f cdv A outer s H E hr ds M Φ hl hc
  obtain ⟨b, p1, r1, p2, r2, c1, s1, h1, c2, s2, h2, rfl, hc⟩ := hc
  have nd : nBoth.Nodup := by decide +kernel
  unfold numD
  generalize hxs : ([((p1 : Nat) : Int), c1, s1, ((r1 : Nat) : Int), h1] : List Int) = xs
  generalize hys : ([((p2 : Nat) : Int), c2, s2, ((r2 : Nat) : Int), h2] : List Int) = ys
  have ex : ([D.int (p1 : Nat), .int c1, .int s1, .int (r1 : Nat), .int h1] : List D) = xs.map D.int := by rw [← hxs]; rfl
  have ey : ([D.int (p2 : Nat), .int c2, .int s2, .int (r2 : Nat), .int h2] : List D) = ys.map D.int := by rw [← hys]; rfl
  have hzl : (List.zipWith (· + ·) xs ys).length = 5 := by rw [← hxs, ← hys]; rfl
  refine wss_cons (ws_asg (we_lc nd (blkOk_by (N := nBoth) (sc := defScope s__law_both) (own := [("_law_mine", 8), ("_law_its", 9)]) (by decide +kernel)) (fun _ _ _ _ _ => pg_tup rfl (pgs_cons (pg_name (i := 8) nd rfl (Or.inl rfl)) (pgs_cons (pg_name (i := 9) nd rfl (Or.inl rfl)) pgs_nil)) rfl rfl) (gt_two (by decide) (by decide)) (fun _ _ _ _ _ => pts_nil) tk_nil (wi_zipT (F.bn _ (by decide +kernel)) (we_var 1 rfl (we_var 2 rfl ⟨_, _, rfl, rfl, ?_⟩)))))
  have hzd : (zipD (xs.map D.int) (ys.map D.int)).length = 5 := by rw [← hxs, ← hys]; rfl
  rw [ex, ey]
  refine ⟨by rw [hzd, sizeLine_eq]; decide, fun i acc M' => M' = M ∧ acc = ((List.zipWith (· + ·) xs ys).take i).map D.int, ⟨rfl, rfl⟩, ?_, ?_⟩
  · rintro i x acc M' hx ⟨rfl, rfl⟩
    obtain ⟨x1, x2, hx1, hx2, rfl⟩ := zipD_get hx
    rw [List.getElem?_map] at hx1 hx2
    obtain ⟨u, hu, rfl⟩ := Option.map_eq_some_iff.mp hx1
    obtain ⟨v, hv, rfl⟩ := Option.map_eq_some_iff.mp hx2
    refine ⟨_, _, rfl, ?_⟩
    intro s1 H1 C' cl fp
    refine we_addI (we_var 8 rfl (we_var 9 rfl ⟨_, _, rfl, rfl, rfl, ?_⟩))
    have hz : (List.zipWith (· + ·) xs ys)[i]? = some (u + v) := by rw [List.getElem?_zipWith, hu, hv]
    rw [take_snoc hz, List.map_append]; rfl
  · rintro acc M' ⟨rfl, rfl⟩
    rw [hzd]
    subst hxs hys
    refine wg_unl ⟨rfl, rfl, ?_⟩
    refine wgs_cons (wg_name 3 (wgs_cons (wg_name 4 (wgs_cons (wg_name 5 (wgs_cons (wg_name 6 (wgs_cons (wg_name 7 (wgs_nil ⟨rfl, ?_⟩) nd)) nd)) nd)) nd)) nd)
    refine wss_cons (ws_if (wt_eqS (we_var 0 rfl (we_str ⟨_, rfl, ?_⟩))))
    rw [wrd_beside]
    cases b with
    | false =>
      refine wss_cons (ws_ret (we_tup (wa_cons (we_var 3 rfl (wa_cons (we_max2 (F.bn _ (by decide +kernel)) (we_ix (we_var 1 rfl (we_int ⟨1, _, rfl, ixT (atI_nat (j := 1) rfl), we_ix (we_var 2 rfl (we_int ⟨1, _, rfl, ixT (atI_nat (j := 1) rfl), _, _, rfl, rfl, ?_⟩))⟩)))))))))
      refine wa_cons (we_var 5 rfl (wa_cons (we_var 6 rfl (wa_cons (we_max2 (F.bn _ (by decide +kernel)) (we_ix (we_var 1 rfl (we_int ⟨4, _, rfl, ixT (atI_nat (j := 4) rfl), we_ix (we_var 2 rfl (we_int ⟨4, _, rfl, ixT (atI_nat (j := 4) rfl), _, _, rfl, rfl, wa_nil ⟨sz5, Lets.of ?_⟩⟩))⟩))))))))
      have := hc (if c2 > c1 then c2 else c1) (s1 + s2) (if h2 > h1 then h2 else h1)
      change Φ (numD (p1 + p2) _ _ (r1 + r2) _) _ at this
      unfold numD at this
      rw [Int.natCast_add, Int.natCast_add] at this
      exact this
    | true =>
      refine wss_nil (wss_cons (ws_set 6 nd (we_max3 (F.bn _ (by decide +kernel)) (we_int (we_subI (we_ix (we_var 1 rfl (we_int ⟨3, _, rfl, ixT (atI_nat (j := 3) rfl), we_ix (we_var 2 rfl (we_int ⟨0, _, rfl, ixT (atI_nat (j := 0) rfl), _, _, rfl, rfl, ?_⟩))⟩))))))))
      refine we_subI (we_ix (we_var 2 rfl (we_int ⟨3, _, rfl, ixT (atI_nat (j := 3) rfl), we_ix (we_var 1 rfl (we_int ⟨0, _, rfl, ixT (atI_nat (j := 0) rfl), _, _, rfl, rfl, _, _, _, rfl, rfl, rfl, fun m g1 g2 g3 g4 => ?_⟩))⟩)))
      have em : m = ((max 1 (max (r1 - p2) (r2 - p1)) : Nat) : Int) := by omega
      rw [em]
      refine wss_cons (ws_ret (we_tup (wa_cons (we_var 3 rfl (wa_cons (we_var 4 rfl (wa_cons (we_max2 (F.bn _ (by decide +kernel)) (we_ix (we_var 1 rfl (we_int ⟨2, _, rfl, ixT (atI_nat (j := 2) rfl), we_ix (we_var 2 rfl (we_int ⟨2, _, rfl, ixT (atI_nat (j := 2) rfl), _, _, rfl, rfl, ?_⟩))⟩)))))))))))
      refine wa_cons (we_var 6 rfl (wa_cons (we_min2 (F.bn _ (by decide +kernel)) (we_addI (we_ix (we_var 1 rfl (we_int ⟨4, _, rfl, ixT (atI_nat (j := 4) rfl), we_ix (we_var 2 rfl (we_int ⟨0, _, rfl, ixT (atI_nat (j := 0) rfl), _, _, rfl, rfl, ?_⟩))⟩)))))))
      refine we_addI (we_ix (we_var 2 rfl (we_int ⟨4, _, rfl, ixT (atI_nat (j := 4) rfl), we_ix (we_var 1 rfl (we_int ⟨0, _, rfl, ixT (atI_nat (j := 0) rfl), _, _, rfl, rfl, _, _, rfl, rfl, wa_nil ⟨sz5, Lets.of ?_⟩⟩))⟩)))
      have := hc (c1 + c2) (if s2 > s1 then s2 else s1) (if h2 + p1 < h1 + p2 then h2 + p1 else h1 + p2)
      change Φ (numD (p1 + p2) _ _ (max 1 (max (r1 - p2) (r2 - p1))) _) _ at this
      unfold numD at this
      rw [Int.natCast_add] at this
      exact this
/-! ### numbers -/
def cNums (h : Nat) : Con := fun ds M Φ => ∃ t, ds = [trD t] ∧ Ok t ∧ ht t ≤ h ∧ ∀ c s hl : Int, Φ (numD (ppl t) c s (rws t) hl) M
abbrev nNums : List Str := ["_law_tree", "_law_kind", "_law_word", "_law_many", "_law_parts", "_law_some", "_law_found", "_law_other", "_law_left", "_law_twice", "_law_lap", "_law_part_here"]
theorem cmp_num (p r : Nat) (c s h : Int) : ∃ ps, CmpDs [.int (p : Nat), .int c, .int s, .int (r : Nat), .int h] ps 0 := ⟨_, cmps_cons (cmp_int _) (Nat.le_refl _) (cmps_cons (cmp_int _) (Nat.le_refl _) (cmps_cons (cmp_int _) (Nat.le_refl _) (cmps_cons (cmp_int _) (Nat.le_refl _) (cmps_cons (cmp_int _) (Nat.le_refl _) cmps_nil))))⟩
theorem cut_tail {α : Type} (x : α) (xs : List α) : DL.cutD (x :: xs) (some 1) none = xs := by
  unfold DL.cutD
  rw [show (some (1 : Int)) = some ((1 : Nat) : Int) from rfl, HT.sIx_nat, HT.sIx_none, Nat.min_eq_left (by simp)]
  simp
/-- what was found behind some halves -/
def fndD (d : D) (b : Bool) (r p m : Nat) : Prop := (m = 0 ∧ d = .tup []) ∨ (1 ≤ m ∧ ∃ c s h : Int, d = numD (m * p) c s (crs b r p m) h)
theorem ok_numbers (h : Nat) (F : Fx w K mg) (F1 : Fc P w K mg base "_law_both" [] 1 3 cBoth) (F2 : ∀ j, h = j + 1 → Fc P w K mg base "_law_numbers" [] (j + 2) 1 (cNums j)) : BodyOk P w K mg base "_law_numbers" s__law_numbers nNums 1 (h + 1) (cNums h) := by
  intro f cdv A outer s H E hr ds M Φ hl hc
  obtain ⟨t, rfl, ok, hh, hc⟩ := hc
  have nd : nNums.Nodup := by decide +kernel
  refine wss_cons (ws_asg (we_var 0 rfl (wg_tup ⟨trD_eq t, rfl, wgs_cons (wg_name 1 (wgs_cons (wg_name 2 (wgs_cons (wg_name 3 (wgs_cons (wg_name 4 (wgs_nil ⟨rfl, ?_⟩) nd)) nd)) nd)) nd)⟩)))
  refine wss_cons (ws_if (wt_eqS (we_var 1 rfl (we_str ⟨_, rfl, ?_⟩))))
  rw [kd_one ok.2.1]
  cases h1 : isOneT t with
  | true =>
    cases t with
    | one =>
      refine wss_cons (ws_ret (we_tup (wa_cons (we_int (wa_cons (we_int (wa_cons (we_int (wa_cons (we_int (wa_cons (we_int (wa_nil ⟨sz5, Lets.of ?_⟩)))))))))))))
      have := hc 1 1 1
      rw [ppl, rws] at this
      exact this
    | _ => cases h1
  | false =>
  have hpl := pts_len ok
  refine wss_nil (wss_cons (ws_setLc 5 nd (blkOk_by (N := nNums) (sc := defScope s__law_numbers) (own := [("_law_part_here", 11)]) (by decide +kernel)) (fun _ _ _ _ _ => pg_name (i := 11) nd rfl (Or.inl rfl)) (gt_name (by decide)) (fun _ _ _ _ _ => pts_nil) tk_nil (wi_tup (we_var 4 rfl ⟨_, rfl, ?_⟩)) rfl))
  refine ⟨by rw [List.length_map, sizeLine_eq]; omega, fun i acc M' => M' = M ∧ acc.length = i ∧ ∀ (k : Nat) (u : T) (d : D), (pts t)[k]? = some u → acc[k]? = some d → ∃ c s hl : Int, d = numD (ppl u) c s (rws u) hl, ⟨rfl, rfl, fun k u d _ e => by simp at e⟩, ?_, ?_⟩
  · rintro i x acc M' hx ⟨rfl, hal, hac⟩
    rw [List.getElem?_map] at hx
    obtain ⟨u, hu, rfl⟩ := Option.map_eq_some_iff.mp hx
    have hm : u ∈ pts t := List.mem_of_getElem? hu
    have oku := pts_Ok hm ok
    have hut := pts_ht hm
    obtain ⟨j, rfl⟩ : ∃ j, h = j + 1 := ⟨h - 1, by omega⟩
    intro s1 H1 C' cl fp
    refine we_call (F2 j rfl) (hr.mono (by omega)) (wa_cons (we_var 11 rfl (wa_nil ⟨rfl, u, rfl, oku, by omega, fun c s2 hl2 => ⟨rfl, by rw [List.length_append, hal]; rfl, ?_⟩⟩)))
    intro k v d h3 h4
    by_cases hlt : k < acc.length
    · rw [List.getElem?_append_left hlt] at h4
      exact hac k v d h3 h4
    · rw [List.getElem?_append_right (by omega)] at h4
      have hk0 : k - acc.length = 0 := by
        have := (List.getElem?_eq_some_iff.mp h4).1
        simpa using this
      rw [hk0] at h4
      have e2 : k = i := by omega
      subst e2
      rw [hu] at h3
      obtain rfl := Option.some.inj h3
      exact ⟨c, s2, hl2, (Option.some.inj h4).symm⟩
  rintro acc M' ⟨rfl, hal, hac⟩
  rw [List.length_map] at hal
  refine wss_cons (ws_if (wt_eqS (we_var 1 rfl (we_str ⟨_, rfl, ?_⟩))))
  rw [kd_row h1 ok.2.1]
  cases t with
  | one => cases h1
  | name x => exact ok.2.1.elim
  | row b ts =>
    have hal : acc.length = ts.length := hal
    have h2 := ok.1.1
    obtain ⟨t0, tl, rfl⟩ : ∃ t0 tl, ts = t0 :: tl := by
      cases ts with
      | nil => simp at h2
      | cons a l => exact ⟨a, l, rfl⟩
    obtain ⟨a0, al, rfl⟩ : ∃ a0 al, acc = a0 :: al := by
      cases acc with
      | nil => simp at hal
      | cons a l => exact ⟨a, l, rfl⟩
    obtain ⟨c0, s0, h0, rfl⟩ := hac 0 t0 a0 rfl rfl
    have ok0 : Ok t0 := pts_Ok (t := .row b (t0 :: tl)) (by simp [pts]) ok
    refine wss_cons (ws_set 6 nd (we_ix (we_var 5 rfl (we_int ⟨0, _, rfl, ixL (atI_nat (j := 0) rfl), ?_⟩))))
    refine wss_cons (ws_for PassesOwn.never (wi_list (we_slice (we_var 5 rfl (we_int ⟨1, rfl, _, .inl ⟨_, rfl, rfl⟩, _, .inl rfl, ?_⟩)))))
    rw [cut_tail]
    refine ⟨fun i ρ' M1 => M1 = M' ∧ i ≤ tl.length ∧ ∃ (o7 : Option D) (c st hl : Int), ρ' = [some (trD (.row b (t0 :: tl))), some (.str (kdS (.row b (t0 :: tl)))), some (.str (wdS (.row b (t0 :: tl)))), some (.int (mnT (.row b (t0 :: tl)) : Nat)), some (.tup ((pts (.row b (t0 :: tl))).map trD)), some (.lst (numD (ppl t0) c0 s0 (rws t0) h0 :: al)), some (numD (ppls (t0 :: tl.take i)) c st (rr b (t0 :: tl.take i)) hl), o7, none, none, none, none], ⟨rfl, Nat.zero_le _, none, c0, s0, h0, ?_⟩, ?_, ?_⟩
    · rw [List.take_zero, rr_one (rws_pos ok0.1), show ppls [t0] = ppl t0 by rw [ppls, ppls]; omega]; rfl
    · rintro i x ρ' M1 hx ⟨rfl, hi, o7, c, st, hl2, rfl⟩
      have hilt : i < al.length := (List.getElem?_eq_some_iff.mp hx).1
      have hal2 : al.length = tl.length := by simpa using hal
      have hut : tl[i]? = some tl[i] := List.getElem?_eq_getElem (by omega)
      obtain ⟨c2, s2, h2', rfl⟩ := hac (i + 1) tl[i] x (by rw [show pts (.row b (t0 :: tl)) = t0 :: tl from rfl, List.getElem?_cons_succ]; exact hut) (by rw [List.getElem?_cons_succ]; exact hx)
      have oku : Ok tl[i] := pts_Ok (t := .row b (t0 :: tl)) (by show tl[i] ∈ t0 :: tl; exact List.mem_cons_of_mem _ (List.getElem_mem _)) ok
      have tk : tl.take (i + 1) = tl.take i ++ [tl[i]] := take_snoc hut
      refine wg_name 7 ?_ nd
      refine wss_cons (ws_set 6 nd (we_call F1 (hr.mono (by omega)) (wa_cons (we_var 2 rfl (wa_cons (we_var 6 rfl (wa_cons (we_var 7 rfl (wa_nil ⟨rfl, b, _, _, _, _, _, _, _, _, _, _, rfl, fun c3 s3 h3 => wss_nil ⟨rfl, by omega, some (numD (ppl tl[i]) c2 s2 (rws tl[i]) h2'), c3, s3, h3, ?_⟩⟩)))))))))
      rw [rr_snoc (rws_pos oku.1) (ppl_pos oku.1), ← ppls_snoc, List.cons_append, ← tk]; rfl
    · rintro ρ' M1 ⟨rfl, hi, o7, c, st, hl2, rfl⟩
      have hal2 : al.length = tl.length := by simpa using hal
      rw [hal2, List.take_length]
      refine wss_cons (ws_ret (we_var 6 rfl (Lets.of ?_)))
      have := hc c st hl2
      rw [ppl, rws] at this
      exact this
  | cop b n v =>
    have hal : acc.length = 1 := hal
    obtain ⟨a0, rfl⟩ : ∃ a0, acc = [a0] := by
      match acc, hal with
      | [a], _ => exact ⟨a, rfl⟩
    obtain ⟨c0, s0, h0, rfl⟩ := hac 0 v a0 rfl rfl
    have okv : Ok v := pts_Ok (t := .cop b n v) (by simp [pts]) ok
    have rv := rws_pos okv.1
    have pv := ppl_pos okv.1
    have n2 := ok.1.1
    have n30 := ok.1.2.1
    have n110 : n < 2 ^ 110 := Nat.lt_of_le_of_lt n30 (by decide)
    refine wss_nil (wss_cons (ws_par3 6 8 9 nd (wa_cons (we_tup (wa_nil ⟨Nat.zero_le _, wa_cons (we_var 3 rfl (wa_cons (we_ix (we_var 5 rfl (we_int ⟨0, _, rfl, ixL (atI_nat (j := 0) rfl), wa_nil ⟨_, _, _, rfl, ?_⟩⟩)))))⟩)))))
    refine wss_cons (ws_for PassesOwn.never (wi_range1 (F.bn _ (by decide +kernel)) (wa_cons (we_int (wa_nil ⟨_, rfl, by decide, by decide, ?_⟩)))))
    obtain ⟨I, hI⟩ : ∃ I : Nat → Rho → Mp → Prop, I = fun i ρ' M1 => M1 = M' ∧ 0 < n / 2 ^ i ∧ ∃ (o10 : Option D) (fd : D) (c st hl : Int), fndD fd b (rws v) (ppl v) (n % 2 ^ i) ∧ ρ' = [some (trD (.cop b n v)), some (.str (kdS (.cop b n v))), some (.str (wdS (.cop b n v))), some (.int (mnT (.cop b n v) : Nat)), some (.tup ((pts (.cop b n v)).map trD)), some (.lst [numD (ppl v) c0 s0 (rws v) h0]), some fd, none, some (.int ((n / 2 ^ i : Nat) : Int)), some (numD (2 ^ i * ppl v) c st (crs b (rws v) (ppl v) (2 ^ i)) hl), o10, none] := ⟨_, rfl⟩
    refine ⟨I, ?_, ?_, ?_⟩
    · rw [hI]
      refine ⟨rfl, by simp; omega, none, .tup [], c0, s0, h0, .inl ⟨by simp [Nat.mod_one], rfl⟩, ?_⟩
      rw [Nat.pow_zero, Nat.div_one, crs_one rv, Nat.one_mul]; rfl
    · intro i x ρ' M1 hx hi
      rw [hI] at hi
      obtain ⟨rfl, hi, o10, fd, c, st, hl2, hfd, rfl⟩ := hi
      have h2i : 1 ≤ 2 ^ i := Nat.one_le_two_pow
      refine wg_name 10 ?_ nd
      have hms : n % 2 ^ (i + 1) = n % 2 ^ i + 2 ^ i * (n / 2 ^ i % 2) := Nat.mod_pow_succ
      have hds : n / 2 ^ (i + 1) = n / 2 ^ i / 2 := by rw [Nat.pow_succ, Nat.div_div_eq_div_mul]
      have rest : ∀ (bk : Rho → Mp → Prop) (fd2 : D), fndD fd2 b (rws v) (ppl v) (n % 2 ^ (i + 1)) → WSs (bx P w K mg base nNums "_law_numbers" (defScope s__law_numbers) f cdv A outer s H E) [some (trD (.cop b n v)), some (.str (kdS (.cop b n v))), some (.str (wdS (.cop b n v))), some (.int (mnT (.cop b n v) : Nat)), some (.tup ((pts (.cop b n v)).map trD)), some (.lst [numD (ppl v) c0 s0 (rws v) h0]), some fd2, none, some (.int ((n / 2 ^ i : Nat) : Int)), some (numD (2 ^ i * ppl v) c st (crs b (rws v) (ppl v) (2 ^ i)) hl2), some x, none] M1 ((match (defBody s__law_numbers).getD 5 (.Pass ⟨0, 0, 0, 0⟩) with | .For _ _ b _ _ => b | _ => []).drop 1) { nx := I (i + 1), rt := Lets Φ, bk := bk, ct := I (i + 1) } := fun bk fd2 hfd2 => by
        refine wss_cons (ws_set 8 nd (we_divI (we_var 8 rfl (we_int ⟨_, _, rfl, rfl, ⟨by decide, by decide⟩, ?_⟩))))
        have ed : ((n / 2 ^ i : Nat) : Int) / 2 = ((n / 2 ^ (i + 1) : Nat) : Int) := by rw [hds]; omega
        rw [ed]
        refine wss_cons (ws_if (wt_eqS (we_var 8 rfl (we_int ⟨_, rfl, ?_⟩))))
        by_cases hz : n / 2 ^ (i + 1) = 0
        · rw [decide_eq_true (show ((n / 2 ^ (i + 1) : Nat) : Int) = 0 by omega)]
          have hn : n % 2 ^ (i + 1) = n := Nat.mod_eq_of_lt (by rcases Nat.div_eq_zero_iff.mp hz with e | e; exact absurd e (by have := Nat.one_le_two_pow (n := i + 1); omega); exact e)
          rw [hn] at hfd2
          rcases hfd2 with ⟨z, _⟩ | ⟨z, c3, s3, h3, rfl⟩
          · omega
          · refine wss_cons (ws_ret (we_var 6 rfl (Lets.of ?_)))
            have := hc c3 s3 h3
            rw [ppl, rws_cop] at this
            exact this
        · rw [decide_eq_false (show ¬ ((n / 2 ^ (i + 1) : Nat) : Int) = 0 by omega)]
          refine wss_nil (wss_cons (ws_set 9 nd (we_call F1 (hr.mono (by omega)) (wa_cons (we_var 2 rfl (wa_cons (we_var 9 rfl (wa_cons (we_var 9 rfl (wa_nil ⟨rfl, b, _, _, _, _, _, _, _, _, _, _, rfl, fun c3 s3 h3 => wss_nil ?_⟩))))))))))
          rw [hI, crs_add pv h2i h2i, ← Nat.add_mul, show 2 ^ i + 2 ^ i = 2 ^ (i + 1) by rw [Nat.pow_succ]; omega]
          exact ⟨rfl, by omega, some x, fd2, c3, s3, h3, hfd2, rfl⟩
      refine wss_cons (ws_if (wt_eqS (we_modI (we_var 8 rfl (we_int ⟨_, _, rfl, rfl, by decide, we_int ⟨_, rfl, ?_⟩⟩)))))
      by_cases hodd : n / 2 ^ i % 2 = 1
      · rw [decide_eq_true (show ((n / 2 ^ i : Nat) : Int) % 2 = 1 by omega)]
        rw [hodd, Nat.mul_one] at hms
        rcases hfd with ⟨z, rfl⟩ | ⟨z, c3, s3, h3, rfl⟩
        · refine wss_cons (ws_set 6 nd (we_if (wt_eqNilT hr.units (we_var 6 rfl ⟨_, [], 0, rfl, cmps_nil, by decide, ?_⟩))))
          refine we_var 9 rfl (wss_nil (rest _ _ (.inr ⟨by omega, c, st, hl2, ?_⟩)))
          rw [hms, z, Nat.zero_add]
        · obtain ⟨ps, hps⟩ := cmp_num (n % 2 ^ i * ppl v) (crs b (rws v) (ppl v) (n % 2 ^ i)) c3 s3 h3
          refine wss_cons (ws_set 6 nd (we_if (wt_eqNilT hr.units (we_var 6 rfl ⟨_, ps, 0, rfl, hps, by decide, ?_⟩))))
          refine we_call F1 (hr.mono (by omega)) (wa_cons (we_var 2 rfl (wa_cons (we_var 6 rfl (wa_cons (we_var 9 rfl (wa_nil ⟨rfl, b, _, _, _, _, _, _, _, _, _, _, rfl, fun c4 s4 h4 => wss_nil (rest _ _ (.inr ⟨by omega, c4, s4, h4, ?_⟩))⟩)))))))
          rw [crs_add pv z h2i, ← Nat.add_mul, hms]
      · rw [decide_eq_false (show ¬ ((n / 2 ^ i : Nat) : Int) % 2 = 1 by omega)]
        rw [show n / 2 ^ i % 2 = 0 by omega, Nat.mul_zero, Nat.add_zero] at hms
        exact wss_nil (rest _ _ (by rw [hms]; exact hfd))
    · intro ρ' M1 hi
      exfalso
      rw [hI] at hi
      obtain ⟨rfl, hi, _⟩ := hi
      rw [rngD_len] at hi
      have : n / 2 ^ 110 = 0 := Nat.div_eq_of_lt n110
      have hi2 : 0 < n / 2 ^ 110 := hi
      omega
end
end W
/-! E42: drawn trees, their texts. -/
namespace W
open PySem PySem.Spec PyProof.Rows L2 DL SX PL SlX
theorem mset_self {M : Mp} {p : Addr} {o : MO} (h : M p = some o) : mset M p o = M := by
  funext b
  unfold mset
  split
  · rename_i e; rw [e, h]
  · rfl
theorem mset_comm {M : Mp} {p q : Addr} {o u : MO} (h : p ≠ q) : mset (mset M q u) p o = mset (mset M p o) q u := by
  funext b
  unfold mset
  by_cases h1 : b = p
  · rw [if_pos h1]
    rw [if_neg (fun e => h (h1.symm.trans e)), if_pos h1]
  · rw [if_neg h1]
    by_cases h2 : b = q
    · rw [if_pos h2, if_pos h2]
    · rw [if_neg h2, if_neg h2, if_neg h1]
section
variable {P : Program} {w : World} {K : PySem.W.Frag} {mg : Str → Option Value} {base : Heap} {C G : Addr}
/-! ### pots -/
def cPot : Con := fun ds M Φ => ∃ ns pl, ds = [scrD ns, .int (pl : Nat)] ∧ pl ≤ 1000 ∧ ∀ q a c, M q = none → cOk c → Φ (.ob q) (mset M q (potL a c 0))
abbrev nPot : List Str := ["_law_script", "_law_which", "_law_cell", "_law_own", "_law_stirred"]
theorem ok_pot (F : Fx w K mg) : BodyOk P w K mg base "_law_pot" s__law_pot nPot 2 0 cPot := by
  intro f cdv A outer s H E hr ds M Φ hl hc
  obtain ⟨ns, pl, rfl, hpl, hc⟩ := hc
  have nd : nPot.Nodup := by decide +kernel
  have rest : ∀ cell : Int, WSs (bx P w K mg base nPot "_law_pot" (defScope s__law_pot) f cdv A outer s H E) [some (scrD ns), some (.int (pl : Nat)), some (.int cell), none, none] M ((defBody s__law_pot).drop 1) { nx := fun _ M' => Φ .non M', rt := Lets Φ } := fun cell => by
    refine wss_cons (ws_set 3 nd (we_mulS (we_modI (we_intN (F.bn _ (by decide +kernel)) (we_abs (F.bn _ (by decide +kernel)) (we_var 2 rfl ⟨_, rfl, .inl ⟨_, rfl, we_powW (we_powI (we_int (we_int ⟨_, _, rfl, rfl, ⟨by decide, by decide, by decide⟩, we_int ⟨_, _, rfl, rfl, ⟨by decide, by decide +kernel⟩, _, _, rfl, rfl, by decide +kernel, ?_⟩⟩)))⟩⟩))))))
    refine we_intN (F.bn _ (by decide +kernel)) (we_geI (we_abs (F.bn _ (by decide +kernel)) (we_var 2 rfl ⟨_, rfl, we_powI (we_int (we_int ⟨_, _, rfl, rfl, ⟨by decide, by decide, by decide⟩, _, _, rfl, rfl, .inr ⟨_, rfl, _, _, rfl, rfl, .inr ⟨?_, ?_⟩, ?_⟩⟩))⟩)))
    · exact (bb _).1
    · exact (bb _).2
    have b0 : 0 ≤ cell % 2305843009213693951 := Int.emod_nonneg _ (by decide)
    have b1 : cell % 2305843009213693951 < 2305843009213693951 := Int.emod_lt_of_pos _ (by decide)
    refine wss_cons (ws_set 4 nd (we_addI (we_addI (we_mulS (we_modI (we_intN (F.bn _ (by decide +kernel)) (we_var 2 rfl (.inl ⟨_, rfl, we_int ⟨_, _, rfl, rfl, by decide, we_int ⟨_, _, rfl, rfl, .inl ⟨by omega, by omega⟩, we_mulS (we_mulS (we_int (we_var 1 rfl ⟨_, _, rfl, rfl, .inl ⟨by decide, by decide⟩, we_var 1 rfl ⟨_, _, rfl, rfl, .inr ⟨by omega, by omega⟩, _, _, rfl, rfl, we_int ⟨_, _, rfl, rfl, ?_⟩⟩⟩)))⟩⟩⟩))))))))
    refine wss_cons (ws_ret (we_lstM (wa_cons (we_var 3 rfl (wa_cons (we_modI (we_intN (F.bn _ (by decide +kernel)) (we_var 4 rfl (.inl ⟨_, rfl, we_int ⟨_, _, rfl, rfl, by decide, wa_cons (we_int (wa_nil ⟨sz3, fun q hq => Lets.of ?_⟩))⟩⟩)))))))))
    exact hc q _ _ hq ⟨Int.emod_nonneg _ (by decide), Int.emod_lt_of_pos _ (by decide)⟩
  refine wss_cons (ws_set 2 nd (we_if (wt_ltI (we_var 1 rfl (we_len (F.bn _ (by decide +kernel)) (we_var 0 rfl ⟨_, lenR, _, _, rfl, rfl, ?_⟩))))))
  refine ite_dec (fun h => ?_) fun h => ?_
  · rw [List.length_map] at h
    have hq : (ns.map D.int)[pl]? = some (.int ns[pl]) := by rw [List.getElem?_map, List.getElem?_eq_getElem (by omega)]; rfl
    exact we_ix (we_var 0 rfl (we_var 1 rfl ⟨_, _, rfl, ixR (atI_nat hq), rest _⟩))
  · exact we_addI (we_mulS (we_int (we_var 1 rfl ⟨_, _, rfl, rfl, .inl ⟨by decide, by decide⟩, we_int ⟨_, _, rfl, rfl, rest _⟩⟩)))
/-! ### far -/
def cFar : Con := fun ds M Φ => ∃ p u a c d, ds = [.ob p, .int u] ∧ 1 ≤ u ∧ M p = some (potL a c d) ∧ cOk c ∧ 0 ≤ d ∧ d + 5 < 100000 ∧ ∀ r a' d', 0 ≤ r → r < u → d ≤ d' → d' ≤ d + 5 → Φ (.int r) (mset M p (potL a' c d'))
abbrev nFar : List Str := ["_law_pot_here", "_law_upto", "_law_found", "_law_lap"]
theorem ok_far (F : Fx w K mg) (F1 : Fc P w K mg base "_law_take" [] 1 2 cTake) : BodyOk P w K mg base "_law_far" s__law_far nFar 2 1 cFar := by
  intro f cdv A outer s H E hr ds M Φ hl hc
  obtain ⟨p, u, a, c, d, rfl, hu, hM, co, d0, d1, hc⟩ := hc
  have nd : nFar.Nodup := by decide +kernel
  refine wss_cons (ws_set 2 nd (we_call F1 (hr.mono (by decide)) (wa_cons (we_var 0 rfl (wa_cons (we_powI (we_int (we_int ⟨_, _, rfl, rfl, ⟨by decide, by decide, by decide⟩, wa_nil ⟨rfl, p, _, a, c, d, rfl, by decide, by decide +kernel, hM, co, d0, by omega, ?_⟩⟩))))))))
  intro r a1 e1 r0 r1 k1 k2
  refine wss_cons (ws_for PassesOwn.never (wi_range1 (F.bn _ (by decide +kernel)) (wa_cons (we_int (wa_nil ⟨_, rfl, by decide, by decide, ?_⟩)))))
  refine ⟨fun i ρ' M' => i ≤ 4 ∧ ∃ (o3 : Option D) (fo a' e' : Int), ρ' = [some (.ob p), some (.int u), some (.int fo), o3] ∧ M' = mset M p (potL a' c e') ∧ d ≤ e' ∧ e' ≤ d + 1 + (i : Nat), ⟨by omega, none, r, a1, e1, rfl, rfl, k1, by omega⟩, ?_, ?_⟩
  · rintro i x ρ' M' hx ⟨hi, o3, fo, a', e', rfl, rfl, k3, k4⟩
    obtain ⟨hi2, rfl⟩ := rngD_get hx
    have hi3 : i < 4 := hi2
    refine wg_name 3 ?_ nd
    refine wss_cons (ws_set 2 nd (we_addI (we_mulS (we_var 2 rfl (we_powI (we_int (we_int ⟨_, _, rfl, rfl, ⟨by decide, by decide, by decide⟩, _, _, rfl, rfl, .inr ⟨by decide, by decide⟩, we_call F1 (hr.mono (by decide)) (wa_cons (we_var 0 rfl (wa_cons (we_powI (we_int (we_int ⟨_, _, rfl, rfl, ⟨by decide, by decide, by decide⟩, wa_nil ⟨rfl, p, _, a', c, e', rfl, by decide, by decide +kernel, mset_same, co, by omega, by omega, ?_⟩⟩))))))⟩)))))))
    intro r2 a2 e2 _ _ k5 k6
    rw [mset_mset]
    exact ⟨_, _, rfl, rfl, wss_nil ⟨by omega, some (.int (0 + (i : Int))), _, a2, e2, rfl, rfl, by omega, by omega⟩⟩
  · rintro ρ' M' ⟨hi, o3, fo, a', e', rfl, rfl, k3, k4⟩
    rw [rngD_len] at k4
    have k4 : e' ≤ d + 1 + ((4 : Nat) : Int) := k4
    refine wss_cons (ws_ret (we_modI (we_intN (F.bn _ (by decide +kernel)) (we_var 2 rfl (.inl ⟨_, rfl, we_var 1 rfl ⟨_, _, rfl, rfl, by omega, Lets.of ?_⟩⟩)))))
    exact hc _ _ _ (Int.emod_nonneg _ (by omega)) (Int.emod_lt_of_pos _ (by omega)) k3 (by omega)
/-! ### great trees -/
def gc : Nat → Nat
  | 0 => 0
  | d + 1 => 4 + 3 * gc d
def cGt (d : Nat) : Con := fun ds M Φ => ∃ p a c e m, ds = [.ob p, .int (m : Nat), .int (d : Nat)] ∧ 1 ≤ m ∧ m ≤ 10 ^ 30 ∧ M p = some (potL a c e) ∧ cOk c ∧ 0 ≤ e ∧ e + (gc d : Nat) < 100000 ∧ ∀ t a' e', Gt t m d → e ≤ e' → e' ≤ e + (gc d : Nat) → Φ (trD t) (mset M p (potL a' c e'))
abbrev nGt : List Str := ["_law_pot_here", "_law_most", "_law_deep_here", "_law_way", "_law_word", "_law_sizes", "_law_many", "_law_parts", "_law_lap"]
theorem word_mem {x : D} (h : x ∈ [D.str "beside", .str "introduced"]) : ∃ b, x = .str (wrd b) := by
  rcases List.mem_cons.mp h with rfl | h
  · exact ⟨false, rfl⟩
  · rw [List.mem_singleton.mp h]; exact ⟨true, rfl⟩
theorem log31 {n : Nat} (h : n ≤ 10 ^ 30) : ((n : Nat) : Int).natAbs.log2 < 9000 := by
  have e : ((n : Nat) : Int).natAbs < 16 ^ 31 := by
    have : (10 : Nat) ^ 30 < 16 ^ 31 := by decide +kernel
    omega
  have := log16 e
  omega
theorem ok_great (dp : Nat) (F : Fx w K mg) (F1 : Fc P w K mg base "_law_take" [] 1 2 cTake) (F2 : Fc P w K mg base "_law_of" [] 2 2 cOf) (F3 : Fc P w K mg base "_law_person" [] 1 0 cPers1) (F4 : ∀ j, dp = j + 1 → Fc P w K mg base "_law_great" [] (j + 3) 3 (cGt j)) :
    BodyOk P w K mg base "_law_great" s__law_great nGt 3 (dp + 2) (cGt dp) := by
  intro f cdv A outer st H E hr ds M Φ hl hc
  obtain ⟨p, a, c, e, m, rfl, m1, m30, hM, co, e0, e1, hc⟩ := hc
  have nd : nGt.Nodup := by decide +kernel
  have small : ¬ (3 < m ∧ 0 < dp) → WSs (bx P w K mg base nGt "_law_great" (defScope s__law_great) f cdv A outer st H E) [some (.ob p), some (.int (m : Nat)), some (.int (dp : Nat)), some (.int 0), none, none, none, none, none] M ((defBody s__law_great).drop 1) { nx := fun _ M' => Φ .non M', rt := Lets Φ } := fun hn => by
    refine wss_cons (ws_if (wt_eqS (we_var 3 rfl (we_int ⟨_, rfl, ?_⟩))))
    refine wss_cons (ws_ret (we_call0 F3 (hr.mono (by omega)) ⟨rfl, rfl, Lets.of ?_⟩))
    have := hc .one a e (gt_one dp m1) (Int.le_refl _) (by omega)
    rw [mset_self hM] at this
    exact this
  refine wss_cons (ws_set 3 nd (we_if (wt_ww (ww_and (wt_gtI (we_var 1 rfl (we_int ⟨_, _, rfl, rfl, ?_⟩)))))))
  by_cases hm3 : 3 < m
  case neg =>
    rw [decide_eq_false (show ¬ (3 : Int) < (m : Nat) by omega)]
    exact we_int (small (fun h => hm3 h.1))
  rw [decide_eq_true (show (3 : Int) < (m : Nat) by omega)]
  refine ww_and1 (wt_gtI (we_var 2 rfl (we_int ⟨_, _, rfl, rfl, ?_⟩)))
  by_cases hd0 : 0 < dp
  case neg =>
    rw [decide_eq_false (show ¬ (0 : Int) < (dp : Nat) by omega)]
    exact we_int (small (fun h => hd0 h.2))
  rw [decide_eq_true (show (0 : Int) < (dp : Nat) by omega)]
  obtain ⟨j, rfl⟩ : ∃ j, dp = j + 1 := ⟨dp - 1, by omega⟩
  have hgc : gc (j + 1) = 4 + 3 * gc j := rfl
  have B := F4 j rfl
  have edp : ((j + 1 : Nat) : Int) - 1 = (j : Nat) := by omega
  refine we_call F1 (hr.mono (by omega)) (wa_cons (we_var 0 rfl (wa_cons (we_int (wa_nil ⟨rfl, p, 6, a, c, e, rfl, by decide, by decide +kernel, hM, co, e0, by omega, ?_⟩)))))
  intro wy a1 e2 w0 w6 k1 k2
  refine wss_cons (ws_if (wt_eqS (we_var 3 rfl (we_int ⟨_, rfl, ?_⟩))))
  by_cases hw0 : wy = 0
  · rw [decide_eq_true hw0]
    exact wss_cons (ws_ret (we_call0 F3 (hr.mono (by omega)) ⟨rfl, rfl, Lets.of (hc .one a1 e2 (gt_one _ m1) (by omega) (by omega))⟩))
  rw [decide_eq_false hw0]
  refine wss_nil (wss_cons (ws_set 4 nd (we_call F2 (hr.mono (by omega)) (wa_cons (we_var 0 rfl (wa_cons (we_lst (wa_cons (we_str (wa_cons (we_str (wa_nil ⟨sz2, wa_nil ⟨rfl, p, _, a1, c, e2, rfl, by simp, by simp, mset_same, co, by omega, by omega, ?_⟩⟩))))))))))))
  intro wd a2 e3 hwd k3 k4
  obtain ⟨b, rfl⟩ := word_mem hwd
  rw [mset_mset]
  refine wss_cons (ws_if (wt_ltI (we_var 3 rfl (we_int ⟨_, _, rfl, rfl, ?_⟩))))
  by_cases hw4 : wy < 4
  · rw [decide_eq_true hw4]
    refine wss_cons (ws_set 5 nd (we_lst (wa_cons (we_int (wa_cons (we_int (wa_cons (we_int (wa_cons (we_int (wa_cons (we_int (wa_cons (we_powI (we_int (we_int ⟨_, _, rfl, rfl, ⟨by decide, by decide, by decide⟩, wa_cons (we_addI (we_powI (we_int (we_int ⟨_, _, rfl, rfl, ⟨by decide, by decide, by decide⟩, we_int ⟨_, _, rfl, rfl, wa_cons (we_addI (we_int (we_call F1 (hr.mono (by omega)) (wa_cons (we_var 0 rfl (wa_cons (we_int (wa_nil ⟨rfl, p, _, a2, c, e3, rfl, by decide, by decide +kernel, mset_same, co, by omega, by omega, ?_⟩))))))))⟩⟩))))⟩))))))))))))))))
    intro r3 a3 e4 _ _ k5 k6
    rw [mset_mset]
    refine ⟨_, _, rfl, rfl, wa_cons (we_divI (we_var 1 rfl (we_int ⟨_, _, rfl, rfl, ⟨by decide, by decide⟩, wa_cons (we_var 1 rfl (wa_nil ⟨by show 10 ≤ sizeLine; decide, ?_⟩))⟩)))⟩
    refine wss_cons (ws_set 6 nd (we_max2 (F.bn _ (by decide +kernel)) (we_int (we_min2 (F.bn _ (by decide +kernel)) (we_var 1 rfl (we_intN (F.bn _ (by decide +kernel)) (we_call F2 (hr.mono (by omega)) (wa_cons (we_var 0 rfl (wa_cons (we_var 5 rfl (wa_nil ⟨rfl, p, _, a3, c, e4, rfl, by simp, by simp, mset_same, co, by omega, by omega, ?_⟩))))))))))))
    intro sz a4 e5 hsz k7 k8
    rw [mset_mset]
    obtain ⟨k, rfl⟩ : ∃ k, sz = .int k := by
      simp only [List.mem_cons, List.not_mem_nil, or_false] at hsz
      rcases hsz with rfl | rfl | rfl | rfl | rfl | rfl | rfl | rfl | rfl | rfl <;> exact ⟨_, rfl⟩
    refine .inl ⟨_, rfl, _, _, rfl, rfl, _, _, rfl, rfl, ?_⟩
    generalize hN : (if (if k < ((m : Nat) : Int) then k else ((m : Nat) : Int)) > 2 then (if k < ((m : Nat) : Int) then k else ((m : Nat) : Int)) else 2) = N
    obtain ⟨n, rfl, n2, nm⟩ : ∃ n : Nat, N = (n : Nat) ∧ 2 ≤ n ∧ n ≤ m := by
      refine ⟨N.toNat, ?_, ?_, ?_⟩ <;> (rw [← hN]; split <;> split <;> omega)
    refine wss_cons (ws_ret (we_tup (wa_cons (we_str (wa_cons (we_var 4 rfl (wa_cons (we_var 6 rfl (wa_cons (we_tup (wa_cons (we_call B (hr.mono (by omega)) (wa_cons (we_var 0 rfl (wa_cons (we_divI (we_var 1 rfl (we_var 6 rfl ⟨_, _, rfl, rfl, ⟨by omega, log31 (by omega)⟩, wa_cons (we_subI (we_var 2 rfl (we_int ⟨_, _, rfl, rfl, wa_nil ⟨rfl, p, a4, c, e5, m / n, ?_, ?_, ?_, mset_same, co, by omega, by omega, ?_⟩⟩)))⟩))))))))))))))))))
    · rw [edp, Int.natCast_ediv]; rfl
    · exact Nat.div_pos nm (by omega)
    · exact Nat.le_trans (Nat.div_le_self _ _) m30
    intro u a5 e6 hu k9 k10
    rw [mset_mset]
    refine wa_nil ⟨sz1, wa_nil ⟨by show 4 ≤ sizeLine; decide, Lets.of ?_⟩⟩
    have := hc (.cop b n u) a5 e6 (gt_cop _ hu n2 (by omega)) (by omega) (by omega)
    rw [trD] at this
    exact this
  rw [decide_eq_false hw4]
  refine wss_nil (wss_cons (ws_set 7 nd (we_lstM (wa_nil ⟨Nat.zero_le _, fun q hq => ?_⟩))))
  have hqp : p ≠ q := fun e => by rw [← e, mset_same] at hq; cases hq
  have hMq : M q = none := by rw [mset_ne (fun e => hqp e.symm)] at hq; exact hq
  refine wss_cons (ws_for PassesOwn.never (wi_range1 (F.bn _ (by decide +kernel)) (wa_cons (we_addI (we_int (we_call F1 (hr.mono (by omega)) (wa_cons (we_var 0 rfl (wa_cons (we_int (wa_nil ⟨rfl, p, 2, a2, c, e3, rfl, by decide, by decide +kernel, by rw [mset_ne hqp]; exact mset_same, co, by omega, by omega, ?_⟩)))))))))))
  intro r3 a3 e4 r0 r1 k5 k6
  obtain ⟨n, rfl⟩ := Int.eq_ofNat_of_zero_le r0
  have hn2 : n < 2 := by omega
  rw [mset_comm hqp, mset_mset]
  refine ⟨_, _, rfl, rfl, wa_nil ⟨_, rfl, by omega, by omega, ?_⟩⟩
  rw [show (2 + ((n : Nat) : Int)).toNat = 2 + n by omega]
  refine ⟨fun i ρ' M' => ∃ (o8 : Option D) (ts : List T) (a' d' : Int), ρ' = [some (.ob p), some (.int (m : Nat)), some (.int ((j + 1 : Nat) : Int)), some (.int wy), some (.str (wrd b)), none, none, some (.ob q), o8] ∧ M' = mset (mset M p (potL a' c d')) q (.lst (ts.map trD)) ∧ ts.length = i ∧ i ≤ 2 + n ∧ (∀ t ∈ ts, Gt t (m / 4) j) ∧ e ≤ d' ∧ d' ≤ e + 3 + (i * gc j : Nat), ⟨none, [], a3, e4, rfl, rfl, rfl, Nat.zero_le _, (fun t h => nomatch h), by omega, by simp; omega⟩, ?_, ?_⟩
  · rintro i x ρ' M' hx ⟨o8, ts, a', d', rfl, rfl, hl, hi, hg, b1, b2⟩
    obtain ⟨hi2, rfl⟩ := rngD_get hx
    have hm : (i + 1) * gc j ≤ 3 * gc j := Nat.mul_le_mul_right _ (by omega)
    have hm2 : (i + 1) * gc j = i * gc j + gc j := Nat.succ_mul _ _
    refine wg_name 8 ?_ nd
    refine wss_cons (ws_expr (we_append (we_var 7 rfl ⟨q, _, rfl, mset_same, we_call B (hr.mono (by omega)) (wa_cons (we_var 0 rfl (wa_cons (we_divI (we_var 1 rfl (we_int ⟨_, _, rfl, rfl, ⟨by decide, by decide⟩, wa_cons (we_subI (we_var 2 rfl (we_int ⟨_, _, rfl, rfl, wa_nil ⟨rfl, p, a', c, d', m / 4, ?_, by omega, by omega, by rw [mset_ne hqp]; exact mset_same, co, by omega, by omega, ?_⟩⟩)))⟩))))))⟩)))
    · rw [edp, Int.natCast_ediv]; rfl
    intro u a4 e5 hu k7 k8
    rw [mset_comm hqp, mset_mset]
    refine ⟨_, mset_same, by rw [List.length_map, sizeLine_eq]; omega, wss_nil ⟨some (.int (0 + (i : Int))), ts ++ [u], a4, e5, rfl, by rw [mset_mset, List.map_append]; rfl, by rw [List.length_append, hl]; rfl, by omega, fun t ht => ?_, by omega, by rw [hm2]; omega⟩⟩
    rcases List.mem_append.mp ht with ht | ht
    · exact hg t ht
    · rw [List.mem_singleton.mp ht]; exact hu
  · rintro ρ' M' ⟨o8, ts, a', d', rfl, rfl, hl, hi, hg, b1, b2⟩
    rw [rngD_len] at hl b2
    have hm : (2 + n) * gc j ≤ 3 * gc j := Nat.mul_le_mul_right _ (by omega)
    refine wss_cons (ws_ret (we_tup (wa_cons (we_str (wa_cons (we_var 4 rfl (wa_cons (we_int (wa_cons (we_tupleOf (F.bn _ (by decide +kernel)) (we_var 7 rfl ⟨_, .inl mset_same, wa_nil ⟨by show 4 ≤ sizeLine; decide, _, mset M p (potL a' c d'), les_new (by rw [mset_ne (fun e => hqp e.symm)]; exact hMq), .same _, ?_⟩⟩)))))))))))
    have := hc (.row b ts) a' d' (gt_row _ hg (by omega) (by omega)) b1 (by omega)
    rw [trD, trDs_map] at this
    exact this
/-! ### deep trees -/
def cDeep : Con := fun ds M Φ => ∃ p a c e, ds = [.ob p] ∧ M p = some (potL a c e) ∧ cOk c ∧ 0 ≤ e ∧ e + 30 < 100000 ∧ ∀ t a' e', Dp t 10 → e ≤ e' → e' ≤ e + 30 → Φ (trD t) (mset M p (potL a' c e'))
abbrev nDeep : List Str := ["_law_pot_here", "_law_tree", "_law_lap", "_law_word", "_law_way"]
theorem trD_one : D.tup [.str "one", .str "", .int ((1 : Nat) : Int), .tup []] = trD .one := by simp [trD]
theorem ok_deep (F : Fx w K mg) (F1 : Fc P w K mg base "_law_take" [] 1 2 cTake) (F2 : Fc P w K mg base "_law_of" [] 2 2 cOf) (F3 : Fc P w K mg base "_law_person" [] 1 0 cPers1) : BodyOk P w K mg base "_law_deep" s__law_deep nDeep 1 2 cDeep := by
  intro f cdv A outer s H E hr ds M Φ hl hc
  obtain ⟨p, a, c, e, rfl, hM, co, e0, e1, hc⟩ := hc
  have nd : nDeep.Nodup := by decide +kernel
  refine wss_cons (ws_set 1 nd (we_call0 F3 (hr.mono (by omega)) ⟨rfl, rfl, ?_⟩))
  refine wss_cons (ws_for PassesOwn.never (wi_range1 (F.bn _ (by decide +kernel)) (wa_cons (we_int (wa_nil ⟨_, rfl, by decide, by decide, ?_⟩)))))
  refine ⟨fun i ρ' M' => i ≤ 10 ∧ ∃ (o2 o3 o4 : Option D) (t : T) (a' e' : Int), ρ' = [some (.ob p), some (trD t), o2, o3, o4] ∧ M' = mset M p (potL a' c e') ∧ Dp t i ∧ e ≤ e' ∧ e' ≤ e + 3 * (i : Nat), ⟨by omega, none, none, none, .one, a, e, rfl, (mset_self hM).symm, dp_one, Int.le_refl _, by omega⟩, ?_, ?_⟩
  · rintro i x ρ' M' hx ⟨hi, o2, o3, o4, t, a', e', rfl, rfl, hd, k1, k2⟩
    obtain ⟨hi2, rfl⟩ := rngD_get hx
    have hi3 : i < 10 := hi2
    refine wg_name 2 ?_ nd
    refine wss_cons (ws_par 3 4 nd (wa_cons (we_call F2 (hr.mono (by omega)) (wa_cons (we_var 0 rfl (wa_cons (we_lst (wa_cons (we_str (wa_cons (we_str (wa_nil ⟨sz2, wa_nil ⟨rfl, p, _, a', c, e', rfl, by simp, by simp, mset_same, co, by omega, by omega, ?_⟩⟩))))))))))))
    intro wd a2 e2 hwd k3 k4
    obtain ⟨b, rfl⟩ := word_mem hwd
    rw [mset_mset]
    refine wa_cons (we_call F1 (hr.mono (by omega)) (wa_cons (we_var 0 rfl (wa_cons (we_int (wa_nil ⟨rfl, p, _, a2, c, e2, rfl, by decide, by decide +kernel, mset_same, co, by omega, by omega, ?_⟩))))))
    intro wy a3 e3 w0 w3 k5 k6
    rw [mset_mset]
    refine wa_nil ⟨_, _, rfl, ?_⟩
    refine wss_cons (ws_if (wt_eqS (we_var 4 rfl (we_int ⟨_, rfl, ?_⟩))))
    by_cases hw0 : wy = 0
    · rw [decide_eq_true hw0]
      refine wss_cons (ws_set 1 nd (we_tup (wa_cons (we_str (wa_cons (we_var 3 rfl (wa_cons (we_addI (we_int (we_call F1 (hr.mono (by omega)) (wa_cons (we_var 0 rfl (wa_cons (we_int (wa_nil ⟨rfl, p, _, a3, c, e3, rfl, by decide, by decide +kernel, mset_same, co, by omega, by omega, ?_⟩)))))))))))))))
      intro r a4 e4 r0 r1 k7 k8
      rw [mset_mset]
      obtain ⟨n, rfl⟩ := Int.eq_ofNat_of_zero_le r0
      refine ⟨_, _, rfl, rfl, wa_cons (we_tup (wa_cons (we_var 1 rfl (wa_nil ⟨sz1, wa_nil ⟨by show 4 ≤ sizeLine; decide, wss_nil (wss_nil ⟨by omega, some (.int (0 + (i : Int))), some (.str (wrd b)), some (.int wy), .cop b (2 + n) t, a4, e4, ?_, rfl, dp_cop b hd (by omega) (by omega), by omega, by omega⟩)⟩⟩))))⟩
      rw [trD, show ((2 + n : Nat) : Int) = 2 + (n : Int) by omega]; rfl
    · rw [decide_eq_false hw0]
      refine wss_cons (ws_set 1 nd (we_tup (wa_cons (we_str (wa_cons (we_var 3 rfl (wa_cons (we_int (wa_cons (we_if (wt_eqS (we_var 4 rfl (we_int ⟨_, rfl, ?_⟩)))))))))))))
      by_cases hw1 : wy = 1
      · rw [decide_eq_true hw1]
        refine we_tup (wa_cons (we_var 1 rfl (wa_cons (we_call0 F3 (hr.mono (by omega)) ⟨rfl, rfl, wa_nil ⟨sz2, wa_nil ⟨by show 4 ≤ sizeLine; decide, wss_nil (wss_nil ⟨by omega, some (.int (0 + (i : Int))), some (.str (wrd b)), some (.int wy), .row b [t, .one], a3, e3, ?_, rfl, dp_row2 b hd, by omega, by omega⟩)⟩⟩⟩))))
        rw [trD_eq (.row b [t, .one])]; rfl
      · rw [decide_eq_false hw1]
        refine we_tup (wa_cons (we_call0 F3 (hr.mono (by omega)) ⟨rfl, rfl, wa_cons (we_var 1 rfl (wa_cons (we_call0 F3 (hr.mono (by omega)) ⟨rfl, rfl, wa_nil ⟨sz3, wa_nil ⟨by show 4 ≤ sizeLine; decide, wss_nil (wss_nil ⟨by omega, some (.int (0 + (i : Int))), some (.str (wrd b)), some (.int wy), .row b [.one, t, .one], a3, e3, ?_, rfl, dp_row3 b hd, by omega, by omega⟩)⟩⟩⟩)))⟩))
        rw [trD_eq (.row b _)]; rfl
  · rintro ρ' M' ⟨hi, o2, o3, o4, t, a', e', rfl, rfl, hd, k1, k2⟩
    rw [rngD_len] at hd k2
    have hd : Dp t 10 := hd
    have k2 : e' ≤ e + 3 * ((10 : Nat) : Int) := k2
    exact wss_cons (ws_ret (we_var 1 rfl (Lets.of (hc t a' e' hd k1 (by omega)))))
def cWide : Con := fun ds M Φ => ∃ p a c e, ds = [.ob p] ∧ M p = some (potL a c e) ∧ cOk c ∧ 0 ≤ e ∧ e + 200 < 100000 ∧ ∀ t a' e', Wi t → e ≤ e' → e' ≤ e + 200 → Φ (trD t) (mset M p (potL a' c e'))
theorem ok_wide (F1 : Fc P w K mg base "_law_take" [] 1 2 cTake) (F2 : Fc P w K mg base "_law_deep" [] 3 1 cDeep) (F3 : Fc P w K mg base "_law_great" [] 7 3 (cGt 4)) : BodyOk P w K mg base "_law_wide" s__law_wide ["_law_pot_here"] 1 7 cWide := by
  intro f cdv A outer s H E hr ds M Φ hl hc
  obtain ⟨p, a, c, e, rfl, hM, co, e0, e1, hc⟩ := hc
  have hg : gc 4 = 160 := by decide
  refine wss_cons (ws_ret (we_if (wt_eqS (we_call F1 (hr.mono (by omega)) (wa_cons (we_var 0 rfl (wa_cons (we_int (wa_nil ⟨rfl, p, _, a, c, e, rfl, by decide, by decide +kernel, hM, co, by omega, by omega, ?_⟩)))))))))
  intro r a1 e2 _ _ k1 k2
  refine we_int ⟨_, rfl, ?_⟩
  by_cases hr3 : r = 3
  · rw [decide_eq_true hr3]
    refine we_call F2 (hr.mono (by omega)) (wa_cons (we_var 0 rfl (wa_nil ⟨rfl, p, a1, c, e2, rfl, mset_same, co, by omega, by omega, ?_⟩)))
    intro t a' e' hd k3 k4
    rw [mset_mset]
    exact Lets.of (hc t a' e' (wi_dp hd) (by omega) (by omega))
  · rw [decide_eq_false hr3]
    refine we_call F3 (hr.mono (by omega)) (wa_cons (we_var 0 rfl (wa_cons (we_powI (we_int (we_int ⟨_, _, rfl, rfl, ⟨by decide, by decide, by decide⟩, wa_cons (we_int (wa_nil ⟨rfl, p, a1, c, e2, 10 ^ 30, rfl, by decide, Nat.le_refl _, mset_same, co, by omega, by omega, ?_⟩))⟩))))))
    intro t a' e' hd k3 k4
    rw [mset_mset]
    exact Lets.of (hc t a' e' (wi_gt hd) (by omega) (by omega))
end
end W
/-! EQ: people compared. -/
namespace W
open PySem PySem.Spec PyProof.Rows L2 DL SX PL
theorem eqv_nats : ∀ p q : List Nat, PyData.eqvAll (p.map fun (i : Nat) => PyData.int (i : Nat)) (q.map fun (i : Nat) => PyData.int (i : Nat)) = decide (p = q)
  | [], [] => by simp [PyData.eqvAll]
  | [], j :: q => by simp [PyData.eqvAll]
  | i :: p, [] => by simp [PyData.eqvAll]
  | i :: p, j :: q => by
    rw [List.map_cons, List.map_cons, PyData.eqvAll, eqv_nats p q, PyData.eqv]
    by_cases h : i = j
    · subst h; simp
    · have : ((i : Nat) : Int) ≠ (j : Nat) := by omega
      have h2 : (((i : Nat) : Int) == ((j : Nat) : Int)) = false := by simpa using this
      rw [h2]; simp [h]
theorem cmp_per (p : List Nat) : CmpD (perD p) (.tuple (p.map fun (i : Nat) => PyData.int (i : Nat))) 1 := cmp_tup (cmps_map (Nat.le_refl _) fun i _ => cmp_int _)
section
variable {X : Cx} {ρ : Rho} {M : Mp} {Φ : D → Mp → Prop} {Θ : Bool → Mp → Prop} {a b : Expr} {pos : Pos}
theorem wt_nePer (hu : X.A.units + 64 < cLine) (h : WE X ρ M a fun x M1 => WE X ρ M1 b fun y M2 => ∃ p q, x = perD p ∧ y = perD q ∧ Θ (decide (p ≠ q)) M2) : WT X ρ M (.Compare a [.NotEq] [b] pos) Θ :=
  wt_neD hu (h.imp fun _ _ h => h.imp fun _ _ ⟨p, q, e1, e2, h⟩ => ⟨_, _, by rw [e1]; exact (cmp_per p).eq, by rw [e2]; exact (cmp_per q).eq, (cmp_per p).shaped (by decide), (cmp_per q).shaped (by decide), by
    rw [PyData.eqv, eqv_nats, ← decide_not]; exact h⟩)
theorem we_nePer (hu : X.A.units + 64 < cLine) (h : WE X ρ M a fun x M1 => WE X ρ M1 b fun y M2 => ∃ p q, x = perD p ∧ y = perD q ∧ Φ (.bl (decide (p ≠ q))) M2) : WE X ρ M (.Compare a [.NotEq] [b] pos) Φ :=
  we_neD hu (h.imp fun _ _ h => h.imp fun _ _ ⟨p, q, e1, e2, h⟩ => ⟨_, _, by rw [e1]; exact (cmp_per p).eq, by rw [e2]; exact (cmp_per q).eq, (cmp_per p).shaped (by decide), (cmp_per q).shaped (by decide), by
    rw [PyData.eqv, eqv_nats, ← decide_not]; exact h⟩)
theorem wt_eqPer (hu : X.A.units + 64 < cLine) (h : WE X ρ M a fun x M1 => WE X ρ M1 b fun y M2 => ∃ p q, x = perD p ∧ y = perD q ∧ Θ (decide (p = q)) M2) : WT X ρ M (.Compare a [.Eq] [b] pos) Θ :=
  wt_eqD hu (h.imp fun _ _ h => h.imp fun _ _ ⟨p, q, e1, e2, h⟩ => ⟨_, _, by rw [e1]; exact (cmp_per p).eq, by rw [e2]; exact (cmp_per q).eq, (cmp_per p).shaped (by decide), (cmp_per q).shaped (by decide), by
    rw [PyData.eqv, eqv_nats]; exact h⟩)
end
abbrev perP (p : List Nat) : PyData := .tuple (p.map fun (i : Nat) => PyData.int (i : Nat))
theorem cmp_perE (p : List Nat) : CmpD (perD p) (perP p) 1 := cmp_tup (cmps_map (Nat.le_refl _) fun i _ => cmp_int _)
theorem cmp_people (l : List (List Nat)) : CmpD (.lst (l.map perD)) (.list (l.map perP)) 2 := cmp_lst (cmps_map (Nat.le_refl _) fun p _ => cmp_perE p)
theorem filt_snoc {f : List Nat → Bool} {l : List (List Nat)} {j : Nat} {z : List Nat} (h : l[j]? = some z) : (l.take (j + 1)).filter f = (l.take j).filter f ++ if f z = true then [z] else [] := by
  rw [take_snoc h, List.filter_append]
  congr 1
  rw [List.filter_cons]
  split <;> rfl
theorem any_per (q : List Nat) : ∀ l : List (List Nat), ((l.map perP).any fun z => PyData.eqv z (perP q)) = decide (q ∈ l)
  | [] => by simp
  | p :: l => by
    rw [List.map_cons, List.any_cons, any_per q l, PyData.eqv, eqv_nats]
    by_cases h : p = q
    · subst h; simp
    · have h2 : ¬ q = p := fun e => h e.symm
      simp [h, h2]
theorem units1 {k : Nat} {A : Around} (r : Room k A) : A.units + 1 < cLine := by have := r.un; omega
theorem units65 {k : Nat} {A : Around} (r : Room k A) : A.units + 65 < cLine := by have := r.un; omega
theorem pt_blk {X : Cx} {scope : Scope} {c : Expr} (s : Shared) (H0 : Hp) (C : Addr) (cl : List (Str × Addr)) (fp : List Addr) : PTs (X.blk s H0 scope (compEnvC scope cl C X.env) fp) [c] (tBlk X scope c) := pts_one ⟨fun pins s' σ' H' Q' I q => q s H0 C cl fp pins s' I⟩
end W
/-! PM11: circles, strangers, halls; rooms. -/
namespace PL
open PySem SX TL
mutual
def crc : T → Nat
  | .one => 1
  | .name _ => 1
  | .cop s n t => if s = true then n * crc t else crc t
  | .row s ts => if s = true then crcS ts else crcM ts
def crcS : List T → Nat
  | [] => 0
  | t :: ts => crc t + crcS ts
def crcM : List T → Nat
  | [] => 0
  | t :: ts => max (crc t) (crcM ts)
end
mutual
def stg : T → Nat
  | .one => 1
  | .name _ => 1
  | .cop s n t => if s = true then stg t else n * stg t
  | .row s ts => if s = true then stgM ts else stgS ts
def stgS : List T → Nat
  | [] => 0
  | t :: ts => stg t + stgS ts
def stgM : List T → Nat
  | [] => 0
  | t :: ts => max (stg t) (stgM ts)
end
mutual
def hal : T → Nat
  | .one => 1
  | .name _ => 1
  | .cop s n t => if s = true then hal t + (n * ppl t - ppl t) else hal t
  | .row s ts => if s = true then ppls ts - hdf ts else halM ts
def hdf : List T → Nat
  | [] => 0
  | t :: ts => max (ppl t - hal t) (hdf ts)
def halM : List T → Nat
  | [] => 0
  | t :: ts => max (hal t) (halM ts)
end
mutual
theorem stg_mir : ∀ t : T, crc (mir t) = stg t
  | .one => by rw [mir, crc, stg]
  | .name x => by rw [mir, crc, stg]
  | .cop s n t => by rw [mir, crc, stg, stg_mir t]; cases s <;> rfl
  | .row s ts => by
    rw [mir, crc, stg, (stgs_mir ts).1, (stgs_mir ts).2]; cases s <;> rfl
theorem stgs_mir : ∀ ts : List T, crcS (mirs ts) = stgS ts ∧ crcM (mirs ts) = stgM ts
  | [] => by rw [mirs, crcS, crcM, stgS, stgM]; exact ⟨rfl, rfl⟩
  | t :: ts => by rw [mirs, crcS, crcM, stgS, stgM, stg_mir t, (stgs_mir ts).1, (stgs_mir ts).2]; exact ⟨rfl, rfl⟩
end
mutual
theorem crc_ok : ∀ {t : T}, Good t → 1 ≤ crc t ∧ crc t ≤ ppl t
  | .one, _ => by rw [crc, ppl]; exact ⟨Nat.le_refl _, Nat.le_refl _⟩
  | .name x, _ => by rw [crc, ppl]; exact ⟨Nat.le_refl _, Nat.le_refl _⟩
  | .cop s n t, h => by
    obtain ⟨h1, h2⟩ := crc_ok h.2.2
    have h3 : 1 * ppl t ≤ n * ppl t := Nat.mul_le_mul_right _ (by have := h.1; omega)
    rw [crc, ppl]
    split
    · exact ⟨Nat.mul_pos (by have := h.1; omega) h1, Nat.mul_le_mul_left _ h2⟩
    · exact ⟨h1, by omega⟩
  | .row s ts, h => by
    obtain ⟨h1, h2, h3, h4⟩ := crcs_ok h.2
    have h5 := h.1
    rw [crc, ppl]
    split
    · exact ⟨by omega, h2⟩
    · exact ⟨h4 (by omega), h3⟩
theorem crcs_ok : ∀ {ts : List T}, Goods ts → ts.length ≤ crcS ts ∧ crcS ts ≤ ppls ts ∧ crcM ts ≤ ppls ts ∧ (0 < ts.length → 1 ≤ crcM ts)
  | [], _ => by rw [crcS, crcM, ppls]; exact ⟨Nat.le_refl _, Nat.le_refl _, Nat.le_refl _, fun h => by simp at h⟩
  | t :: ts, h => by
    obtain ⟨h1, h2⟩ := crc_ok h.1
    obtain ⟨h3, h4, h5, _⟩ := crcs_ok h.2
    rw [crcS, crcM, ppls, List.length_cons]
    exact ⟨by omega, by omega, Nat.max_le.mpr ⟨by omega, by omega⟩, fun _ => Nat.le_trans h1 (Nat.le_max_left _ _)⟩
end
mutual
theorem mir_ppl : ∀ t : T, ppl (mir t) = ppl t
  | .one => by rw [mir]
  | .name x => by rw [mir]
  | .cop s n t => by rw [mir, ppl, ppl, mir_ppl t]
  | .row s ts => by rw [mir, ppl, ppl, mirs_ppl ts]
theorem mirs_ppl : ∀ ts : List T, ppls (mirs ts) = ppls ts
  | [] => by rw [mirs]
  | t :: ts => by rw [mirs, ppls, ppls, mir_ppl t, mirs_ppl ts]
end
theorem stg_ok {t : T} (h : Good t) : 1 ≤ stg t ∧ stg t ≤ ppl t := by
  have := crc_ok (mir_good h)
  rw [stg_mir] at this
  have e : ppl (mir t) = ppl t := mir_ppl t
  omega
mutual
theorem hal_ok : ∀ {t : T}, Good t → 1 ≤ hal t ∧ hal t ≤ ppl t
  | .one, _ => by rw [hal, ppl]; exact ⟨Nat.le_refl _, Nat.le_refl _⟩
  | .name x, _ => by rw [hal, ppl]; exact ⟨Nat.le_refl _, Nat.le_refl _⟩
  | .cop s n t, h => by
    obtain ⟨h1, h2⟩ := hal_ok h.2.2
    have h3 : 1 * ppl t ≤ n * ppl t := Nat.mul_le_mul_right _ (by have := h.1; omega)
    rw [hal, ppl]
    split
    · exact ⟨by omega, by omega⟩
    · exact ⟨h1, by omega⟩
  | .row s ts, h => by
    obtain ⟨h1, h3, h4⟩ := hals_ok h.2
    have h5 := h.1
    rw [hal, ppl]
    split
    · exact ⟨by have := h1 (by omega); omega, by omega⟩
    · exact ⟨h4 (by omega), h3⟩
theorem hals_ok : ∀ {ts : List T}, Goods ts → (0 < ts.length → hdf ts < ppls ts) ∧ halM ts ≤ ppls ts ∧ (0 < ts.length → 1 ≤ halM ts)
  | [], _ => by rw [halM, ppls]; exact ⟨fun h => by simp at h, Nat.le_refl _, fun h => by simp at h⟩
  | t :: ts, h => by
    obtain ⟨h1, h2⟩ := hal_ok h.1
    obtain ⟨h3, h5, _⟩ := hals_ok h.2
    have hp := ppl_pos h.1
    rw [hdf, halM, ppls]
    refine ⟨fun _ => Nat.max_lt.mpr ⟨by omega, ?_⟩, Nat.max_le.mpr ⟨by omega, by omega⟩, fun _ => Nat.le_trans h1 (Nat.le_max_left _ _)⟩
    cases ts with
    | nil => rw [hdf]; omega
    | cons u r => have := h3 (by simp); omega
end
/-! ### rooms -/
/-- the rooms of the parts ahead -/
def cah : T → Nat → Nat
  | .cop _ _ t, i => i * crc t
  | .row _ ts, i => crcS (ts.take i)
  | _, _ => 0
def rm : T → List Nat → Nat
  | t, i :: p => match piece t i with
    | some u => (if intr t = true then cah t i else 0) + rm u p
    | none => 0
  | _, [] => 0
theorem rm_cons {t u : T} {i : Nat} (hp : piece t i = some u) (p : List Nat) : rm t (i :: p) = (if intr t = true then cah t i else 0) + rm u p := by rw [rm, hp]
theorem crcS_snoc : ∀ (l : List T) (u : T), crcS (l ++ [u]) = crcS l + crc u
  | [], u => by simp [crcS]
  | t :: l, u => by rw [List.cons_append, crcS, crcS, crcS_snoc l u]; omega
theorem crcM_snoc : ∀ (l : List T) (u : T), crcM (l ++ [u]) = max (crcM l) (crc u)
  | [], u => by simp [crcM]
  | t :: l, u => by rw [List.cons_append, crcM, crcM, crcM_snoc l u, Nat.max_assoc]
theorem crcS_app : ∀ (l r : List T), crcS (l ++ r) = crcS l + crcS r
  | [], r => by rw [List.nil_append, crcS]; omega
  | t :: l, r => by rw [List.cons_append, crcS, crcS, crcS_app l r]; omega
theorem crcM_mem : ∀ {ts : List T} {u : T}, u ∈ ts → crc u ≤ crcM ts
  | t :: ts, u, h => by
    rw [crcM]
    rcases List.mem_cons.mp h with rfl | h
    · exact Nat.le_max_left _ _
    · exact Nat.le_trans (crcM_mem h) (Nat.le_max_right _ _)
theorem cah_succ {t u : T} {i : Nat} (hp : piece t i = some u) : cah t (i + 1) = cah t i + crc u := by
  cases t with
  | one => cases hp
  | name x => cases hp
  | cop s n v => obtain rfl : v = u := Option.some.inj hp; show (i + 1) * crc v = _; rw [Nat.succ_mul]; rfl
  | row s ts =>
    have hu : ts[i]? = some u := hp
    show crcS (ts.take (i + 1)) = crcS (ts.take i) + crc u
    rw [List.take_add_one, hu]
    exact crcS_snoc _ _
theorem cah_all {t : T} (hI : intr t = true) : cah t (cnt t) = crc t := by
  cases t with
  | one => cases hI
  | name x => cases hI
  | cop s n v =>
    have hs : s = true := hI
    rw [cnt_cop, crc, if_pos hs]; rfl
  | row s ts =>
    have hs : s = true := hI
    rw [cnt_row, crc, if_pos hs]
    show crcS (ts.take ts.length) = _
    rw [List.take_length]
theorem cah_mono {t : T} {i j : Nat} (h : i ≤ j) (hj : j ≤ cnt t) : cah t i ≤ cah t j := by
  induction j with
  | zero => rw [show i = 0 by omega]; exact Nat.le_refl _
  | succ j ih =>
    rcases Nat.eq_or_lt_of_le h with e | e
    · rw [e]; exact Nat.le_refl _
    · obtain ⟨v, hv⟩ := piece_some (t := t) (i := j) (by omega)
      have := ih (by omega) (by omega)
      rw [cah_succ hv]; omega
theorem crc_piece {t u : T} {i : Nat} (hp : piece t i = some u) (hi : i < cnt t) : (if intr t = true then cah t i else 0) + crc u ≤ crc t := by
  by_cases hI : intr t = true
  · rw [if_pos hI, ← cah_succ hp, ← cah_all hI]
    exact cah_mono (by omega) (Nat.le_refl _)
  · rw [if_neg hI, Nat.zero_add]
    cases t with
    | one => cases hp
    | name x => cases hp
    | cop s n v =>
      have hs : ¬ s = true := hI
      obtain rfl : v = u := Option.some.inj hp
      rw [crc, if_neg hs]; exact Nat.le_refl _
    | row s ts =>
      have hs : ¬ s = true := hI
      rw [crc, if_neg hs]
      exact crcM_mem (List.mem_of_getElem? (show ts[i]? = some u from hp))
theorem rm_lt : ∀ {p : List Nat} {t : T}, isPers t p = true → rm t p < crc t
  | [], t, h => by
    obtain rfl := pers_nil h
    rw [rm, crc]; exact Nat.one_pos
  | i :: p, t, h => by
    obtain ⟨u, hi, hp, hu⟩ := pers_cons h
    have h1 := rm_lt hu
    have h2 := crc_piece hp hi
    rw [rm_cons hp]; omega
theorem rm_ne : ∀ {p q : List Nat} {t : T}, isPers t p = true → isPers t q = true → knowsB t p q = true → rm t p ≠ rm t q
  | [], q, t, _, _, h => by rw [knowsB] at h; cases h; intro _ _ _ _ e; cases e
  | i :: p, [], t, _, _, h => by simp [knowsB] at h
  | i :: p, j :: q, t, hp, hq, h => by
    obtain ⟨u, hi, hu, pu⟩ := pers_cons hp
    obtain ⟨v, hj, hv, pv⟩ := pers_cons hq
    rw [knowsB] at h
    rw [rm_cons hu, rm_cons hv]
    by_cases e : i = j
    · subst e
      rw [if_pos rfl, hu] at h
      rw [hu] at hv
      obtain rfl := Option.some.inj hv
      have := rm_ne pu pv h
      omega
    · rw [if_neg e] at h
      rw [if_pos h, if_pos h]
      have a1 := rm_lt pu
      have a2 := rm_lt pv
      rcases Nat.lt_or_ge i j with z | z
      · have := cah_mono (t := t) (i := i + 1) (j := j) z (by omega)
        rw [cah_succ hu] at this; omega
      · have := cah_mono (t := t) (i := j + 1) (j := i) (by omega) (by omega)
        rw [cah_succ hv] at this; omega
/-! ### the circle's people -/
mutual
def ci : T → Nat → List Nat
  | .one, _ => []
  | .name _, _ => []
  | .cop s _ u, r => if s = true then (r / crc u) :: ci u (r % crc u) else 0 :: ci u r
  | .row s ts, r => if s = true then ciS ts 0 r else ciM (crcM ts) ts 0 r
def ciS : List T → Nat → Nat → List Nat
  | [], _, _ => []
  | t :: ts, k, r => if r < crc t then k :: ci t r else ciS ts (k + 1) (r - crc t)
def ciM : Nat → List T → Nat → Nat → List Nat
  | _, [], _, _ => []
  | m, t :: ts, k, r => if crc t = m then k :: ci t r else ciM m ts (k + 1) r
end
theorem ciS_at : ∀ {ts : List T} {k r : Nat}, r < crcS ts → ∃ j u r', ts[j]? = some u ∧ r' < crc u ∧ ciS ts k r = (k + j) :: ci u r' ∧ r = crcS (ts.take j) + r'
  | [], k, r, h => by rw [crcS] at h; omega
  | t :: ts, k, r, h => by
    rw [crcS] at h
    by_cases h1 : r < crc t
    · exact ⟨0, t, r, rfl, h1, by rw [ciS, if_pos h1]; rfl, by rw [List.take_zero, crcS]; omega⟩
    · obtain ⟨j, u, r', a1, a2, a3, a4⟩ := ciS_at (ts := ts) (k := k + 1) (r := r - crc t) (by omega)
      exact ⟨j + 1, u, r', a1, a2, by rw [ciS, if_neg h1, a3]; congr 1; omega, by rw [List.take_succ_cons, crcS]; omega⟩
theorem ciM_at : ∀ {m : Nat} {ts : List T} (k : Nat), (∃ t ∈ ts, crc t = m) → ∃ j u, ts[j]? = some u ∧ crc u = m ∧ (∀ l v, l < j → ts[l]? = some v → crc v ≠ m) ∧ ∀ r, ciM m ts k r = (k + j) :: ci u r
  | m, [], k, h => by obtain ⟨t, h, _⟩ := h; cases h
  | m, t :: ts, k, h => by
    by_cases h1 : crc t = m
    · exact ⟨0, t, rfl, h1, fun l v hl => by omega, fun r => by rw [ciM, if_pos h1]; rfl⟩
    · obtain ⟨j, u, a1, a2, a4, a3⟩ := ciM_at (m := m) (ts := ts) (k + 1) (by
        obtain ⟨x, hx, e⟩ := h
        rcases List.mem_cons.mp hx with rfl | hx
        · exact absurd e h1
        · exact ⟨x, hx, e⟩)
      refine ⟨j + 1, u, a1, a2, fun l v hl hv => ?_, fun r => by rw [ciM, if_neg h1, a3]; congr 1; omega⟩
      cases l with
      | zero => obtain rfl := Option.some.inj hv; exact h1
      | succ l => exact a4 l v (by omega) hv
theorem crcM_ex : ∀ {ts : List T}, ts ≠ [] → ∃ t ∈ ts, crc t = crcM ts
  | [], h => absurd rfl h
  | [t], _ => ⟨t, List.mem_cons_self, by rw [crcM, crcM]; omega⟩
  | t :: u :: ts, _ => by
    obtain ⟨x, hx, e⟩ := crcM_ex (ts := u :: ts) (by simp)
    rw [crcM]
    by_cases h : crc t ≤ crcM (u :: ts)
    · exact ⟨x, List.mem_cons_of_mem _ hx, by rw [e]; omega⟩
    · exact ⟨t, List.mem_cons_self, by omega⟩
theorem pers_mk {t u : T} {i : Nat} {p : List Nat} (hi : i < cnt t) (hp : piece t i = some u) (hu : isPers u p = true) : isPers t (i :: p) = true := by
  unfold isPers at hu ⊢
  rw [desc, if_pos hi, hp]; exact hu
/-- what the circle's person of a room looks like -/
theorem ci_ok : ∀ (n : Nat) {t : T}, ht t ≤ n → Good t → Told t → (∀ r, r < crc t → isPers t (ci t r) = true ∧ rm t (ci t r) = r) ∧ ∀ r r', r < crc t → r' < crc t → r ≠ r' → knowsB t (ci t r) (ci t r') = true
  | n, .one, _, _, _ => by
    refine ⟨fun r h => ?_, fun r r' h h' hn => ?_⟩
    · rw [crc] at h; rw [ci, rm]; exact ⟨rfl, by omega⟩
    · rw [crc] at h h'; omega
  | n, .name x, _, _, h => h.elim
  | 0, .cop s m u, h, _, _ => by rw [ht] at h; omega
  | 0, .row s ts, h, _, _ => by rw [ht] at h; omega
  | n + 1, .cop s m u, hh, g, tl => by
    rw [ht] at hh
    obtain ⟨i1, i2⟩ := ci_ok n (t := u) (by omega) g.2.2 tl
    have cu := (crc_ok g.2.2).1
    have hpc : ∀ i, piece (.cop s m u) i = some u := fun i => rfl
    have hm := g.1
    cases s with
    | true =>
      have e : crc (.cop true m u) = m * crc u := by rw [crc, if_pos rfl]
      have ec : ∀ r, ci (.cop true m u) r = (r / crc u) :: ci u (r % crc u) := fun r => by rw [ci, if_pos rfl]
      refine ⟨fun r h => ?_, fun r r' h h' hn => ?_⟩
      · rw [e] at h
        have hm1 := Nat.mod_lt r cu
        obtain ⟨a1, a2⟩ := i1 _ hm1
        have hdiv : r / crc u < m := (Nat.div_lt_iff_lt_mul cu).mpr h
        rw [ec]
        refine ⟨pers_mk (by rw [cnt_cop]; exact hdiv) (hpc _) a1, ?_⟩
        rw [rm_cons (hpc _), if_pos (show intr (.cop true m u) = true from rfl), a2]
        show r / crc u * crc u + r % crc u = r
        rw [Nat.mul_comm]; exact Nat.div_add_mod r (crc u)
      · rw [ec, ec, knowsB]
        by_cases hd : r / crc u = r' / crc u
        · rw [if_pos hd, hpc]
          refine i2 _ _ (Nat.mod_lt r cu) (Nat.mod_lt r' cu) (fun hm2 => hn ?_)
          have b1 := Nat.div_add_mod r (crc u)
          have b2 := Nat.div_add_mod r' (crc u)
          rw [hd, hm2] at b1
          omega
        · rw [if_neg hd]; rfl
    | false =>
      have e : crc (.cop false m u) = crc u := by rw [crc, if_neg (by simp)]
      have ec : ∀ r, ci (.cop false m u) r = 0 :: ci u r := fun r => by rw [ci, if_neg (by simp)]
      refine ⟨fun r h => ?_, fun r r' h h' hn => ?_⟩
      · rw [e] at h
        obtain ⟨a1, a2⟩ := i1 _ h
        rw [ec]
        refine ⟨pers_mk (by rw [cnt_cop]; omega) (hpc _) a1, ?_⟩
        rw [rm_cons (hpc _), if_neg (by simp [intr]), a2, Nat.zero_add]
      · rw [e] at h h'
        rw [ec, ec, knowsB, if_pos rfl, hpc]
        exact i2 r r' h h' hn
  | n + 1, .row s ts, hh, g, tl => by
    rw [ht] at hh
    have ih : ∀ j u, ts[j]? = some u → (∀ r, r < crc u → isPers u (ci u r) = true ∧ rm u (ci u r) = r) ∧ ∀ r r', r < crc u → r' < crc u → r ≠ r' → knowsB u (ci u r) (ci u r') = true := fun j u hu => by
      have hm := List.mem_of_getElem? hu
      exact ci_ok n (t := u) (by have := hts_le hm; omega) (goods_all.mp g.2 u hm) (tolds_all.mp tl u hm)
    cases s with
    | true =>
      have e : crc (.row true ts) = crcS ts := by rw [crc, if_pos rfl]
      have ec : ∀ r, ci (.row true ts) r = ciS ts 0 r := fun r => by rw [ci, if_pos rfl]
      refine ⟨fun r h => ?_, fun r r' h h' hn => ?_⟩
      · rw [e] at h
        obtain ⟨j, u, r1, a1, a2, a3, a4⟩ := ciS_at (k := 0) h
        obtain ⟨b1, b2⟩ := (ih j u a1).1 r1 a2
        have hj := (List.getElem?_eq_some_iff.mp a1).1
        have hp : piece (.row true ts) j = some u := a1
        rw [ec, a3, Nat.zero_add]
        refine ⟨pers_mk (by rw [cnt_row]; exact hj) hp b1, ?_⟩
        rw [rm_cons hp, if_pos (show intr (.row true ts) = true from rfl), b2]
        exact a4.symm
      · rw [e] at h h'
        obtain ⟨j, u, r1, a1, a2, a3, a4⟩ := ciS_at (k := 0) h
        obtain ⟨j', u', r1', a1', a2', a3', a4'⟩ := ciS_at (k := 0) h'
        rw [ec, ec, a3, a3', Nat.zero_add, Nat.zero_add, knowsB]
        by_cases hd : j = j'
        · subst hd
          rw [a1] at a1'
          obtain rfl := Option.some.inj a1'
          rw [if_pos rfl, show piece (.row true ts) j = some u from a1]
          exact (ih j u a1).2 r1 r1' a2 a2' (by omega)
        · rw [if_neg hd]; rfl
    | false =>
      have e : crc (.row false ts) = crcM ts := by rw [crc, if_neg (by simp)]
      have ne : ts ≠ [] := fun e => by have := g.1; rw [e] at this; simp at this
      obtain ⟨j, u, a1, a2, _, a3⟩ := ciM_at 0 (crcM_ex ne)
      have hj := (List.getElem?_eq_some_iff.mp a1).1
      have hp : piece (.row false ts) j = some u := a1
      have ec : ∀ r, ci (.row false ts) r = j :: ci u r := fun r => by rw [ci, if_neg (by simp), a3, Nat.zero_add]
      refine ⟨fun r h => ?_, fun r r' h h' hn => ?_⟩
      · rw [e, ← a2] at h
        obtain ⟨b1, b2⟩ := (ih j u a1).1 r h
        rw [ec]
        refine ⟨pers_mk (by rw [cnt_row]; exact hj) hp b1, ?_⟩
        rw [rm_cons hp, if_neg (by simp [intr]), b2, Nat.zero_add]
      · rw [e, ← a2] at h h'
        rw [ec, ec, knowsB, if_pos rfl, hp]
        exact (ih j u a1).2 r r' h h' hn
end PL
/-! PM6: the people ascend. -/
namespace PL
open PySem SX TL DL
abbrev toI (p : List Nat) : List Int := p.map fun (i : Nat) => (i : Int)
def Asc (l : List (List Nat)) : Prop := l.Pairwise fun x y => lexI (toI y) (toI x) = false
theorem asc_cons {i : Nat} {l : List (List Nat)} (h : Asc l) : Asc (l.map (i :: ·)) := by
  unfold Asc
  rw [List.pairwise_map]
  refine h.imp fun {x y} hxy => ?_
  show lexI ((i : Int) :: toI y) ((i : Int) :: toI x) = false
  rw [lexI, if_pos rfl]; exact hxy
theorem asc_upTo {t : T} (h : ∀ j u, piece t j = some u → Asc (persL u)) : ∀ n, Asc (upTo t n)
  | 0 => List.Pairwise.nil
  | n + 1 => by
    have ih := asc_upTo h n
    cases e : piece t n with
    | none =>
      have : upTo t (n + 1) = upTo t n := by
        unfold upTo; rw [List.range_succ, List.flatMap_append]; simp [pieceP, e]
      rw [this]; exact ih
    | some u =>
      rw [upTo_succ e]
      unfold Asc
      rw [List.pairwise_append]
      refine ⟨ih, asc_cons (h n u e), fun x hx y hy => ?_⟩
      obtain ⟨j, v, q, hj, _, _, rfl⟩ := mem_upTo hx
      obtain ⟨r, _, rfl⟩ := List.mem_map.mp hy
      show lexI ((n : Int) :: toI r) ((j : Int) :: toI q) = false
      rw [lexI, if_neg (by omega)]
      exact decide_eq_false (by omega)
theorem asc_pers : ∀ (n : Nat) {t : T}, ht t ≤ n → Asc (persL t) := by
  intro n
  induction n with
  | zero =>
    intro t hn
    cases h : isOneT t with
    | true =>
      cases t with
      | one => rw [persL]; exact List.pairwise_singleton _ _
      | _ => cases h
    | false => rw [persL_upTo h]; exact asc_upTo (fun j u hu => by have := piece_ht hu; omega) _
  | succ n ih =>
    intro t hn
    cases h : isOneT t with
    | true =>
      cases t with
      | one => rw [persL]; exact List.pairwise_singleton _ _
      | _ => cases h
    | false => rw [persL_upTo h]; exact asc_upTo (fun j u hu => ih (by have := piece_ht hu; omega)) _
theorem pers_ne {t : T} (h : 2 ≤ (persL t).length) : ∀ p ∈ persL t, p ≠ [] := by
  intro p hp hn
  cases h1 : isOneT t with
  | true =>
    cases t with
    | one => rw [persL] at h; simp at h
    | _ => cases h1
  | false =>
    rw [persL_upTo h1] at hp
    obtain ⟨j, v, q, _, _, _, e⟩ := mem_upTo hp
    rw [hn] at e; cases e
end PL
/-! PM8: numbers of people; great plans. -/
namespace PL
open PySem SX TL
theorem is_pers_mem : ∀ {p : List Nat} {t : T}, Ok t → isPers t p = true → p ∈ persL t
  | [], t, ok, h => by
    obtain rfl := pers_nil h
    rw [persL]; exact List.mem_singleton.mpr rfl
  | i :: p, t, ok, h => by
    obtain ⟨u, hi, hp, hu⟩ := pers_cons h
    obtain ⟨A, B, h1, _⟩ := pers_split ok hi hp
    rw [h1]
    exact List.mem_append_right _ (List.mem_append_left _ (List.mem_map_of_mem (is_pers_mem (piece_Ok hp ok) hu)))
/-- the number of a person -/
def num : T → List Nat → Nat
  | t, i :: p => match piece t i with
    | some u => ahead t i + num u p
    | none => 0
  | _, [] => 0
theorem num_cons {t u : T} {i : Nat} (hp : piece t i = some u) (p : List Nat) : num t (i :: p) = ahead t i + num u p := by rw [num, hp]
theorem num_of : ∀ {p : List Nat} {t : T} {l : Nat}, Ok t → (persL t)[l]? = some p → num t p = l
  | [], t, l, ok, h => by
    have h1 := pers_nil (pers_is _ (Nat.le_refl _) (List.mem_of_getElem? h))
    subst h1
    rw [persL] at h
    cases l with
    | zero => rw [num]
    | succ n => simp at h
  | i :: p, t, l, ok, h => by
    obtain ⟨u, hi, hp, hu⟩ := pers_cons (pers_is _ (Nat.le_refl _) (List.mem_of_getElem? h))
    have hlt : l < ppl t := by
      have := (List.getElem?_eq_some_iff.mp h).1
      rw [persL_len ok.2.1] at this; exact this
    obtain ⟨v, q, a1, a2, a3, a4, a5, a6⟩ := spotT_ok ok.2.1 (not_one hi) hlt
    rw [h] at a4
    injection a4 with a4
    injection a4 with e1 e2
    rw [← e1] at a2 a5
    rw [hp] at a2
    obtain rfl := Option.some.inj a2
    rw [num_cons hp, e2, num_of (piece_Ok hp ok) a3]; omega
theorem pers_num {p : List Nat} {t : T} (ok : Ok t) (h : isPers t p = true) : (persL t)[num t p]? = some p := by
  obtain ⟨l, hl, rfl⟩ := List.getElem_of_mem (is_pers_mem ok h)
  have h2 : (persL t)[l]? = some (persL t)[l] := List.getElem?_eq_getElem hl
  rw [num_of ok h2]; exact h2
theorem num_lt {p : List Nat} {t : T} (ok : Ok t) (h : isPers t p = true) : num t p < ppl t := by
  have := (List.getElem?_eq_some_iff.mp (pers_num ok h)).1
  rw [persL_len ok.2.1] at this; exact this
theorem ahead_mono {t u : T} {i j : Nat} (h : i ≤ j) (hp : piece t j = some u) : ahead t i ≤ ahead t j := by
  induction j generalizing u with
  | zero => rw [show i = 0 by omega]; exact Nat.le_refl _
  | succ j ih =>
    rcases Nat.eq_or_lt_of_le h with e | e
    · rw [e]; exact Nat.le_refl _
    · obtain ⟨v, hv⟩ := piece_upto hp (Nat.le_succ j)
      have := ih (by omega) hv
      rw [ahead_succ hv]; omega
theorem ahead_lt {t u v : T} {i j : Nat} (h : i < j) (hi : piece t i = some u) (hj : piece t j = some v) : ahead t i + ppl u ≤ ahead t j := by
  rw [← ahead_succ hi]; exact ahead_mono h hj
theorem knows_symm : ∀ (p q : List Nat) (t : T), knowsB t p q = knowsB t q p
  | [], [], t => rfl
  | [], j :: q, t => rfl
  | i :: p, [], t => rfl
  | i :: p, j :: q, t => by
    rw [knowsB, knowsB]
    by_cases h : i = j
    · subst h
      rw [if_pos rfl, if_pos rfl]
      cases piece t i with
      | none => rfl
      | some u => exact knows_symm p q u
    · rw [if_neg h, if_neg (fun e => h e.symm)]
/-- how many friends stand ahead: in the same part -/
theorem er_in {t u : T} {i n : Nat} {p q : List Nat} (ok : Ok t) (hi : i < cnt t) (hp : piece t i = some u) (hu : isPers u p = true) (h : (frL t (i :: p))[n]? = some (i :: q)) :
    ∃ m, (frL u p)[m]? = some q ∧ n = (if intr t = true then ahead t i else 0) + m := by
  obtain ⟨c1, c2, c3, c4⟩ := nth_fr ok hi hp hu h
  by_cases hI : intr t = true
  · rw [if_pos hI]
    have heads : ∀ l, (persL t)[l]? = some (i :: q) → ahead t i ≤ l ∧ l < ahead t i + ppl u := fun l hl => by
      have hn := num_of ok hl
      rw [num_cons hp] at hn
      have hq : isPers u q = true := by
        obtain ⟨v, _, a, b⟩ := pers_cons (pers_is _ (Nat.le_refl _) (List.mem_of_getElem? hl))
        rw [hp] at a; obtain rfl := Option.some.inj a; exact b
      have := num_lt (piece_Ok hp ok) hq
      omega
    by_cases h1 : n < ahead t i
    · have := heads n (c2 hI h1); omega
    · by_cases h2 : n < ahead t i + mf u p
      · obtain ⟨q', e, hq'⟩ := c3 hI (by omega) h2
        injection e with _ e
        subst e
        exact ⟨n - ahead t i, hq', by omega⟩
      · have := heads _ (c4 hI (by omega)); omega
  · rw [if_neg hI]
    obtain ⟨q', e, hq'⟩ := c1 ((Bool.not_eq_true _).mp hI)
    injection e with _ e
    subst e
    exact ⟨n, hq', by omega⟩
/-- .. in another one -/
theorem er_out {t u v : T} {i j n : Nat} {p q : List Nat} (ok : Ok t) (hi : i < cnt t) (hp : piece t i = some u) (hu : isPers u p = true) (hv : piece t j = some v) (hn : i ≠ j) (h : (frL t (i :: p))[n]? = some (j :: q)) :
    (n : Int) = if i < j then ((ahead t j + num v q : Nat) : Int) - (ppl u : Nat) + (mf u p : Nat) else ((ahead t j + num v q : Nat) : Int) := by
  obtain ⟨c1, c2, c3, c4⟩ := nth_fr ok hi hp hu h
  have hI : intr t = true := by
    cases e : intr t with
    | true => rfl
    | false =>
      obtain ⟨q', e2, _⟩ := c1 e
      injection e2 with e2
      exact absurd e2.symm hn
  have hq : isPers v q = true := by
    obtain ⟨x, _, a, b⟩ := pers_cons (pers_is _ (Nat.le_refl _) (List.mem_filter.mp (List.mem_of_getElem? h)).1)
    rw [hv] at a; obtain rfl := Option.some.inj a; exact b
  have hlt := num_lt (piece_Ok hv ok) hq
  by_cases h1 : n < ahead t i
  · have e := num_of ok (c2 hI h1)
    rw [num_cons hv] at e
    have : ¬ i < j := fun hl => by have := ahead_lt hl hp hv; omega
    rw [if_neg this]; omega
  · by_cases h2 : n < ahead t i + mf u p
    · obtain ⟨q', e, _⟩ := c3 hI (by omega) h2
      injection e with e
      exact absurd e.symm hn
    · have e := num_of ok (c4 hI (by omega))
      rw [num_cons hv] at e
      have : i < j := by
        rcases Nat.lt_or_ge i j with z | z
        · exact z
        · have := ahead_lt (by omega) hv hp; omega
      rw [if_pos this]; omega
theorem asc_fr (t : T) (p : List Nat) : Asc (frL t p) := by
  have := asc_pers _ (Nat.le_refl (ht t))
  unfold Asc at this ⊢
  unfold frL
  exact this.filter _
theorem asc_at {l : List (List Nat)} (h : Asc l) {i j : Nat} {x y : List Nat} (hij : i < j) (hx : l[i]? = some x) (hy : l[j]? = some y) : DL.lexI (toI y) (toI x) = false := by
  obtain ⟨a1, rfl⟩ := List.getElem?_eq_some_iff.mp hx
  obtain ⟨a2, rfl⟩ := List.getElem?_eq_some_iff.mp hy
  exact List.pairwise_iff_getElem.mp h i j a1 a2 hij
/-! ### great plans -/
def lim : Nat → Nat
  | 0 => 1
  | d + 1 => 4 * lim d + 20
def Gr (t : T) (d : Nat) : Prop := Good t ∧ Told t ∧ ppl t ≤ (10 ^ 9) ^ d ∧ ht t ≤ d ∧ (txt t).length ≤ lim d
theorem gr_one (d : Nat) : Gr .one d := by
  refine ⟨trivial, trivial, ?_, ?_, ?_⟩
  · rw [ppl]; exact Nat.pow_pos (by decide)
  · rw [ht]; exact Nat.zero_le _
  · rw [txt]
    cases d with
    | zero => exact Nat.le_refl _
    | succ d => show 1 ≤ 4 * lim d + 20; omega
theorem gr_cop {t : T} {n d : Nat} (b : Bool) (h : Gr t d) (h1 : 2 ≤ n) (h2 : n ≤ 10 ^ 9) : Gr (.cop b n t) (d + 1) := by
  obtain ⟨g1, g2, g3, g4, g5⟩ := h
  have hlen : (numL n).length ≤ 10 := numL_len (by decide) (Nat.lt_of_le_of_lt h2 (by decide))
  refine ⟨⟨h1, Nat.le_trans h2 (by decide), g1⟩, g2, ?_, by rw [ht]; omega, ?_⟩
  · rw [ppl, Nat.pow_succ, Nat.mul_comm ((10 ^ 9) ^ d)]; exact Nat.mul_le_mul h2 g3
  · rw [txt]
    simp only [List.length_cons, List.length_append, List.length_nil]
    show _ ≤ 4 * lim d + 20
    omega
theorem grs_all {d : Nat} (b : Bool) : ∀ {ts : List T}, (∀ t ∈ ts, Gr t d) → Goods ts ∧ Tolds ts ∧ ppls ts ≤ ts.length * (10 ^ 9) ^ d ∧ hts ts ≤ d ∧ (joinL (sep b) (txts ts)).length ≤ ts.length * (lim d + 3)
  | [], _ => ⟨trivial, trivial, by rw [ppls]; exact Nat.zero_le _, by rw [hts]; exact Nat.zero_le _, by rw [txts, joinL]; exact Nat.zero_le _⟩
  | [t], h => by
    obtain ⟨g1, g2, g3, g4, g5⟩ := h t List.mem_cons_self
    refine ⟨⟨g1, trivial⟩, ⟨g2, trivial⟩, by rw [ppls, ppls]; simp; exact g3, by rw [hts, hts]; simp; exact g4, ?_⟩
    rw [txts, txts, joinL]
    simp; omega
  | t :: u :: ts, h => by
    obtain ⟨g1, g2, g3, g4, g5⟩ := h t List.mem_cons_self
    obtain ⟨h1, h2, h3, h4, h5⟩ := grs_all b (ts := u :: ts) fun x hx => h x (List.mem_cons_of_mem _ hx)
    refine ⟨⟨g1, h1⟩, ⟨g2, h2⟩, ?_, by rw [hts]; omega, ?_⟩
    · rw [ppls, List.length_cons, Nat.succ_mul]; omega
    · have e1 : joinL (sep b) (txts (t :: u :: ts)) = txt t ++ (sep b ++ joinL (sep b) (txts (u :: ts))) := by rw [txts, txts, joinL]
      rw [e1, List.length_append, List.length_append, sep_len, List.length_cons, Nat.succ_mul]
      omega
theorem gr_row {ts : List T} {d : Nat} (b : Bool) (h : ∀ t ∈ ts, Gr t d) (h1 : 2 ≤ ts.length) (h2 : ts.length ≤ 4) : Gr (.row b ts) (d + 1) := by
  obtain ⟨g1, g2, g3, g4, g5⟩ := grs_all b h
  refine ⟨⟨h1, g1⟩, g2, ?_, by rw [ht]; omega, ?_⟩
  · rw [ppl, Nat.pow_succ, Nat.mul_comm ((10 ^ 9) ^ d)]
    exact Nat.le_trans g3 (Nat.mul_le_mul_right _ (Nat.le_trans h2 (by decide)))
  · rw [txt]
    simp only [List.length_cons, List.length_append, List.length_nil]
    have : ts.length * (lim d + 3) ≤ 4 * (lim d + 3) := Nat.mul_le_mul_right _ h2
    show _ ≤ 4 * lim d + 20
    omega
end PL
/-! PM16: when people come and leave. -/
namespace PL
open PySem SX TL
def pzL (m : Nat) : List T → Nat
  | [] => 0
  | t :: ts => if ppl t - hal t = m then 0 else pzL m ts + 1
/-- the part that passes while all others are there -/
def pz : T → Nat
  | .cop _ n _ => n - 1
  | .row _ ts => pzL (hdf ts) ts
  | _ => 0
def puT (t : T) : T := (piece t (pz t)).getD .one
theorem hdf_mem : ∀ {ts : List T} {u : T}, u ∈ ts → ppl u - hal u ≤ hdf ts
  | t :: ts, u, h => by
    rw [hdf]
    rcases List.mem_cons.mp h with rfl | h
    · exact Nat.le_max_left _ _
    · exact Nat.le_trans (hdf_mem h) (Nat.le_max_right _ _)
theorem hdf_ex : ∀ {ts : List T}, ts ≠ [] → ∃ u ∈ ts, ppl u - hal u = hdf ts
  | [t], _ => ⟨t, List.mem_cons_self, by rw [hdf, hdf]; omega⟩
  | t :: u :: ts, _ => by
    obtain ⟨v, h1, h2⟩ := hdf_ex (ts := u :: ts) (by simp)
    rw [hdf]
    by_cases h : ppl t - hal t ≤ hdf (u :: ts)
    · exact ⟨v, List.mem_cons_of_mem _ h1, by omega⟩
    · exact ⟨t, List.mem_cons_self, by omega⟩
theorem pzL_at {m : Nat} : ∀ {ts : List T}, (∃ u ∈ ts, ppl u - hal u = m) → ∃ u, ts[pzL m ts]? = some u ∧ ppl u - hal u = m ∧ ∀ k v, k < pzL m ts → ts[k]? = some v → ppl v - hal v ≠ m
  | [], h => by obtain ⟨u, h, _⟩ := h; cases h
  | t :: ts, h => by
    rw [pzL]
    by_cases e : ppl t - hal t = m
    · rw [if_pos e]
      exact ⟨t, rfl, e, fun k v hk => by omega⟩
    · rw [if_neg e]
      obtain ⟨u, h1, h2⟩ := h
      have h3 : u ∈ ts := by
        rcases List.mem_cons.mp h1 with rfl | h1
        · exact absurd h2 e
        · exact h1
      obtain ⟨v, a1, a2, a3⟩ := pzL_at ⟨u, h3, h2⟩
      refine ⟨v, a1, a2, fun k w hk hw => ?_⟩
      cases k with
      | zero => rw [← Option.some.inj hw]; exact e
      | succ k => exact a3 k w (by omega) hw
theorem pz_ok {t : T} (hI : intr t = true) (g : Good t) : ∃ u, pz t < cnt t ∧ piece t (pz t) = some u ∧ hal t + ppl u = ppl t + hal u ∧ ∀ j v, piece t j = some v → hal t + ppl v ≤ ppl t + hal v := by
  cases t with
  | one => cases hI
  | name x => cases hI
  | cop s n u =>
    have hs : s = true := hI
    have hn := g.1
    have h3 : 1 * ppl u ≤ n * ppl u := Nat.mul_le_mul_right _ (by omega)
    refine ⟨u, by rw [cnt_cop]; show n - 1 < n; omega, rfl, ?_, fun j v hv => ?_⟩
    · rw [hal, if_pos hs, ppl]; omega
    · obtain rfl : u = v := Option.some.inj hv
      rw [hal, if_pos hs, ppl]; omega
  | row s ts =>
    have hs : s = true := hI
    have hne : ts ≠ [] := fun e => by have := g.1; rw [e] at this; simp at this
    obtain ⟨u, h1, h2, _⟩ := pzL_at (hdf_ex hne)
    have hlt := (List.getElem?_eq_some_iff.mp h1).1
    have hd := (hals_ok g.2).1 (by have := g.1; omega)
    have hle : ∀ {v}, v ∈ ts → hal v ≤ ppl v := fun {v} hv => (hal_ok (goods_all.mp g.2 v hv)).2
    refine ⟨u, by rw [cnt_row]; exact hlt, h1, ?_, fun j v hv => ?_⟩
    · have := hle (List.mem_of_getElem? h1)
      rw [hal, if_pos hs, ppl]; omega
    · have hm := List.mem_of_getElem? (show ts[j]? = some v from hv)
      have h5 := hdf_mem hm
      have := hle hm
      rw [hal, if_pos hs, ppl]; omega
theorem puT_eq {t u : T} (h : piece t (pz t) = some u) : puT t = u := by unfold puT; rw [h]; rfl
theorem ahead_le {t u : T} {i : Nat} (ok : Ok t) (hi : i < cnt t) (hp : piece t i = some u) : ahead t i + ppl u ≤ ppl t := by
  obtain ⟨A, B, h1, h2, _, _⟩ := pers_split ok hi hp
  have h3 := congrArg List.length h1
  rw [List.length_append, List.length_append, List.length_map, persL_len ok.2.1, persL_len (piece_told hp ok)] at h3
  omega
/-- numbers of the others -/
def nmO (t : T) (p : List Nat) : Nat := if num t p < ahead t (pz t) then num t p else num t p - ppl (puT t)
theorem nmO_zone {t u v : T} {i : Nat} {p : List Nat} (ok : Ok t) (hi : i < cnt t) (hp : piece t i = some u) (hu : isPers u p = true) (hz : pz t < cnt t) (hpz : piece t (pz t) = some v) (hn : i ≠ pz t) :
    (i < pz t ∧ num t (i :: p) < ahead t (pz t) ∧ nmO t (i :: p) = num t (i :: p)) ∨ (pz t < i ∧ ahead t (pz t) + ppl v ≤ num t (i :: p) ∧ nmO t (i :: p) + ppl v = num t (i :: p)) := by
  have h1 := num_cons hp p
  have h2 := num_lt (piece_Ok hp ok) hu
  unfold nmO
  rw [puT_eq hpz]
  rcases Nat.lt_or_gt_of_ne hn with h | h
  · have := ahead_lt h hp hpz
    have hl : num t (i :: p) < ahead t (pz t) := by omega
    exact .inl ⟨h, hl, by rw [if_pos hl]⟩
  · have := ahead_lt h hpz hp
    have hl : ¬ num t (i :: p) < ahead t (pz t) := by omega
    exact .inr ⟨h, by omega, by rw [if_neg hl]; omega⟩
theorem nmO_lt {t u v : T} {i : Nat} {p : List Nat} (ok : Ok t) (hi : i < cnt t) (hp : piece t i = some u) (hu : isPers u p = true) (hz : pz t < cnt t) (hpz : piece t (pz t) = some v) (hn : i ≠ pz t) : nmO t (i :: p) + ppl v < ppl t := by
  have h1 := num_lt ok (pers_mk hi hp hu)
  have h2 := ahead_le ok hz hpz
  rcases nmO_zone ok hi hp hu hz hpz hn with h | h <;> omega
theorem num_inj {t : T} {p q : List Nat} (ok : Ok t) (hp : isPers t p = true) (hq : isPers t q = true) (h : num t p = num t q) : p = q := by
  have h1 := pers_num ok hp
  rw [h, pers_num ok hq] at h1
  exact (Option.some.inj h1).symm
/-- the moment at which somebody comes, or leaves -/
def mom : T → List Nat → Bool → Nat
  | _, [], w => if w = true then 0 else 1
  | t, i :: p, w => match piece t i with
    | none => 0
    | some u => if intr t = true then (if i = pz t then (ppl t - ppl u) + mom u p w else (if w = true then 0 else ppl t + ppl (puT t)) + nmO t (i :: p)) else 2 * ahead t i + mom u p w
theorem mom_bes {t u : T} {i : Nat} {p : List Nat} {w : Bool} (hI : intr t = false) (hp : piece t i = some u) : mom t (i :: p) w = 2 * ahead t i + mom u p w := by rw [mom, hp]; simp [hI]
theorem mom_pz {t u : T} {p : List Nat} {w : Bool} (hI : intr t = true) (hp : piece t (pz t) = some u) : mom t (pz t :: p) w = (ppl t - ppl u) + mom u p w := by rw [mom, hp]; simp [hI]
theorem mom_oth {t u v : T} {i : Nat} {p : List Nat} {w : Bool} (hI : intr t = true) (hp : piece t i = some u) (hn : i ≠ pz t) (hz : piece t (pz t) = some v) : mom t (i :: p) w = (if w = true then 0 else ppl t + ppl v) + nmO t (i :: p) := by rw [mom, hp, puT_eq hz]; simp [hI, hn]
theorem mom_lt : ∀ {p : List Nat} {t : T}, Ok t → isPers t p = true → mom t p true < mom t p false ∧ mom t p false < 2 * ppl t
  | [], t, ok, h => by
    rw [pers_nil h, mom, mom, ppl]; simp
  | i :: p, t, ok, h => by
    obtain ⟨u, hi, hp, hu⟩ := pers_cons h
    have oku := piece_Ok hp ok
    obtain ⟨h1, h2⟩ := mom_lt oku hu
    have h3 := (piece_le' hp ok.1).1
    cases hI : intr t with
    | false =>
      have := ahead_le ok hi hp
      rw [mom_bes hI hp, mom_bes hI hp]; omega
    | true =>
      obtain ⟨v, z1, z2, _⟩ := pz_ok hI ok.1
      by_cases hn : i = pz t
      · subst hn
        rw [mom_pz hI hp, mom_pz hI hp]; omega
      · have := nmO_lt ok hi hp hu z1 z2 hn
        rw [mom_oth hI hp hn z2, mom_oth hI hp hn z2]
        simp
        omega
theorem mom_lt' {p : List Nat} {t : T} (ok : Ok t) (h : isPers t p = true) (w : Bool) : mom t p w < 2 * ppl t := by
  have := mom_lt ok h
  cases w <;> omega
theorem mom_inj : ∀ {p q : List Nat} {t : T} {w w' : Bool}, Ok t → isPers t p = true → isPers t q = true → mom t p w = mom t q w' → p = q ∧ w = w'
  | [], q, t, w, w', ok, hp, hq, h => by
    obtain rfl := pers_nil hp
    obtain rfl := pers_one hq
    refine ⟨rfl, ?_⟩
    rw [mom, mom] at h
    cases w <;> cases w' <;> simp at h <;> rfl
  | i :: p, q, t, w, w', ok, hp, hq, h => by
    obtain ⟨u, hi, hpu, hu⟩ := pers_cons hp
    cases q with
    | nil => obtain rfl := pers_nil hq; simp [cnt, kids] at hi
    | cons j q =>
    obtain ⟨v, hj, hqv, hv⟩ := pers_cons hq
    have oku := piece_Ok hpu ok
    have okv := piece_Ok hqv ok
    have lu := mom_lt' oku hu w
    have lv := mom_lt' okv hv w'
    cases hI : intr t with
    | false =>
      rw [mom_bes hI hpu, mom_bes hI hqv] at h
      rcases Nat.lt_trichotomy i j with z | z | z
      · have := ahead_lt z hpu hqv; omega
      · subst z
        rw [hpu] at hqv
        obtain rfl := Option.some.inj hqv
        obtain ⟨h1, h2⟩ := mom_inj oku hu hv (by omega : mom u p w = mom u q w')
        exact ⟨by rw [h1], h2⟩
      · have := ahead_lt z hqv hpu; omega
    | true =>
      obtain ⟨z, z1, z2, _⟩ := pz_ok hI ok.1
      have hle := (piece_le' z2 ok.1).1
      by_cases hn : i = pz t
      · by_cases hm : j = pz t
        · subst hn
          obtain rfl : pz t = j := hm.symm
          rw [hpu] at hqv
          obtain rfl := Option.some.inj hqv
          rw [mom_pz hI hpu, mom_pz hI hpu] at h
          obtain ⟨h1, h2⟩ := mom_inj oku hu hv (by omega : mom u p w = mom u q w')
          exact ⟨by rw [h1], h2⟩
        · subst hn
          rw [hpu] at z2
          obtain rfl := Option.some.inj z2
          have := nmO_lt ok hj hqv hv hi hpu hm
          rw [mom_pz hI hpu, mom_oth hI hqv hm hpu] at h
          cases w' <;> simp at h <;> omega
      · by_cases hm : j = pz t
        · subst hm
          rw [hqv] at z2
          obtain rfl := Option.some.inj z2
          have := nmO_lt ok hi hpu hu hj hqv hn
          rw [mom_pz hI hqv, mom_oth hI hpu hn hqv] at h
          cases w <;> simp at h <;> omega
        · have a1 := nmO_lt ok hi hpu hu z1 z2 hn
          have a2 := nmO_lt ok hj hqv hv z1 z2 hm
          rw [mom_oth hI hpu hn z2, mom_oth hI hqv hm z2] at h
          have hw : w = w' := by cases w <;> cases w' <;> simp at h <;> first | rfl | omega
          subst hw
          have h2 : nmO t (i :: p) = nmO t (j :: q) := by omega
          refine ⟨num_inj ok hp hq ?_, rfl⟩
          rcases nmO_zone ok hi hpu hu z1 z2 hn with b | b <;> rcases nmO_zone ok hj hqv hv z1 z2 hm with c | c <;> omega
theorem mom_meet : ∀ {p q : List Nat} {t : T}, Ok t → isPers t p = true → isPers t q = true → knowsB t p q = true → mom t p true < mom t q false
  | [], q, t, ok, hp, hq, hk => by
    cases q with
    | nil => rw [knows_self] at hk; cases hk
    | cons j q => simp [knowsB] at hk
  | i :: p, q, t, ok, hp, hq, hk => by
    obtain ⟨u, hi, hpu, hu⟩ := pers_cons hp
    cases q with
    | nil => simp [knowsB] at hk
    | cons j q =>
    obtain ⟨v, hj, hqv, hv⟩ := pers_cons hq
    have oku := piece_Ok hpu ok
    have okv := piece_Ok hqv ok
    have lu := mom_lt' oku hu true
    have lv := mom_lt' okv hv false
    cases hI : intr t with
    | false =>
      by_cases hij : i = j
      · subst hij
        rw [hpu] at hqv
        obtain rfl := Option.some.inj hqv
        rw [knows_in hpu] at hk
        have := mom_meet oku hu hv hk
        rw [mom_bes hI hpu, mom_bes hI hpu]; omega
      · rw [knows_out (fun e => hij e.symm), hI] at hk; cases hk
    | true =>
      obtain ⟨z, z1, z2, _⟩ := pz_ok hI ok.1
      have hle := (piece_le' z2 ok.1).1
      by_cases hn : i = pz t
      · by_cases hm : j = pz t
        · subst hn
          obtain rfl : pz t = j := hm.symm
          rw [hpu] at hqv
          obtain rfl := Option.some.inj hqv
          rw [knows_in hpu] at hk
          have := mom_meet oku hu hv hk
          rw [mom_pz hI hpu, mom_pz hI hpu]; omega
        · subst hn
          rw [hpu] at z2
          obtain rfl := Option.some.inj z2
          rw [mom_pz hI hpu, mom_oth hI hqv hm hpu]
          simp; omega
      · have a1 := nmO_lt ok hi hpu hu z1 z2 hn
        rw [mom_oth hI hpu hn z2]
        by_cases hm : j = pz t
        · subst hm
          rw [hqv] at z2
          obtain rfl := Option.some.inj z2
          rw [mom_pz hI hqv]
          simp; omega
        · rw [mom_oth hI hqv hm z2]
          simp; omega
/-! ### who is there -/
def isIn (t : T) (m : Nat) (p : List Nat) : Bool := decide (mom t p true ≤ m) && decide (m < mom t p false)
def thr (t : T) (m : Nat) : Nat := (persL t).countP (isIn t m)
theorem cnt_zero {l : List (List Nat)} {f : List Nat → Bool} (h : ∀ x ∈ l, f x = false) : l.countP f = 0 := by
  rw [List.countP_eq_zero]
  intro x hx
  rw [h x hx]; simp
theorem cnt_eq {l : List (List Nat)} {f g : List Nat → Bool} (h : ∀ x ∈ l, f x = g x) : l.countP f = l.countP g := List.countP_congr fun x hx => by rw [h x hx]
theorem pers_of {t : T} {x : List Nat} (h : x ∈ persL t) : isPers t x = true := pers_is _ (Nat.le_refl _) h
theorem thr_bes {t u : T} {i m : Nat} (ok : Ok t) (hI : intr t = false) (hi : i < cnt t) (hp : piece t i = some u) (h1 : 2 * ahead t i ≤ m) (h2 : m < 2 * (ahead t i + ppl u)) : thr t m = thr u (m - 2 * ahead t i) := by
  obtain ⟨A, B, e, _, hA, hB⟩ := pers_split ok hi hp
  have out : ∀ {x j q}, x ∈ persL t → x = j :: q → j ≠ i → isIn t m x = false := fun {x j q} hx ex hj => by
    subst ex
    obtain ⟨v, hj1, hv, hv2⟩ := pers_cons (pers_of hx)
    have l1 := mom_lt' (piece_Ok hv ok) hv2 false
    unfold isIn
    rw [mom_bes hI hv, mom_bes hI hv]
    rcases Nat.lt_or_gt_of_ne hj with z | z
    · have := ahead_lt z hv hp
      rw [decide_eq_false (show ¬ m < 2 * ahead t j + mom v q false by omega), Bool.and_false]
    · have := ahead_lt z hp hv
      rw [decide_eq_false (show ¬ 2 * ahead t j + mom v q true ≤ m by omega), Bool.false_and]
  unfold thr
  rw [e, List.countP_append, List.countP_append, cnt_zero (l := A) fun x hx => ?_, cnt_zero (l := B) fun x hx => ?_, Nat.zero_add, Nat.add_zero]
  · rw [cnt_map (g := isIn u (m - 2 * ahead t i))]
    intro q
    unfold isIn
    rw [mom_bes hI hp, mom_bes hI hp]
    congr 1 <;> rw [decide_eq_decide] <;> omega
  · obtain ⟨j, q, ex, hj⟩ := hB x hx
    exact out (by rw [e]; exact List.mem_append_right _ (List.mem_append_right _ hx)) ex hj
  · obtain ⟨j, q, ex, hj⟩ := hA x hx
    exact out (by rw [e]; exact List.mem_append_left _ hx) ex hj
theorem cr_le (m : Nat) : ∀ n, (List.range n).countP (fun k => decide (k ≤ m)) = min (m + 1) n
  | 0 => by simp
  | n + 1 => by
    rw [List.range_succ, List.countP_append, cr_le m n, List.countP_cons, List.countP_nil]
    by_cases h : n ≤ m <;> simp [h] <;> omega
theorem cr_gt (m : Nat) : ∀ n, (List.range n).countP (fun k => decide (m < k)) = n - (m + 1)
  | 0 => by simp
  | n + 1 => by
    rw [List.range_succ, List.countP_append, cr_gt m n, List.countP_cons, List.countP_nil]
    by_cases h : m < n <;> simp [h] <;> omega
theorem cnt_range {l : List (List Nat)} {f : List Nat → Nat} (g : Nat → Bool) (h : ∀ (k : Nat) (x : List Nat), l[k]? = some x → f x = k) : l.countP (fun x => g (f x)) = (List.range l.length).countP g := by
  have e : l.map f = List.range l.length := by
    refine List.ext_getElem? fun k => ?_
    rw [List.getElem?_map]
    by_cases hk : k < l.length
    · rw [List.getElem?_eq_getElem hk, List.getElem?_range hk]
      show some (f l[k]) = some k
      rw [h k _ (List.getElem?_eq_getElem hk)]
    · rw [List.getElem?_eq_none (by omega), List.getElem?_eq_none (by rw [List.length_range]; omega)]; rfl
  rw [← e, List.countP_map]; rfl
/-- the counts where all are introduced -/
theorem thr_int {t u : T} {m : Nat} (ok : Ok t) (hI : intr t = true) (hz : pz t < cnt t) (hp : piece t (pz t) = some u) :
    (m < ppl t - ppl u → thr t m = m + 1) ∧ (ppl t - ppl u ≤ m → m < ppl t + ppl u → thr t m = (ppl t - ppl u) + thr u (m - (ppl t - ppl u))) ∧ (ppl t + ppl u ≤ m → thr t m = (ppl t - ppl u) - (m - (ppl t + ppl u) + 1)) := by
  obtain ⟨A, B, e, hAl, hA, hB⟩ := pers_split ok hz hp
  have hle := (piece_le' hp ok.1).1
  have hlen : A.length + B.length = ppl t - ppl u := by
    have h3 := congrArg List.length e
    rw [List.length_append, List.length_append, List.length_map, persL_len ok.2.1, persL_len (piece_told hp ok)] at h3
    omega
  have hub := persL_len (piece_told hp ok)
  have hix : ∀ (k : Nat) (x : List Nat), (A ++ B)[k]? = some x → nmO t x = k := fun k x hx => by
    unfold nmO
    rw [puT_eq hp]
    by_cases hk : k < A.length
    · rw [List.getElem?_append_left hk] at hx
      have : (persL t)[k]? = some x := by rw [e, List.getElem?_append_left hk]; exact hx
      rw [num_of ok this, if_pos (by omega)]
    · rw [List.getElem?_append_right (by omega)] at hx
      have : (persL t)[k + ppl u]? = some x := by
        rw [e, List.getElem?_append_right (by omega), List.getElem?_append_right (by rw [List.length_map]; omega), List.length_map, hub, show k + ppl u - A.length - ppl u = k - A.length by omega]
        exact hx
      rw [num_of ok this, if_neg (by omega)]; omega
  have hmo : ∀ x ∈ A ++ B, ∀ w, mom t x w = (if w = true then 0 else ppl t + ppl u) + nmO t x := fun x hx w => by
    have hm : x ∈ persL t := by
      rw [e]
      rcases List.mem_append.mp hx with hx | hx
      · exact List.mem_append_left _ hx
      · exact List.mem_append_right _ (List.mem_append_right _ hx)
    obtain ⟨j, q, rfl, hj⟩ : ∃ j q, x = j :: q ∧ j ≠ pz t := by
      rcases List.mem_append.mp hx with hx | hx
      · exact hA x hx
      · exact hB x hx
    obtain ⟨v, hj1, hv, _⟩ := pers_cons (pers_of hm)
    exact mom_oth hI hv hj hp
  have hsum : thr t m = (A ++ B).countP (isIn t m) + (persL u).countP (fun q => isIn t m (pz t :: q)) := by
    unfold thr
    rw [e, List.countP_append, List.countP_append, List.countP_append, cnt_map (g := fun q => isIn t m (pz t :: q)) (fun q => rfl)]
    omega
  have hin : ∀ q, isIn t m (pz t :: q) = (decide ((ppl t - ppl u) + mom u q true ≤ m) && decide (m < (ppl t - ppl u) + mom u q false)) := fun q => by
    unfold isIn
    rw [mom_pz hI hp, mom_pz hI hp]
  have hot : ∀ x ∈ A ++ B, isIn t m x = (decide (nmO t x ≤ m) && decide (m < ppl t + ppl u + nmO t x)) := fun x hx => by
    unfold isIn
    rw [hmo x hx, hmo x hx]; simp
  refine ⟨fun h => ?_, fun h1 h2 => ?_, fun h => ?_⟩
  · rw [hsum, cnt_zero (l := persL u) fun q hq => ?_, Nat.add_zero, cnt_eq hot]
    · rw [cnt_range (fun k => decide (k ≤ m) && decide (m < ppl t + ppl u + k)) hix, List.length_append, hlen, show (List.range (ppl t - ppl u)).countP (fun k => decide (k ≤ m) && decide (m < ppl t + ppl u + k)) = (List.range (ppl t - ppl u)).countP (fun k => decide (k ≤ m)) from List.countP_congr fun k hk => by rw [decide_eq_true (show m < ppl t + ppl u + k by omega), Bool.and_true], cr_le]
      omega
    · rw [hin, decide_eq_false (by omega), Bool.false_and]
  · rw [hsum, cnt_eq hot, cnt_range (fun k => decide (k ≤ m) && decide (m < ppl t + ppl u + k)) hix, List.length_append, hlen, show (List.range (ppl t - ppl u)).countP (fun k => decide (k ≤ m) && decide (m < ppl t + ppl u + k)) = (List.range (ppl t - ppl u)).countP (fun k => decide (k ≤ m)) from List.countP_congr fun k hk => by rw [decide_eq_true (show m < ppl t + ppl u + k by omega), Bool.and_true], cr_le]
    have : (persL u).countP (fun q => isIn t m (pz t :: q)) = thr u (m - (ppl t - ppl u)) := cnt_eq fun q hq => by
      rw [hin]
      unfold isIn
      congr 1 <;> rw [decide_eq_decide] <;> omega
    rw [this]; omega
  · rw [hsum, cnt_zero (l := persL u) fun q hq => ?_, Nat.add_zero, cnt_eq hot]
    · rw [cnt_range (fun k => decide (k ≤ m) && decide (m < ppl t + ppl u + k)) hix, List.length_append, hlen, show (List.range (ppl t - ppl u)).countP (fun k => decide (k ≤ m) && decide (m < ppl t + ppl u + k)) = (List.range (ppl t - ppl u)).countP (fun k => decide (m - (ppl t + ppl u) < k)) from List.countP_congr fun k hk => by
        have hk := List.mem_range.mp hk
        rw [decide_eq_true (show k ≤ m by omega), Bool.true_and]
        simp only [decide_eq_true_eq]; omega, cr_gt]
    · have := mom_lt' (piece_Ok hp ok) (pers_of hq) false
      rw [hin, decide_eq_false (show ¬ m < (ppl t - ppl u) + mom u q false by omega), Bool.and_false]
theorem halM_mem : ∀ {ts : List T} {u : T}, u ∈ ts → hal u ≤ halM ts
  | t :: ts, u, h => by
    rw [halM]
    rcases List.mem_cons.mp h with rfl | h
    · exact Nat.le_max_left _ _
    · exact Nat.le_trans (halM_mem h) (Nat.le_max_right _ _)
theorem hal_bes {t u : T} {i : Nat} (hI : intr t = false) (hp : piece t i = some u) : hal u ≤ hal t := by
  cases t with
  | one => cases hp
  | name x => cases hp
  | cop s n v =>
    obtain rfl : v = u := Option.some.inj hp
    obtain rfl : s = false := hI
    rw [show hal (.cop false n v) = hal v by rw [hal, if_neg (by simp)]]; exact Nat.le_refl _
  | row s ts =>
    obtain rfl : s = false := hI
    rw [show hal (.row false ts) = halM ts by rw [hal, if_neg (by simp)]]
    exact halM_mem (List.mem_of_getElem? (show ts[i]? = some u from hp))
theorem hal_max {t : T} (hI : intr t = false) (g : Good t) (hT : Told t) (h1 : isOneT t = false) : ∃ i u, i < cnt t ∧ piece t i = some u ∧ hal u = hal t := by
  cases t with
  | one => cases h1
  | name x => exact hT.elim
  | cop s n v =>
    obtain rfl : s = false := hI
    exact ⟨0, v, by rw [cnt_cop]; have := g.1; omega, rfl, by rw [hal, if_neg (by simp)]⟩
  | row s ts =>
    obtain rfl : s = false := hI
    have ex : ∀ {ts : List T}, ts ≠ [] → ∃ u ∈ ts, hal u = halM ts := by
      intro ts
      induction ts with
      | nil => intro h; exact absurd rfl h
      | cons t ts ih =>
        intro _
        rw [halM]
        cases ts with
        | nil => exact ⟨t, List.mem_cons_self, by rw [halM]; omega⟩
        | cons w r =>
          obtain ⟨u, hu, e⟩ := ih (by simp)
          by_cases h : hal t ≤ halM (w :: r)
          · exact ⟨u, List.mem_cons_of_mem _ hu, by omega⟩
          · exact ⟨t, List.mem_cons_self, by omega⟩
    obtain ⟨u, hu, e⟩ := ex (ts := ts) (fun e => by have := g.1; rw [e] at this; simp at this)
    obtain ⟨i, hi, rfl⟩ := List.getElem_of_mem hu
    exact ⟨i, ts[i], by rw [cnt_row]; exact hi, List.getElem?_eq_getElem hi, by rw [hal, if_neg (by simp)]; exact e⟩
/-- never more than the hall -/
theorem thr_le : ∀ (n : Nat) {t : T} {m : Nat}, ht t ≤ n → Ok t → m < 2 * ppl t → thr t m ≤ hal t := by
  intro n
  have one : ∀ {t : T} {m : Nat}, isOneT t = true → thr t m ≤ hal t := fun {t m} h => by
    cases t with
    | one =>
      unfold thr
      rw [persL, hal]
      exact List.countP_le_length
    | _ => cases h
  induction n with
  | zero =>
    intro t m hn ok hm
    cases h1 : isOneT t with
    | true => exact one h1
    | false =>
      obtain ⟨v, q, a1, a2, _⟩ := spotT_ok ok.2.1 h1 (ppl_pos ok.1)
      have := piece_ht a2; omega
  | succ n ih =>
    intro t m hn ok hm
    cases h1 : isOneT t with
    | true => exact one h1
    | false =>
    cases hI : intr t with
    | false =>
      obtain ⟨v, q, a1, a2, a3, a4, a5, a6⟩ := spotT_ok ok.2.1 h1 (show m / 2 < ppl t by omega)
      rw [thr_bes ok hI a1 a2 (by omega) (by omega)]
      exact Nat.le_trans (ih (by have := piece_ht a2; omega) (piece_Ok a2 ok) (by omega)) (hal_bes hI a2)
    | true =>
      obtain ⟨u, z1, z2, z3, _⟩ := pz_ok hI ok.1
      obtain ⟨b1, b2, b3⟩ := thr_int (m := m) ok hI z1 z2
      have oku := piece_Ok z2 ok
      have hl := hal_ok oku.1
      have hle := (piece_le' z2 ok.1).1
      by_cases c1 : m < ppl t - ppl u
      · rw [b1 c1]; omega
      by_cases c2 : m < ppl t + ppl u
      · have := ih (m := m - (ppl t - ppl u)) (by have := piece_ht z2; omega) oku (by omega)
        rw [b2 (by omega) c2]; omega
      · rw [b3 (by omega)]; omega
end PL
/-! DL20: sorted(set(a list of ints)); two comparisons in a row; `is not True`; a list that is changed no more. -/
namespace DL
open PySem PySem.Spec PyProof.Rows L2
abbrev eSet (w : World) : Obj := { cls := .type "set", dict := none, data := .set #[] 0 (.fresh 0 0 (!w.params.followText "set-order")) }
section
variable {P : Program} {w : World} {A : Around} {E : Value → Shared → Prop} {s : Shared}
theorem set_of_list {l : Addr} {its : Array Value} (ns : List Int) {Q : Value → Shared → Prop} (hh : A.handled = none) (hl : s.heap.IsList l its) (hit : IntsAre its.toList ns) (hb : ns.length + 1 < scanBound)
    (hQ : ∀ (h' : Heap) (tk c : Nat), SetR w h' s.heap.objs.size (fun j => decide (j ∈ ns)) c → c ≤ ns.length → (∀ b o, s.heap.get? b = some o → h'.get? b = some o) → Q (.ref s.heap.objs.size) { s with heap := h', toks := tk }) : wpAny (model P w) A (call (.type "set") [.ref l]) Q E s := by
  have size : its.size = ns.length := by have q := IntsAre.length hit; rwa [Array.length_toList] at q
  obtain ⟨c, tl, hmro⟩ := F.called_set.mro
  have f1 := F.called_set.made
  have f2 := F.called_set.sub
  have f3 := F.called_set.notType
  have f4 := F.called_set.canCreate
  have f5 := F.typeCall_set_1 (.ref l)
  refine wpAny_call (codeAny_of_tree (show wpAny _ _ (callAny (.type "set") _) _ _ _ from wpAny_pure ⟨Code.quiet_builtin _ (by decide +kernel), codeAny_builtin F.entry_type_call ?_⟩))
  rw [Around.under_plain (weight_type_call_type "set" [.ref l] []) rfl]
  repeat any_goals first | assumption | wp_step
  refine codeAny_mono (code_set_led1 (.ref l) (E := E) (Q₁ := fun x s1 => x = .ref s.heap.objs.size ∧ s1 = { s with heap := s.heap.push (eSet w) }) ⟨rfl, rfl⟩) fun r s1 hr => ?_
  cases r with
  | error e => exact hr
  | ok fl =>
    cases fl with
    | ret obj =>
      obtain ⟨rfl, rfl⟩ := hr
      have at0 : (s.heap.push (eSet w)).get? s.heap.objs.size = some (eSet w) := Heap.get?_push_size _ rfl
      have ty0 : Shared.TypeIs { s with heap := s.heap.push (eSet w) } (.ref s.heap.objs.size) "set" := ⟨_, at0, rfl⟩
      have g1 := F.called_set.init.lookup
      have g2 := F.called_set.init.bind (.ref s.heap.objs.size)
      repeat any_goals first | assumption | wp_step
      refine codeAny_mono (codeAny_call_builtin (R := wants (fun r s2 => r = .none ∧ ∃ h' tk c, s2 = { s with heap := h', toks := tk } ∧ SetR w h' s.heap.objs.size (fun j => decide (j ∈ ns)) c ∧ c ≤ ns.length ∧ (∀ b o, s.heap.get? b = some o → h'.get? b = some o)) E) F.called_set.init.plain F.entry_set_init (check_set_init_1 ty0 ?_)) fun r2 s2 hr2 => ?_
      · obtain ⟨ol, hol, hcl, nl, hdl⟩ := hl
        obtain ⟨c1, c2, c3, c4⟩ := ol
        simp only at hcl hdl
        subst hcl hdl
        have hol1 : (s.heap.push (eSet w)).get? l = some { cls := .type "list", dict := c2, data := .seq its nl, slots := c4 } := Heap.get?_push_of_some _ hol
        have k1 := F.sub_list_set
        have k2 := F.sub_list_frozenset
        have k3 : (Value.type "list" == Value.type "dict") = false := by decide
        have hl1 : (s.heap.push (eSet w)).IsList l its := ⟨_, hol1, rfl, nl, rfl⟩
        unfold Builtin.«set.__init__» noKeywords Builtin.Frozenset.updateFrom
        generalize hPI : pyIter = PI
        wp_walk
        subst hPI
        refine wpAny_pyIter_list hl1 (wpAny_bind (wpAny_runValue ?_))
        have ll : l < s.heap.objs.size := Heap.lt_size hol
        have hh3 : A.in1.in1.in1.handled = none := by simp [hh]
        have z1 : (s.heap.push (eSet w)).objs.size = s.heap.objs.size + 1 := Heap.size_push ..
        have ne1 : l ≠ (s.heap.push (eSet w)).objs.size := by rw [z1]; exact Nat.ne_of_lt (Nat.lt_succ_of_lt ll)
        have ne2 : s.heap.objs.size ∉ [(s.heap.push (eSet w)).objs.size, l] := by
          rw [z1]; simp only [List.mem_cons, List.not_mem_nil, or_false, not_or]; exact And.intro (Nat.ne_of_lt (Nat.lt_succ_self _)) (Nat.ne_of_gt ll)
        have vals : ∀ (i : Nat) (v : Value), its[i]? = some v → ∃ k t, ns[i]? = some k ∧ v = .int k t := fun i v hv => by
          have hi : i < ns.length := by rw [← size]; exact (Array.getElem?_eq_some_iff.mp hv).1
          obtain ⟨t, e⟩ := IntsAre.int_at hit i v (by rw [Array.getElem?_toList]; exact hv)
          exact ⟨ns[i], t, List.getElem?_eq_getElem hi, by rw [e, List.getD_eq_getElem?_getD, List.getElem?_eq_getElem hi]; rfl⟩
        refine set_update_ints ((Walks.list hh3 _ l ne1 its).toS) s.heap.objs.size ne2 ns size hb vals (its.size - 0) 0 _ (by omega) (Nat.zero_le _) ⟨⟨_, Heap.get?_push_size _ rfl, rfl, rfl⟩, (hl1.push _)⟩ ⟨0, Nat.le_refl 0, setR_new_at (Heap.get?_push_of_some _ at0)⟩ ?_
        intro s' c' hm hc' hS'
        obtain ⟨h', g', d', t', o'⟩ := s'
        have e1 : g' = s.gens := hm.gens
        have e2 : d' = s.drawn := hm.drawn
        have e3 : o' = s.os := hm.os
        subst e1 e2 e3
        rw [size] at hc'
        refine wpAny_pure (show wpAny _ _ (ret Value.none) _ _ _ from wpAny_pure ⟨rfl, h', t', c', rfl, hS', hc', fun b o e => ?_⟩)
        have b0 : b < s.heap.objs.size := Heap.lt_size e
        exact hm.heap b o (by rw [z1]; simp only [List.mem_cons, List.not_mem_nil, or_false, not_or]; exact And.intro (Nat.ne_of_lt b0) (Nat.ne_of_lt (Nat.lt_succ_of_lt b0))) (Heap.get?_push_of_some _ (Heap.get?_push_of_some _ e))
      · cases r2 with
        | error e => exact hr2
        | ok fl2 =>
          cases fl2 with
          | ret r =>
            obtain ⟨rfl, h', tk, c', rfl, q1, q2, q3⟩ := hr2
            repeat any_goals first | assumption | wp_step
            exact hQ _ _ _ q1 q2 q3
          | _ => exact hr2.elim
    | _ => exact hr.elim
end
section
variable {X : Cx} {ρ : Rho} {M : Mp} {Φ : D → Mp → Prop} {Θ : Bool → Mp → Prop} {Ψ : DE} {a b c e : Expr} {es : List Expr} {ss : List Stmt} {pos p p2 pos2 : Pos}
def rSetL (K : PySem.W.Frag) (w : World) : List V → Hp → VK → Prop := fun xs H Q => ∃ (l : Addr) (ns : List Int), xs = [V.ref l] ∧ SqL K H l (ns.map V.int) ∧ ns.length < 64 ∧ ∀ (p : Addr) (n : Nat), H p = none → n ≤ ns.length → Q (.ref p) (upd H p (SetO w p (fun j => decide (j ∈ ns)) n))
theorem cr_setL (hc : X.calm = true) : CallR X (.type "set") (rSetL X.K X.w) := by
  intro pins s σ H vs us Q I r h
  obtain ⟨l, ns, rfl, hq, hl, q⟩ := h
  rw [Vals.ref1 r]
  obtain ⟨its, rv, pl, hz⟩ := I.list hq
  refine set_of_list ns (I.ok.hd hc) pl.isList (by simpa using ints_of_vals rv) (by unfold scanBound; omega) fun h' tk n R hn k => ?_
  have fr : H s.heap.objs.size = none := I.hok.fresh (Nat.le_refl _)
  exact ⟨.ref s.heap.objs.size, _, I.laid k (Nat.le_refl _) (setO_new R), rfl, q _ _ fr hn⟩
/-- sorted(set(e)), e a list of ints -/
theorem we_sortedSetL (hm : X.mg "sorted" = none) (hm2 : X.mg "set" = none) (h : WE X ρ M e fun d M1 => ∃ ns : List Int, LstOf M1 d (ns.map D.int) ∧ ns.length < 63 ∧ ∀ ms : List Int, ms.Pairwise (· < ·) → (∀ k, k ∈ ms ↔ k ∈ ns) → Φ (.lst (ms.map D.int)) M1) (hc : X.calm = true := by rfl)
    (hg : Gl X "sorted" := by rfl) (hg2 : Gl X "set" := by rfl) (he : starEach [.Call (.Name "set" p2) [e] [] pos2] X.env = (false, eval (.Call (.Name "set" p2) [e] [] pos2) X.env) :: starEach [] X.env := by rfl) (hpl : (backTo pos (starEach [] X.env)).any (·.1) = false := by rfl)
    (he2 : starEach [e] X.env = (false, eval e X.env) :: starEach [] X.env := by rfl) (hpl2 : (backTo pos2 (starEach [] X.env)).any (·.1) = false := by rfl) : WE X ρ M (.Call (.Name "sorted" p) [.Call (.Name "set" p2) [e] [] pos2] [] pos) Φ := .mk fun {Z} σ H Q en w k =>
  eOf (pe_callB (cr_sortedSet hc) hg hm (by decide +kernel) (pa_cons (pe_callTy (cr_setL hc) hg2 hm2 (by decide +kernel) pa_sem (by decide) (by decide) he2 hpl2) pa_nil he) (by decide) (by decide) he hpl)
    ((wa_cons (ΦA := fun ds M2 => ∃ d, ∃ ns : List Int, ds = [d] ∧ LstOf M2 d (ns.map D.int) ∧ ns.length < 63 ∧ ∀ ms : List Int, ms.Pairwise (· < ·) → (∀ k, k ∈ ms ↔ k ∈ ns) → Φ (.lst (ms.map D.int)) M2) (h.imp fun d M1 ⟨ns, h1, h2, h3⟩ => wa_nil ⟨d, ns, rfl, h1, h2, h3⟩) he2).run σ H _ en w fun vs ds H1 M1 e1 w1 r1 hz => by
      obtain ⟨d, ns, rfl, hl, h63, hz⟩ := hz
      cases r1 with
      | cons r1 r2 =>
        cases r2
        obtain ⟨l, us, rfl, hq, rs⟩ := r1.asLst w1 hl
        obtain rfl := rs.ints
        refine ⟨l, ns, rfl, hq, by omega, fun q n hq0 hn => ⟨q, _, n, rfl, upd_same, by omega, fun ms q2 hs hm hlen hq2 => ?_⟩⟩
        have x1 := Ext.new (o := SetO X.w q (fun j => decide (j ∈ ns)) n) w1 hq0
        refine (k.step (e1.trans x1)).new (w1.new hq0) hq2 (.lst upd_same ((w1.new hq0).fresh hq2) (Reps.ofInts ms)) (hz ms hs fun k => ?_)
        rw [hm k]; exact decide_eq_true_iff)
end
end DL
/-! DL21: two comparisons in a row; `is not True`; a list that is changed no more. -/
namespace DL
open PySem PySem.Spec PyProof.Rows L2
section
variable {X : Cx} {ρ : Rho} {M : Mp} {Φ : D → Mp → Prop} {Θ : Bool → Mp → Prop} {Ψ : DE} {a b c e : Expr} {es : List Expr} {ss : List Stmt} {pos p p2 pos2 : Pos}
theorem we_leLe (h : WE X ρ M a fun x M1 => WE X ρ M1 b fun y M2 => ∃ i j, x = .int i ∧ y = .int j ∧ if i ≤ j then WE X ρ M2 c (fun z M3 => ∃ l, z = .int l ∧ Φ (.bl (decide (j ≤ l))) M3) else Φ (.bl false) M2) (hm : lastMarks [CmpOp.LtE, .LtE] [b, c] = false := by with_unfolding_all rfl) : WE X ρ M (.Compare a [.LtE, .LtE] [b, c] pos) Φ := .mk fun {Z} σ H Q en w k =>
  eOf (pe_chain op_le op_le pe_sem pe_sem pe_sem hm) (bind2 h en w fun v u x y H2 M2 e2 w2 r1 r2 hz => by
    obtain ⟨i, j, rfl, rfl, hz⟩ := hz
    cases r1; cases r2
    refine ⟨i, j, rfl, rfl, _, rfl, ?_⟩
    by_cases hij : i ≤ j
    · rw [decide_eq_true hij, if_pos rfl]
      rw [if_pos hij] at hz
      exact hz.run σ H2 _ (en.mono e2) w2 fun v3 d3 H3 M3 e3 w3 r3 hy => by
        obtain ⟨l, rfl, hy⟩ := hy
        cases r3
        exact ⟨j, l, rfl, rfl, (k.step (e2.trans e3)).now w3 (.bl _) hy⟩
    · rw [decide_eq_false hij, if_neg (by simp)]
      rw [if_neg hij] at hz
      exact (k.step e2).now w2 (.bl _) hz)
theorem op_notB : OpR X (compareOp .IsNot) (fun x y H Q => ∃ b c, x = .bl b ∧ y = .bl c ∧ Q (.bl (!(b == c))) H) := by
  intro pins s σ H x y v u Q I rx ry h
  obtain ⟨b, c, rfl, rfl, q⟩ := h
  cases (show v = Value.bool b from rx)
  cases (show u = Value.bool c from ry)
  refine wpAny_isNot_plain (by cases b <;> cases c <;> rfl) (fin_bl I q ?_)
  cases b <;> cases c <;> rfl
theorem wt_isNotT (h : WE X ρ M a fun x M1 => WE X ρ M1 b fun y M2 => ∃ b c, x = .bl b ∧ y = .bl c ∧ Θ (!(b == c)) M2) (hm : behindInMarks .IsNot b = false := by rfl) : WT X ρ M (.Compare a [.IsNot] [b] pos) Θ :=
  wt_cmp op_notB hm (h.imp fun _ _ h => h.imp fun _ _ hz Z v u H Q w r1 r2 k => by
    obtain ⟨x, y, rfl, rfl, hz⟩ := hz
    cases r1; cases r2
    exact ⟨x, y, rfl, rfl, k.now w (.bl _) ⟨_, rfl, hz⟩⟩)
/-- a list that is changed no more -/
theorem wss_fz {i : Nat} {q : Addr} {ds : List D} (hi : ρ[i]? = some (some (.ob q))) (hq : M q = some (.lst ds)) (h : WSs X (ρ.set i (some (.lst ds))) (mdel M q) ss Ψ) : WSs X ρ M ss Ψ := .mk fun {Z} σ H E en w k => by
  have l : Les (mdel M q) M := les_del
  obtain ⟨v, hv, r⟩ := en.get hi
  have r2 := Fz.rep (.lst hq mdel_same) l w r
  have en2 := (en.mono (l.ext w)).set r2 i
  have e : σ.set i (some v) = σ := by
    apply List.ext_getElem?
    intro j
    by_cases hj : i = j
    · subst hj
      rw [List.getElem?_set_self (List.getElem?_eq_some_iff.mp hv).1, hv]
    · rw [List.getElem?_set_ne hj]
  rw [e] at en2
  exact h.run σ H E en2 (l.w w) (k.step (l.ext w))
end
end DL
/-! DL31: min of pairs, o.f += e, a list in a field that is changed no more. -/
namespace DL
open PySem PySem.Spec PyProof.Rows L2
/-- p is not behind q -/
def ahP (p q : Int × Int) : Prop := p.1 < q.1 ∨ (p.1 = q.1 ∧ p.2 ≤ q.2)
theorem lt_two (p q : Int × Int) : PySem.W.dataLt (DL.prP p) (DL.prP q) = decide (p.1 < q.1 ∨ (p.1 = q.1 ∧ p.2 < q.2)) := PySem.W.dataLt_ii _ _ _ _
abbrev ltP (qs : List (Int × Int)) (i j : Nat) : Bool := PySem.W.dataLt ((qs.map DL.prP).getD i .none) ((qs.map DL.prP).getD j .none)
theorem least_top (qs : List (Int × Int)) : ∀ k, k < qs.length → ∃ q, qs[argBest (ltP qs) k]? = some q ∧ ∀ j r, j ≤ k → qs[j]? = some r → ahP q r
  | 0, h => ⟨qs[0], List.getElem?_eq_getElem h, fun j r hj hr => by
      obtain rfl : j = 0 := by omega
      rw [List.getElem?_eq_getElem h] at hr
      cases hr; exact .inr ⟨rfl, Int.le_refl _⟩⟩
  | k + 1, h => by
    obtain ⟨q, hq, hm⟩ := least_top qs k (by omega)
    have hk : qs[k + 1]? = some qs[k + 1] := List.getElem?_eq_getElem h
    have at_ : ∀ {i : Nat} {z : Int × Int}, qs[i]? = some z → (qs.map DL.prP).getD i .none = DL.prP z := fun {i z} hz => by
      rw [List.getD_eq_getElem?_getD, List.getElem?_map, hz]; rfl
    have hb : ltP qs (k + 1) (argBest (ltP qs) k) = decide (qs[k + 1].1 < q.1 ∨ (qs[k + 1].1 = q.1 ∧ qs[k + 1].2 < q.2)) := by
      show PySem.W.dataLt _ _ = _
      rw [at_ hk, at_ hq, lt_two]
    rw [argBest, hb]
    have tr : ∀ {x y z : Int × Int}, ahP x y → ahP y z → ahP x z := fun {x y z} h1 h2 => by unfold ahP at *; omega
    by_cases c : qs[k + 1].1 < q.1 ∨ (qs[k + 1].1 = q.1 ∧ qs[k + 1].2 < q.2)
    · rw [decide_eq_true c, if_pos rfl]
      have c2 : ahP qs[k + 1] q := by unfold ahP; omega
      refine ⟨qs[k + 1], hk, fun j r hj hr => ?_⟩
      by_cases z : j ≤ k
      · exact tr c2 (hm j r z hr)
      · obtain rfl : j = k + 1 := by omega
        rw [hk] at hr
        cases hr; exact .inr ⟨rfl, Int.le_refl _⟩
    · rw [decide_eq_false c, if_neg (by simp)]
      have c2 : ahP q qs[k + 1] := by unfold ahP; omega
      refine ⟨q, hq, fun j r hj hr => ?_⟩
      by_cases z : j ≤ k
      · exact hm j r z hr
      · obtain rfl : j = k + 1 := by omega
        rw [hk] at hr
        cases hr; exact c2
def rMinP (K : PySem.W.Frag) : List V → Hp → VK → Prop := fun vs H Q => ∃ (a : Addr) (us : List V) (qs : List (Int × Int)), vs = [V.ref a] ∧ SqL K H a us ∧ DpAll K H us (qs.map DL.prP) ∧ qs ≠ [] ∧ ∀ (i : Nat) (u : V) (q : Int × Int), us[i]? = some u → qs[i]? = some q → (∀ r ∈ qs, ahP q r) → Q u H
section
variable {X : Cx} {ρ : Rho} {M : Mp} {Φ : D → Mp → Prop} {Ψ : DE} {a b e o : Expr} {es : List Expr} {pos p apos : Pos} {ss : List Stmt}
theorem cr_minP (hc : X.calm = true) (hu : X.A.units + 64 < cLine) : CallR X (.builtin "min") (rMinP X.K) := by
  intro pins s σ H vs us Q I r h
  obtain ⟨l, ws, qs, rfl, hq, hd, hne, q⟩ := h
  have hh := I.ok.hd hc
  have h0 := List.length_pos_iff.mpr hne
  rw [Vals.ref1 r]
  obtain ⟨its, rv, pl, _⟩ := I.list hq
  obtain ⟨as, hr⟩ := Dp.readsAll I _ ws its hd rv
  have hr' : ReadsAll s.heap its.toArray.toList (qs.map DL.prP) as := by simpa using hr
  have hn := PySem.W.readsAll_len hr'
  rw [List.length_map] at hn
  refine PySem.call_min_walkH (PySem.W.iter_listW (A := X.A.in1) hh pl.isList fun s2 e W st hfp hw hk => ?_)
  refine ⟨_, _, _, _, _, _, _, s.heap, _, rfl, W, st, hfp, by omega, hw, hk, PySem.W.cmpIn_lt (A := X.A.in1) hr' ⟨fun x hx y hy => ?_, fun x hx => ?_⟩ ?_, fun v s' hP m => ?_⟩
  · obtain ⟨_, _, rfl⟩ := List.mem_map.mp hx
    obtain ⟨_, _, rfl⟩ := List.mem_map.mp hy
    simp [PySem.W.alike, PySem.W.alikeAll]
  · obtain ⟨_, _, rfl⟩ := List.mem_map.mp hx
    simp
  · have := depth_pairs qs
    show X.A.units + 1 + _ < _
    omega
  · obtain ⟨h', tk, rfl, hk'⟩ := PySem.W.moved_old e rfl m
    obtain ⟨qq, hqq, htop⟩ := least_top qs (its.toArray.size - 1) (by omega)
    have hv : its[argBest (ltP qs) (its.toArray.size - 1)]? = some v := by
      rw [← List.getElem?_toArray]; exact hP
    obtain ⟨hi, _⟩ := List.getElem?_eq_some_iff.mp hv
    rw [← rv.length] at hi
    obtain ⟨v', hv', hu2⟩ := rv.get (List.getElem?_eq_getElem hi)
    rw [hv] at hv'
    cases hv'
    refine ⟨_, H, I.kept hk', hu2, q _ _ qq (List.getElem?_eq_getElem hi) hqq fun r hr => ?_⟩
    obtain ⟨j, hj, rfl⟩ := List.getElem_of_mem hr
    exact htop j _ (by omega) (List.getElem?_eq_getElem hj)
theorem we_minP (hm : X.mg "min" = none) (hu : X.A.units + 64 < cLine) (h : WE X ρ M e fun d M1 => ∃ qs : List (Int × Int), LstOf M1 d (qs.map DL.prD) ∧ qs ≠ [] ∧ ∀ q ∈ qs, (∀ r ∈ qs, ahP q r) → Φ (DL.prD q) M1) (hc : X.calm = true := by rfl) (hg : Gl X "min" := by rfl)
    (he : starEach [e] X.env = (false, eval e X.env) :: starEach [] X.env := by rfl) (hpl : (backTo pos (starEach [] X.env)).any (·.1) = false := by rfl) : WE X ρ M (.Call (.Name "min" p) [e] [] pos) Φ :=
  we_callB (cr_minP hc hu) hm (by decide +kernel) (wa_cons (h.imp fun d M1 hz => wa_nil fun Z vs H Q w rr k => by
    obtain ⟨qs, hl, h0, hz⟩ := hz
    obtain ⟨v1, rfl, r1⟩ := rr.one
    obtain ⟨q, us, rfl, hq, rs⟩ := r1.asLst w hl
    have hp : toPys (qs.map DL.prD) = some (qs.map DL.prP) := (cmps_map (f := DL.prD) (g := DL.prP) (k := 1) (Nat.le_refl _) fun x _ => cmp_tup (cmps_cons (cmp_int _) (Nat.le_refl _) (cmps_cons (cmp_int _) (Nat.le_refl _) cmps_nil))).eq
    refine ⟨q, us, qs, rfl, hq, rs.dp hp, h0, fun i u x hu hx ht => ?_⟩
    have hx2 : (qs.map DL.prD)[i]? = some (DL.prD x) := by rw [List.getElem?_map, hx]; rfl
    obtain ⟨u', e1, ru⟩ := rs.get hx2
    rw [hu] at e1; cases e1
    exact k.now w ru (hz x (List.mem_of_getElem? hx) ht)) he) hg (he := he) (hpl := hpl)
/-! ### o.f += e -/
theorem ws_augF {f : Str} {C : Addr} {tpos : Pos} (h : WE X ρ M o fun x M1 => ∃ a fs i, x = .ob a ∧ M1 a = some (.ins C fs) ∧ Cls X.K C ∧ NoAttr X.K C f ∧ fs.lookup f = some (.int i) ∧ WE X ρ M1 e fun y M2 => ∃ j fs2, y = .int j ∧ M2 a = some (.ins C fs2) ∧ fs2.length < 1000 ∧ Ψ.nx ρ (mset M2 a (.ins C (putD f (.int (i + j)) fs2)))) : WS X ρ M (.AugAssign (.Attribute o f tpos) .Add e pos) Ψ := .mk fun {Z} σ H E en w k =>
  sOf (ps_fldaug pe_sem pe_sem in_add) (h.run σ H _ en w fun v d H1 M1 e1 w1 r1 hz => by
    obtain ⟨a, fs, i, rfl, hM, cl, na, hlk, hz⟩ := hz
    cases r1
    obtain ⟨dx, vs, ha, rf⟩ := w1.1 a _ hM
    obtain ⟨v, hv, rv⟩ := (rf.lookup f).2 _ hlk
    refine ⟨a, C, dx, vs, v, rfl, ha, cl, na, hv, ?_⟩
    refine hz.run σ H1 _ (en.mono e1) w1 fun u y H2 M2 e2 w2 r2 hz2 => ?_
    obtain ⟨j, fs2, rfl, hM2, hl, hz2⟩ := hz2
    cases rv
    cases r2
    obtain ⟨dx2, vs2, ha2, rf2⟩ := w2.1 a _ hM2
    refine ⟨i, j, rfl, rfl, dx2, vs2, ha2, by rw [rf2.length]; exact hl, ?_⟩
    have x3 : Ext M2 Z H2 (mset M2 a (.ins C (putD f (.int (i + j)) fs2))) (upd H2 a (.ins C dx2 (putF f (.int (i + j)) vs2))) := Ext.put w2 hM2
    have x4 := (e1.trans e2).trans x3
    exact k.nx σ ρ _ _ x4 (w2.put hM2 ⟨dx2, _, upd_same, RepF.put (.int _) (rf2.mono x3)⟩) (en.mono x4) hz2)
/-! ### fields, some objects let go -/
inductive FzF (M M' : Mp) : List (Str × D) → List (Str × D) → Prop where
  | nil : FzF M M' [] []
  | cons {k : Str} {d d' : D} {r r' : List (Str × D)} : Fz M M' d d' → FzF M M' r r' → FzF M M' ((k, d) :: r) ((k, d') :: r')
theorem FzF.rep {K : PySem.W.Frag} {M M' : Mp} {Z : Zn} {H : Hp} (l : Les M' M) (w : Wd K M Z H) : ∀ {vs : List (Str × V)} {fs fs' : List (Str × D)}, FzF M M' fs fs' → RepF K M Z H vs fs → RepF K M' Z H vs fs'
  | _, _, _, .nil, .nil => .nil
  | _, _, _, .cons f t, .cons r u => .cons (f.rep l w r) (FzF.rep l w t u)
theorem upd_self {H : Hp} {a : Addr} {u : HO} (h : H a = some u) : upd H a u = H := by
  funext b
  unfold upd
  split
  · rename_i e; rw [e, h]
  · rfl
theorem wss_insFz {x C : Addr} {fs fs' : List (Str × D)} {M1 : Mp} (ha : M x = some (.ins C fs)) (l : Les M1 M) (h1 : M1 x = some (.ins C fs)) (f : FzF M M1 fs fs') (h : WSs X ρ (mset M1 x (.ins C fs')) ss Ψ) : WSs X ρ M ss Ψ := .mk fun {Z} σ H E en w k => by
  obtain ⟨dx, vs, hx, rf⟩ := w.1 x _ ha
  have w1 := l.w w
  have rf1 := f.rep l w rf
  have x2 : Ext M1 Z H (mset M1 x (.ins C fs')) (upd H x (.ins C dx vs)) := Ext.put w1 h1
  have w2 := w1.put h1 (u := .ins C fs') (o := .ins C dx vs) ⟨dx, vs, upd_same, rf1.mono x2⟩
  rw [upd_self hx] at x2 w2
  have x3 := (l.ext w).trans x2
  exact h.run σ H E (en.mono x3) w2 (k.step x3)
end
end DL
/-! E70: Crowd. -/
namespace W
open PySem PySem.Spec PyProof.Rows L2 DL SX PL SlX
theorem atI_last {α : Type} (l : List α) (x : α) : atI (l ++ [x]) (-1) = some x := by
  unfold atI ixN
  simp
  rw [if_pos (by omega), show (-1 + ((l.length : Int) + 1)).toNat = l.length by omega]
  simp
theorem per_cons (i : Nat) (p : List Nat) : perD (i :: p) = .tup (.int (i : Nat) :: p.map fun (j : Nat) => D.int (j : Nat)) := rfl
def tot (ps : List (Nat × T)) : Nat := (ps.map fun q => ppl q.2).sum
/-- rows (people ahead, number, part) -/
def mkB : Nat → List (Nat × T) → List (Nat × Nat × T)
  | _, [] => []
  | a, q :: r => (a, q.1, q.2) :: mkB (a + ppl q.2) r
theorem tot_app (l r : List (Nat × T)) : tot (l ++ r) = tot l + tot r := by unfold tot; rw [List.map_append, List.sum_append]
theorem tot_cons (q : Nat × T) (r : List (Nat × T)) : tot (q :: r) = ppl q.2 + tot r := by unfold tot; rw [List.map_cons, List.sum_cons]
theorem mkB_app : ∀ (a : Nat) (l r : List (Nat × T)), mkB a (l ++ r) = mkB a l ++ mkB (a + tot l) r
  | a, [], r => by simp [mkB, tot]
  | a, q :: l, r => by
    rw [List.cons_append, mkB, mkB, mkB_app (a + ppl q.2) l r, tot_cons, List.cons_append, Nat.add_assoc]
theorem mkB_mem : ∀ {a : Nat} {l : List (Nat × T)} {x : Nat × Nat × T}, x ∈ mkB a l → a ≤ x.1 ∧ x.1 ≤ a + tot l ∧ (x.2.1, x.2.2) ∈ l
  | a, [], x, h => by cases h
  | a, q :: l, x, h => by
    rw [mkB] at h
    rw [tot_cons]
    rcases List.mem_cons.mp h with rfl | h
    · exact ⟨Nat.le_refl _, Nat.le_add_right _ _, List.mem_cons_self⟩
    · obtain ⟨h1, h2, h3⟩ := mkB_mem h
      exact ⟨by omega, by omega, List.mem_cons_of_mem _ h3⟩
theorem mkB_len : ∀ (a : Nat) (l : List (Nat × T)), (mkB a l).length = l.length
  | a, [] => rfl
  | a, q :: l => by rw [mkB, List.length_cons, List.length_cons, mkB_len]
theorem mkB_snoc {ps : List (Nat × T)} {i : Nat} {q : Nat × T} (h : ps[i]? = some q) : mkB 0 (ps.take (i + 1)) = mkB 0 (ps.take i) ++ [(tot (ps.take i), q.1, q.2)] := by
  rw [take_snoc h, mkB_app, Nat.zero_add]; rfl
theorem tot_snoc {ps : List (Nat × T)} {i : Nat} {q : Nat × T} (h : ps[i]? = some q) : tot (ps.take (i + 1)) = tot (ps.take i) + ppl q.2 := by
  rw [take_snoc h, tot_app, tot_cons]; simp [tot]
theorem blk_le {l1 l2 : List (Nat × T)} {q : Nat × T} {m : Nat} (h1 : tot l1 ≤ m) (h2 : m < tot l1 + ppl q.2) : (mkB 0 (l1 ++ q :: l2)).filter (fun x => decide (x.1 ≤ m)) = mkB 0 l1 ++ [(tot l1, q.1, q.2)] := by
  rw [mkB_app, Nat.zero_add, mkB, List.filter_append, List.filter_cons, decide_eq_true (show (tot l1, q.1, q.2).1 ≤ m from h1), if_pos rfl]
  rw [List.filter_eq_self.mpr fun x hx => decide_eq_true (by have := (mkB_mem hx).2.1; omega), List.filter_eq_nil_iff.mpr fun x hx => by
    have := (mkB_mem hx).1
    simp only [decide_eq_true_eq]; omega]
theorem blk_eq {l1 l2 : List (Nat × T)} {q : Nat × T} (h : ∀ x ∈ l1, x.1 ≠ q.1) : ∃ r, (mkB 0 (l1 ++ q :: l2)).filter (fun x => decide (x.2.1 = q.1)) = (tot l1, q.1, q.2) :: r := by
  rw [mkB_app, Nat.zero_add, mkB, List.filter_append, List.filter_cons, decide_eq_true (show (tot l1, q.1, q.2).2.1 = q.1 from rfl), if_pos rfl]
  rw [List.filter_eq_nil_iff.mpr fun x hx => by
    have := h _ (mkB_mem hx).2.2
    simpa using this]
  exact ⟨_, rfl⟩
def blkD (C : Addr) (x : Nat × Nat × T) : D := .tup [.int (x.1 : Nat), .int (x.2.1 : Nat), planD C x.2.2]
def crwF (C : Addr) (ps : List (Nat × T)) : List (Str × D) := [("own_blocks", .lst ((mkB 0 ps).map (blkD C))), ("own_people", .int (tot ps : Nat))]
def crwD (C R : Addr) (ps : List (Nat × T)) : D := .ins R (crwF C ps)
theorem lk_blocks {a b : D} : List.lookup ("own_blocks" : Str) [("own_blocks", a), ("own_people", b)] = some a := lk_hit
theorem lk_wpeople {a b : D} : List.lookup ("own_people" : Str) [("own_blocks", a), ("own_people", b)] = some b := by rw [lk_miss (by decide +kernel), lk_hit]
theorem insW {M : Mp} {C R : Addr} {ps : List (Nat × T)} : InsOf M R (crwD C R ps) (crwF C ps) := ⟨rfl, rfl⟩
theorem filt_snocG {α : Type} {f : α → Bool} {l : List α} {j : Nat} {z : α} (h : l[j]? = some z) : (l.take (j + 1)).filter f = (l.take j).filter f ++ if f z = true then [z] else [] := by
  rw [take_snoc h, List.filter_append]
  congr 1
  rw [List.filter_cons]
  split <;> rfl
/-- what the written part says of Crowd -/
structure Wx (K : PySem.W.Frag) (mg : Str → Option Value) (R : Addr) : Prop where
  at_ : mg "Crowd" = some (.ref R)
  cl : Cls K R
  na : ∀ f, f ∈ (["own_blocks", "own_people"] : List Str) → NoAttr K R f
  init : ∃ f, Mk K R f ∧ Md K R "__init__" "Crowd.__init__" s_Crowd___init__ f
  ats : ∃ f, Meth K R "at" f ∧ Md K R "at" "Crowd.at" s_Crowd_at f
  num : ∃ f, Meth K R "number_of" f ∧ Md K R "number_of" "Crowd.number_of" s_Crowd_number_of f
section
variable {P : Program} {w : World} {K : PySem.W.Frag} {mg : Str → Option Value} {base : Heap} {C G R : Addr}
abbrev nmD (C : Addr) (q : Nat × T) : D := .tup [.int (q.1 : Nat), planD C q.2]
def cWInit (C R : Addr) : Con := fun ds M Φ => ∃ a ps, ds = [.ob a, .lst (ps.map (nmD C))] ∧ (∀ q ∈ ps, Ok q.2) ∧ ps.length ≤ 100000 ∧ M a = some (.ins R []) ∧ Φ .non (mset M a (.ins R (crwF C ps)))
abbrev nWInit : List Str := ["self", "parts", "number", "part"]
theorem ok_winit (X : Wx K mg R) (F1 : Pc P w K mg base C "people" 1 (cGet C fun t => .int (ppl t : Nat))) : BodyOk P w K mg base "Crowd.__init__" s_Crowd___init__ nWInit 2 2 (cWInit C R) := by
  intro f cdv A outer s H E hr ds M Φ hl hc
  obtain ⟨a, ps, rfl, hok, hlen, hM, hc⟩ := hc
  have nd : nWInit.Nodup := by decide +kernel
  have hX1 := X.na "own_blocks" (by simp)
  have hX2 := X.na "own_people" (by simp)
  refine wss_cons (ws_fld (C := R) (we_lstM (wa_nil ⟨Nat.zero_le _, fun q hq => ?_⟩)))
  have haq : a ≠ q := fun e => by rw [← e, hM] at hq; cases hq
  refine we_var 0 rfl ⟨a, [], rfl, by rw [mset_ne haq]; exact hM, X.cl, hX1, by decide, ?_⟩
  refine wss_cons (ws_fld (C := R) (we_int (we_var 0 rfl ⟨a, _, rfl, mset_same, X.cl, hX2, by simp [putD], ?_⟩)))
  rw [mset_mset]
  refine wss_cons (ws_for PassesOwn.never (wi_list (we_var 1 rfl ⟨_, .inl rfl, ?_⟩)))
  have inst : ∀ (x : List D) (n : Nat), (mset (mset M q (.lst x)) a (.ins R [("own_blocks", .ob q), ("own_people", .int (n : Nat))])) q = some (.lst x) := fun x n => by rw [mset_ne (fun e => haq e.symm)]; exact mset_same
  refine ⟨fun i ρ' M' => ∃ o2 o3, ρ' = [some (.ob a), some (.lst (ps.map (nmD C))), o2, o3] ∧ M' = mset (mset M q (.lst ((mkB 0 (ps.take i)).map (blkD C)))) a (.ins R [("own_blocks", .ob q), ("own_people", .int (tot (ps.take i) : Nat))]), ⟨none, none, rfl, rfl⟩, ?_, ?_⟩
  · rintro i x ρ' M' hx ⟨o2, o3, rfl, rfl⟩
    rw [List.getElem?_map] at hx
    obtain ⟨z, hz, rfl⟩ := Option.map_eq_some_iff.mp hx
    have okz := hok z (List.mem_of_getElem? hz)
    have hil := (List.getElem?_eq_some_iff.mp hz).1
    refine wg_tup ⟨rfl, rfl, wgs_cons (wg_name 2 (wgs_cons (wg_name 3 (wgs_nil ⟨rfl, ?_⟩) nd)) nd)⟩
    refine wss_cons (ws_expr (we_append (we_fld (C := R) (we_var 0 rfl ⟨_, _, mset_same, X.cl, hX1, lk_blocks, q, _, rfl, inst _ _, we_tup (wa_cons (we_fld (C := R) (we_var 0 rfl ⟨_, _, mset_same, X.cl, hX2, lk_wpeople, wa_cons (we_var 2 rfl (wa_cons (we_var 3 rfl (wa_nil ⟨sz3, _, inst _ _, ?_, ?_⟩))))⟩)))⟩))))
    · rw [List.length_map, mkB_len, List.length_take, sizeLine_eq]; omega
    refine wss_cons (ws_augF (C := R) (we_var 0 rfl ⟨a, _, _, rfl, by rw [mset_ne haq]; exact mset_same, X.cl, hX2, lk_wpeople, we_prop F1 (hr.mono (by decide)) (we_var 3 rfl ⟨_, insP okz.2.1, z.2, rfl, okz, _, _, rfl, by rw [mset_ne haq]; exact mset_same, by simp, ?_⟩)⟩))
    refine wss_nil ⟨_, _, rfl, ?_⟩
    rw [mkB_snoc hz, tot_snoc hz, List.map_append]
    show mset (mset (mset (mset M q _) a _) q _) a _ = _
    rw [mset_comm (p := q) (q := a) (fun e => haq e.symm), mset_mset, mset_mset]
    show _ = mset _ a (.ins R [("own_blocks", .ob q), ("own_people", .int ((tot (ps.take i) + ppl z.2 : Nat) : Int))])
    rw [Int.natCast_add]
    congr 1
  · rintro ρ' M' ⟨o2, o3, rfl, rfl⟩
    rw [List.length_map, List.take_length]
    refine wss_insFz (x := a) (C := R) (M1 := mset M a (.ins R [("own_blocks", .ob q), ("own_people", .int (tot ps : Nat))])) mset_same (fun b => ?_) mset_same (.cons (.lst (inst _ _) (by rw [mset_ne (fun e => haq e.symm)]; exact hq)) (.cons (.same _) .nil)) ?_
    · by_cases e1 : b = a
      · subst e1; exact .inl (by rw [mset_same, mset_same])
      · rw [mset_ne e1, mset_ne e1]
        by_cases e2 : b = q
        · subst e2; exact .inr hq
        · exact .inl (by rw [mset_ne e2])
    rw [mset_mset]
    exact wss_nil hc
theorem we_crowd {X : Cx} {ρ : Rho} {M : Mp} {Φ : D → Mp → Prop} {e : Expr} {p pos : Pos} {k : Nat} (F : Kc X.prog X.w X.K X.mg X.base "Crowd" R [] k 2 (cWInit C R)) (hr : Room (k + 1) X.A)
    (q : WE X ρ M e fun d M1 => ∃ ps, d = .lst (ps.map (nmD C)) ∧ (∀ q ∈ ps, Ok q.2) ∧ ps.length ≤ 100000 ∧ Φ (crwD C R ps) M1) (hg : Gl X "Crowd" := by rfl)
    (he : starEach [e] X.env = (false, eval e X.env) :: starEach [] X.env := by rfl) (hpl : (backTo pos (starEach [] X.env)).any (·.1) = false := by rfl) : WE X ρ M (.Call (.Name "Crowd" p) [e] [] pos) Φ :=
  we_make F hr (wa_cons (q.imp fun d M1 ⟨ps, e1, h1, h2, h3⟩ => wa_nil fun a ha => ⟨rfl, a, ps, by rw [e1]; rfl, h1, h2, mset_same, rfl, by
    rw [mset_mset]
    exact ⟨_, M1, les_new ha, .ins mset_same ha, h3⟩⟩) he) hg (he := he) (hpl := hpl)
/-! ### at, number_of -/
def cWAt (C R : Addr) : Con := fun ds M Φ => ∃ l1 l2 q m p, ds = [crwD C R (l1 ++ q :: l2), .int (m : Nat)] ∧ Ok q.2 ∧ ppl q.2 ≤ 10 ^ 40 ∧ ht q.2 ≤ 60 ∧ (l1 ++ q :: l2).length ≤ 100000 ∧ tot l1 ≤ m ∧ m < tot l1 + ppl q.2 ∧ (persL q.2)[m - tot l1]? = some p ∧ Φ (perD (q.1 :: p)) M
abbrev nWAt : List Str := ["self", "number", "ahead", "at", "part", "block"]
theorem ok_wat (X : Wx K mg R) (F1 : Fc P w K mg base "nth_person" [] 3 2 (cNth C)) : BodyOk P w K mg base "Crowd.at" s_Crowd_at nWAt 2 3 (cWAt C R) := by
  intro f cdv A outer s H E hr ds M Φ hl hc
  obtain ⟨l1, l2, q, m, p, rfl, ok, h40, h60, hlen, h1, h2, hp, hc⟩ := hc
  have nd : nWAt.Nodup := by decide +kernel
  have hX1 := X.na "own_blocks" (by simp)
  obtain ⟨ps, hps⟩ : ∃ ps, ps = l1 ++ q :: l2 := ⟨_, rfl⟩
  rw [← hps] at hlen ⊢
  refine wss_cons (ws_asg (we_ix (we_lc nd (blkOk_by (N := nWAt) (sc := defScope s_Crowd_at) (own := [("block", 5)]) (by decide +kernel)) (fun _ _ _ _ _ => pg_name (i := 5) nd rfl (Or.inl rfl)) (gt_name (by decide)) pt_blk tk_one (wi_list (we_fld (C := R) (we_var 0 rfl ⟨_, _, insW, X.cl, hX1, lk_blocks, _, .inl rfl, ?_⟩))))))
  refine ⟨by rw [List.length_map, mkB_len, sizeLine_eq]; omega, fun j acc M' => M' = M ∧ acc = (((mkB 0 ps).take j).filter fun x => decide (x.1 ≤ m)).map (blkD C), ⟨rfl, rfl⟩, ?_, ?_⟩
  · rintro j y acc M' hy ⟨hM, rfl⟩
    obtain rfl : M = M' := hM.symm
    rw [List.getElem?_map] at hy
    obtain ⟨z, hz, rfl⟩ := Option.map_eq_some_iff.mp hy
    intro s' H' C' cl' fp'
    refine wt_leI (we_ix (we_var 5 rfl (we_int ⟨((0 : Nat) : Int), _, rfl, ixT (atI_nat (j := 0) rfl), we_var 1 rfl ⟨_, _, rfl, rfl, ?_⟩⟩)))
    by_cases c : z.1 ≤ m
    · rw [decide_eq_true (show ((z.1 : Nat) : Int) ≤ (m : Nat) by omega)]
      intro s' H' C' cl' fp'
      refine we_var 5 rfl ⟨rfl, ?_⟩
      rw [filt_snocG hz, decide_eq_true c, if_pos rfl, List.map_append]; rfl
    · rw [decide_eq_false (show ¬ ((z.1 : Nat) : Int) ≤ (m : Nat) by omega)]
      exact ⟨rfl, by rw [filt_snocG hz, decide_eq_false c]; simp⟩
  rintro acc M' ⟨hM, rfl⟩
  obtain rfl : M = M' := hM.symm
  rw [List.length_map, List.take_length, hps, blk_le h1 h2, List.map_append]
  refine we_negI (we_int ⟨_, rfl, -1, _, rfl, ixL (atI_last _ _), ?_⟩)
  refine wg_tup ⟨rfl, rfl, wgs_cons (wg_name 2 (wgs_cons (wg_name 3 (wgs_cons (wg_name 4 (wgs_nil ⟨rfl, ?_⟩) nd)) nd)) nd)⟩
  refine wss_cons (ws_ret (we_tup (wa_cons (we_var 3 rfl (wa_star (we_call F1 (hr.mono (by decide)) (wa_cons (we_var 4 rfl (wa_cons (we_subI (we_var 1 rfl (we_var 2 rfl ⟨_, _, rfl, rfl, wa_nil ⟨rfl, q.2, m - tot l1, p, ?_, ok, h40, h60, hp, _, .inr rfl, wa_nil fun ys e => ?_⟩⟩))))))))))))
  · rw [show ((m : Nat) : Int) - ((tot l1, q.1, q.2).1 : Nat) = ((m - tot l1 : Nat) : Int) by show ((m : Nat) : Int) - (tot l1 : Nat) = _; omega]; rfl
  subst e
  have hpl := pers_ht (pers_is _ (Nat.le_refl _) (List.mem_of_getElem? hp))
  refine ⟨?_, Lets.of ?_⟩
  · rw [List.append_nil, List.length_cons, List.length_map, sizeLine_eq]; omega
  · rw [List.append_nil]; exact hc
def cWNum (C R : Addr) : Con := fun ds M Φ => ∃ l1 l2 q p l, ds = [crwD C R (l1 ++ q :: l2), perD (q.1 :: p)] ∧ Ok q.2 ∧ (l1 ++ q :: l2).length ≤ 100000 ∧ (∀ x ∈ l1, x.1 ≠ q.1) ∧ (persL q.2)[l]? = some p ∧ Φ (.int ((tot l1 + l : Nat) : Int)) M
abbrev nWNum : List Str := ["self", "person", "ahead", "at", "part", "block"]
theorem ok_wnum (X : Wx K mg R) (F1 : Fc P w K mg base "place_of" [] 2 2 (cPlace C)) : BodyOk P w K mg base "Crowd.number_of" s_Crowd_number_of nWNum 2 3 (cWNum C R) := by
  intro f cdv A outer s H E hr ds M Φ hl hc
  obtain ⟨l1, l2, q, p, l, rfl, ok, hlen, h1, hp, hc⟩ := hc
  have nd : nWNum.Nodup := by decide +kernel
  have hX1 := X.na "own_blocks" (by simp)
  have p0 : ∀ M : Mp, IxD M (perD (q.1 :: p)) 0 (.int (q.1 : Nat)) := fun M => ixT (atI_nat (j := 0) rfl)
  obtain ⟨ps, hps⟩ : ∃ ps, ps = l1 ++ q :: l2 := ⟨_, rfl⟩
  obtain ⟨r, hr1⟩ := blk_eq (l2 := l2) h1
  rw [← hps] at hlen hr1 ⊢
  refine wss_cons (ws_asg (we_ix (we_lc nd (blkOk_by (N := nWNum) (sc := defScope s_Crowd_number_of) (own := [("block", 5)]) (by decide +kernel)) (fun _ _ _ _ _ => pg_name (i := 5) nd rfl (Or.inl rfl)) (gt_name (by decide)) pt_blk tk_one (wi_list (we_fld (C := R) (we_var 0 rfl ⟨_, _, insW, X.cl, hX1, lk_blocks, _, .inl rfl, ?_⟩))))))
  refine ⟨by rw [List.length_map, mkB_len, sizeLine_eq]; omega, fun j acc M' => M' = M ∧ acc = (((mkB 0 ps).take j).filter fun x => decide (x.2.1 = q.1)).map (blkD C), ⟨rfl, rfl⟩, ?_, ?_⟩
  · rintro j y acc M' hy ⟨hM, rfl⟩
    obtain rfl : M = M' := hM.symm
    rw [List.getElem?_map] at hy
    obtain ⟨z, hz, rfl⟩ := Option.map_eq_some_iff.mp hy
    intro s' H' C' cl' fp'
    refine wt_eqS (we_ix (we_var 5 rfl (we_int ⟨((1 : Nat) : Int), _, rfl, ixT (atI_nat (j := 1) rfl), we_ix (we_var 1 rfl (we_int ⟨0, _, rfl, p0 _, _, rfl, ?_⟩))⟩)))
    by_cases c : z.2.1 = q.1
    · rw [decide_eq_true (show ((z.2.1 : Nat) : Int) = (q.1 : Nat) by omega)]
      intro s' H' C' cl' fp'
      refine we_var 5 rfl ⟨rfl, ?_⟩
      rw [filt_snocG hz, decide_eq_true c, if_pos rfl, List.map_append]; rfl
    · rw [decide_eq_false (show ¬ ((z.2.1 : Nat) : Int) = (q.1 : Nat) by omega)]
      exact ⟨rfl, by rw [filt_snocG hz, decide_eq_false c]; simp⟩
  rintro acc M' ⟨hM, rfl⟩
  obtain rfl : M = M' := hM.symm
  rw [List.length_map, List.take_length, hr1, List.map_cons]
  refine we_int ⟨((0 : Nat) : Int), _, rfl, ixL (atI_nat (j := 0) rfl), ?_⟩
  refine wg_tup ⟨rfl, rfl, wgs_cons (wg_name 2 (wgs_cons (wg_name 3 (wgs_cons (wg_name 4 (wgs_nil ⟨rfl, ?_⟩) nd)) nd)) nd)⟩
  refine wss_cons (ws_ret (we_addI (we_var 2 rfl (we_call F1 (hr.mono (by decide)) (wa_cons (we_var 4 rfl (wa_cons (we_slice (we_var 1 rfl (we_int ⟨1, rfl, _, .inr (.inl ⟨_, rfl, rfl⟩), wa_nil ⟨rfl, q.2, p, l, ?_, ok, hp, _, _, rfl, rfl, Lets.of ?_⟩⟩))))))))))
  · rw [List.map_cons, cut_tail]; rfl
  · rw [show ((tot l1 + l : Nat) : Int) = ((tot l1 : Nat) : Int) + (l : Nat) by omega] at hc
    exact hc
end
end W
/-! PM21: lines of people: what a line keeps; one person; copies that are introduced. -/
namespace PL
open PySem SX TL
theorem pers_in1 {t u : T} {i : Nat} {p : List Nat} (hi : i < cnt t) (hp : piece t i = some u) (hu : isPers u p = true) : isPers t (i :: p) = true := by
  unfold isPers at hu ⊢
  rw [desc, if_pos hi, hp]
  exact hu
structure Lin where
  n : Nat
  r : Nat
  st : Nat → Nat
  ro : Nat → Nat
  at_ : Nat → List Nat
  sp : List Nat → Nat
/-- a line of a plan, with as many rows as can be -/
structure OkL (t : T) (L : Lin) : Prop where
  hn : L.n = ppl t
  hr : L.r = rws t
  s0 : L.st 0 = 0
  sr : L.st L.r = L.n
  up : ∀ i, i < L.r → L.st i < L.st (i + 1)
  ro : ∀ s, s < L.n → L.ro s < L.r ∧ L.st (L.ro s) ≤ s ∧ s < L.st (L.ro s + 1)
  at_ : ∀ s, s < L.n → isPers t (L.at_ s) = true ∧ L.sp (L.at_ s) = s
  sp : ∀ p, isPers t p = true → L.sp p < L.n ∧ L.at_ (L.sp p) = p
  kn : ∀ s, s + 1 < L.n → L.ro s = L.ro (s + 1) → knowsB t (L.at_ s) (L.at_ (s + 1)) = true
def oneL : Lin := ⟨1, 1, fun i => i, fun _ => 0, fun _ => [], fun _ => 0⟩
theorem ok_oneL : OkL .one oneL := by
  refine ⟨by rw [ppl]; rfl, by rw [rws]; rfl, rfl, rfl, fun i _ => Nat.lt_succ_self i, fun s hs => ?_, fun s hs => ?_, fun p hp => ?_, fun s hs => ?_⟩
  · have : s < 1 := hs
    exact ⟨Nat.zero_lt_one, Nat.zero_le _, by show s < 0 + 1; omega⟩
  · have : s < 1 := hs
    exact ⟨rfl, by show 0 = s; omega⟩
  · exact ⟨Nat.zero_lt_one, (pers_one hp).symm⟩
  · have : s + 1 < 1 := hs
    omega
def copL (n : Nat) (u : T) : Lin := ⟨n * ppl u, 1, fun i => i * (n * ppl u), fun _ => 0, fun s => (s % n) :: (persL u).getD (s / n) [], fun p => match p with | [] => 0 | i :: q => num u q * n + i⟩
theorem ok_copL {n : Nat} {u : T} (ok : Ok (.cop true n u)) : OkL (.cop true n u) (copL n u) := by
  have hn2 := ok.1.1
  have oku : Ok u := piece_Ok (t := .cop true n u) (i := 0) rfl ok
  have hp := ppl_pos oku.1
  have hl := persL_len oku.2.1
  have hrl := rws_le oku.1
  have h2 : 2 * ppl u ≤ n * ppl u := Nat.mul_le_mul_right _ hn2
  have hdiv : ∀ {s}, s < n * ppl u → s / n < ppl u := fun {s} hs => (Nat.div_lt_iff_lt_mul (by omega)).mpr (by rw [Nat.mul_comm]; exact hs)
  have hget : ∀ {k}, k < ppl u → (persL u)[k]? = some ((persL u).getD k []) := fun {k} hk => by
    rw [List.getD_eq_getElem?_getD, List.getElem?_eq_getElem (by omega)]; rfl
  refine ⟨by rw [ppl]; rfl, ?_, Nat.zero_mul _, Nat.one_mul _, fun i hi => ?_, fun s hs => ?_, fun s hs => ?_, fun p hpp => ?_, fun s hs _ => ?_⟩
  · show 1 = rws (.cop true n u)
    rw [rws, if_pos rfl]; omega
  · obtain rfl : i = 0 := by have : i < 1 := hi; omega
    show 0 * (n * ppl u) < (0 + 1) * (n * ppl u)
    rw [Nat.zero_mul, Nat.one_mul]; omega
  · have hs : s < n * ppl u := hs
    refine ⟨Nat.zero_lt_one, ?_, ?_⟩
    · show 0 * (n * ppl u) ≤ s
      rw [Nat.zero_mul]; exact Nat.zero_le _
    · show s < (0 + 1) * (n * ppl u)
      rw [Nat.zero_add, Nat.one_mul]; exact hs
  · have hs : s < n * ppl u := hs
    have hg := hget (hdiv hs)
    refine ⟨?_, ?_⟩
    · exact pers_in1 (by rw [cnt_cop]; exact Nat.mod_lt _ (by omega)) rfl (pers_is _ (Nat.le_refl _) (List.mem_of_getElem? hg))
    · show num u ((persL u).getD (s / n) []) * n + s % n = s
      rw [num_of oku hg, Nat.mul_comm]; exact Nat.div_add_mod s n
  · cases p with
    | nil => have := pers_nil hpp; cases this
    | cons i q =>
      obtain ⟨v, hi, hv, hq⟩ := pers_cons hpp
      obtain rfl : u = v := Option.some.inj hv
      rw [cnt_cop] at hi
      have hnum := num_lt oku hq
      have h3 : num u q * n + n ≤ ppl u * n := by rw [← Nat.succ_mul]; exact Nat.mul_le_mul_right _ hnum
      refine ⟨?_, ?_⟩
      · show num u q * n + i < n * ppl u
        rw [Nat.mul_comm n]; omega
      · show ((num u q * n + i) % n) :: (persL u).getD ((num u q * n + i) / n) [] = i :: q
        rw [Nat.mul_comm, Nat.mul_add_mod, Nat.mod_eq_of_lt hi, Nat.mul_add_div (by omega), Nat.div_eq_of_lt hi, Nat.add_zero, List.getD_eq_getElem?_getD, pers_num oku hq]; rfl
  · show knowsB _ ((s % n) :: _) (((s + 1) % n) :: _) = true
    have hne : (s + 1) % n ≠ s % n := fun e => by
      have a1 := Nat.div_add_mod s n
      have a2 := Nat.div_add_mod (s + 1) n
      have a3 := Nat.mod_lt s (show 0 < n by omega)
      rw [e] at a2
      have a4 : n * ((s + 1) / n) = n * (s / n) + 1 := by omega
      rcases Nat.lt_or_ge (s / n) ((s + 1) / n) with z | z
      · have : n * (s / n + 1) ≤ n * ((s + 1) / n) := Nat.mul_le_mul_left _ z
        rw [Nat.mul_succ] at this
        omega
      · have : n * ((s + 1) / n) ≤ n * (s / n) := Nat.mul_le_mul_left _ z
        omega
    rw [knows_out hne]; rfl
end PL
/-! PM24: people of some parts, one part behind the other, by numbers. -/
namespace PL
open PySem SX TL
def totC (ps : List (Nat × T)) : Nat := (ps.map fun q => ppl q.2).sum
/-- how many stand ahead of a part -/
def bkC : List (Nat × T) → Nat → Nat
  | [], _ => 0
  | q :: r, i => if i = q.1 then 0 else ppl q.2 + bkC r i
theorem totC_cons (q : Nat × T) (r : List (Nat × T)) : totC (q :: r) = ppl q.2 + totC r := by unfold totC; rw [List.map_cons, List.sum_cons]
theorem bkC_le : ∀ {ps : List (Nat × T)} {q : Nat × T}, (ps.map (·.1)).Nodup → q ∈ ps → bkC ps q.1 + ppl q.2 ≤ totC ps
  | x :: r, q, nd, h => by
    have nd2 := List.nodup_cons.mp (show (x.1 :: r.map (·.1)).Nodup from nd)
    rw [totC_cons, bkC]
    rcases List.mem_cons.mp h with rfl | h
    · rw [if_pos rfl]; omega
    · have hne : q.1 ≠ x.1 := fun e => nd2.1 (e ▸ List.mem_map_of_mem h)
      rw [if_neg hne]
      have := bkC_le nd2.2 h
      omega
theorem bkC_apart : ∀ {ps : List (Nat × T)} {q z : Nat × T}, (ps.map (·.1)).Nodup → q ∈ ps → z ∈ ps → q.1 ≠ z.1 → bkC ps q.1 + ppl q.2 ≤ bkC ps z.1 ∨ bkC ps z.1 + ppl z.2 ≤ bkC ps q.1
  | x :: r, q, z, nd, hq, hz, hn => by
    have nd2 := List.nodup_cons.mp (show (x.1 :: r.map (·.1)).Nodup from nd)
    have ne : ∀ {y : Nat × T}, y ∈ r → y.1 ≠ x.1 := fun {y} hy e => nd2.1 (e ▸ List.mem_map_of_mem hy)
    rw [bkC, bkC]
    rcases List.mem_cons.mp hq with rfl | hq'
    · rcases List.mem_cons.mp hz with rfl | hz'
      · exact absurd rfl hn
      · rw [if_pos rfl, if_neg (ne hz')]; exact .inl (by omega)
    · rcases List.mem_cons.mp hz with rfl | hz'
      · rw [if_pos rfl, if_neg (ne hq')]; exact .inr (by omega)
      · rw [if_neg (ne hq'), if_neg (ne hz')]
        rcases bkC_apart nd2.2 hq' hz' hn with h | h
        · exact .inl (by omega)
        · exact .inr (by omega)
theorem bkC_find : ∀ {ps : List (Nat × T)} {m : Nat}, (ps.map (·.1)).Nodup → m < totC ps → ∃ q ∈ ps, bkC ps q.1 ≤ m ∧ m < bkC ps q.1 + ppl q.2
  | [], m, _, h => by simp [totC] at h
  | x :: r, m, nd, h => by
    have nd2 := List.nodup_cons.mp (show (x.1 :: r.map (·.1)).Nodup from nd)
    rw [totC_cons] at h
    by_cases c : m < ppl x.2
    · refine ⟨x, List.mem_cons_self, ?_, ?_⟩ <;> rw [bkC, if_pos rfl] <;> omega
    · obtain ⟨q, hq, h1, h2⟩ := bkC_find (m := m - ppl x.2) nd2.2 (by omega)
      have hne : q.1 ≠ x.1 := fun e => nd2.1 (e ▸ List.mem_map_of_mem hq)
      refine ⟨q, List.mem_cons_of_mem _ hq, ?_, ?_⟩ <;> rw [bkC, if_neg hne] <;> omega
/-- the first part has most people, and at most half of all: neighbours are of unlike parts -/
theorem half_apart {x : Nat × T} {r : List (Nat × T)} {q z : Nat × T} {h m k : Nat} (nd : ((x :: r).map (·.1)).Nodup) (hh : h = (totC (x :: r) + 1) / 2) (hmax : ∀ y ∈ x :: r, ppl y.2 ≤ ppl x.2) (hx : ppl x.2 ≤ h) (hq : q ∈ x :: r) (hz : z ∈ x :: r)
    (q1 : bkC (x :: r) q.1 ≤ m) (q2 : m < bkC (x :: r) q.1 + ppl q.2) (z1 : bkC (x :: r) z.1 ≤ k) (z2 : k < bkC (x :: r) z.1 + ppl z.2) (hk : k < totC (x :: r)) (hmk : k = m + h ∨ (m + h = k + 1 ∧ 1 ≤ m ∧ m < h)) : q.1 ≠ z.1 := by
  intro e
  have hle := hmax q hq
  have e2 : bkC (x :: r) z.1 = bkC (x :: r) q.1 := by rw [e]
  have hpz := hmax z hz
  have heq : q = z := by
    have : ∀ {l : List (Nat × T)}, (l.map (·.1)).Nodup → ∀ {a b}, a ∈ l → b ∈ l → a.1 = b.1 → a = b := by
      intro l
      induction l with
      | nil => intro _ a b ha; cases ha
      | cons y l ih =>
        intro nd a b ha hb hab
        have nd2 := List.nodup_cons.mp (show (y.1 :: l.map (·.1)).Nodup from nd)
        rcases List.mem_cons.mp ha with rfl | ha'
        · rcases List.mem_cons.mp hb with rfl | hb'
          · rfl
          · exact absurd (by rw [hab]; exact List.mem_map_of_mem hb') nd2.1
        · rcases List.mem_cons.mp hb with rfl | hb'
          · exact absurd (by rw [← hab]; exact List.mem_map_of_mem ha') nd2.1
          · exact ih nd2.2 ha' hb' hab
    exact this nd hq hz e
  subst heq
  rcases hmk with h1 | ⟨h1, h0, h2⟩
  · omega
  · -- the part would have just h people, and stand behind the first one
    by_cases ex : q = x
    · subst ex
      have : bkC (q :: r) q.1 = 0 := by rw [bkC, if_pos rfl]
      omega
    · have hb := bkC_le nd hq
      have hne : q.1 ≠ x.1 := fun e' => by
        have nd2 := List.nodup_cons.mp (show (x.1 :: r.map (·.1)).Nodup from nd)
        rcases List.mem_cons.mp hq with e3 | hq'
        · exact ex e3
        · exact nd2.1 (e' ▸ List.mem_map_of_mem hq')
      have hb2 : bkC (x :: r) q.1 = ppl x.2 + bkC r q.1 := by rw [bkC, if_neg hne]
      omega
end PL
/-! PM25: the person with a number, the number of a person, of some parts. -/
namespace PL
open PySem SX TL
def atC : List (Nat × T) → Nat → List Nat
  | [], _ => []
  | q :: r, m => if m < ppl q.2 then q.1 :: (persL q.2).getD m [] else atC r (m - ppl q.2)
def nuC : List (Nat × T) → List Nat → Nat
  | [], _ => 0
  | q :: r, x => match x with
    | [] => 0
    | i :: p => if i = q.1 then num q.2 p else ppl q.2 + nuC r (i :: p)
theorem nuC_at : ∀ {ps : List (Nat × T)} {q : Nat × T} {p : List Nat}, (ps.map (·.1)).Nodup → q ∈ ps → nuC ps (q.1 :: p) = bkC ps q.1 + num q.2 p
  | x :: r, q, p, nd, h => by
    have nd2 := List.nodup_cons.mp (show (x.1 :: r.map (·.1)).Nodup from nd)
    rw [nuC, bkC]
    rcases List.mem_cons.mp h with rfl | h'
    · rw [if_pos rfl, if_pos rfl, Nat.zero_add]
    · have hne : q.1 ≠ x.1 := fun e => nd2.1 (by rw [← e]; exact List.mem_map_of_mem h')
      rw [if_neg hne, if_neg hne, nuC_at nd2.2 h', Nat.add_assoc]
theorem atC_at : ∀ {ps : List (Nat × T)} {q : Nat × T} {m : Nat}, (ps.map (·.1)).Nodup → q ∈ ps → bkC ps q.1 ≤ m → m < bkC ps q.1 + ppl q.2 → atC ps m = q.1 :: (persL q.2).getD (m - bkC ps q.1) []
  | x :: r, q, m, nd, h, h1, h2 => by
    have nd2 := List.nodup_cons.mp (show (x.1 :: r.map (·.1)).Nodup from nd)
    rw [bkC] at h1 h2 ⊢
    rw [atC]
    rcases List.mem_cons.mp h with rfl | h'
    · rw [if_pos rfl] at h1 h2 ⊢
      rw [if_pos (by omega), Nat.sub_zero]
    · have hne : q.1 ≠ x.1 := fun e => nd2.1 (by rw [← e]; exact List.mem_map_of_mem h')
      rw [if_neg hne] at h1 h2 ⊢
      rw [if_neg (by omega), atC_at nd2.2 h' (by omega) (by omega), show m - ppl x.2 - bkC r q.1 = m - (ppl x.2 + bkC r q.1) by omega]
/-- numbers and people answer one another -/
theorem atC_ok {ps : List (Nat × T)} {m : Nat} (nd : (ps.map (·.1)).Nodup) (hok : ∀ q ∈ ps, Ok q.2) (h : m < totC ps) : ∃ q ∈ ps, ∃ p, atC ps m = q.1 :: p ∧ isPers q.2 p = true ∧ nuC ps (q.1 :: p) = m ∧ bkC ps q.1 ≤ m ∧ m < bkC ps q.1 + ppl q.2 := by
  obtain ⟨q, hq, h1, h2⟩ := bkC_find nd h
  have okq := hok q hq
  have hl := persL_len okq.2.1
  have hg : (persL q.2)[m - bkC ps q.1]? = some ((persL q.2).getD (m - bkC ps q.1) []) := by
    rw [List.getD_eq_getElem?_getD, List.getElem?_eq_getElem (by omega)]; rfl
  refine ⟨q, hq, _, atC_at nd hq h1 h2, pers_is _ (Nat.le_refl _) (List.mem_of_getElem? hg), ?_, h1, h2⟩
  rw [nuC_at nd hq, num_of okq hg]; omega
theorem nuC_ok {ps : List (Nat × T)} {q : Nat × T} {p : List Nat} (nd : (ps.map (·.1)).Nodup) (hok : ∀ q ∈ ps, Ok q.2) (hq : q ∈ ps) (hp : isPers q.2 p = true) : nuC ps (q.1 :: p) < totC ps ∧ atC ps (nuC ps (q.1 :: p)) = q.1 :: p ∧ bkC ps q.1 ≤ nuC ps (q.1 :: p) ∧ nuC ps (q.1 :: p) < bkC ps q.1 + ppl q.2 := by
  have okq := hok q hq
  have h1 := num_lt okq hp
  have h2 := bkC_le nd hq
  rw [nuC_at nd hq]
  refine ⟨by omega, ?_, by omega, by omega⟩
  rw [atC_at nd hq (by omega) (by omega), Nat.add_sub_cancel_left, List.getD_eq_getElem?_getD, pers_num okq hp]; rfl
/-! ### halves -/
def hvF (n m : Nat) : Nat := if m < (n + 1) / 2 then 2 * m else 2 * (m - (n + 1) / 2) + 1
def unh (n s : Nat) : Nat := s / 2 + if s % 2 = 1 then (n + 1) / 2 else 0
theorem hvF_ok {n m : Nat} (h : m < n) : hvF n m < n ∧ unh n (hvF n m) = m := by
  unfold hvF unh
  split <;> (refine ⟨by omega, ?_⟩; split <;> omega)
theorem unh_ok {n s : Nat} (h : s < n) : unh n s < n ∧ hvF n (unh n s) = s := by
  unfold hvF unh
  split <;> (refine ⟨by omega, ?_⟩; split <;> omega)
def halL (ps : List (Nat × T)) : Lin := ⟨totC ps, 1, fun i => i * totC ps, fun _ => 0, fun s => atC ps (unh (totC ps) s), fun p => hvF (totC ps) (nuC ps p)⟩
theorem ok_halL {ts : List T} {x : Nat × T} {r : List (Nat × T)} (ok : Ok (.row true ts)) (nd : ((x :: r).map (·.1)).Nodup) (hm : ∀ i u, (i, u) ∈ x :: r ↔ ts[i]? = some u) (ht : totC (x :: r) = ppls ts) (hmax : ∀ y ∈ x :: r, ppl y.2 ≤ ppl x.2) (hx : ppl x.2 ≤ (totC (x :: r) + 1) / 2) (hr1 : rws (.row true ts) = 1) : OkL (.row true ts) (halL (x :: r)) := by
  have hok : ∀ q ∈ x :: r, Ok q.2 := fun q hq => piece_Ok (t := .row true ts) (i := q.1) ((hm q.1 q.2).mp hq) ok
  have hp1 := ppl_pos (hok x List.mem_cons_self).1
  have hpos : 0 < totC (x :: r) := by rw [totC_cons]; omega
  have pin : ∀ {q : Nat × T} {p : List Nat}, q ∈ x :: r → isPers q.2 p = true → isPers (.row true ts) (q.1 :: p) = true := fun {q p} hq hp => by
    have h1 := (hm q.1 q.2).mp hq
    exact pers_in1 (by rw [cnt_row]; exact (List.getElem?_eq_some_iff.mp h1).1) h1 hp
  generalize hN : totC (x :: r) = N at *
  refine ⟨?_, hr1.symm, Nat.zero_mul _, Nat.one_mul _, fun i hi => ?_, fun s hs => ?_, fun s hs => ?_, fun p hpp => ?_, fun s hs _ => ?_⟩
  · show totC (x :: r) = _
    rw [hN, ppl]; exact ht
  · obtain rfl : i = 0 := by have : i < 1 := hi; omega
    show 0 * totC (x :: r) < (0 + 1) * totC (x :: r)
    rw [hN, Nat.zero_mul, Nat.one_mul]; exact hpos
  · have hs : s < totC (x :: r) := hs
    refine ⟨Nat.zero_lt_one, ?_, ?_⟩
    · show 0 * totC (x :: r) ≤ s
      rw [Nat.zero_mul]; exact Nat.zero_le _
    · show s < (0 + 1) * totC (x :: r)
      rw [Nat.zero_add, Nat.one_mul]; exact hs
  · have hs : s < totC (x :: r) := hs
    rw [hN] at hs
    obtain ⟨u1, u2⟩ := unh_ok hs
    obtain ⟨q, hq, p, e, hp, hnu, _, _⟩ := atC_ok (m := unh N s) nd hok (by rw [hN]; exact u1)
    show isPers _ (atC (x :: r) (unh (totC (x :: r)) s)) = true ∧ hvF (totC (x :: r)) (nuC (x :: r) (atC (x :: r) (unh (totC (x :: r)) s))) = s
    rw [hN, e]
    exact ⟨pin hq hp, by rw [hnu, u2]⟩
  · cases p with
    | nil => have := pers_nil hpp; cases this
    | cons i p =>
      obtain ⟨u, hi, hu, hp⟩ := pers_cons hpp
      have hq := (hm i u).mpr hu
      obtain ⟨a1, a2, _, _⟩ := nuC_ok (q := (i, u)) nd hok hq hp
      rw [hN] at a1
      obtain ⟨b1, b2⟩ := hvF_ok a1
      show hvF (totC (x :: r)) (nuC (x :: r) (i :: p)) < totC (x :: r) ∧ atC (x :: r) (unh (totC (x :: r)) (hvF (totC (x :: r)) (nuC (x :: r) (i :: p)))) = i :: p
      rw [hN]
      exact ⟨b1, by rw [b2]; exact a2⟩
  · have hs : s + 1 < totC (x :: r) := hs
    rw [hN] at hs
    obtain ⟨u1, _⟩ := unh_ok (n := N) (s := s) (by omega)
    obtain ⟨w1, _⟩ := unh_ok hs
    obtain ⟨q, hq, p, e, hp, _, q1, q2⟩ := atC_ok (m := unh N s) nd hok (by rw [hN]; exact u1)
    obtain ⟨z, hz, y, e', hy, _, z1, z2⟩ := atC_ok (m := unh N (s + 1)) nd hok (by rw [hN]; exact w1)
    show knowsB _ (atC (x :: r) (unh (totC (x :: r)) s)) (atC (x :: r) (unh (totC (x :: r)) (s + 1))) = true
    rw [hN, e, e']
    have hne : q.1 ≠ z.1 := by
      by_cases c : s % 2 = 1
      · have m1 : unh N s = s / 2 + (N + 1) / 2 := by unfold unh; rw [if_pos c]
        have m2 : unh N (s + 1) = s / 2 + 1 := by unfold unh; rw [if_neg (by omega)]; omega
        exact fun e3 => half_apart (h := (N + 1) / 2) nd (by rw [hN]) hmax hx hz hq z1 z2 q1 q2 (by rw [hN]; exact u1) (.inr (by omega)) e3.symm
      · have m1 : unh N s = s / 2 := by unfold unh; rw [if_neg c]; omega
        have m2 : unh N (s + 1) = s / 2 + (N + 1) / 2 := by unfold unh; rw [if_pos (by omega)]; omega
        exact half_apart (h := (N + 1) / 2) nd (by rw [hN]) hmax hx hq hz q1 q2 z1 z2 (by rw [hN]; exact w1) (.inl (by omega))
    rw [knows_out (fun e3 => hne e3.symm)]; rfl
end PL
/-! PM27: rows of a line, spot by spot. -/
namespace PL
open PySem SX TL
theorem st_lt {t : T} {L : Lin} (o : OkL t L) : ∀ {i j : Nat}, i < j → j ≤ L.r → L.st i < L.st j
  | i, j + 1, h, hj => by
    have h1 := o.up j (by omega)
    by_cases e : i = j
    · subst e; exact h1
    · have := st_lt o (i := i) (j := j) (by omega) (by omega)
      omega
theorem ro_uniq {t : T} {L : Lin} (o : OkL t L) {s i : Nat} (hs : s < L.n) (hi : i < L.r) (h1 : L.st i ≤ s) (h2 : s < L.st (i + 1)) : L.ro s = i := by
  obtain ⟨a1, a2, a3⟩ := o.ro s hs
  rcases Nat.lt_trichotomy (L.ro s) i with z | z | z
  · rcases Nat.lt_or_ge (L.ro s + 1) i with y | y
    · have := st_lt o y (by omega); omega
    · have e : L.ro s + 1 = i := by omega
      rw [e] at a3; omega
  · exact z
  · rcases Nat.lt_or_ge (i + 1) (L.ro s) with y | y
    · have := st_lt o y (by omega); omega
    · have e : L.ro s = i + 1 := by omega
      rw [e] at a2; omega
theorem ro_zero {t : T} {L : Lin} (o : OkL t L) (hn : 0 < L.n) (hr : 0 < L.r) : L.ro 0 = 0 := by
  have h := o.up 0 hr
  rw [o.s0] at h
  exact ro_uniq o hn hr (by rw [o.s0]; exact Nat.le_refl _) h
theorem ro_last {t : T} {L : Lin} (o : OkL t L) (hn : 0 < L.n) (hr : 0 < L.r) : L.ro (L.n - 1) = L.r - 1 := by
  have h := o.up (L.r - 1) (by omega)
  rw [show L.r - 1 + 1 = L.r by omega, o.sr] at h
  exact ro_uniq o (by omega) (by omega) (by omega) (by rw [show L.r - 1 + 1 = L.r by omega, o.sr]; omega)
/-- the next spot is of the same row, or begins the next one -/
theorem ro_next {t : T} {L : Lin} (o : OkL t L) {s : Nat} (hs : s + 1 < L.n) : (L.ro (s + 1) = L.ro s ∧ s + 1 < L.st (L.ro s + 1)) ∨ (L.ro (s + 1) = L.ro s + 1 ∧ L.st (L.ro s + 1) = s + 1) := by
  obtain ⟨a1, a2, a3⟩ := o.ro s (by omega)
  by_cases c : s + 1 < L.st (L.ro s + 1)
  · exact .inl ⟨ro_uniq o hs a1 (by omega) c, c⟩
  · have e : L.st (L.ro s + 1) = s + 1 := by omega
    have hr : L.ro s + 1 < L.r := by
      rcases Nat.lt_or_ge (L.ro s + 1) L.r with y | y
      · exact y
      · have e2 : L.ro s + 1 = L.r := by omega
        rw [e2, o.sr] at e; omega
    have h := o.up (L.ro s + 1) hr
    exact .inr ⟨ro_uniq o hs hr (by omega) (by omega), e⟩
/-- how many pieces there are where x people are cut off one by one -/
def pcs1 (L : Lin) (x : Nat) : Nat := x + L.r - L.ro x
theorem pcs1_next {t : T} {L : Lin} (o : OkL t L) {s : Nat} (hs : s + 1 < L.n) : (pcs1 L (s + 1) = pcs1 L s + 1 ∧ L.ro (s + 1) = L.ro s) ∨ pcs1 L (s + 1) = pcs1 L s := by
  have h1 := (o.ro s (by omega)).1
  have h2 := (o.ro (s + 1) hs).1
  unfold pcs1
  rcases ro_next o hs with ⟨e, _⟩ | ⟨e, _⟩
  · exact .inl ⟨by omega, e⟩
  · exact .inr (by omega)
theorem pcs1_mono {t : T} {L : Lin} (o : OkL t L) : ∀ {x y : Nat}, x ≤ y → y < L.n → pcs1 L x ≤ pcs1 L y
  | x, 0, h, _ => by
    have e : x = 0 := by omega
    rw [e]; exact Nat.le_refl _
  | x, y + 1, h, hy => by
    by_cases e : x = y + 1
    · rw [e]; exact Nat.le_refl _
    · have ih := pcs1_mono o (x := x) (y := y) (by omega) (by omega)
      rcases pcs1_next o hy with ⟨a, _⟩ | a <;> omega
/-- the least number of single ones -/
theorem least_sg {t : T} {L : Lin} {k : Nat} (o : OkL t L) (hn : 0 < L.n) (hr : 0 < L.r) (hk : k ≤ L.n) : ∃ x, x < L.n ∧ k ≤ pcs1 L x ∧ (∀ y, y < x → pcs1 L y < k) ∧ (x = 0 ∨ (pcs1 L x = k ∧ L.ro x = L.ro (x - 1))) := by
  have hl : pcs1 L (L.n - 1) = L.n := by
    unfold pcs1
    rw [ro_last o hn hr]; omega
  have go : ∀ m, m < L.n → (∀ y, y < m → pcs1 L y < k) ∨ ∃ x, x < m ∧ k ≤ pcs1 L x ∧ ∀ y, y < x → pcs1 L y < k := by
    intro m
    induction m with
    | zero => intro _; exact .inl fun y h => by omega
    | succ m ih =>
      intro hm
      rcases ih (by omega) with h | ⟨x, h1, h2, h3⟩
      · by_cases c : k ≤ pcs1 L m
        · exact .inr ⟨m, by omega, c, h⟩
        · exact .inl fun y hy => by
            by_cases e : y = m
            · rw [e]; omega
            · exact h y (by omega)
      · exact .inr ⟨x, by omega, h2, h3⟩
  have fin : ∃ x, x < L.n ∧ k ≤ pcs1 L x ∧ ∀ y, y < x → pcs1 L y < k := by
    rcases go (L.n - 1) (by omega) with h | ⟨x, h1, h2, h3⟩
    · exact ⟨L.n - 1, by omega, by omega, h⟩
    · exact ⟨x, by omega, h2, h3⟩
  obtain ⟨x, h1, h2, h3⟩ := fin
  refine ⟨x, h1, h2, h3, ?_⟩
  by_cases e : x = 0
  · exact .inl e
  · right
    obtain ⟨y, rfl⟩ : ∃ y, x = y + 1 := ⟨x - 1, by omega⟩
    have h4 := h3 y (by omega)
    rcases pcs1_next o h1 with ⟨a, b⟩ | a
    · exact ⟨by omega, b⟩
    · omega
end PL
/-! PM28: a line cut to pieces, others between the pieces. -/
namespace PL
open PySem SX TL
/-- the first i below n with p, n if there is none -/
def fstU (p : Nat → Bool) : Nat → Nat
  | 0 => 0
  | n + 1 => if fstU p n < n then fstU p n else if p n = true then n else n + 1
theorem fstU_ok (p : Nat → Bool) : ∀ n, fstU p n ≤ n ∧ (∀ i, i < fstU p n → p i = false) ∧ (fstU p n < n → p (fstU p n) = true)
  | 0 => ⟨Nat.le_refl _, fun i h => absurd h (Nat.not_lt_zero _), fun h => absurd h (Nat.lt_irrefl _)⟩
  | n + 1 => by
    obtain ⟨h1, h2, h3⟩ := fstU_ok p n
    rw [fstU]
    by_cases c : fstU p n < n
    · rw [if_pos c]; exact ⟨by omega, h2, fun _ => h3 c⟩
    · have e : fstU p n = n := by omega
      rw [e] at h2
      rw [if_neg c]
      by_cases d : p n = true
      · rw [if_pos d]; exact ⟨by omega, h2, fun _ => d⟩
      · rw [if_neg d]
        refine ⟨Nat.le_refl _, fun i hi => ?_, fun h => absurd h (Nat.lt_irrefl _)⟩
        by_cases z : i = n
        · subst z; simpa using d
        · exact h2 i (by omega)
theorem fstU_uniq {p : Nat → Bool} {n x : Nat} (h1 : x ≤ n) (h2 : ∀ i, i < x → p i = false) (h3 : x < n → p x = true) : fstU p n = x := by
  obtain ⟨a1, a2, a3⟩ := fstU_ok p n
  rcases Nat.lt_trichotomy (fstU p n) x with z | z | z
  · have := h2 _ z; rw [a3 (by omega)] at this; cases this
  · exact z
  · have := a2 _ z; rw [h3 (by omega)] at this; cases this
/-- pieces by spots; behind piece k, ahead of the spot e k, sits one of the others -/
structure Wv (N no : Nat) (pc e : Nat → Nat) : Prop where
  mono : ∀ s, s + 1 < N → pc s ≤ pc (s + 1)
  lo : ∀ k, k < no → 1 ≤ e k ∧ e k < N ∧ pc (e k - 1) = k ∧ pc (e k) = k + 1
section
variable {N no : Nat} {pc e : Nat → Nat}
theorem Wv.le (w : Wv N no pc e) : ∀ {a b : Nat}, a ≤ b → b < N → pc a ≤ pc b
  | a, 0, h, _ => by
    have z : a = 0 := by omega
    rw [z]; exact Nat.le_refl _
  | a, b + 1, h, hb => by
    by_cases z : a = b + 1
    · rw [z]; exact Nat.le_refl _
    · exact Nat.le_trans (w.le (a := a) (b := b) (by omega) (by omega)) (w.mono b hb)
theorem Wv.lt (w : Wv N no pc e) {k s : Nat} (hk : k < no) (hs : s < N) : pc s ≤ k ↔ s < e k := by
  obtain ⟨h1, h2, h3, h4⟩ := w.lo k hk
  constructor
  · intro h
    rcases Nat.lt_or_ge s (e k) with z | z
    · exact z
    · have := w.le z hs; omega
  · intro h
    have := w.le (a := s) (b := e k - 1) (by omega) (by omega)
    omega
theorem Wv.up (w : Wv N no pc e) {j k : Nat} (h : j < k) (hk : k < no) : e j < e k := by
  obtain ⟨h1, h2, h3, h4⟩ := w.lo j (by omega)
  exact (w.lt hk h2).mp (by omega)
abbrev ahV (e : Nat → Nat) (no x : Nat) : Nat := fstU (fun k => decide (x ≤ e k + k)) no
theorem Wv.ah_os (w : Wv N no pc e) {k : Nat} (hk : k < no) : ahV e no (e k + k) = k := by
  refine fstU_uniq (by omega) (fun i hi => decide_eq_false ?_) fun _ => decide_eq_true (Nat.le_refl _)
  have := w.up hi hk
  omega
theorem Wv.ah_pl (w : Wv N no pc e) {s : Nat} (hs : s < N) : ahV e no (s + min (pc s) no) = min (pc s) no ∧ (min (pc s) no < no → e (min (pc s) no) + min (pc s) no ≠ s + min (pc s) no) := by
  have key : min (pc s) no < no → s < e (min (pc s) no) := fun h => (w.lt h hs).mp (by omega)
  refine ⟨fstU_uniq (by omega) (fun i hi => decide_eq_false ?_) fun h => decide_eq_true (by have := key h; omega), fun h => by have := key h; omega⟩
  have h2 : ¬ s < e i := fun z => by
    have := (w.lt (k := i) (by omega) hs).mpr z
    omega
  omega
theorem Wv.find (w : Wv N no pc e) {x : Nat} (hx : x < N + no) : (∃ k, k < no ∧ x = e k + k) ∨ ∃ s, s < N ∧ x = s + min (pc s) no := by
  obtain ⟨a1, a2, a3⟩ := fstU_ok (fun k => decide (x ≤ e k + k)) no
  generalize fstU (fun k => decide (x ≤ e k + k)) no = a at a1 a2 a3
  by_cases c : a < no ∧ x = e a + a
  · exact .inl ⟨a, c.1, c.2⟩
  · right
    have lo : 0 < a → e (a - 1) + a ≤ x := fun h => by
      have := of_decide_eq_false (a2 (a - 1) (by omega))
      omega
    have hi : a < no → x < e a + a := fun h => by
      have := of_decide_eq_true (a3 h)
      rcases Nat.lt_or_ge x (e a + a) with z | z
      · exact z
      · exact absurd ⟨h, by omega⟩ c
    have ha : a ≤ x := by
      by_cases z : a = 0
      · omega
      · have := lo (by omega); omega
    have hs : x - a < N := by
      by_cases z : a < no
      · have h1 := (w.lo a z).2.1
        have := hi z
        omega
      · omega
    refine ⟨x - a, hs, ?_⟩
    have h1 : a ≤ pc (x - a) := by
      by_cases z : a = 0
      · omega
      · rcases Nat.lt_or_ge (pc (x - a)) a with y | y
        · have := (w.lt (k := a - 1) (by omega) hs).mp (by omega)
          have := lo (by omega)
          omega
        · exact y
    have h2 : a < no → pc (x - a) ≤ a := fun z => (w.lt z hs).mpr (by have := hi z; omega)
    have h3 : min (pc (x - a)) no = a := by
      by_cases z : a < no
      · have := h2 z; omega
      · omega
    omega
end
/-! ### woven lines -/
def sgW (L : Lin) (k : Nat) : Nat := fstU (fun x => decide (k ≤ pcs1 L x)) (L.n - 1)
def pcW (L : Lin) (sg s : Nat) : Nat := if s < sg then s else sg + L.ro s - L.ro sg
def osW (L : Lin) (sg k : Nat) : Nat := if k < sg then 2 * k + 1 else L.st (L.ro sg + k - sg + 1) + k
def eW (L : Lin) (sg k : Nat) : Nat := if k < sg then k + 1 else L.st (L.ro sg + k - sg + 1)
theorem osW_e (L : Lin) (sg k : Nat) : osW L sg k = eW L sg k + k := by
  unfold osW eW
  split <;> omega
def ahW (L : Lin) (sg no x : Nat) : Nat := fstU (fun k => decide (x ≤ osW L sg k)) no
theorem ahW_e (L : Lin) (sg no x : Nat) : ahW L sg no x = ahV (eW L sg) no x := by
  unfold ahW
  simp only [osW_e]
def stW (L : Lin) (no i : Nat) : Nat := if i = 0 then 0 else if i = max 1 (L.r - no) then L.n + no else L.st (i + no) + no
def roW (L : Lin) (no s : Nat) : Nat := if max 1 (L.r - no) = 1 ∨ s < stW L no 1 then 0 else L.ro (s - no) - no
def atW (L : Lin) (sg u : Nat) (ps : List (Nat × T)) (x : Nat) : List Nat := if ahW L sg (totC ps) x < totC ps ∧ osW L sg (ahW L sg (totC ps) x) = x then atC ps (ahW L sg (totC ps) x) else u :: L.at_ (x - ahW L sg (totC ps) x)
def spW (L : Lin) (sg u : Nat) (ps : List (Nat × T)) (p : List Nat) : Nat := match p with
  | [] => 0
  | i :: q => if i = u then L.sp q + min (pcW L sg (L.sp q)) (totC ps) else osW L sg (nuC ps (i :: q))
def wovL (L : Lin) (u : Nat) (ps : List (Nat × T)) (sg : Nat) : Lin := ⟨L.n + totC ps, max 1 (L.r - totC ps), stW L (totC ps), roW L (totC ps), atW L sg u ps, spW L sg u ps⟩
theorem ro_mono {t : T} {L : Lin} (o : OkL t L) {s : Nat} (h : s + 1 < L.n) : L.ro s ≤ L.ro (s + 1) := by
  rcases ro_next o h with ⟨a, _⟩ | ⟨a, _⟩ <;> omega
theorem ro_le {t : T} {L : Lin} (o : OkL t L) : ∀ {a b : Nat}, a ≤ b → b < L.n → L.ro a ≤ L.ro b
  | a, 0, h, _ => by
    have z : a = 0 := by omega
    rw [z]; exact Nat.le_refl _
  | a, b + 1, h, hb => by
    by_cases z : a = b + 1
    · rw [z]; exact Nat.le_refl _
    · exact Nat.le_trans (ro_le o (a := a) (b := b) (by omega) (by omega)) (ro_mono o hb)
theorem st_le {t : T} {L : Lin} (o : OkL t L) {i j : Nat} (h : i ≤ j) (hj : j ≤ L.r) : L.st i ≤ L.st j := by
  by_cases z : i = j
  · rw [z]; exact Nat.le_refl _
  · exact Nat.le_of_lt (st_lt o (by omega) hj)
/-- what is known of the number of single ones -/
structure Sg (L : Lin) (no sg : Nat) : Prop where
  lt : sg < L.n
  ge : no + 1 ≤ pcs1 L sg
  at_ : (sg = 0 ∧ no + 1 ≤ L.r) ∨ (0 < sg ∧ L.r ≤ no ∧ pcs1 L sg = no + 1 ∧ L.ro sg = L.ro (sg - 1))
theorem sg_ok {t : T} {L : Lin} {no : Nat} (o : OkL t L) (hn : 0 < L.n) (hr : 0 < L.r) (hk : no + 1 ≤ L.n) : Sg L no (sgW L (no + 1)) := by
  obtain ⟨x, h1, h2, h3, h4⟩ := least_sg o hn hr hk
  have e : sgW L (no + 1) = x := fstU_uniq (by omega) (fun i hi => decide_eq_false (by have := h3 i hi; omega)) fun _ => decide_eq_true h2
  rw [e]
  refine ⟨h1, h2, ?_⟩
  have z0 : pcs1 L 0 = L.r := by unfold pcs1; rw [ro_zero o hn hr]; omega
  by_cases c : x = 0
  · subst c; exact .inl ⟨rfl, by omega⟩
  · have := h3 0 (by omega)
    rcases h4 with z | ⟨a, b⟩
    · exact absurd z c
    · exact .inr ⟨by omega, by omega, a, b⟩
theorem wv_ok {t : T} {L : Lin} {no sg : Nat} (o : OkL t L) (g : Sg L no sg) : Wv L.n no (pcW L sg) (eW L sg) := by
  refine ⟨fun s hs => ?_, fun k hk => ?_⟩
  · have h1 := ro_mono o hs
    unfold pcW
    by_cases c : s + 1 < sg
    · rw [if_pos (by omega), if_pos c]; omega
    · rw [if_neg c]
      by_cases d : s < sg
      · have e : s + 1 = sg := by omega
        rw [if_pos d, e]; omega
      · rw [if_neg d]; omega
  · have hro := (o.ro sg g.lt).1
    have hge := g.ge
    have hlt := g.lt
    unfold pcs1 at hge
    unfold eW pcW
    by_cases c : k < sg
    · rw [if_pos c]
      refine ⟨by omega, by omega, by rw [if_pos (by omega)]; omega, ?_⟩
      by_cases d : k + 1 < sg
      · rw [if_pos d]
      · have e : k + 1 = sg := by omega
        rw [if_neg d, e]; omega
    · rw [if_neg c]
      obtain ⟨i, hi⟩ : ∃ i, i = L.ro sg + k - sg := ⟨_, rfl⟩
      rw [← hi]
      have hi1 : i + 1 < L.r := by omega
      have hup := o.up i (by omega)
      have hup2 := o.up (i + 1) hi1
      have hn : L.st (i + 1) < L.n := by
        rw [← o.sr]; exact st_lt o hi1 (Nat.le_refl _)
      have hsg : sg < L.st (i + 1) := by
        have h1 := (o.ro sg g.lt).2.2
        have := st_le o (i := L.ro sg + 1) (j := i + 1) (by omega) (by omega)
        omega
      have r1 : L.ro (L.st (i + 1)) = i + 1 := ro_uniq o hn hi1 (Nat.le_refl _) hup2
      have r2 : L.ro (L.st (i + 1) - 1) = i := ro_uniq o (by omega) (by omega) (by omega) (by omega)
      refine ⟨by omega, hn, ?_, ?_⟩
      · rw [if_neg (by omega), r2]; omega
      · rw [if_neg (by omega), r1]; omega
end PL
/-! PM29: the woven line is a line. -/
namespace PL
open PySem SX TL
theorem exs_leB {B : Nat} : ∀ {ts : List T}, (∀ v ∈ ts, rws v + ppl v ≤ B) → exs ts ≤ B
  | [], _ => by rw [exs]; exact Nat.zero_le _
  | t :: ts, h => by
    rw [exs]
    exact Nat.max_le.mpr ⟨h t List.mem_cons_self, exs_leB fun v hv => h v (List.mem_cons_of_mem _ hv)⟩
theorem stW_at {t : T} {L : Lin} {no : Nat} (o : OkL t L) (h : no + 1 ≤ L.r) {i : Nat} (h1 : 1 ≤ i) (h2 : i ≤ L.r - no) : stW L no i = L.st (i + no) + no := by
  unfold stW
  rw [if_neg (by omega)]
  by_cases c : i = max 1 (L.r - no)
  · have e : i + no = L.r := by omega
    rw [if_pos c, e, o.sr]
  · rw [if_neg c]
theorem roW_at {t : T} {L : Lin} {no : Nat} (o : OkL t L) (h : no + 1 ≤ L.r) {x : Nat} (hx : x < L.n + no) : roW L no x < L.r - no ∧ stW L no (roW L no x) ≤ x ∧ x < stW L no (roW L no x + 1) := by
  have s1 := stW_at o h (i := 1) (Nat.le_refl _) (by omega)
  have s0 : stW L no 0 = 0 := by unfold stW; rw [if_pos rfl]
  unfold roW
  by_cases c : max 1 (L.r - no) = 1
  · rw [if_pos (.inl c), s0]
    have e : 0 + 1 + no = L.r := by omega
    have := stW_at o h (i := 0 + 1) (by omega) (by omega)
    rw [this, e, o.sr]
    exact ⟨by omega, by omega, by omega⟩
  · by_cases d : x < stW L no 1
    · rw [if_pos (.inr d), s0]
      exact ⟨by omega, by omega, d⟩
    · rw [if_neg (fun z => z.elim c d)]
      obtain ⟨a1, a2, a3⟩ := o.ro (x - no) (by omega)
      have h4 : no + 1 ≤ L.ro (x - no) := by
        rcases Nat.lt_or_ge (L.ro (x - no)) (no + 1) with z | z
        · have := st_le o (i := L.ro (x - no) + 1) (j := 1 + no) (by omega) (by omega)
          omega
        · exact z
      rw [stW_at o h (by omega) (by omega), stW_at o h (by omega) (by omega), show L.ro (x - no) - no + no = L.ro (x - no) by omega, show L.ro (x - no) - no + 1 + no = L.ro (x - no) + 1 by omega]
      exact ⟨by omega, by omega, by omega⟩
/-- the row of a spot of the great part -/
theorem roW_pl {t : T} {L : Lin} {no s : Nat} (o : OkL t L) (h : no + 1 ≤ L.r) (hs : s < L.n) (hn : no ≤ L.ro s) : roW L no (s + no) = L.ro s - no := by
  obtain ⟨a1, a2, a3⟩ := o.ro s hs
  have s1 := stW_at o h (i := 1) (Nat.le_refl _) (by omega)
  unfold roW
  by_cases c : max 1 (L.r - no) = 1
  · rw [if_pos (.inl c)]; omega
  · by_cases d : s + no < stW L no 1
    · rw [if_pos (.inr d)]
      rcases Nat.lt_or_ge no (L.ro s) with z | z
      · have := st_le o (i := 1 + no) (j := L.ro s) (by omega) (by omega)
        omega
      · omega
    · rw [if_neg (fun z => z.elim c d), Nat.add_sub_cancel]
theorem ok_wovL {ts : List T} {u : T} {L : Lin} {i : Nat} {ps : List (Nat × T)} (ok : Ok (.row true ts)) (hu : ts[i]? = some u) (o : OkL u L) (nd : (ps.map (·.1)).Nodup) (hm : ∀ j v, (j, v) ∈ ps ↔ (ts[j]? = some v ∧ j ≠ i)) (ht : totC ps + ppl u = ppls ts) (hbig : totC ps + 2 ≤ ppl u) :
    OkL (.row true ts) (wovL L i ps (sgW L (totC ps + 1))) := by
  have hok : ∀ q ∈ ps, Ok q.2 := fun q hq => piece_Ok (t := .row true ts) (i := q.1) ((hm q.1 q.2).mp hq).1 ok
  have oku : Ok u := piece_Ok (t := .row true ts) (i := i) hu ok
  have hLn : L.n = ppl u := o.hn
  have hLr : L.r = rws u := o.hr
  have hn : 0 < L.n := by omega
  have hr : 0 < L.r := by rw [hLr]; exact rws_pos oku.1
  have g := sg_ok (no := totC ps) o hn hr (by omega)
  generalize sgW L (totC ps + 1) = sg at g
  have wv := wv_ok o g
  obtain ⟨no, hno⟩ : ∃ no, no = totC ps := ⟨_, rfl⟩
  have inU : ∀ {p}, isPers u p = true → isPers (.row true ts) (i :: p) = true := fun {p} hp => pers_in1 (by rw [cnt_row]; exact (List.getElem?_eq_some_iff.mp hu).1) hu hp
  have inO : ∀ {q : Nat × T} {p : List Nat}, q ∈ ps → isPers q.2 p = true → isPers (.row true ts) (q.1 :: p) = true := fun {q p} hq hp => by
    have h1 := ((hm q.1 q.2).mp hq).1
    exact pers_in1 (by rw [cnt_row]; exact (List.getElem?_eq_some_iff.mp h1).1) h1 hp
  have neO : ∀ {q : Nat × T}, q ∈ ps → q.1 ≠ i := fun {q} hq => ((hm q.1 q.2).mp hq).2
  -- what sits at a spot
  have atO : ∀ {k}, k < totC ps → atW L sg i ps (osW L sg k) = atC ps k := fun {k} hk => by
    unfold atW
    have e : ahW L sg (totC ps) (osW L sg k) = k := by rw [ahW_e, osW_e]; exact wv.ah_os hk
    rw [e, if_pos ⟨hk, rfl⟩]
  have atP : ∀ {s}, s < L.n → atW L sg i ps (s + min (pcW L sg s) (totC ps)) = i :: L.at_ s := fun {s} hs => by
    unfold atW
    have h1 := wv.ah_pl hs
    rw [← ahW_e, ← osW_e] at h1
    rw [h1.1, if_neg (fun z => h1.2 z.1 z.2), Nat.add_sub_cancel]
  have find : ∀ {x}, x < L.n + totC ps → (∃ k, k < totC ps ∧ x = osW L sg k) ∨ ∃ s, s < L.n ∧ x = s + min (pcW L sg s) (totC ps) := fun {x} hx => by
    rcases wv.find hx with ⟨k, h1, h2⟩ | h
    · exact .inl ⟨k, h1, by rw [osW_e]; exact h2⟩
    · exact .inr h
  -- rows
  have rw1 : max 1 (L.r - totC ps) = rws (.row true ts) := by
    have h1 := exs_mem (List.mem_of_getElem? hu)
    have h2 : exs ts ≤ max (rws u + ppl u) (2 * totC ps) := exs_leB fun v hv => by
      obtain ⟨j, hj, e⟩ := List.getElem_of_mem hv
      by_cases c : j = i
      · subst c
        have : some v = some u := by rw [← hu, List.getElem?_eq_getElem hj, e]
        cases this
        exact Nat.le_max_left _ _
      · have hq : (j, v) ∈ ps := (hm j v).mpr ⟨by rw [List.getElem?_eq_getElem hj, e], c⟩
        have a1 := bkC_le nd hq
        have a2 := rws_le (hok _ hq).1
        have a3 : bkC ps j + ppl v ≤ totC ps := a1
        have a4 : rws v ≤ ppl v := a2
        omega
    rw [rws, if_pos rfl, hLr]
    omega
  refine ⟨?_, rw1, ?_, ?_, fun j hj => ?_, fun x hx => ?_, fun x hx => ?_, fun p hp => ?_, fun x hx he => ?_⟩
  · show L.n + totC ps = _
    rw [ppl, ← ht, hLn, Nat.add_comm]
  · show stW L (totC ps) 0 = 0
    unfold stW; rw [if_pos rfl]
  · show stW L (totC ps) (max 1 (L.r - totC ps)) = L.n + totC ps
    unfold stW; rw [if_neg (by omega), if_pos rfl]
  · have hj : j < max 1 (L.r - totC ps) := hj
    show stW L (totC ps) j < stW L (totC ps) (j + 1)
    rcases g.at_ with ⟨_, hb⟩ | ⟨_, hb, _, _⟩
    · by_cases c : j = 0
      · subst c
        rw [stW_at o hb (i := 0 + 1) (by omega) (by omega)]
        have h0 : stW L (totC ps) 0 = 0 := by unfold stW; rw [if_pos rfl]
        have := st_lt o (i := 0) (j := 0 + 1 + totC ps) (by omega) (by omega)
        rw [h0]; omega
      · rw [stW_at o hb (by omega) (by omega), stW_at o hb (by omega) (by omega)]
        have := o.up (j + totC ps) (by omega)
        rw [show j + 1 + totC ps = j + totC ps + 1 by omega]
        omega
    · have c : j = 0 := by omega
      subst c
      unfold stW
      rw [if_pos rfl, if_neg (by omega), if_pos (by omega)]; omega
  · have hx : x < L.n + totC ps := hx
    show roW L (totC ps) x < max 1 (L.r - totC ps) ∧ stW L (totC ps) (roW L (totC ps) x) ≤ x ∧ x < stW L (totC ps) (roW L (totC ps) x + 1)
    rcases g.at_ with ⟨_, hb⟩ | ⟨_, hb, _, _⟩
    · obtain ⟨a1, a2, a3⟩ := roW_at o hb hx
      exact ⟨by omega, a2, a3⟩
    · have e : roW L (totC ps) x = 0 := by unfold roW; rw [if_pos (.inl (by omega))]
      rw [e]
      refine ⟨by omega, by unfold stW; rw [if_pos rfl]; omega, ?_⟩
      unfold stW
      rw [if_neg (by omega), if_pos (by omega)]; exact hx
  · have hx : x < L.n + totC ps := hx
    show isPers _ (atW L sg i ps x) = true ∧ spW L sg i ps (atW L sg i ps x) = x
    rcases find hx with ⟨k, hk, rfl⟩ | ⟨s, hs, rfl⟩
    · rw [atO hk]
      obtain ⟨q, hq, p, e, hp, hnu, _, _⟩ := atC_ok nd hok hk
      rw [e]
      refine ⟨inO hq hp, ?_⟩
      show (if q.1 = i then _ else osW L sg (nuC ps (q.1 :: p))) = _
      rw [if_neg (neO hq), hnu]
    · rw [atP hs]
      obtain ⟨a1, a2⟩ := o.at_ s hs
      refine ⟨inU a1, ?_⟩
      show (if i = i then L.sp (L.at_ s) + min (pcW L sg (L.sp (L.at_ s))) (totC ps) else _) = _
      rw [if_pos rfl, a2]
  · show spW L sg i ps p < L.n + totC ps ∧ atW L sg i ps (spW L sg i ps p) = p
    cases p with
    | nil => have := pers_nil hp; cases this
    | cons j q =>
      obtain ⟨v, hj, hv, hq⟩ := pers_cons hp
      have hv : ts[j]? = some v := hv
      by_cases c : j = i
      · subst c
        have : some v = some u := by rw [← hu, ← hv]
        cases this
        obtain ⟨b1, b2⟩ := o.sp q hq
        have e : spW L sg j ps (j :: q) = L.sp q + min (pcW L sg (L.sp q)) (totC ps) := by
          show (if j = j then _ else _) = _
          rw [if_pos rfl]
        rw [e, atP b1, b2]
        exact ⟨by omega, rfl⟩
      · have hmem := (hm j v).mpr ⟨hv, c⟩
        obtain ⟨a1, a2, _, _⟩ := nuC_ok (q := (j, v)) nd hok hmem hq
        have e : spW L sg i ps (j :: q) = osW L sg (nuC ps (j :: q)) := by
          show (if j = i then _ else _) = _
          rw [if_neg c]
        rw [e, atO a1]
        refine ⟨?_, a2⟩
        have a1 : nuC ps (j :: q) < totC ps := a1
        have := (wv.lo (nuC ps (j :: q)) a1).2.1
        rw [osW_e]; omega
  · have hx : x + 1 < L.n + totC ps := hx
    have he : roW L (totC ps) x = roW L (totC ps) (x + 1) := he
    show knowsB _ (atW L sg i ps x) (atW L sg i ps (x + 1)) = true
    have kn1 : ∀ {k s}, k < totC ps → knowsB (.row true ts) (atC ps k) (i :: L.at_ s) = true ∧ knowsB (.row true ts) (i :: L.at_ s) (atC ps k) = true := fun {k s} hk => by
      obtain ⟨q, hq, p, e, _⟩ := atC_ok nd hok hk
      rw [e, knows_out (fun z => neO hq z.symm), knows_out (neO hq)]
      exact ⟨rfl, rfl⟩
    rcases find (show x < L.n + totC ps by omega) with ⟨k, hk, ex⟩ | ⟨s, hs, ex⟩
    · -- behind one of the others a piece begins
      obtain ⟨h1, h2, h3, h4⟩ := wv.lo k hk
      have e2 : x + 1 = eW L sg k + min (pcW L sg (eW L sg k)) (totC ps) := by
        rw [ex, osW_e, h4]; omega
      rw [e2, atP h2, ex, atO hk]
      exact (kn1 hk).1
    · rcases find hx with ⟨k, hk, ey⟩ | ⟨s2, hs2, ey⟩
      · rw [ey, atO hk, ex, atP hs]
        exact (kn1 hk).2
      · have es : s2 = s + 1 := by
          rcases Nat.lt_trichotomy s2 (s + 1) with z | z | z
          · have := wv.le (a := s2) (b := s) (by omega) hs
            omega
          · exact z
          · have := wv.le (a := s) (b := s2) (by omega) hs2
            omega
        subst es
        have hc : min (pcW L sg s) (totC ps) = min (pcW L sg (s + 1)) (totC ps) := by omega
        rw [ey, atP hs2, ex, atP hs, knows_in (show piece (.row true ts) i = some u from hu)]
        refine o.kn s hs2 ?_
        -- the row of the great part's line is one and the same
        have hmo := ro_mono o hs2
        rcases g.at_ with ⟨h0, hb⟩ | ⟨h0, hb, hpc, _⟩
        · have ep : ∀ y, pcW L sg y = L.ro y := fun y => by
            unfold pcW
            rw [h0, if_neg (by omega), ro_zero o hn hr]; omega
          rw [ep, ep] at hc
          by_cases c : L.ro s < totC ps
          · omega
          · rw [ey, ex, ep, ep, show min (L.ro s) (totC ps) = totC ps by omega, show min (L.ro (s + 1)) (totC ps) = totC ps by omega, roW_pl o hb hs (by omega), roW_pl o hb hs2 (by omega)] at he
            omega
        · -- no more pieces than others and one
          have hle : pcW L sg (s + 1) ≤ totC ps := by
            have h5 : pcW L sg (L.n - 1) = totC ps := by
              have := g.lt
              unfold pcW
              unfold pcs1 at hpc
              have h6 := (o.ro sg g.lt).1
              by_cases y : L.n - 1 < sg
              · omega
              · rw [if_neg y, ro_last o hn hr]; omega
            have := wv.le (a := s + 1) (b := L.n - 1) (by omega) (by omega)
            omega
          have h7 := wv.mono s hs2
          have h8 : pcW L sg s = pcW L sg (s + 1) := by omega
          unfold pcW at h8
          have h6 := (o.ro sg g.lt).1
          by_cases c1 : s + 1 < sg
          · rw [if_pos (by omega), if_pos c1] at h8; omega
          · rw [if_neg c1] at h8
            by_cases c2 : s < sg
            · have e : s + 1 = sg := by omega
              rw [if_pos c2, e] at h8; omega
            · rw [if_neg c2] at h8
              have h9 := ro_le o (a := sg) (b := s) (by omega) hs
              omega
end PL
/-! PM22: a line said over and over. -/
namespace PL
open PySem SX TL
def stC (L : Lin) (x : Nat) : Nat := x / L.r * L.n + L.st (x % L.r)
def roC (L : Lin) (s : Nat) : Nat := s / L.n * L.r + L.ro (s % L.n)
theorem dm {a b c : Nat} (h : b < a) : (a * c + b) / a = c ∧ (a * c + b) % a = b := ⟨by rw [Nat.mul_add_div (by omega), Nat.div_eq_of_lt h, Nat.add_zero], by rw [Nat.mul_add_mod, Nat.mod_eq_of_lt h]⟩
theorem stC_at {L : Lin} {k j : Nat} (h : j < L.r) : stC L (L.r * k + j) = k * L.n + L.st j := by
  unfold stC
  rw [(dm h).1, (dm h).2]
theorem stC_all {t : T} {L : Lin} (o : OkL t L) (hr : 0 < L.r) (k : Nat) : stC L (L.r * k) = k * L.n := by
  have := stC_at (L := L) (k := k) (j := 0) hr
  rw [Nat.add_zero, o.s0, Nat.add_zero] at this
  exact this
theorem stC_up {t : T} {L : Lin} (o : OkL t L) (hr : 0 < L.r) (x : Nat) : stC L x < stC L (x + 1) := by
  have hx := Nat.div_add_mod x L.r
  have hm := Nat.mod_lt x hr
  generalize x / L.r = k at hx
  generalize x % L.r = j at hx hm
  subst hx
  have hup := o.up j hm
  rw [stC_at hm]
  by_cases h : j + 1 < L.r
  · rw [Nat.add_assoc, stC_at h]; omega
  · have hj : j + 1 = L.r := by omega
    have e : L.r * k + j + 1 = L.r * (k + 1) := by rw [Nat.mul_succ]; omega
    rw [e, stC_all o hr, Nat.succ_mul]
    rw [hj, o.sr] at hup
    omega
theorem roC_at {L : Lin} {k j : Nat} (h : j < L.n) : roC L (L.n * k + j) = k * L.r + L.ro j := by
  unfold roC
  rw [(dm h).1, (dm h).2]
theorem roC_in {t : T} {L : Lin} (o : OkL t L) (hr : 0 < L.r) (hn : 0 < L.n) (s : Nat) : stC L (roC L s) ≤ s ∧ s < stC L (roC L s + 1) := by
  have hx := Nat.div_add_mod s L.n
  have hm := Nat.mod_lt s hn
  generalize s / L.n = k at hx
  generalize s % L.n = j at hx hm
  subst hx
  obtain ⟨h1, h2, h3⟩ := o.ro j hm
  rw [roC_at hm, Nat.mul_comm k, stC_at h1, Nat.mul_comm k]
  refine ⟨by omega, ?_⟩
  by_cases h : L.ro j + 1 < L.r
  · rw [Nat.add_assoc, stC_at h, Nat.mul_comm k]; omega
  · have hj : L.ro j + 1 = L.r := by omega
    have e : L.r * k + L.ro j + 1 = L.r * (k + 1) := by rw [Nat.mul_succ]; omega
    rw [e, stC_all o hr, Nat.succ_mul, Nat.mul_comm k]
    omega
theorem roC_lt {t : T} {L : Lin} (o : OkL t L) (hn : 0 < L.n) {s m : Nat} (h : s < m * L.n) : roC L s < m * L.r := by
  have hx := Nat.div_add_mod s L.n
  have hm := Nat.mod_lt s hn
  have hk : s / L.n < m := (Nat.div_lt_iff_lt_mul hn).mpr h
  generalize s / L.n = k at hx hk
  generalize s % L.n = j at hx hm
  subst hx
  have h1 := (o.ro j hm).1
  rw [roC_at hm]
  have : (k + 1) * L.r ≤ m * L.r := Nat.mul_le_mul_right _ hk
  rw [Nat.succ_mul] at this
  omega
end PL
/-! PM23: lines of parts one behind the other. -/
namespace PL
open PySem SX TL
def nB : List (Nat × Lin) → Nat
  | [] => 0
  | b :: r => b.1 * b.2.n + nB r
def rB : List (Nat × Lin) → Nat
  | [] => 0
  | b :: r => b.1 * b.2.r + rB r
def stB : List (Nat × Lin) → Nat → Nat
  | [], _ => 0
  | b :: r, x => if x < b.1 * b.2.r then stC b.2 x else b.1 * b.2.n + stB r (x - b.1 * b.2.r)
def roB : List (Nat × Lin) → Nat → Nat
  | [], _ => 0
  | b :: r, s => if s < b.1 * b.2.n then roC b.2 s else b.1 * b.2.r + roB r (s - b.1 * b.2.n)
def atB : Nat → List (Nat × Lin) → Nat → List Nat
  | _, [], _ => []
  | f, b :: r, s => if s < b.1 * b.2.n then (f + s / b.2.n) :: b.2.at_ (s % b.2.n) else atB (f + b.1) r (s - b.1 * b.2.n)
def spB : Nat → List (Nat × Lin) → Nat → List Nat → Nat
  | _, [], _, _ => 0
  | f, b :: r, i, q => if i < f + b.1 then (i - f) * b.2.n + b.2.sp q else b.1 * b.2.n + spB (f + b.1) r i q
/-- the blocks are lines of the parts from f on -/
def Bx (t : T) : Nat → List (Nat × T × Lin) → Prop
  | _, [] => True
  | f, b :: r => OkL b.2.1 b.2.2 ∧ 0 < b.2.2.n ∧ 0 < b.2.2.r ∧ (∀ i, f ≤ i → i < f + b.1 → piece t i = some b.2.1) ∧ Bx t (f + b.1) r
abbrev lns (bs : List (Nat × T × Lin)) : List (Nat × Lin) := bs.map fun b => (b.1, b.2.2)
abbrev cts (bs : List (Nat × T × Lin)) : Nat := (bs.map (·.1)).sum
structure OkB (t : T) (f : Nat) (bs : List (Nat × T × Lin)) : Prop where
  s0 : stB (lns bs) 0 = 0
  sr : stB (lns bs) (rB (lns bs)) = nB (lns bs)
  up : ∀ i, i < rB (lns bs) → stB (lns bs) i < stB (lns bs) (i + 1)
  ro : ∀ s, s < nB (lns bs) → roB (lns bs) s < rB (lns bs) ∧ stB (lns bs) (roB (lns bs) s) ≤ s ∧ s < stB (lns bs) (roB (lns bs) s + 1)
  at_ : ∀ s, s < nB (lns bs) → ∃ i q u, atB f (lns bs) s = i :: q ∧ f ≤ i ∧ i < f + cts bs ∧ piece t i = some u ∧ isPers u q = true ∧ spB f (lns bs) i q = s
  sp : ∀ i q u, f ≤ i → i < f + cts bs → piece t i = some u → isPers u q = true → spB f (lns bs) i q < nB (lns bs) ∧ atB f (lns bs) (spB f (lns bs) i q) = i :: q
  kn : ∀ s, s + 1 < nB (lns bs) → roB (lns bs) s = roB (lns bs) (s + 1) → knowsB t (atB f (lns bs) s) (atB f (lns bs) (s + 1)) = true
theorem okB {t : T} : ∀ {bs : List (Nat × T × Lin)} {f : Nat}, Bx t f bs → OkB t f bs
  | [], f, _ => ⟨rfl, rfl, fun i h => absurd h (Nat.not_lt_zero _), fun s h => absurd h (Nat.not_lt_zero _), fun s h => absurd h (Nat.not_lt_zero _), fun i q u h1 h2 => by have : i < f + 0 := h2; omega, fun s h => absurd h (Nat.not_lt_zero _)⟩
  | b :: r, f, hx => by
    obtain ⟨o, hn, hr, hpc, hx⟩ := hx
    have ih := okB hx
    obtain ⟨m, u, L⟩ := b
    have o : OkL u L := o
    have hn : 0 < L.n := hn
    have hr : 0 < L.r := hr
    have eN : nB (lns ((m, u, L) :: r)) = m * L.n + nB (lns r) := rfl
    have eR : rB (lns ((m, u, L) :: r)) = m * L.r + rB (lns r) := rfl
    have eS : ∀ x, stB (lns ((m, u, L) :: r)) x = if x < m * L.r then stC L x else m * L.n + stB (lns r) (x - m * L.r) := fun x => rfl
    have eO : ∀ s, roB (lns ((m, u, L) :: r)) s = if s < m * L.n then roC L s else m * L.r + roB (lns r) (s - m * L.n) := fun s => rfl
    have eA : ∀ s, atB f (lns ((m, u, L) :: r)) s = if s < m * L.n then (f + s / L.n) :: L.at_ (s % L.n) else atB (f + m) (lns r) (s - m * L.n) := fun s => rfl
    have eP : ∀ i q, spB f (lns ((m, u, L) :: r)) i q = if i < f + m then (i - f) * L.n + L.sp q else m * L.n + spB (f + m) (lns r) i q := fun i q => rfl
    have eC : cts ((m, u, L) :: r) = m + cts r := by show ((m :: r.map (·.1)).sum) = _; rw [List.sum_cons]
    have full : stC L (m * L.r) = m * L.n := by rw [Nat.mul_comm m, stC_all o hr]
    -- the start of a row, from both sides
    have eS2 : ∀ x, x ≤ m * L.r → stB (lns ((m, u, L) :: r)) x = stC L x := fun x hx => by
      rw [eS]
      by_cases c : x < m * L.r
      · rw [if_pos c]
      · have e : x = m * L.r := by omega
        rw [if_neg c, e, Nat.sub_self, ih.s0, full, Nat.add_zero]
    have eS3 : ∀ x, m * L.r ≤ x → stB (lns ((m, u, L) :: r)) x = m * L.n + stB (lns r) (x - m * L.r) := fun x hx => by rw [eS, if_neg (by omega)]
    have rlow : ∀ s, s < m * L.n → roC L s < m * L.r := fun s hs => roC_lt o hn hs
    refine ⟨?_, ?_, fun i hi => ?_, fun s hs => ?_, fun s hs => ?_, fun i q v h1 h2 hv hq => ?_, fun s hs he => ?_⟩
    · rw [eS2 0 (Nat.zero_le _)]
      have := stC_all o hr 0
      rw [Nat.mul_zero, Nat.zero_mul] at this
      exact this
    · rw [eR, eS3 _ (Nat.le_add_right _ _), Nat.add_sub_cancel_left, ih.sr, eN]
    · rw [eR] at hi
      by_cases c : i < m * L.r
      · rw [eS2 i (by omega), eS2 (i + 1) c]
        exact stC_up o hr i
      · rw [eS3 i (by omega), eS3 (i + 1) (by omega), show i + 1 - m * L.r = i - m * L.r + 1 by omega]
        have := ih.up (i - m * L.r) (by omega)
        omega
    · rw [eN] at hs
      rw [eO, eR]
      by_cases c : s < m * L.n
      · rw [if_pos c]
        have h1 := rlow s c
        obtain ⟨h2, h3⟩ := roC_in o hr hn s
        rw [eS2 (roC L s) (by omega), eS2 (roC L s + 1) (by omega)]
        exact ⟨by omega, h2, h3⟩
      · rw [if_neg c]
        obtain ⟨h1, h2, h3⟩ := ih.ro (s - m * L.n) (by omega)
        rw [eS3 _ (Nat.le_add_right _ _), eS3 (m * L.r + roB (lns r) (s - m * L.n) + 1) (by omega), Nat.add_sub_cancel_left, show m * L.r + roB (lns r) (s - m * L.n) + 1 - m * L.r = roB (lns r) (s - m * L.n) + 1 by omega]
        exact ⟨by omega, by omega, by omega⟩
    · rw [eN] at hs
      rw [eA, eC]
      by_cases c : s < m * L.n
      · rw [if_pos c]
        have hk : s / L.n < m := (Nat.div_lt_iff_lt_mul hn).mpr c
        obtain ⟨a1, a2⟩ := o.at_ (s % L.n) (Nat.mod_lt _ hn)
        have k1 : f + s / L.n < f + m := Nat.add_lt_add_left hk f
        refine ⟨f + s / L.n, L.at_ (s % L.n), u, rfl, Nat.le_add_right _ _, Nat.lt_of_lt_of_le k1 (by rw [← Nat.add_assoc]; exact Nat.le_add_right _ _), hpc _ (Nat.le_add_right _ _) k1, a1, ?_⟩
        rw [eP, if_pos k1, a2, Nat.add_sub_cancel_left, Nat.mul_comm]
        exact Nat.div_add_mod s L.n
      · rw [if_neg c]
        obtain ⟨i, q, v, a1, a2, a3, a4, a5, a6⟩ := ih.at_ (s - m * L.n) (by omega)
        refine ⟨i, q, v, a1, by omega, by omega, a4, a5, ?_⟩
        rw [eP, if_neg (by omega), a6]; omega
    · rw [eC] at h2
      rw [eP, eN]
      by_cases c : i < f + m
      · rw [if_pos c, eA]
        have hpi := hpc i h1 c
        rw [hpi] at hv
        obtain rfl := Option.some.inj hv
        obtain ⟨b1, b2⟩ := o.sp q hq
        have h3 : (i - f + 1) * L.n ≤ m * L.n := Nat.mul_le_mul_right _ (by omega)
        rw [Nat.succ_mul] at h3
        have h4 : (i - f) * L.n + L.sp q < m * L.n := by omega
        rw [if_pos h4, Nat.mul_comm (i - f), (dm b1).1, (dm b1).2, b2, show f + (i - f) = i by omega]
        exact ⟨by rw [Nat.mul_comm (L.n)]; omega, rfl⟩
      · rw [if_neg c, eA]
        obtain ⟨b1, b2⟩ := ih.sp i q v (by omega) (by omega) hv hq
        rw [if_neg (Nat.not_lt.mpr (Nat.le_add_right _ _)), Nat.add_sub_cancel_left, b2]
        exact ⟨Nat.add_lt_add_left b1 _, rfl⟩
    · rw [eN] at hs
      rw [eO, eO] at he
      rw [eA, eA]
      by_cases c : s + 1 < m * L.n
      · rw [if_pos (by omega), if_pos c] at he
        rw [if_pos (by omega), if_pos c]
        have hx := Nat.div_add_mod s L.n
        have hm := Nat.mod_lt s hn
        have hk : s / L.n < m := (Nat.div_lt_iff_lt_mul hn).mpr (by omega)
        generalize s / L.n = k at hx hk ⊢
        generalize s % L.n = j at hx hm ⊢
        subst hx
        by_cases d : j + 1 < L.n
        · rw [roC_at hm, Nat.add_assoc, roC_at d] at he
          rw [Nat.add_assoc, (dm d).1, (dm d).2, knows_in (hpc (f + k) (by omega) (by omega))]
          exact o.kn j d (by omega)
        · have hj : j + 1 = L.n := by omega
          have e : L.n * k + j + 1 = L.n * (k + 1) + 0 := by rw [Nat.mul_succ]; omega
          rw [roC_at hm, e, roC_at hn] at he
          have := (o.ro j hm).1
          rw [Nat.succ_mul] at he
          omega
      · by_cases d : s < m * L.n
        · rw [if_pos d, if_neg c] at he
          have := rlow s d
          omega
        · rw [if_neg d, if_neg c, show s + 1 - m * L.n = s - m * L.n + 1 by omega] at he
          rw [if_neg d, if_neg c, show s + 1 - m * L.n = s - m * L.n + 1 by omega]
          exact ih.kn (s - m * L.n) (by omega) (by omega)
end PL
/-! PM26: the line of parts beside one another. -/
namespace PL
open PySem SX TL
def besL (bs : List (Nat × T × Lin)) : Lin := ⟨nB (lns bs), rB (lns bs), stB (lns bs), roB (lns bs), atB 0 (lns bs), fun p => match p with | [] => 0 | i :: q => spB 0 (lns bs) i q⟩
abbrev kbs (lf : T → Lin) (t : T) : List (Nat × T × Lin) := (kids t).map fun q => (q.1, q.2, lf q.2)
theorem bx_row {s : Bool} {ts : List T} {lf : T → Lin} (h : ∀ u ∈ ts, OkL u (lf u) ∧ 0 < (lf u).n ∧ 0 < (lf u).r) : ∀ (l : List T) (f : Nat), (∀ k u, l[k]? = some u → ts[f + k]? = some u) → Bx (.row s ts) f (l.map fun u => (1, u, lf u))
  | [], f, _ => trivial
  | u :: l, f, hl => by
    have hu : ts[f + 0]? = some u := hl 0 u rfl
    obtain ⟨h1, h2, h3⟩ := h u (List.mem_of_getElem? hu)
    refine ⟨h1, h2, h3, fun i a b => ?_, bx_row h l (f + 1) fun k v hv => ?_⟩
    · have : i < f + 1 := b
      obtain rfl : i = f := by omega
      exact hu
    · rw [show f + 1 + k = f + (k + 1) by omega]; exact hl (k + 1) v hv
theorem ok_besL {t : T} {lf : T → Lin} (ok : Ok t) (hI : intr t = false) (h1 : isOneT t = false) (hl : ∀ u, (∃ j, piece t j = some u) → OkL u (lf u)) : OkL t (besL (kbs lf t)) := by
  have pos : ∀ {u}, (∃ j, piece t j = some u) → 0 < (lf u).n ∧ 0 < (lf u).r := fun {u} hu => by
    have o := hl u hu
    obtain ⟨j, hj⟩ := hu
    have oku := piece_Ok hj ok
    rw [o.hn, o.hr]
    exact ⟨ppl_pos oku.1, rws_pos oku.1⟩
  have hb : Bx t 0 (kbs lf t) ∧ nB (lns (kbs lf t)) = ppl t ∧ rB (lns (kbs lf t)) = rws t ∧ cts (kbs lf t) = cnt t := by
    cases t with
    | one => cases h1
    | name x => exact ok.2.1.elim
    | cop s n u =>
      obtain rfl : s = false := hI
      have o := hl u ⟨0, rfl⟩
      have p := pos (u := u) ⟨0, rfl⟩
      refine ⟨⟨o, p.1, p.2, fun i _ _ => rfl, trivial⟩, ?_, ?_, ?_⟩
      · show n * (lf u).n + 0 = _
        rw [o.hn, ppl]; rfl
      · show n * (lf u).r + 0 = _
        rw [o.hr, rws, if_neg (by simp)]; rfl
      · show n + 0 = _
        rw [cnt_cop]; rfl
    | row s ts =>
      obtain rfl : s = false := hI
      have ek : kbs lf (.row false ts) = ts.map fun u => (1, u, lf u) := by
        show (ts.map fun t => (1, t)).map _ = _
        rw [List.map_map]; rfl
      have hmem : ∀ u ∈ ts, ∃ j, piece (.row false ts) j = some u := fun u hu => by
        obtain ⟨j, hj, e⟩ := List.getElem_of_mem hu
        exact ⟨j, by show ts[j]? = _; rw [List.getElem?_eq_getElem hj, e]⟩
      rw [ek]
      refine ⟨bx_row (fun u hu => ⟨hl u (hmem u hu), pos (hmem u hu)⟩) ts 0 fun k u hu => by rw [Nat.zero_add]; exact hu, ?_, ?_, ?_⟩
      · have go : ∀ l : List T, (∀ u ∈ l, u ∈ ts) → nB (lns (l.map fun u => (1, u, lf u))) = ppls l := by
          intro l
          induction l with
          | nil => intro _; rw [ppls]; rfl
          | cons u l ih =>
            intro h
            show 1 * (lf u).n + nB (lns (l.map fun u => (1, u, lf u))) = _
            rw [ih fun v hv => h v (List.mem_cons_of_mem _ hv), (hl u (hmem u (h u List.mem_cons_self))).hn, ppls, Nat.one_mul]
        rw [go ts fun u h => h, ppl]
      · have go : ∀ l : List T, (∀ u ∈ l, u ∈ ts) → rB (lns (l.map fun u => (1, u, lf u))) = rwss l := by
          intro l
          induction l with
          | nil => intro _; rw [rwss]; rfl
          | cons u l ih =>
            intro h
            show 1 * (lf u).r + rB (lns (l.map fun u => (1, u, lf u))) = _
            rw [ih fun v hv => h v (List.mem_cons_of_mem _ hv), (hl u (hmem u (h u List.mem_cons_self))).hr, rwss, Nat.one_mul]
        rw [go ts fun u h => h, rws, if_neg (by simp)]
      · rw [cnt_row]
        show ((ts.map fun u => (1, u, lf u)).map (·.1)).sum = _
        rw [List.map_map]
        have : ∀ l : List T, (l.map ((fun b : Nat × T × Lin => b.1) ∘ fun u => (1, u, lf u))).sum = l.length := by
          intro l
          induction l with
          | nil => rfl
          | cons u l ih => rw [List.map_cons, List.sum_cons, ih, List.length_cons]; show 1 + _ = _; omega
        exact this ts
  obtain ⟨bx, e1, e2, e3⟩ := hb
  have o := okB bx
  have isone : ∀ {p}, isPers t p = true → ∃ i q, p = i :: q := fun {p} hp => by
    cases p with
    | nil => have := pers_nil hp; subst this; cases h1
    | cons i q => exact ⟨i, q, rfl⟩
  refine ⟨e1, e2, o.s0, o.sr, o.up, o.ro, fun s hs => ?_, fun p hp => ?_, o.kn⟩
  · obtain ⟨i, q, u, a1, a2, a3, a4, a5, a6⟩ := o.at_ s hs
    show isPers t (atB 0 (lns (kbs lf t)) s) = true ∧ (besL (kbs lf t)).sp (atB 0 (lns (kbs lf t)) s) = s
    rw [a1]
    exact ⟨pers_in1 (by rw [Nat.zero_add, e3] at a3; exact a3) a4 a5, a6⟩
  · obtain ⟨i, q, rfl⟩ := isone hp
    obtain ⟨u, hi, hu, hq⟩ := pers_cons hp
    exact o.sp i q u (Nat.zero_le _) (by rw [Nat.zero_add, e3]; exact hi) hu hq
end PL
/-! PM30: parts by how many people they have; the line of a plan. -/
namespace PL
open PySem SX TL
def idxT : Nat → List T → List (Nat × T)
  | _, [] => []
  | k, t :: r => (k, t) :: idxT (k + 1) r
theorem idxT_mem : ∀ {ts : List T} {k i : Nat} {u : T}, (i, u) ∈ idxT k ts ↔ ∃ j, i = k + j ∧ ts[j]? = some u
  | [], k, i, u => by
    constructor
    · intro h; cases h
    · rintro ⟨j, _, h⟩; simp at h
  | t :: r, k, i, u => by
    rw [idxT, List.mem_cons, idxT_mem (ts := r)]
    constructor
    · rintro (h | ⟨j, h1, h2⟩)
      · cases h; exact ⟨0, rfl, rfl⟩
      · exact ⟨j + 1, by omega, by simpa using h2⟩
    · rintro ⟨j, h1, h2⟩
      cases j with
      | zero => simp at h2; exact .inl (by rw [h1, h2]; rfl)
      | succ j => exact .inr ⟨j, by omega, by simpa using h2⟩
theorem idx0_mem {ts : List T} {i : Nat} {u : T} : (i, u) ∈ idxT 0 ts ↔ ts[i]? = some u := by
  rw [idxT_mem]
  constructor
  · rintro ⟨j, h1, h2⟩; rw [Nat.zero_add] at h1; rw [h1]; exact h2
  · intro h; exact ⟨i, (Nat.zero_add i).symm, h⟩
theorem idxT_nd : ∀ (ts : List T) (k : Nat), ((idxT k ts).map (·.1)).Nodup
  | [], k => List.nodup_nil
  | t :: r, k => by
    rw [idxT, List.map_cons]
    refine List.nodup_cons.mpr ⟨fun h => ?_, idxT_nd r (k + 1)⟩
    obtain ⟨⟨i, u⟩, h1, h2⟩ := List.mem_map.mp h
    obtain ⟨j, h3, _⟩ := idxT_mem.mp h1
    have : i = k := h2
    omega
theorem idxT_tot : ∀ (ts : List T) (k : Nat), totC (idxT k ts) = ppls ts
  | [], k => by rw [ppls]; rfl
  | t :: r, k => by rw [idxT, totC_cons, idxT_tot r, ppls]
theorem idxT_len : ∀ (ts : List T) (k : Nat), (idxT k ts).length = ts.length
  | [], k => rfl
  | t :: r, k => by rw [idxT, List.length_cons, idxT_len r, List.length_cons]
def leP (a b : Nat × T) : Bool := decide (ppl b.2 < ppl a.2) || (decide (ppl a.2 = ppl b.2) && decide (a.1 ≤ b.1))
theorem leP_iff (a b : Nat × T) : leP a b = true ↔ (ppl b.2 < ppl a.2 ∨ (ppl a.2 = ppl b.2 ∧ a.1 ≤ b.1)) := by
  unfold leP
  rw [Bool.or_eq_true, Bool.and_eq_true, decide_eq_true_eq, decide_eq_true_eq, decide_eq_true_eq]
def byP (ts : List T) : List (Nat × T) := (idxT 0 ts).mergeSort leP
theorem byP_perm (ts : List T) : (byP ts).Perm (idxT 0 ts) := List.mergeSort_perm _ _
theorem byP_mem {ts : List T} {i : Nat} {u : T} : (i, u) ∈ byP ts ↔ ts[i]? = some u := by
  rw [(byP_perm ts).mem_iff, idx0_mem]
theorem byP_nd (ts : List T) : ((byP ts).map (·.1)).Nodup := ((byP_perm ts).map _).nodup_iff.mpr (idxT_nd ts 0)
theorem tot_perm {a b : List (Nat × T)} (h : a.Perm b) : totC a = totC b := by
  unfold totC
  exact (h.map _).sum_nat
theorem byP_tot (ts : List T) : totC (byP ts) = ppls ts := by rw [tot_perm (byP_perm ts), idxT_tot]
theorem byP_len (ts : List T) : (byP ts).length = ts.length := by rw [(byP_perm ts).length_eq, idxT_len]
theorem byP_sorted (ts : List T) : (byP ts).Pairwise fun a b => leP a b = true := by
  unfold byP
  apply List.pairwise_mergeSort
  · intro a b c h1 h2
    rw [leP_iff] at *
    omega
  · intro a b
    rw [Bool.or_eq_true, leP_iff, leP_iff]
    omega
theorem byP_head {ts : List T} {x : Nat × T} {r : List (Nat × T)} (h : byP ts = x :: r) : ∀ y ∈ x :: r, ppl y.2 ≤ ppl x.2 := by
  have hs := byP_sorted ts
  rw [h] at hs
  intro y hy
  rcases List.mem_cons.mp hy with rfl | hy
  · exact Nat.le_refl _
  · have := (leP_iff _ _).mp ((List.pairwise_cons.mp hs).1 y hy)
    omega
theorem byP_ne {ts : List T} (h : ts ≠ []) : ∃ x r, byP ts = x :: r := by
  cases e : byP ts with
  | nil =>
    have := byP_len ts
    rw [e] at this
    cases ts with
    | nil => exact absurd rfl h
    | cons _ _ => simp at this
  | cons x r => exact ⟨x, r, rfl⟩
/-- the greatest part's number, the others -/
def topN (ts : List T) : Nat := match byP ts with
  | [] => 0
  | x :: _ => x.1
def topT (ts : List T) : T := match byP ts with
  | [] => .one
  | x :: _ => x.2
def othC (ts : List T) : List (Nat × T) := (idxT 0 ts).filter fun q => decide (q.1 ≠ topN ts)
theorem top_at {ts : List T} (h : ts ≠ []) : ts[topN ts]? = some (topT ts) := by
  obtain ⟨x, r, e⟩ := byP_ne h
  unfold topN topT
  rw [e]
  exact byP_mem.mp (by rw [e]; exact List.mem_cons_self)
theorem top_max {ts : List T} {v : T} (hv : v ∈ ts) : ppl v ≤ ppl (topT ts) := by
  obtain ⟨x, r, e⟩ := byP_ne (List.ne_nil_of_mem hv)
  obtain ⟨j, hj, ej⟩ := List.getElem_of_mem hv
  have hm : (j, v) ∈ byP ts := byP_mem.mpr (by rw [List.getElem?_eq_getElem hj, ej])
  rw [e] at hm
  have h := byP_head e (j, v) hm
  unfold topT
  rw [e]
  exact h
theorem oth_mem {ts : List T} {j : Nat} {v : T} : (j, v) ∈ othC ts ↔ (ts[j]? = some v ∧ j ≠ topN ts) := by
  unfold othC
  rw [List.mem_filter, idx0_mem, decide_eq_true_eq]
theorem oth_nd (ts : List T) : ((othC ts).map (·.1)).Nodup := by
  unfold othC
  exact List.Nodup.sublist (List.Sublist.map _ List.filter_sublist) (idxT_nd ts 0)
theorem tot_filter {i : Nat} {u : T} : ∀ {l : List (Nat × T)}, (l.map (·.1)).Nodup → (i, u) ∈ l → totC (l.filter fun q => decide (q.1 ≠ i)) + ppl u = totC l
  | x :: r, nd, h => by
    have nd2 := List.nodup_cons.mp (show (x.1 :: r.map (·.1)).Nodup from nd)
    rw [List.filter_cons, totC_cons]
    rcases List.mem_cons.mp h with e | h
    · subst e
      rw [if_neg (by simp)]
      have e2 : (r.filter fun q => decide (q.1 ≠ i)) = r := by
        refine List.filter_eq_self.mpr fun y hy => decide_eq_true fun e => nd2.1 ?_
        show i ∈ _
        rw [← e]; exact List.mem_map_of_mem hy
      rw [e2]
      show totC r + ppl u = ppl u + totC r
      omega
    · have hne : x.1 ≠ i := fun e => nd2.1 (by rw [e]; exact List.mem_map_of_mem (f := fun q : Nat × T => q.1) h)
      rw [if_pos (decide_eq_true hne), totC_cons]
      have := tot_filter nd2.2 h
      omega
theorem oth_tot {ts : List T} (h : ts ≠ []) : totC (othC ts) + ppl (topT ts) = ppls ts := by
  have := tot_filter (idxT_nd ts 0) (idx0_mem.mpr (top_at h))
  rw [idxT_tot] at this
  exact this
/-! ### the line of a plan -/
mutual
def linM : T → Lin
  | .one => oneL
  | .name _ => oneL
  | .cop s n u => if s = true then copL n u else besL [(n, u, linM u)]
  | .row s ts => if s = true then (if ppl (topT ts) ≤ totC (othC ts) + 1 then halL (byP ts) else wovL (((linMs ts)[topN ts]?.map fun b => b.2.2).getD oneL) (topN ts) (othC ts) (sgW (((linMs ts)[topN ts]?.map fun b => b.2.2).getD oneL) (totC (othC ts) + 1))) else besL (linMs ts)
def linMs : List T → List (Nat × T × Lin)
  | [] => []
  | t :: ts => (1, t, linM t) :: linMs ts
end
theorem linMs_map : ∀ ts : List T, linMs ts = ts.map fun u => (1, u, linM u)
  | [] => by rw [linMs]; rfl
  | t :: ts => by rw [linMs, linMs_map ts]; rfl
/-- the line of the greatest part -/
theorem linMs_top {ts : List T} (h : ts ≠ []) : ((linMs ts)[topN ts]?.map fun b => b.2.2).getD oneL = linM (topT ts) := by
  rw [linMs_map, List.getElem?_map, top_at h]; rfl
theorem linM_bes {t : T} (ht : Told t) (hI : intr t = false) (h1 : isOneT t = false) : linM t = besL (kbs linM t) := by
  cases t with
  | one => cases h1
  | name x => exact ht.elim
  | cop s n u =>
    obtain rfl : s = false := hI
    rw [linM, if_neg (by simp)]; rfl
  | row s ts =>
    obtain rfl : s = false := hI
    rw [linM, if_neg (by simp), linMs_map]
    show _ = besL ((ts.map fun t => (1, t)).map _)
    rw [List.map_map]; rfl
theorem linM_hal {ts : List T} (h : ppl (topT ts) ≤ totC (othC ts) + 1) : linM (.row true ts) = halL (byP ts) := by
  rw [linM, if_pos rfl, if_pos h]
theorem linM_wov {ts : List T} (h0 : ts ≠ []) (h : ¬ ppl (topT ts) ≤ totC (othC ts) + 1) : linM (.row true ts) = wovL (linM (topT ts)) (topN ts) (othC ts) (sgW (linM (topT ts)) (totC (othC ts) + 1)) := by
  rw [linM, if_pos rfl, if_neg h, linMs_top h0]
theorem linM_ok : ∀ (h : Nat) {t : T}, ht t ≤ h → Ok t → OkL t (linM t) := by
  intro h
  induction h with
  | zero =>
    intro t hh ok
    cases t with
    | one => rw [linM]; exact ok_oneL
    | name x => exact ok.2.1.elim
    | cop s n u => rw [ht] at hh; omega
    | row s ts => rw [ht] at hh; omega
  | succ h ih =>
    intro t hh ok
    have sub : ∀ {u}, (∃ j, piece t j = some u) → OkL u (linM u) := fun {u} ⟨j, hj⟩ => ih (by have := piece_ht hj; omega) (piece_Ok hj ok)
    by_cases h1 : isOneT t = true
    · cases t with
      | one => rw [linM]; exact ok_oneL
      | _ => cases h1
    have h1 : isOneT t = false := by simpa using h1
    by_cases hI : intr t = true
    · cases t with
      | one => cases h1
      | name x => exact ok.2.1.elim
      | cop s n u =>
        obtain rfl : s = true := hI
        rw [linM, if_pos rfl]
        exact ok_copL ok
      | row s ts =>
        obtain rfl : s = true := hI
        have h0 : ts ≠ [] := fun e => by have := ok.1.1; rw [e] at this; simp at this
        have hu := top_at h0
        have ht := oth_tot h0
        by_cases c : ppl (topT ts) ≤ totC (othC ts) + 1
        · rw [linM_hal c]
          obtain ⟨x, r, e⟩ := byP_ne h0
          have ex : topT ts = x.2 := by unfold topT; rw [e]
          rw [e]
          have hmax := byP_head e
          have htot := byP_tot ts
          rw [e] at htot
          have nd := byP_nd ts
          rw [e] at nd
          refine ok_halL ok nd (fun i u => by rw [← e]; exact byP_mem) htot hmax (by rw [← ex]; omega) ?_
          have hr1 : exs ts ≤ 2 * ppl (topT ts) := exs_leB fun v hv => by
            have a1 := top_max hv
            obtain ⟨j, hj, ej⟩ := List.getElem_of_mem hv
            have okv : Ok v := piece_Ok (t := .row true ts) (i := j) (by show ts[j]? = _; rw [List.getElem?_eq_getElem hj, ej]) ok
            have := rws_le okv.1
            omega
          rw [rws, if_pos rfl]
          omega
        · rw [linM_wov h0 c]
          exact ok_wovL ok hu (sub ⟨topN ts, hu⟩) (oth_nd ts) (fun j v => oth_mem) ht (by omega)
    · have hI : intr t = false := by simpa using hI
      rw [linM_bes ok.2.1 hI h1]
      exact ok_besL ok hI h1 fun u hu => sub hu
end PL
/-! DL33: an instance made without arguments. -/
namespace DL
open PySem PySem.Spec PyProof.Rows L2
section
variable {X : Cx} {ρ : Rho} {M : Mp} {Φ : D → Mp → Prop} {pos p : Pos} {x : Str} {k n : Nat} {c : Con} {dd : List D}
theorem we_make0 {C : Addr} (F : Kc X.prog X.w X.K X.mg X.base x C dd k n c) (hr : Room (k + 1) X.A)
    (h : ∀ a, M a = none → (D.ob a :: dd).length = n ∧ c (.ob a :: dd) (mset M a (.ins C [])) fun d M2 => d = .non ∧ Lets Φ (.ob a) M2) (hg : Gl X x := by rfl)
    (hdb : (x == ("__debug__" : Str)) = false := by decide) : WE X ρ M (.Call (.Name x p) [] [] pos) Φ := .mk fun σ H Q en w k => by
  obtain ⟨f, fd, ps, dvs, ds, F', hm, hbd, hd, hdd⟩ := F.ex
  refine eOf (pe_make0 (E := E0) hm F' hr hg F.at_ hbd hd pass0 hdb) ?_
  intro a dx ha hdx ne
  obtain ⟨hl, hz⟩ := h a (w.fresh ha).1
  have ha1 : (upd H dx (.own a)) a = none := by rw [upd_ne (Ne.symm ne)]; exact ha
  have x1 : Ext M _ H M (upd H dx (.own a)) := Ext.new w hdx
  have wa := w.new (o := .own a) hdx
  have x2 : Ext M _ (upd H dx (.own a)) (mset M a (.ins C [])) (upd (upd H dx (.own a)) a (.ins C dx [])) := Ext.newM wa ha1
  have x12 := x1.trans x2
  refine ⟨.ob a :: dd, mset M a (.ins C []), _, _, hl, .cons (.ob a) (hdd _ _ _), wa.newM ha1 ⟨dx, [], upd_same, .nil⟩, hz, fun v d H2 M2 x3 w2 r2 hy => ?_⟩
  obtain ⟨rfl, hy⟩ := hy
  cases r2
  exact ⟨rfl, lets_k (k.step x12) _ _ H2 M2 x3 w2 (.ob a) hy⟩
end
end DL
/-! E80: lines as data. -/
namespace W
open PySem PySem.Spec PyProof.Rows L2 DL SX PL SlX
/-- where the classes stand: Plan, Crowd, OneLine, BesideLine, CopiesLine, HalvesLine, WovenLine -/
structure Ad where
  c : Addr
  r : Addr
  o : Addr
  b : Addr
  k : Addr
  h : Addr
  w : Addr
def fO : List (Str × D) := [("own_people", .int 1), ("own_rows", .int 1)]
def fK (a : Ad) (n : Nat) (u : T) : List (Str × D) := [("own_many", .int (n : Nat)), ("own_part", planD a.c u), ("own_people", .int ((n * ppl u : Nat) : Int)), ("own_rows", .int 1)]
def fH (a : Ad) (ts : List T) : List (Str × D) := [("own_crowd", crwD a.c a.r (byP ts)), ("own_people", .int ((ppls ts : Nat) : Int)), ("own_rows", .int 1)]
def fW (a : Ad) (ts : List T) (ld : D) (L : Lin) : List (Str × D) := [("own_number", .int (topN ts : Nat)), ("own_line", ld), ("own_others", crwD a.c a.r (othC ts)), ("own_people", .int ((L.n + totC (othC ts) : Nat) : Int)), ("own_rows", .int ((max 1 (L.r - totC (othC ts)) : Nat) : Int)), ("own_single", .int ((sgW L (totC (othC ts) + 1) : Nat) : Int))]
def bz : Nat → Nat → Nat → List (Nat × T) → List D → List D
  | p, r, f, q :: l, d :: ds => .tup [.int (p : Nat), .int (r : Nat), .int (f : Nat), d] :: bz (p + q.1 * ppl q.2) (r + q.1 * rws q.2) (f + q.1) l ds
  | _, _, _, _, _ => []
mutual
def linD (a : Ad) : T → D
  | .one => .ins a.o fO
  | .name _ => .non
  | .cop s n u => if s = true then .ins a.k (fK a n u) else .ins a.b [("own_blocks", .lst (bz 0 0 0 [(n, u)] [linD a u])), ("own_people", .int ((ppl (.cop s n u) : Nat) : Int)), ("own_rows", .int ((rws (.cop s n u) : Nat) : Int))]
  | .row s ts => if s = true then (if ppl (topT ts) ≤ totC (othC ts) + 1 then .ins a.h (fH a ts) else .ins a.w (fW a ts (((linDs a ts)[topN ts]?).getD .non) (linM (topT ts)))) else .ins a.b [("own_blocks", .lst (bz 0 0 0 (kids (.row s ts)) (linDs a ts))), ("own_people", .int ((ppl (.row s ts) : Nat) : Int)), ("own_rows", .int ((rws (.row s ts) : Nat) : Int))]
def linDs (a : Ad) : List T → List D
  | [] => []
  | t :: ts => linD a t :: linDs a ts
end
theorem linDs_map (a : Ad) : ∀ ts : List T, linDs a ts = ts.map (linD a)
  | [] => by rw [linDs]; rfl
  | t :: ts => by rw [linDs, linDs_map a ts]; rfl
/-- rows (people ahead, rows ahead, first part, part) -/
def mkL : Nat → Nat → Nat → List (Nat × T) → List (Nat × Nat × Nat × T)
  | _, _, _, [] => []
  | p, r, f, q :: l => (p, r, f, q.2) :: mkL (p + q.1 * ppl q.2) (r + q.1 * rws q.2) (f + q.1) l
def blD (a : Ad) (x : Nat × Nat × Nat × T) : D := .tup [.int (x.1 : Nat), .int (x.2.1 : Nat), .int (x.2.2.1 : Nat), linD a x.2.2.2]
theorem bz_map (a : Ad) : ∀ (l : List (Nat × T)) (p r f : Nat), bz p r f l (l.map fun q => linD a q.2) = (mkL p r f l).map (blD a)
  | [], p, r, f => by rw [List.map_nil, bz]; rfl; exact fun _ _ _ _ h => by cases h
  | q :: l, p, r, f => by rw [List.map_cons, bz, bz_map a l, mkL]; rfl
def fB (a : Ad) (t : T) : List (Str × D) := [("own_blocks", .lst ((mkL 0 0 0 (kids t)).map (blD a))), ("own_people", .int ((ppl t : Nat) : Int)), ("own_rows", .int ((rws t : Nat) : Int))]
theorem linD_one (a : Ad) : linD a .one = .ins a.o fO := by rw [linD]
theorem linD_cop (a : Ad) (n : Nat) (u : T) : linD a (.cop true n u) = .ins a.k (fK a n u) := by rw [linD, if_pos rfl]
theorem linD_bes (a : Ad) {t : T} (ht : Told t) (hI : intr t = false) (h1 : isOneT t = false) : linD a t = .ins a.b (fB a t) := by
  cases t with
  | one => cases h1
  | name x => exact ht.elim
  | cop s n u =>
    obtain rfl : s = false := hI
    rw [linD, if_neg (by simp)]
    have := bz_map a [(n, u)] 0 0 0
    rw [List.map_cons, List.map_nil] at this
    rw [this]; rfl
  | row s ts =>
    obtain rfl : s = false := hI
    rw [linD, if_neg (by simp), linDs_map]
    have := bz_map a (kids (.row false ts)) 0 0 0
    have e : (kids (.row false ts)).map (fun q => linD a q.2) = ts.map (linD a) := by
      show (ts.map fun t => (1, t)).map _ = _
      rw [List.map_map]; rfl
    rw [e] at this
    rw [this]; rfl
theorem linD_hal (a : Ad) {ts : List T} (h : ppl (topT ts) ≤ totC (othC ts) + 1) : linD a (.row true ts) = .ins a.h (fH a ts) := by
  rw [linD, if_pos rfl, if_pos h]
theorem linD_wov (a : Ad) {ts : List T} (h0 : ts ≠ []) (h : ¬ ppl (topT ts) ≤ totC (othC ts) + 1) : linD a (.row true ts) = .ins a.w (fW a ts (linD a (topT ts)) (linM (topT ts))) := by
  rw [linD, if_pos rfl, if_neg h, linDs_map, List.getElem?_map, top_at h0]; rfl
/-! ### kinds -/
inductive Kd where | o | b | k | h | w deriving DecidableEq
def kdL : T → Kd
  | .one => .o
  | .name _ => .o
  | .cop s _ _ => if s = true then .k else .b
  | .row s ts => if s = true then (if ppl (topT ts) ≤ totC (othC ts) + 1 then .h else .w) else .b
def adK (a : Ad) : Kd → Addr
  | .o => a.o
  | .b => a.b
  | .k => a.k
  | .h => a.h
  | .w => a.w
def fldK (a : Ad) (t : T) : List (Str × D) := match t with
  | .one => fO
  | .name _ => []
  | .cop s n u => if s = true then fK a n u else fB a t
  | .row s ts => if s = true then (if ppl (topT ts) ≤ totC (othC ts) + 1 then fH a ts else fW a ts (linD a (topT ts)) (linM (topT ts))) else fB a t
theorem linD_at (a : Ad) {t : T} (ok : Ok t) : linD a t = .ins (adK a (kdL t)) (fldK a t) := by
  cases t with
  | one => exact linD_one a
  | name x => exact ok.2.1.elim
  | cop s n u =>
    cases s with
    | true => rw [linD_cop]; rfl
    | false => rw [linD_bes a ok.2.1 rfl rfl]; rfl
  | row s ts =>
    cases s with
    | false => rw [linD_bes a ok.2.1 rfl rfl]; rfl
    | true =>
      have h0 : ts ≠ [] := fun e => by have := ok.1.1; rw [e] at this; simp at this
      by_cases c : ppl (topT ts) ≤ totC (othC ts) + 1
      · rw [linD_hal a c]; unfold kdL fldK adK; simp only [if_pos c, if_true]
      · rw [linD_wov a h0 c]; unfold kdL fldK adK; simp only [if_neg c, if_true]
theorem insL {M : Mp} {a : Ad} {t : T} (ok : Ok t) : InsOf M (adK a (kdL t)) (linD a t) (fldK a t) := by rw [linD_at a ok]; exact ⟨rfl, rfl⟩
/-! ### fields -/
theorem fld_cop (a : Ad) (n : Nat) (u : T) : fldK a (.cop true n u) = fK a n u := rfl
theorem fld_bes (a : Ad) {t : T} (ht : Told t) (hI : intr t = false) (h1 : isOneT t = false) : fldK a t = fB a t := by
  cases t with
  | one => cases h1
  | name x => exact ht.elim
  | cop s n u => obtain rfl : s = false := hI; rfl
  | row s ts => obtain rfl : s = false := hI; rfl
theorem fld_hal (a : Ad) {ts : List T} (h : ppl (topT ts) ≤ totC (othC ts) + 1) : fldK a (.row true ts) = fH a ts := by
  show (if true = true then (if ppl (topT ts) ≤ totC (othC ts) + 1 then fH a ts else fW a ts (linD a (topT ts)) (linM (topT ts))) else fB a (.row true ts)) = _
  rw [if_pos rfl, if_pos h]
theorem fld_wov (a : Ad) {ts : List T} (h : ¬ ppl (topT ts) ≤ totC (othC ts) + 1) : fldK a (.row true ts) = fW a ts (linD a (topT ts)) (linM (topT ts)) := by
  show (if true = true then (if ppl (topT ts) ≤ totC (othC ts) + 1 then fH a ts else fW a ts (linD a (topT ts)) (linM (topT ts))) else fB a (.row true ts)) = _
  rw [if_pos rfl, if_neg h]
theorem ts_ne {s : Bool} {ts : List T} (ok : Ok (.row s ts)) : ts ≠ [] := fun e => by have := ok.1.1; rw [e] at this; simp at this
/-- the kinds, one by one -/
theorem kd_cases {t : T} (ok : Ok t) : t = .one ∨ (intr t = false ∧ isOneT t = false) ∨ (∃ n u, t = .cop true n u) ∨ (∃ ts, t = .row true ts ∧ ppl (topT ts) ≤ totC (othC ts) + 1) ∨ ∃ ts, t = .row true ts ∧ ¬ ppl (topT ts) ≤ totC (othC ts) + 1 := by
  cases t with
  | one => exact .inl rfl
  | name x => exact ok.2.1.elim
  | cop s n u =>
    cases s with
    | true => exact .inr (.inr (.inl ⟨n, u, rfl⟩))
    | false => exact .inr (.inl ⟨rfl, rfl⟩)
  | row s ts =>
    cases s with
    | false => exact .inr (.inl ⟨rfl, rfl⟩)
    | true =>
      by_cases c : ppl (topT ts) ≤ totC (othC ts) + 1
      · exact .inr (.inr (.inr (.inl ⟨ts, rfl, c⟩)))
      · exact .inr (.inr (.inr (.inr ⟨ts, rfl, c⟩)))
theorem lk_lpeo (a : Ad) {t : T} (ok : Ok t) : List.lookup ("own_people" : Str) (fldK a t) = some (.int ((ppl t : Nat) : Int)) := by
  rcases kd_cases ok with rfl | ⟨hI, h1⟩ | ⟨n, u, rfl⟩ | ⟨ts, rfl, c⟩ | ⟨ts, rfl, c⟩
  · rw [ppl]; exact lk_hit
  · rw [fld_bes a ok.2.1 hI h1]; unfold fB; rw [lk_miss (by decide +kernel), lk_hit]
  · rw [fld_cop, ppl]; unfold fK; rw [lk_miss (by decide +kernel), lk_miss (by decide +kernel), lk_hit]
  · rw [fld_hal a c, ppl]; unfold fH; rw [lk_miss (by decide +kernel), lk_hit]
  · have h0 := ts_ne ok
    have okt : Ok (topT ts) := piece_Ok (t := .row true ts) (top_at h0) ok
    have h1 := (linM_ok _ (Nat.le_refl _) okt).hn
    have h2 := oth_tot h0
    rw [fld_wov a c, ppl]; unfold fW
    rw [lk_miss (by decide +kernel), lk_miss (by decide +kernel), lk_miss (by decide +kernel), lk_hit, h1, Nat.add_comm, h2]
theorem lk_lrow (a : Ad) {t : T} (ok : Ok t) : List.lookup ("own_rows" : Str) (fldK a t) = some (.int ((rws t : Nat) : Int)) := by
  have hr := (linM_ok _ (Nat.le_refl _) ok).hr
  rcases kd_cases ok with rfl | ⟨hI, h1⟩ | ⟨n, u, rfl⟩ | ⟨ts, rfl, c⟩ | ⟨ts, rfl, c⟩
  · rw [rws]; show List.lookup ("own_rows" : Str) fO = _; unfold fO; rw [lk_miss (by decide +kernel), lk_hit]; rfl
  · rw [fld_bes a ok.2.1 hI h1]; unfold fB; rw [lk_miss (by decide +kernel), lk_miss (by decide +kernel), lk_hit]
  · rw [linM, if_pos rfl] at hr
    rw [fld_cop]; unfold fK; rw [lk_miss (by decide +kernel), lk_miss (by decide +kernel), lk_miss (by decide +kernel), lk_hit, ← hr]; rfl
  · rw [linM_hal c] at hr
    rw [fld_hal a c]; unfold fH; rw [lk_miss (by decide +kernel), lk_miss (by decide +kernel), lk_hit, ← hr]; rfl
  · rw [linM_wov (ts_ne ok) c] at hr
    rw [fld_wov a c]; unfold fW
    rw [lk_miss (by decide +kernel), lk_miss (by decide +kernel), lk_miss (by decide +kernel), lk_miss (by decide +kernel), lk_hit, ← hr]; rfl
def lNames : List Str := ["own_people", "own_rows", "own_blocks", "own_many", "own_part", "own_crowd", "own_number", "own_line", "own_others", "own_single"]
/-- what the written part says of the lines' classes -/
structure Lx (K : PySem.W.Frag) (mg : Str → Option Value) (a : Ad) : Prop where
  cr : Wx K mg a.r
  ao : mg "OneLine" = some (.ref a.o)
  ab : mg "BesideLine" = some (.ref a.b)
  ak : mg "CopiesLine" = some (.ref a.k)
  ah : mg "HalvesLine" = some (.ref a.h)
  aw : mg "WovenLine" = some (.ref a.w)
  cl : ∀ k, Cls K (adK a k)
  na : ∀ k f, f ∈ lNames → NoAttr K (adK a k) f
/-- no field has a method's name -/
theorem lk_meth (a : Ad) {t : T} (ok : Ok t) {m : Str} (h : m ∉ lNames) : List.lookup m (fldK a t) = none := by
  have ne : ∀ {x : Str}, x ∈ lNames → (m == x) = false := fun {x} hx => beq_eq_false_iff_ne.mpr fun e => h (e ▸ hx)
  have n1 : (m == ("own_people" : Str)) = false := ne (by decide +kernel)
  have n2 : (m == ("own_rows" : Str)) = false := ne (by decide +kernel)
  have n3 : (m == ("own_blocks" : Str)) = false := ne (by decide +kernel)
  have n4 : (m == ("own_many" : Str)) = false := ne (by decide +kernel)
  have n5 : (m == ("own_part" : Str)) = false := ne (by decide +kernel)
  have n6 : (m == ("own_crowd" : Str)) = false := ne (by decide +kernel)
  have n7 : (m == ("own_number" : Str)) = false := ne (by decide +kernel)
  have n8 : (m == ("own_line" : Str)) = false := ne (by decide +kernel)
  have n9 : (m == ("own_others" : Str)) = false := ne (by decide +kernel)
  have n10 : (m == ("own_single" : Str)) = false := ne (by decide +kernel)
  rcases kd_cases ok with rfl | ⟨hI, h1⟩ | ⟨n, u, rfl⟩ | ⟨ts, rfl, c⟩ | ⟨ts, rfl, c⟩
  · show List.lookup m fO = none; unfold fO; rw [lk_miss n1, lk_miss n2]; rfl
  · rw [fld_bes a ok.2.1 hI h1]; unfold fB; rw [lk_miss n3, lk_miss n1, lk_miss n2]; rfl
  · rw [fld_cop]; unfold fK; rw [lk_miss n4, lk_miss n5, lk_miss n1, lk_miss n2]; rfl
  · rw [fld_hal a c]; unfold fH; rw [lk_miss n6, lk_miss n1, lk_miss n2]; rfl
  · rw [fld_wov a c]; unfold fW; rw [lk_miss n7, lk_miss n8, lk_miss n9, lk_miss n1, lk_miss n2, lk_miss n10]; rfl
section
variable {X : Cx} {ρ : Rho} {M : Mp} {Φ : D → Mp → Prop} {a : Ad} {t : T} {o e : Expr} {pos apos : Pos}
theorem we_lpeo (L : Lx X.K X.mg a) (ok : Ok t) (h : WE X ρ M o fun d M1 => d = linD a t ∧ Φ (.int ((ppl t : Nat) : Int)) M1) (hb : attributeBase o "own_people" X.env (eval o X.env) = eval o X.env := by rfl) : WE X ρ M (.Attribute o "own_people" pos) Φ :=
  we_fld (C := adK a (kdL t)) (h.imp fun d M1 ⟨e1, h⟩ => ⟨_, _, by rw [e1]; exact insL ok, L.cl _, L.na _ _ (by decide +kernel), lk_lpeo a ok, h⟩) hb
theorem we_lrow (L : Lx X.K X.mg a) (ok : Ok t) (h : WE X ρ M o fun d M1 => d = linD a t ∧ Φ (.int ((rws t : Nat) : Int)) M1) (hb : attributeBase o "own_rows" X.env (eval o X.env) = eval o X.env := by rfl) : WE X ρ M (.Attribute o "own_rows" pos) Φ :=
  we_fld (C := adK a (kdL t)) (h.imp fun d M1 ⟨e1, h⟩ => ⟨_, _, by rw [e1]; exact insL ok, L.cl _, L.na _ _ (by decide +kernel), lk_lrow a ok, h⟩) hb
/-- a method that all lines have -/
theorem we_lmeth {m : Str} {k : Nat} {c : Kd → Con} {pl : Sem Bool} (F : ∀ κ, Mc X.prog X.w X.K X.mg X.base (adK a κ) m [] k 2 (c κ)) (hr : Room k X.A) (ok : Ok t)
    (h : WE X ρ M o fun d M1 => d = linD a t ∧ WE X ρ M1 e fun y M2 => c (kdL t) [linD a t, y] M2 Φ) (hm : m ∉ lNames := by decide +kernel)
    (hst : starEach [e] X.env = (false, eval e X.env) :: starEach [] X.env := by rfl) (hpl : (backTo pos (starEach [] X.env)).any (·.1) = false := by rfl)
    (ht : eval (.Call (.Attribute o m apos) [e] [] pos) X.env = (do
      let ov ← eval o X.env
      standAt apos.atName
      let (f, first) ← holding [ov] (getMethod ov m pl)
      callWith pos f first (backTo pos (starEach [e] X.env)) (backToKw pos (keywordEach [] X.env))) := by rfl) : WE X ρ M (.Call (.Attribute o m apos) [e] [] pos) Φ :=
  we_meth (F (kdL t)) hr (h.imp fun d M1 ⟨e1, h⟩ => ⟨_, by rw [e1]; exact insL ok, lk_meth a ok hm, wa_cons (h.imp fun y M2 h => wa_nil ⟨rfl, by rw [e1]; exact h⟩) hst⟩) hst hpl ht
end
/-! ### what the methods promise -/
def cSt (a : Ad) (h : Nat) (κ : Kd) : Con := fun ds M Φ => ∃ t i, ds = [linD a t, .int (i : Nat)] ∧ Ok t ∧ ht t ≤ h ∧ ppl t ≤ 10 ^ 30 ∧ kdL t = κ ∧ i ≤ rws t ∧ Φ (.int (((linM t).st i : Nat) : Int)) M
def cRo (a : Ad) (h : Nat) (κ : Kd) : Con := fun ds M Φ => ∃ t i, ds = [linD a t, .int (i : Nat)] ∧ Ok t ∧ ht t ≤ h ∧ ppl t ≤ 10 ^ 30 ∧ kdL t = κ ∧ i < ppl t ∧ Φ (.int (((linM t).ro i : Nat) : Int)) M
def cLAt (a : Ad) (h : Nat) (κ : Kd) : Con := fun ds M Φ => ∃ t i, ds = [linD a t, .int (i : Nat)] ∧ Ok t ∧ ht t ≤ h ∧ ht t ≤ 60 ∧ ppl t ≤ 10 ^ 30 ∧ kdL t = κ ∧ i < ppl t ∧ Φ (perD ((linM t).at_ i)) M
def cLSp (a : Ad) (h : Nat) (κ : Kd) : Con := fun ds M Φ => ∃ t p, ds = [linD a t, perD p] ∧ Ok t ∧ ht t ≤ h ∧ ppl t ≤ 10 ^ 30 ∧ kdL t = κ ∧ isPers t p = true ∧ Φ (.int (((linM t).sp p : Nat) : Int)) M
end W
/-! PM31: the line of parts beside one another, block by block. -/
namespace PL
open PySem SX TL
def gS (g : Nat × T → Nat) (l : List (Nat × T)) : Nat := (l.map g).sum
abbrev wp (q : Nat × T) : Nat := q.1 * ppl q.2
abbrev wr (q : Nat × T) : Nat := q.1 * rws q.2
abbrev wf (q : Nat × T) : Nat := q.1
theorem gS_nil (g : Nat × T → Nat) : gS g [] = 0 := rfl
theorem gS_cons (g : Nat × T → Nat) (q : Nat × T) (l : List (Nat × T)) : gS g (q :: l) = g q + gS g l := by unfold gS; rw [List.map_cons, List.sum_cons]
theorem gS_app (g : Nat × T → Nat) (l r : List (Nat × T)) : gS g (l ++ r) = gS g l + gS g r := by unfold gS; rw [List.map_append, List.sum_append]
theorem gS_find (g : Nat × T → Nat) : ∀ {l : List (Nat × T)} {v : Nat}, v < gS g l → ∃ l1 q l2, l = l1 ++ q :: l2 ∧ gS g l1 ≤ v ∧ v < gS g l1 + g q
  | [], v, h => by rw [gS_nil] at h; omega
  | q :: l, v, h => by
    rw [gS_cons] at h
    by_cases c : v < g q
    · exact ⟨[], q, l, rfl, by rw [gS_nil]; omega, by rw [gS_nil]; omega⟩
    · obtain ⟨l1, x, l2, e, h1, h2⟩ := gS_find g (l := l) (v := v - g q) (by omega)
      exact ⟨q :: l1, x, l2, by rw [e]; rfl, by rw [gS_cons]; omega, by rw [gS_cons]; omega⟩
def lnK (l : List (Nat × T)) : List (Nat × Lin) := l.map fun q => (q.1, linM q.2)
theorem lns_kbs (t : T) : lns (kbs linM t) = lnK (kids t) := by
  show ((kids t).map _).map _ = _
  rw [List.map_map]; rfl
theorem lnK_app (l r : List (Nat × T)) : lnK (l ++ r) = lnK l ++ lnK r := List.map_append
theorem lnK_cons (q : Nat × T) (l : List (Nat × T)) : lnK (q :: l) = (q.1, linM q.2) :: lnK l := rfl
theorem nB_lnK : ∀ {l : List (Nat × T)}, (∀ q ∈ l, Ok q.2) → nB (lnK l) = gS wp l
  | [], _ => rfl
  | q :: l, h => by
    rw [lnK_cons, nB, nB_lnK fun x hx => h x (List.mem_cons_of_mem _ hx), gS_cons, (linM_ok _ (Nat.le_refl _) (h q List.mem_cons_self)).hn]
theorem rB_lnK : ∀ {l : List (Nat × T)}, (∀ q ∈ l, Ok q.2) → rB (lnK l) = gS wr l
  | [], _ => rfl
  | q :: l, h => by
    rw [lnK_cons, rB, rB_lnK fun x hx => h x (List.mem_cons_of_mem _ hx), gS_cons, (linM_ok _ (Nat.le_refl _) (h q List.mem_cons_self)).hr]
theorem stB_split {b : Nat × Lin} {b2 : List (Nat × Lin)} : ∀ {b1 : List (Nat × Lin)} {x : Nat}, rB b1 ≤ x → x < rB b1 + b.1 * b.2.r → stB (b1 ++ b :: b2) x = nB b1 + stC b.2 (x - rB b1)
  | [], x, h1, h2 => by
    rw [rB] at h2
    rw [List.nil_append, stB, if_pos (by omega), nB, rB, Nat.zero_add, Nat.sub_zero]
  | c :: r, x, h1, h2 => by
    rw [rB] at h1 h2
    rw [List.cons_append, stB, if_neg (by omega), stB_split (b1 := r) (by omega) (by omega), nB, rB, Nat.add_assoc, Nat.sub_sub]
theorem roB_split {b : Nat × Lin} {b2 : List (Nat × Lin)} : ∀ {b1 : List (Nat × Lin)} {x : Nat}, nB b1 ≤ x → x < nB b1 + b.1 * b.2.n → roB (b1 ++ b :: b2) x = rB b1 + roC b.2 (x - nB b1)
  | [], x, h1, h2 => by
    rw [nB] at h2
    rw [List.nil_append, roB, if_pos (by omega), nB, rB, Nat.zero_add, Nat.sub_zero]
  | c :: r, x, h1, h2 => by
    rw [nB] at h1 h2
    rw [List.cons_append, roB, if_neg (by omega), roB_split (b1 := r) (by omega) (by omega), nB, rB, Nat.add_assoc, Nat.sub_sub]
theorem atB_split {b : Nat × Lin} {b2 : List (Nat × Lin)} : ∀ {b1 : List (Nat × Lin)} {f x : Nat}, nB b1 ≤ x → x < nB b1 + b.1 * b.2.n → atB f (b1 ++ b :: b2) x = (f + (b1.map (·.1)).sum + (x - nB b1) / b.2.n) :: b.2.at_ ((x - nB b1) % b.2.n)
  | [], f, x, h1, h2 => by
    rw [nB] at h2
    rw [List.nil_append, atB, if_pos (by omega), nB, Nat.sub_zero]; rfl
  | c :: r, f, x, h1, h2 => by
    rw [nB] at h1 h2
    rw [List.cons_append, atB, if_neg (by omega), atB_split (b1 := r) (by omega) (by omega), nB, List.map_cons, List.sum_cons, Nat.sub_sub, Nat.add_assoc f]
theorem spB_split {b : Nat × Lin} {b2 : List (Nat × Lin)} {q : List Nat} : ∀ {b1 : List (Nat × Lin)} {f i : Nat}, f + (b1.map (·.1)).sum ≤ i → i < f + (b1.map (·.1)).sum + b.1 → spB f (b1 ++ b :: b2) i q = nB b1 + (i - (f + (b1.map (·.1)).sum)) * b.2.n + b.2.sp q
  | [], f, i, h1, h2 => by
    rw [List.map_nil, List.sum_nil, Nat.add_zero] at h1 h2
    rw [List.nil_append, spB, if_pos (by omega), nB, List.map_nil, List.sum_nil, Nat.add_zero, Nat.zero_add]
  | c :: r, f, i, h1, h2 => by
    rw [List.map_cons, List.sum_cons] at h1 h2
    rw [List.cons_append, spB, if_neg (by omega), spB_split (b1 := r) (by omega) (by omega), nB, List.map_cons, List.sum_cons, Nat.add_assoc f, Nat.add_assoc, Nat.add_assoc, Nat.add_assoc]
theorem lnK_fst (l : List (Nat × T)) : ((lnK l).map (·.1)).sum = gS wf l := by
  unfold lnK gS
  rw [List.map_map]; rfl
section
variable {t : T} {l1 l2 : List (Nat × T)} {q : Nat × T}
theorem bes_kids (hk : kids t = l1 ++ q :: l2) : q ∈ kids t ∧ ∀ x ∈ l1, x ∈ kids t := ⟨by rw [hk]; simp, fun x hx => by rw [hk]; simp [hx]⟩
theorem bes_st {x : Nat} (ok : Ok t) (hI : intr t = false) (h1 : isOneT t = false) (hk : kids t = l1 ++ q :: l2) (a : gS wr l1 ≤ x) (b : x < gS wr l1 + q.1 * rws q.2) : (linM t).st x = gS wp l1 + (x - gS wr l1) / rws q.2 * ppl q.2 + (linM q.2).st ((x - gS wr l1) % rws q.2) := by
  have hq := bes_kids hk
  have okq := kids_Ok hq.1 ok
  have okl : ∀ x ∈ l1, Ok x.2 := fun x hx => kids_Ok (hq.2 x hx) ok
  have o := linM_ok _ (Nat.le_refl _) okq
  rw [linM_bes ok.2.1 hI h1]
  show stB (lns (kbs linM t)) x = _
  rw [lns_kbs, hk, lnK_app, lnK_cons, stB_split (by rw [rB_lnK okl]; exact a) (by rw [rB_lnK okl, o.hr]; exact b), rB_lnK okl, nB_lnK okl]
  unfold stC
  rw [o.hr, o.hn, Nat.add_assoc]
theorem bes_ro {x : Nat} (ok : Ok t) (hI : intr t = false) (h1 : isOneT t = false) (hk : kids t = l1 ++ q :: l2) (a : gS wp l1 ≤ x) (b : x < gS wp l1 + q.1 * ppl q.2) : (linM t).ro x = gS wr l1 + (x - gS wp l1) / ppl q.2 * rws q.2 + (linM q.2).ro ((x - gS wp l1) % ppl q.2) := by
  have hq := bes_kids hk
  have okq := kids_Ok hq.1 ok
  have okl : ∀ x ∈ l1, Ok x.2 := fun x hx => kids_Ok (hq.2 x hx) ok
  have o := linM_ok _ (Nat.le_refl _) okq
  rw [linM_bes ok.2.1 hI h1]
  show roB (lns (kbs linM t)) x = _
  rw [lns_kbs, hk, lnK_app, lnK_cons, roB_split (by rw [nB_lnK okl]; exact a) (by rw [nB_lnK okl, o.hn]; exact b), rB_lnK okl, nB_lnK okl]
  unfold roC
  rw [o.hr, o.hn, Nat.add_assoc]
theorem bes_at {x : Nat} (ok : Ok t) (hI : intr t = false) (h1 : isOneT t = false) (hk : kids t = l1 ++ q :: l2) (a : gS wp l1 ≤ x) (b : x < gS wp l1 + q.1 * ppl q.2) : (linM t).at_ x = (gS wf l1 + (x - gS wp l1) / ppl q.2) :: (linM q.2).at_ ((x - gS wp l1) % ppl q.2) := by
  have hq := bes_kids hk
  have okq := kids_Ok hq.1 ok
  have okl : ∀ x ∈ l1, Ok x.2 := fun x hx => kids_Ok (hq.2 x hx) ok
  have o := linM_ok _ (Nat.le_refl _) okq
  rw [linM_bes ok.2.1 hI h1]
  show atB 0 (lns (kbs linM t)) x = _
  rw [lns_kbs, hk, lnK_app, lnK_cons, atB_split (by rw [nB_lnK okl]; exact a) (by rw [nB_lnK okl, o.hn]; exact b), nB_lnK okl, lnK_fst, Nat.zero_add]
  show (gS wf l1 + (x - gS wp l1) / (linM q.2).n) :: (linM q.2).at_ ((x - gS wp l1) % (linM q.2).n) = _
  rw [o.hn]
theorem bes_sp {i : Nat} {p : List Nat} (ok : Ok t) (hI : intr t = false) (h1 : isOneT t = false) (hk : kids t = l1 ++ q :: l2) (a : gS wf l1 ≤ i) (b : i < gS wf l1 + q.1) : (linM t).sp (i :: p) = gS wp l1 + (i - gS wf l1) * ppl q.2 + (linM q.2).sp p := by
  have hq := bes_kids hk
  have okq := kids_Ok hq.1 ok
  have okl : ∀ x ∈ l1, Ok x.2 := fun x hx => kids_Ok (hq.2 x hx) ok
  have o := linM_ok _ (Nat.le_refl _) okq
  rw [linM_bes ok.2.1 hI h1]
  show spB 0 (lns (kbs linM t)) i p = _
  rw [lns_kbs, hk, lnK_app, lnK_cons, spB_split (by rw [lnK_fst]; omega) (by rw [lnK_fst]; show i < _ + q.1; omega), nB_lnK okl, lnK_fst, Nat.zero_add]
  show gS wp l1 + (i - gS wf l1) * (linM q.2).n + _ = _
  rw [o.hn]
theorem gp_all (ok : Ok t) (h1 : isOneT t = false) : gS wp (kids t) = ppl t := by
  refine (ppl_kids fun e => ?_).symm
  cases t with
  | one => cases h1
  | name x => exact ok.2.1
  | cop s n u => simp [kids] at e
  | row s ts => unfold kids at e; have := ok.1.1; rw [List.map_eq_nil_iff.mp e] at this; simp at this
theorem gr_all (ok : Ok t) (hI : intr t = false) (h1 : isOneT t = false) : gS wr (kids t) = rws t := by
  have o := linM_ok _ (Nat.le_refl _) ok
  rw [← o.hr, linM_bes ok.2.1 hI h1]
  show _ = rB (lns (kbs linM t))
  rw [lns_kbs, rB_lnK fun q hq => kids_Ok hq ok]
theorem gf_all : gS wf (kids t) = cnt t := rfl
end
end PL
/-! E81: one person; parts beside one another: what the methods tell. -/
namespace W
open PySem PySem.Spec PyProof.Rows L2 DL SX PL SlX
def gK : Nat → Nat × T → Nat
  | 0 => wp
  | 1 => wr
  | _ => wf
def colL : Nat → Nat × Nat × Nat × T → Nat
  | 0, x => x.1
  | 1, x => x.2.1
  | _, x => x.2.2.1
theorem mkL_app : ∀ (p r f : Nat) (l1 l2 : List (Nat × T)), mkL p r f (l1 ++ l2) = mkL p r f l1 ++ mkL (p + gS wp l1) (r + gS wr l1) (f + gS wf l1) l2
  | p, r, f, [], l2 => by rw [gS_nil, gS_nil, gS_nil]; rfl
  | p, r, f, q :: l1, l2 => by
    rw [List.cons_append, mkL, mkL, mkL_app, gS_cons, gS_cons, gS_cons, List.cons_append]
    show _ = _ :: (_ ++ mkL (p + (q.1 * ppl q.2 + gS wp l1)) (r + (q.1 * rws q.2 + gS wr l1)) (f + (q.1 + gS wf l1)) l2)
    rw [Nat.add_assoc, Nat.add_assoc, Nat.add_assoc]
theorem mkL_mem : ∀ {p r f : Nat} {l : List (Nat × T)} {x : Nat × Nat × Nat × T}, x ∈ mkL p r f l → p ≤ x.1 ∧ x.1 ≤ p + gS wp l ∧ r ≤ x.2.1 ∧ x.2.1 ≤ r + gS wr l ∧ f ≤ x.2.2.1 ∧ x.2.2.1 ≤ f + gS wf l
  | p, r, f, [], x, h => by cases h
  | p, r, f, q :: l, x, h => by
    rw [mkL] at h
    rw [gS_cons, gS_cons, gS_cons]
    rcases List.mem_cons.mp h with rfl | h
    · exact ⟨Nat.le_refl _, Nat.le_add_right _ _, Nat.le_refl _, Nat.le_add_right _ _, Nat.le_refl _, Nat.le_add_right _ _⟩
    · have := mkL_mem h
      show _ ∧ _ ≤ p + (q.1 * ppl q.2 + gS wp l) ∧ _ ∧ _ ≤ r + (q.1 * rws q.2 + gS wr l) ∧ _ ∧ _ ≤ f + (q.1 + gS wf l)
      omega
theorem mkL_len : ∀ (p r f : Nat) (l : List (Nat × T)), (mkL p r f l).length = l.length
  | p, r, f, [] => rfl
  | p, r, f, q :: l => by rw [mkL, List.length_cons, List.length_cons, mkL_len]
theorem mkL_snoc {l : List (Nat × T)} {i : Nat} {q : Nat × T} (h : l[i]? = some q) : mkL 0 0 0 (l.take (i + 1)) = mkL 0 0 0 (l.take i) ++ [(gS wp (l.take i), gS wr (l.take i), gS wf (l.take i), q.2)] := by
  rw [take_snoc h, mkL_app, Nat.zero_add, Nat.zero_add, Nat.zero_add]; rfl
theorem gS_snoc {g : Nat × T → Nat} {l : List (Nat × T)} {i : Nat} {q : Nat × T} (h : l[i]? = some q) : gS g (l.take (i + 1)) = gS g (l.take i) + g q := by
  rw [take_snoc h, gS_app, gS_cons, gS_nil, Nat.add_zero]
theorem blkL_le {l1 l2 : List (Nat × T)} {q : Nat × T} {c m : Nat} (h1 : gS (gK c) l1 ≤ m) (h2 : m < gS (gK c) l1 + gK c q) : (mkL 0 0 0 (l1 ++ q :: l2)).filter (fun x => decide (colL c x ≤ m)) = mkL 0 0 0 l1 ++ [(gS wp l1, gS wr l1, gS wf l1, q.2)] := by
  have e1 : colL c (gS wp l1, gS wr l1, gS wf l1, q.2) = gS (gK c) l1 := by
    match c with
    | 0 => rfl
    | 1 => rfl
    | c + 2 => rfl
  have e2 : ∀ x ∈ mkL 0 0 0 l1, colL c x ≤ gS (gK c) l1 := fun x hx => by
    have := mkL_mem hx
    match c with
    | 0 => show x.1 ≤ gS wp l1; omega
    | 1 => show x.2.1 ≤ gS wr l1; omega
    | c + 2 => show x.2.2.1 ≤ gS wf l1; omega
  have e3 : ∀ x ∈ mkL (gS wp l1 + wp q) (gS wr l1 + wr q) (gS wf l1 + wf q) l2, gS (gK c) l1 + gK c q ≤ colL c x := fun x hx => by
    have := mkL_mem hx
    match c with
    | 0 => show gS wp l1 + wp q ≤ x.1; omega
    | 1 => show gS wr l1 + wr q ≤ x.2.1; omega
    | c + 2 => show gS wf l1 + wf q ≤ x.2.2.1; omega
  rw [mkL_app, Nat.zero_add, Nat.zero_add, Nat.zero_add, mkL, List.filter_append, List.filter_cons, if_pos (decide_eq_true (by rw [e1]; exact h1))]
  rw [List.filter_eq_self.mpr fun x hx => decide_eq_true (Nat.le_trans (e2 x hx) h1), List.filter_eq_nil_iff.mpr fun x hx => by
    have := e3 x hx
    simp only [decide_eq_true_eq]; omega]
theorem blD_ix {M : Mp} {a : Ad} {z : Nat × Nat × Nat × T} {c : Nat} (h : c < 3) : IxD M (blD a z) ((c : Nat) : Int) (.int (colL c z : Nat)) := by
  match c, h with
  | 0, _ => exact ixT (atI_nat (j := 0) rfl)
  | 1, _ => exact ixT (atI_nat (j := 1) rfl)
  | 2, _ => exact ixT (atI_nat (j := 2) rfl)
theorem kdL_h {ts : List T} (c : ppl (topT ts) ≤ totC (othC ts) + 1) : kdL (.row true ts) = .h := by
  show (if true = true then (if ppl (topT ts) ≤ totC (othC ts) + 1 then Kd.h else .w) else .b) = _
  rw [if_pos rfl, if_pos c]
theorem kdL_w {ts : List T} (c : ¬ ppl (topT ts) ≤ totC (othC ts) + 1) : kdL (.row true ts) = .w := by
  show (if true = true then (if ppl (topT ts) ≤ totC (othC ts) + 1 then Kd.h else .w) else .b) = _
  rw [if_pos rfl, if_neg c]
theorem kd_o {t : T} (ok : Ok t) (h : kdL t = .o) : t = .one := by
  rcases kd_cases ok with rfl | ⟨hI, h1⟩ | ⟨n, u, rfl⟩ | ⟨ts, rfl, c⟩ | ⟨ts, rfl, c⟩
  · rfl
  · cases t with
    | one => rfl
    | name x => exact ok.2.1.elim
    | cop s n u => obtain rfl : s = false := hI; cases h
    | row s ts => obtain rfl : s = false := hI; cases h
  · cases h
  · rw [kdL_h c] at h; cases h
  · rw [kdL_w c] at h; cases h
theorem kd_b {t : T} (ok : Ok t) (h : kdL t = .b) : intr t = false ∧ isOneT t = false := by
  rcases kd_cases ok with rfl | ⟨hI, h1⟩ | ⟨n, u, rfl⟩ | ⟨ts, rfl, c⟩ | ⟨ts, rfl, c⟩
  · cases h
  · exact ⟨hI, h1⟩
  · cases h
  · rw [kdL_h c] at h; cases h
  · rw [kdL_w c] at h; cases h
theorem kd_k {t : T} (ok : Ok t) (h : kdL t = .k) : ∃ n u, t = .cop true n u := by
  rcases kd_cases ok with rfl | ⟨hI, h1⟩ | ⟨n, u, rfl⟩ | ⟨ts, rfl, c⟩ | ⟨ts, rfl, c⟩
  · cases h
  · cases t with
    | one => cases h
    | name x => exact ok.2.1.elim
    | cop s n u => obtain rfl : s = false := hI; cases h
    | row s ts => obtain rfl : s = false := hI; cases h
  · exact ⟨n, u, rfl⟩
  · rw [kdL_h c] at h; cases h
  · rw [kdL_w c] at h; cases h
theorem kd_h {t : T} (ok : Ok t) (h : kdL t = .h) : ∃ ts, t = .row true ts ∧ ppl (topT ts) ≤ totC (othC ts) + 1 := by
  rcases kd_cases ok with rfl | ⟨hI, h1⟩ | ⟨n, u, rfl⟩ | ⟨ts, rfl, c⟩ | ⟨ts, rfl, c⟩
  · cases h
  · cases t with
    | one => cases h
    | name x => exact ok.2.1.elim
    | cop s n u => obtain rfl : s = false := hI; cases h
    | row s ts => obtain rfl : s = false := hI; cases h
  · cases h
  · exact ⟨ts, rfl, c⟩
  · rw [kdL_w c] at h; cases h
theorem kd_w {t : T} (ok : Ok t) (h : kdL t = .w) : ∃ ts, t = .row true ts ∧ ¬ ppl (topT ts) ≤ totC (othC ts) + 1 := by
  rcases kd_cases ok with rfl | ⟨hI, h1⟩ | ⟨n, u, rfl⟩ | ⟨ts, rfl, c⟩ | ⟨ts, rfl, c⟩
  · cases h
  · cases t with
    | one => cases h
    | name x => exact ok.2.1.elim
    | cop s n u => obtain rfl : s = false := hI; cases h
    | row s ts => obtain rfl : s = false := hI; cases h
  · cases h
  · rw [kdL_h c] at h; cases h
  · exact ⟨ts, rfl, c⟩
theorem insB {M : Mp} {a : Ad} {t : T} (ok : Ok t) (hI : intr t = false) (h1 : isOneT t = false) : InsOf M a.b (linD a t) (fB a t) := by rw [linD_bes a ok.2.1 hI h1]; exact ⟨rfl, rfl⟩
theorem lkB {a : Ad} {t : T} {m : Str} (ok : Ok t) (hI : intr t = false) (h1 : isOneT t = false) (h : m ∉ lNames := by decide +kernel) : List.lookup m (fB a t) = none := by
  have := lk_meth a ok h
  rw [fld_bes a ok.2.1 hI h1] at this
  exact this
theorem div31 {a : Int} {b : Nat} (h0 : 0 < b) (hb : b ≤ 10 ^ 32) : CDivW a (b : Nat) := ⟨by omega, by
  have := log16 (a := b) (m := 28) (Nat.lt_of_le_of_lt hb (by decide))
  rw [Int.natAbs_natCast]; omega⟩
theorem mul31 {a b : Nat} (ha : a ≤ 10 ^ 32) (hb : b ≤ 10 ^ 32) : CMulW (a : Nat) (b : Nat) := by
  show ((a : Int)).natAbs.log2 + ((b : Int)).natAbs.log2 < 1000000
  rw [Int.natAbs_natCast, Int.natAbs_natCast]
  have := log16 (a := a) (m := 28) (Nat.lt_of_le_of_lt ha (by decide))
  have := log16 (a := b) (m := 28) (Nat.lt_of_le_of_lt hb (by decide))
  omega
/-- a group of the kids -/
structure Grp (t : T) (q : Nat × T) : Prop where
  ok : Ok q.2
  hh : ht q.2 < ht t
  le : ppl q.2 ≤ ppl t
  p0 : 1 ≤ ppl q.2
  r0 : 1 ≤ rws q.2
  rl : rws q.2 ≤ ppl q.2
theorem grp_of {t : T} {q : Nat × T} (ok : Ok t) (h : q ∈ kids t) : Grp t q := by
  have okq := kids_Ok h ok
  obtain ⟨k, hk, e⟩ := List.getElem_of_mem h
  obtain ⟨fi, _, _, hf, _⟩ := first_of (k := k) (q := q) (by rw [List.getElem?_eq_getElem hk, e]) ok.1
  exact ⟨okq, kids_ht h, (piece_le' hf ok.1).1, ppl_pos okq.1, rws_pos okq.1, rws_le okq.1⟩
section
variable {P : Program} {w : World} {K : PySem.W.Frag} {mg : Str → Option Value} {base : Heap} {a : Ad}
theorem ok_ostart (L : Lx K mg a) (h : Nat) : BodyOk P w K mg base "OneLine.start" s_OneLine_start ["self", "row"] 2 1 (cSt a h .o) := by
  intro f cdv A outer s H E hr ds M Φ hl hc
  obtain ⟨t, x, rfl, ok, hh, h30, hκ, hx, hc⟩ := hc
  obtain rfl := kd_o ok hκ
  rw [linM] at hc
  exact wss_cons (ws_ret (we_var 1 rfl (Lets.of hc)))
theorem ok_orow (L : Lx K mg a) (h : Nat) : BodyOk P w K mg base "OneLine.row_of" s_OneLine_row_of ["self", "spot"] 2 1 (cRo a h .o) := by
  intro f cdv A outer s H E hr ds M Φ hl hc
  obtain ⟨t, x, rfl, ok, hh, h30, hκ, hx, hc⟩ := hc
  obtain rfl := kd_o ok hκ
  rw [linM] at hc
  exact wss_cons (ws_ret (we_int (Lets.of hc)))
theorem ok_oat (L : Lx K mg a) (h : Nat) : BodyOk P w K mg base "OneLine.at" s_OneLine_at ["self", "spot"] 2 1 (cLAt a h .o) := by
  intro f cdv A outer s H E hr ds M Φ hl hc
  obtain ⟨t, x, rfl, ok, hh, h60, h30, hκ, hx, hc⟩ := hc
  obtain rfl := kd_o ok hκ
  rw [linM] at hc
  exact wss_cons (ws_ret (we_tup (wa_nil ⟨Nat.zero_le _, Lets.of hc⟩)))
theorem ok_osp (L : Lx K mg a) (h : Nat) : BodyOk P w K mg base "OneLine.spot_of" s_OneLine_spot_of ["self", "person"] 2 1 (cLSp a h .o) := by
  intro f cdv A outer s H E hr ds M Φ hl hc
  obtain ⟨t, x, rfl, ok, hh, h30, hκ, hx, hc⟩ := hc
  obtain rfl := kd_o ok hκ
  rw [linM] at hc
  exact wss_cons (ws_ret (we_int (Lets.of hc)))
/-! ### beside -/
def cBlk (a : Ad) : Con := fun ds M Φ => ∃ t l1 l2 q c v, ds = [linD a t, .int ((c : Nat) : Int), .int ((v : Nat) : Int)] ∧ Ok t ∧ intr t = false ∧ isOneT t = false ∧ kids t = l1 ++ q :: l2 ∧ c < 3 ∧ gS (gK c) l1 ≤ v ∧ v < gS (gK c) l1 + gK c q ∧ Φ (.tup [.int (gS wp l1 : Nat), .int (gS wr l1 : Nat), .int (gS wf l1 : Nat), linD a q.2]) M
abbrev nBlk : List Str := ["self", "column", "value", "block"]
theorem ok_block (L : Lx K mg a) : BodyOk P w K mg base "BesideLine.block" s_BesideLine_block nBlk 3 1 (cBlk a) := by
  intro f cdv A outer s H E hr ds M Φ hl hc
  obtain ⟨t, l1, l2, q, c, v, rfl, ok, hI, h1, hk, h3, g1, g2, hc⟩ := hc
  have nd : nBlk.Nodup := by decide +kernel
  have hlen := kids_len ok.1
  have hl2 := ok.2.2
  refine wss_cons (ws_ret (we_ix (we_lc nd (blkOk_by (N := nBlk) (sc := defScope s_BesideLine_block) (own := [("block", 3)]) (by decide +kernel)) (fun _ _ _ _ _ => pg_name (i := 3) nd rfl (Or.inl rfl)) (gt_name (by decide)) pt_blk tk_one (wi_list (we_fld (C := a.b) (we_var 0 rfl ⟨_, _, insB ok hI h1, L.cl .b, L.na .b _ (by decide +kernel), lk_hit, _, .inl rfl, ?_⟩))))))
  refine ⟨by rw [List.length_map, mkL_len, sizeLine_eq]; omega, fun j acc M' => M' = M ∧ acc = (((mkL 0 0 0 (kids t)).take j).filter fun x => decide (colL c x ≤ v)).map (blD a), ⟨rfl, rfl⟩, ?_, ?_⟩
  · rintro j y acc M' hy ⟨hM, rfl⟩
    obtain rfl : M = M' := hM.symm
    rw [List.getElem?_map] at hy
    obtain ⟨z, hz, rfl⟩ := Option.map_eq_some_iff.mp hy
    intro s' H' C' cl' fp'
    refine wt_leI (we_ix (we_var 3 rfl (we_var 1 rfl ⟨((c : Nat) : Int), _, rfl, blD_ix h3, we_var 2 rfl ⟨_, _, rfl, rfl, ?_⟩⟩)))
    by_cases hz1 : colL c z ≤ v
    · rw [decide_eq_true (show ((colL c z : Nat) : Int) ≤ (v : Nat) by omega)]
      intro s' H' C' cl' fp'
      refine we_var 3 rfl ⟨rfl, ?_⟩
      rw [filt_snocG hz, decide_eq_true hz1, if_pos rfl, List.map_append]; rfl
    · rw [decide_eq_false (show ¬ ((colL c z : Nat) : Int) ≤ (v : Nat) by omega)]
      exact ⟨rfl, by rw [filt_snocG hz, decide_eq_false hz1]; simp⟩
  rintro acc M' ⟨hM, rfl⟩
  obtain rfl : M = M' := hM.symm
  rw [List.length_map, List.take_length, hk, blkL_le g1 g2, List.map_append]
  exact we_negI (we_int ⟨_, rfl, -1, _, rfl, ixL (atI_last _ _), Lets.of hc⟩)
abbrev nBSt : List Str := ["self", "row", "people", "rows", "first", "line"]
theorem ok_bstart (h : Nat) (L : Lx K mg a) (F1 : Mc P w K mg base a.b "block" [] 2 3 (cBlk a)) (F2 : ∀ j, h = j + 1 → ∀ κ, Mc P w K mg base (adK a κ) "start" [] (j + 4) 2 (cSt a j κ)) : BodyOk P w K mg base "BesideLine.start" s_BesideLine_start nBSt 2 (h + 3) (cSt a h .b) := by
  intro f cdv A outer s H E hr ds M Φ hl hc
  obtain ⟨t, x, rfl, ok, hh, h30, hκ, hx, hc⟩ := hc
  have nd : nBSt.Nodup := by decide +kernel
  obtain ⟨hI, h1⟩ := kd_b ok hκ
  have o := linM_ok _ (Nat.le_refl _) ok
  refine wss_cons (ws_if (wt_eqS (we_var 1 rfl (we_lrow L ok (we_var 0 rfl ⟨rfl, _, rfl, ?_⟩)))))
  by_cases c1 : x = rws t
  · rw [decide_eq_true (show ((x : Nat) : Int) = (rws t : Nat) by omega)]
    refine wss_cons (ws_ret (we_lpeo L ok (we_var 0 rfl ⟨rfl, Lets.of ?_⟩)))
    rw [c1, ← o.hr, o.sr, o.hn] at hc
    exact hc
  rw [decide_eq_false (show ¬ ((x : Nat) : Int) = (rws t : Nat) by omega)]
  have hx2 : x < gS wr (kids t) := by rw [gr_all ok hI h1]; omega
  obtain ⟨l1, q, l2, hk, g1, g2⟩ := gS_find wr hx2
  have G := grp_of ok (q := q) (by rw [hk]; simp)
  have okq := G.ok
  have hst := bes_st ok hI h1 hk g1 g2
  have hht := G.hh
  have hle := G.le
  have hp0 := G.p0
  have hr0 := G.r0
  have hrl := G.rl
  have hrt := rws_le ok.1
  obtain ⟨j, rfl⟩ : ∃ j, h = j + 1 := ⟨h - 1, by omega⟩
  obtain ⟨d, hd⟩ : ∃ d, d = x - gS wr l1 := ⟨_, rfl⟩
  have hdl : d / rws q.2 ≤ d := Nat.div_le_self _ _
  rw [← hd] at hst
  rw [hst] at hc
  have e1 : ((x : Nat) : Int) - (gS wr l1 : Nat) = ((d : Nat) : Int) := by omega
  refine wss_nil (wss_cons (ws_asg (we_meth F1 (hr.mono (by omega)) (we_var 0 rfl ⟨_, insB ok hI h1, lkB ok hI h1, wa_cons (we_int (wa_cons (we_var 1 rfl (wa_nil ⟨rfl, t, l1, l2, q, 1, x, rfl, ok, hI, h1, hk, by decide, g1, g2, ?_⟩))))⟩))))
  refine wg_tup ⟨rfl, rfl, wgs_cons (wg_name 2 (wgs_cons (wg_name 3 (wgs_cons (wg_name 4 (wgs_cons (wg_name 5 (wgs_nil ⟨rfl, ?_⟩) nd)) nd)) nd)) nd)⟩
  refine wss_cons (ws_ret (we_addI (we_addI (we_var 2 rfl (we_mulI (we_divI (we_subI (we_var 1 rfl (we_var 3 rfl ⟨_, _, rfl, rfl, we_lrow L okq (we_var 5 rfl ⟨rfl, ?_⟩)⟩)))))))))
  rw [e1]
  refine ⟨_, _, rfl, rfl, div31 (by omega) (by omega), we_lpeo L okq (we_var 5 rfl ⟨rfl, ?_⟩)⟩
  rw [← Int.natCast_ediv]
  refine ⟨_, _, rfl, rfl, mul31 (by omega) (by omega), ?_⟩
  rw [← Int.natCast_mul]
  refine ⟨_, _, rfl, rfl, ?_⟩
  rw [← Int.natCast_add]
  refine we_lmeth (F2 j rfl) (hr.mono (by omega)) okq (we_var 5 rfl ⟨rfl, we_modI (we_subI (we_var 1 rfl (we_var 3 rfl ⟨_, _, rfl, rfl, we_lrow L okq (we_var 5 rfl ⟨rfl, ?_⟩)⟩)))⟩)
  rw [e1]
  refine ⟨_, _, rfl, rfl, by omega, q.2, d % rws q.2, by rw [← Int.natCast_emod], okq, by omega, by omega, rfl, Nat.le_of_lt (Nat.mod_lt _ (by omega)), _, _, rfl, rfl, Lets.of ?_⟩
  rw [← Int.natCast_add]
  exact hc
end
end W
/-! E82: parts beside one another: row_of, at, spot_of. -/
namespace W
open PySem PySem.Spec PyProof.Rows L2 DL SX PL SlX
theorem grp_piece {t : T} {l1 l2 : List (Nat × T)} {q : Nat × T} {i : Nat} (hk : kids t = l1 ++ q :: l2) (h1 : gS wf l1 ≤ i) (h2 : i < gS wf l1 + q.1) : piece t i = some q.2 := by
  cases t with
  | one => simp [kids] at hk
  | name x => simp [kids] at hk
  | cop s n u =>
    cases l1 with
    | nil =>
      obtain ⟨e, _⟩ := List.cons.inj (show [(n, u)] = q :: l2 from hk)
      rw [← e]; rfl
    | cons x l1 =>
      have := congrArg List.length (show [(n, u)] = (x :: l1) ++ q :: l2 from hk)
      simp at this
  | row s ts =>
    have hk : ts.map (fun t => ((1 : Nat), t)) = l1 ++ q :: l2 := hk
    have hx : ∀ x ∈ l1, x.1 = 1 := fun x hx => by
      have : x ∈ ts.map (fun t => ((1 : Nat), t)) := by rw [hk]; simp [hx]
      obtain ⟨u, _, rfl⟩ := List.mem_map.mp this
      rfl
    have hs : ∀ {l : List (Nat × T)}, (∀ x ∈ l, x.1 = 1) → gS wf l = l.length := by
      intro l
      induction l with
      | nil => intro _; rfl
      | cons x l ih =>
        intro h
        rw [gS_cons, ih fun y hy => h y (List.mem_cons_of_mem _ hy), List.length_cons]
        have : wf x = 1 := h x List.mem_cons_self
        omega
    rw [hs hx] at h1 h2
    have e : (ts.map (fun t => ((1 : Nat), t)))[l1.length]? = some q := by rw [hk]; simp
    rw [List.getElem?_map] at e
    obtain ⟨u, hu, rfl⟩ := Option.map_eq_some_iff.mp e
    have h2 : i < l1.length + 1 := h2
    have : i = l1.length := by omega
    rw [this]; exact hu
theorem cut_tail' {i : Nat} {p : List Nat} : cutD ((i :: p).map fun (i : Nat) => D.int (i : Nat)) (some 1) none = p.map fun (i : Nat) => D.int (i : Nat) := by
  rw [List.map_cons, cut_tail]
section
variable {P : Program} {w : World} {K : PySem.W.Frag} {mg : Str → Option Value} {base : Heap} {a : Ad}
abbrev nBRo : List Str := ["self", "spot", "people", "rows", "first", "line", "left"]
theorem ok_brow (h : Nat) (L : Lx K mg a) (F1 : Mc P w K mg base a.b "block" [] 2 3 (cBlk a)) (F2 : ∀ j, h = j + 1 → ∀ κ, Mc P w K mg base (adK a κ) "row_of" [] (j + 5) 2 (cRo a j κ)) : BodyOk P w K mg base "BesideLine.row_of" s_BesideLine_row_of nBRo 2 (h + 4) (cRo a h .b) := by
  intro f cdv A outer s H E hr ds M Φ hl hc
  obtain ⟨t, x, rfl, ok, hh, h30, hκ, hx, hc⟩ := hc
  have nd : nBRo.Nodup := by decide +kernel
  obtain ⟨hI, h1⟩ := kd_b ok hκ
  have hx2 : x < gS wp (kids t) := by rw [gp_all ok h1]; omega
  obtain ⟨l1, q, l2, hk, g1, g2⟩ := gS_find wp hx2
  have G := grp_of ok (q := q) (by rw [hk]; simp)
  have okq := G.ok
  have hst := bes_ro ok hI h1 hk g1 g2
  have hht := G.hh
  have hle := G.le
  have hp0 := G.p0
  have hr0 := G.r0
  have hrl := G.rl
  obtain ⟨j, rfl⟩ : ∃ j, h = j + 1 := ⟨h - 1, by omega⟩
  obtain ⟨d, hd⟩ : ∃ d, d = x - gS wp l1 := ⟨_, rfl⟩
  have hdl : d / ppl q.2 ≤ d := Nat.div_le_self _ _
  rw [← hd] at hst
  rw [hst] at hc
  have e1 : ((x : Nat) : Int) - (gS wp l1 : Nat) = ((d : Nat) : Int) := by omega
  refine wss_cons (ws_asg (we_meth F1 (hr.mono (by omega)) (we_var 0 rfl ⟨_, insB ok hI h1, lkB ok hI h1, wa_cons (we_int (wa_cons (we_var 1 rfl (wa_nil ⟨rfl, t, l1, l2, q, 0, x, rfl, ok, hI, h1, hk, by decide, g1, g2, ?_⟩))))⟩)))
  refine wg_tup ⟨rfl, rfl, wgs_cons (wg_name 2 (wgs_cons (wg_name 3 (wgs_cons (wg_name 4 (wgs_cons (wg_name 5 (wgs_nil ⟨rfl, ?_⟩) nd)) nd)) nd)) nd)⟩
  refine wss_cons (ws_set 6 nd (we_subI (we_var 1 rfl (we_var 2 rfl ⟨_, _, rfl, rfl, ?_⟩))))
  rw [e1]
  refine wss_cons (ws_ret (we_addI (we_addI (we_var 3 rfl (we_mulI (we_divI (we_var 6 rfl (we_lpeo L okq (we_var 5 rfl ⟨rfl, _, _, rfl, rfl, div31 (by omega) (by omega), we_lrow L okq (we_var 5 rfl ⟨rfl, ?_⟩)⟩)))))))))
  rw [← Int.natCast_ediv]
  refine ⟨_, _, rfl, rfl, mul31 (by omega) (by omega), ?_⟩
  rw [← Int.natCast_mul]
  refine ⟨_, _, rfl, rfl, ?_⟩
  rw [← Int.natCast_add]
  refine we_lmeth (F2 j rfl) (hr.mono (by omega)) okq (we_var 5 rfl ⟨rfl, we_modI (we_var 6 rfl (we_lpeo L okq (we_var 5 rfl ⟨rfl, ?_⟩)))⟩)
  refine ⟨_, _, rfl, rfl, by omega, q.2, d % ppl q.2, by rw [← Int.natCast_emod], okq, by omega, by omega, rfl, Nat.mod_lt _ (by omega), _, _, rfl, rfl, Lets.of ?_⟩
  rw [← Int.natCast_add]
  exact hc
abbrev nBAt : List Str := ["self", "spot", "people", "rows", "first", "line"]
theorem ok_bat (h : Nat) (L : Lx K mg a) (F1 : Mc P w K mg base a.b "block" [] 2 3 (cBlk a)) (F2 : ∀ j, h = j + 1 → ∀ κ, Mc P w K mg base (adK a κ) "at" [] (j + 7) 2 (cLAt a j κ)) : BodyOk P w K mg base "BesideLine.at" s_BesideLine_at nBAt 2 (h + 6) (cLAt a h .b) := by
  intro f cdv A outer s H E hr ds M Φ hl hc
  obtain ⟨t, x, rfl, ok, hh, h60, h30, hκ, hx, hc⟩ := hc
  have nd : nBAt.Nodup := by decide +kernel
  obtain ⟨hI, h1⟩ := kd_b ok hκ
  have hx2 : x < gS wp (kids t) := by rw [gp_all ok h1]; omega
  obtain ⟨l1, q, l2, hk, g1, g2⟩ := gS_find wp hx2
  have G := grp_of ok (q := q) (by rw [hk]; simp)
  have okq := G.ok
  have hst := bes_at ok hI h1 hk g1 g2
  have hht := G.hh
  have hle := G.le
  have hp0 := G.p0
  obtain ⟨j, rfl⟩ : ∃ j, h = j + 1 := ⟨h - 1, by omega⟩
  obtain ⟨d, hd⟩ : ∃ d, d = x - gS wp l1 := ⟨_, rfl⟩
  rw [← hd] at hst
  rw [hst] at hc
  have e1 : ((x : Nat) : Int) - (gS wp l1 : Nat) = ((d : Nat) : Int) := by omega
  have oq := linM_ok _ (Nat.le_refl _) okq
  have hm : d % ppl q.2 < ppl q.2 := Nat.mod_lt _ (by omega)
  have hpl := pers_ht (oq.at_ (d % ppl q.2) (by rw [oq.hn]; exact hm)).1
  refine wss_cons (ws_asg (we_meth F1 (hr.mono (by omega)) (we_var 0 rfl ⟨_, insB ok hI h1, lkB ok hI h1, wa_cons (we_int (wa_cons (we_var 1 rfl (wa_nil ⟨rfl, t, l1, l2, q, 0, x, rfl, ok, hI, h1, hk, by decide, g1, g2, ?_⟩))))⟩)))
  refine wg_tup ⟨rfl, rfl, wgs_cons (wg_name 2 (wgs_cons (wg_name 3 (wgs_cons (wg_name 4 (wgs_cons (wg_name 5 (wgs_nil ⟨rfl, ?_⟩) nd)) nd)) nd)) nd)⟩
  refine wss_cons (ws_ret (we_tup (wa_cons (we_addI (we_var 4 rfl (we_divI (we_subI (we_var 1 rfl (we_var 2 rfl ⟨_, _, rfl, rfl, ?_⟩)))))))))
  rw [e1]
  refine we_lpeo L okq (we_var 5 rfl ⟨rfl, _, _, rfl, rfl, div31 (by omega) (by omega), ?_⟩)
  rw [← Int.natCast_ediv]
  refine ⟨_, _, rfl, rfl, ?_⟩
  rw [← Int.natCast_add]
  refine wa_star (we_lmeth (F2 j rfl) (hr.mono (by omega)) okq (we_var 5 rfl ⟨rfl, we_modI (we_subI (we_var 1 rfl (we_var 2 rfl ⟨_, _, rfl, rfl, ?_⟩)))⟩))
  rw [e1]
  refine we_lpeo L okq (we_var 5 rfl ⟨rfl, _, _, rfl, rfl, by omega, q.2, d % ppl q.2, by rw [← Int.natCast_emod], okq, by omega, by omega, by omega, rfl, hm, _, .inr rfl, wa_nil fun ys e => ?_⟩)
  subst e
  refine ⟨?_, Lets.of ?_⟩
  · rw [List.append_nil, List.length_cons, List.length_map, sizeLine_eq]; omega
  · rw [List.append_nil]; exact hc
theorem ok_bsp (h : Nat) (L : Lx K mg a) (F1 : Mc P w K mg base a.b "block" [] 2 3 (cBlk a)) (F2 : ∀ j, h = j + 1 → ∀ κ, Mc P w K mg base (adK a κ) "spot_of" [] (j + 6) 2 (cLSp a j κ)) : BodyOk P w K mg base "BesideLine.spot_of" s_BesideLine_spot_of ["self", "person", "people", "rows", "first", "line"] 2 (h + 5) (cLSp a h .b) := by
  intro f cdv A outer s H E hr ds M Φ hl hc
  obtain ⟨t, p, rfl, ok, hh, h30, hκ, hp, hc⟩ := hc
  have nd : (["self", "person", "people", "rows", "first", "line"] : List Str).Nodup := by decide +kernel
  obtain ⟨hI, h1⟩ := kd_b ok hκ
  cases p with
  | nil => have := pers_nil hp; subst this; cases h1
  | cons i p =>
  obtain ⟨u, hi, hu, hpu⟩ := pers_cons hp
  have hx2 : i < gS wf (kids t) := by rw [gf_all]; exact hi
  obtain ⟨l1, q, l2, hk, g1, g2⟩ := gS_find wf hx2
  obtain rfl : u = q.2 := Option.some.inj (hu.symm.trans (grp_piece hk g1 g2))
  have hm : q ∈ kids t := by rw [hk]; simp
  have G := grp_of ok hm
  have okq := G.ok
  have hst := bes_sp (p := p) ok hI h1 hk g1 g2
  have hht := G.hh
  have hle := G.le
  have hqn := kids_n hm ok
  have g2 : i < gS wf l1 + q.1 := g2
  obtain ⟨j, rfl⟩ : ∃ j, h = j + 1 := ⟨h - 1, by omega⟩
  obtain ⟨d, hd⟩ : ∃ d, d = i - gS wf l1 := ⟨_, rfl⟩
  rw [← hd] at hst
  rw [hst] at hc
  have e1 : ((i : Nat) : Int) - (gS wf l1 : Nat) = ((d : Nat) : Int) := by omega
  have p0 : ∀ M : Mp, IxD M (perD (i :: p)) 0 (.int (i : Nat)) := fun M => ixT (atI_nat (j := 0) rfl)
  refine wss_cons (ws_asg (we_meth F1 (hr.mono (by omega)) (we_var 0 rfl ⟨_, insB ok hI h1, lkB ok hI h1, wa_cons (we_int (wa_cons (we_ix (we_var 1 rfl (we_int ⟨0, _, rfl, p0 _, wa_nil ⟨rfl, t, l1, l2, q, 2, i, rfl, ok, hI, h1, hk, by decide, g1, g2, ?_⟩⟩)))))⟩)))
  refine wg_tup ⟨rfl, rfl, wgs_cons (wg_name 2 (wgs_cons (wg_name 3 (wgs_cons (wg_name 4 (wgs_cons (wg_name 5 (wgs_nil ⟨rfl, ?_⟩) nd)) nd)) nd)) nd)⟩
  refine wss_cons (ws_ret (we_addI (we_addI (we_var 2 rfl (we_mulI (we_subI (we_ix (we_var 1 rfl (we_int ⟨0, _, rfl, p0 _, we_var 4 rfl ⟨_, _, rfl, rfl, ?_⟩⟩)))))))))
  rw [e1]
  refine we_lpeo L okq (we_var 5 rfl ⟨rfl, _, _, rfl, rfl, mul31 (by omega) (by omega), ?_⟩)
  rw [← Int.natCast_mul]
  refine ⟨_, _, rfl, rfl, ?_⟩
  rw [← Int.natCast_add]
  refine we_lmeth (F2 j rfl) (hr.mono (by omega)) okq (we_var 5 rfl ⟨rfl, we_slice (we_var 1 rfl (we_int ⟨1, rfl, _, .inr (.inl ⟨_, rfl, rfl⟩), q.2, p, by rw [cut_tail'], okq, by omega, by omega, rfl, hpu, _, _, rfl, rfl, Lets.of ?_⟩))⟩)
  rw [← Int.natCast_add]
  exact hc
end
end W
/-! E83: copies, halves: what the methods tell. -/
namespace W
open PySem PySem.Spec PyProof.Rows L2 DL SX PL SlX
theorem tot_C (ps : List (Nat × T)) : tot ps = totC ps := rfl
theorem bk_split {l2 : List (Nat × T)} {q : Nat × T} : ∀ {l1 : List (Nat × T)}, (∀ x ∈ l1, x.1 ≠ q.1) → bkC (l1 ++ q :: l2) q.1 = totC l1
  | [], _ => by rw [List.nil_append, bkC, if_pos rfl]; rfl
  | x :: l1, h => by
    rw [List.cons_append, bkC, if_neg (fun e => h x List.mem_cons_self e.symm), bk_split fun y hy => h y (List.mem_cons_of_mem _ hy), totC_cons]
theorem nd_ahead {l1 l2 : List (Nat × T)} {q : Nat × T} (nd : ((l1 ++ q :: l2).map (·.1)).Nodup) : ∀ x ∈ l1, x.1 ≠ q.1 := fun x hx e => by
  rw [List.map_append, List.map_cons] at nd
  exact (List.nodup_append.mp nd).2.2 _ (List.mem_map_of_mem (f := fun q : Nat × T => q.1) hx) _ List.mem_cons_self e
/-- a person by the number among some parts -/
theorem crw_at {ps : List (Nat × T)} {m : Nat} (nd : (ps.map (·.1)).Nodup) (hok : ∀ q ∈ ps, Ok q.2) (h : m < totC ps) : ∃ l1 l2 q p, ps = l1 ++ q :: l2 ∧ tot l1 ≤ m ∧ m < tot l1 + ppl q.2 ∧ (persL q.2)[m - tot l1]? = some p ∧ atC ps m = q.1 :: p := by
  obtain ⟨q, hq, h1, h2⟩ := bkC_find nd h
  obtain ⟨l1, l2, rfl⟩ := List.append_of_mem hq
  have hb := bk_split (l2 := l2) (nd_ahead nd)
  have ha := atC_at nd hq h1 h2
  rw [hb] at h1 h2 ha
  have okq := hok q hq
  have hl := persL_len okq.2.1
  exact ⟨l1, l2, q, (persL q.2).getD (m - totC l1) [], rfl, h1, h2, by
    show (persL q.2)[m - totC l1]? = _
    rw [List.getD_eq_getElem?_getD, List.getElem?_eq_getElem (by omega)]; rfl, ha⟩
theorem crw_num {ps : List (Nat × T)} {q : Nat × T} {p : List Nat} (nd : (ps.map (·.1)).Nodup) (hok : ∀ q ∈ ps, Ok q.2) (hq : q ∈ ps) (hp : isPers q.2 p = true) : ∃ l1 l2, ps = l1 ++ q :: l2 ∧ (∀ x ∈ l1, x.1 ≠ q.1) ∧ (persL q.2)[PL.num q.2 p]? = some p ∧ nuC ps (q.1 :: p) = tot l1 + PL.num q.2 p := by
  have hn := nuC_at (p := p) nd hq
  obtain ⟨l1, l2, rfl⟩ := List.append_of_mem hq
  have hb := nd_ahead nd
  rw [bk_split hb] at hn
  exact ⟨l1, l2, rfl, hb, pers_num (hok q hq) hp, hn⟩
theorem lkF {a : Ad} {t : T} {fs : List (Str × D)} {m : Str} (ok : Ok t) (e : fldK a t = fs) (h : m ∉ lNames := by decide +kernel) : List.lookup m fs = none := by
  rw [← e]; exact lk_meth a ok h
/-- what the parts that are introduced keep -/
structure RwK (ts : List T) : Prop where
  n0 : ts ≠ []
  nd : ((byP ts).map (·.1)).Nodup
  ok : ∀ q ∈ byP ts, Ok q.2
  ht : ∀ q ∈ byP ts, PL.ht q.2 < PL.ht (.row true ts)
  le : ∀ q ∈ byP ts, ppl q.2 ≤ ppls ts
  len : (byP ts).length ≤ 100000
theorem rwK {ts : List T} (ok : Ok (.row true ts)) : RwK ts := by
  have hl : ts.length ≤ 100000 := by
    have h1 := kids_len ok.1
    have h2 := ok.2.2
    have h3 : (kids (.row true ts)).length = ts.length := by show (ts.map _).length = _; rw [List.length_map]
    omega
  have hp : ∀ q ∈ byP ts, piece (.row true ts) q.1 = some q.2 := fun q hq => byP_mem.mp hq
  refine ⟨ts_ne ok, byP_nd ts, fun q hq => piece_Ok (hp q hq) ok, fun q hq => piece_ht (hp q hq), fun q hq => ?_, by rw [byP_len]; exact hl⟩
  have := (piece_le' (hp q hq) ok.1).1
  rw [ppl] at this
  exact this
section
variable {P : Program} {w : World} {K : PySem.W.Frag} {mg : Str → Option Value} {base : Heap} {a : Ad}
theorem insK {M : Mp} {n : Nat} {u : T} : InsOf M a.k (linD a (.cop true n u)) (fK a n u) := by rw [linD_cop]; exact ⟨rfl, rfl⟩
theorem lk_kmany (n : Nat) (u : T) : List.lookup ("own_many" : Str) (fK a n u) = some (.int (n : Nat)) := lk_hit
theorem lk_kpart (n : Nat) (u : T) : List.lookup ("own_part" : Str) (fK a n u) = some (planD a.c u) := by unfold fK; rw [lk_miss (by decide +kernel), lk_hit]
theorem linM_cop (n : Nat) (u : T) : linM (.cop true n u) = copL n u := by rw [linM, if_pos rfl]
theorem ok_kstart (L : Lx K mg a) (h : Nat) : BodyOk P w K mg base "CopiesLine.start" s_CopiesLine_start ["self", "row"] 2 1 (cSt a h .k) := by
  intro f cdv A outer s H E hr ds M Φ hl hc
  obtain ⟨t, x, rfl, ok, hh, h30, hκ, hx, hc⟩ := hc
  obtain ⟨n, u, rfl⟩ := kd_k ok hκ
  have hrl := rws_le ok.1
  refine wss_cons (ws_ret (we_mulI (we_var 1 rfl (we_lpeo L ok (we_var 0 rfl ⟨rfl, _, _, rfl, rfl, mul31 (by omega) (by omega), Lets.of ?_⟩)))))
  rw [linM_cop] at hc
  rw [← Int.natCast_mul, ppl]
  exact hc
theorem ok_krow (L : Lx K mg a) (h : Nat) : BodyOk P w K mg base "CopiesLine.row_of" s_CopiesLine_row_of ["self", "spot"] 2 1 (cRo a h .k) := by
  intro f cdv A outer s H E hr ds M Φ hl hc
  obtain ⟨t, x, rfl, ok, hh, h30, hκ, hx, hc⟩ := hc
  obtain ⟨n, u, rfl⟩ := kd_k ok hκ
  rw [linM_cop] at hc
  exact wss_cons (ws_ret (we_int (Lets.of hc)))
theorem ok_kat (L : Lx K mg a) (h : Nat) (F1 : Fc P w K mg base "nth_person" [] 3 2 (cNth a.c)) : BodyOk P w K mg base "CopiesLine.at" s_CopiesLine_at ["self", "spot"] 2 (h + 6) (cLAt a h .k) := by
  intro f cdv A outer s H E hr ds M Φ hl hc
  obtain ⟨t, x, rfl, ok, hh, h60, h30, hκ, hx, hc⟩ := hc
  obtain ⟨n, u, rfl⟩ := kd_k ok hκ
  have oku : Ok u := piece_Ok (t := .cop true n u) (i := 0) rfl ok
  have hn2 := ok.1.1
  have hht : PL.ht u < PL.ht (.cop true n u) := piece_ht (t := .cop true n u) (i := 0) rfl
  have hp0 := ppl_pos oku.1
  have hle : ppl u ≤ ppl (.cop true n u) := (piece_le' (t := .cop true n u) (i := 0) rfl ok.1).1
  have hpn : n ≤ ppl (.cop true n u) := by rw [ppl]; exact Nat.le_mul_of_pos_right _ hp0
  have hdv : x / n < ppl u := (Nat.div_lt_iff_lt_mul (by omega)).mpr (by rw [ppl] at hx; rw [Nat.mul_comm]; exact hx)
  have hl1 := persL_len oku.2.1
  have hg : (persL u)[x / n]? = some ((persL u).getD (x / n) []) := by
    rw [List.getD_eq_getElem?_getD, List.getElem?_eq_getElem (by omega)]; rfl
  have hpl := pers_ht (pers_is _ (Nat.le_refl _) (List.mem_of_getElem? hg))
  rw [linM_cop] at hc
  refine wss_cons (ws_ret (we_tup (wa_cons (we_modI (we_var 1 rfl (we_fld (C := a.k) (we_var 0 rfl ⟨_, _, insK, L.cl .k, L.na .k _ (by decide +kernel), lk_kmany n u, _, _, rfl, rfl, by omega, ?_⟩)))))))
  rw [← Int.natCast_emod]
  refine wa_star (we_call F1 (hr.mono (by omega)) (wa_cons (we_fld (C := a.k) (we_var 0 rfl ⟨_, _, insK, L.cl .k, L.na .k _ (by decide +kernel), lk_kpart n u, wa_cons (we_divI (we_var 1 rfl (we_fld (C := a.k) (we_var 0 rfl ⟨_, _, insK, L.cl .k, L.na .k _ (by decide +kernel), lk_kmany n u, _, _, rfl, rfl, div31 (by omega) (by omega), ?_⟩))))⟩))))
  rw [← Int.natCast_ediv]
  refine wa_nil ⟨rfl, u, x / n, _, rfl, oku, ?_, by omega, hg, _, .inr rfl, wa_nil fun ys e => ?_⟩
  · exact Nat.le_trans (Nat.le_trans hle h30) (by decide)
  subst e
  refine ⟨?_, Lets.of ?_⟩
  · rw [List.append_nil, List.length_cons, List.length_map, sizeLine_eq]; omega
  · rw [List.append_nil]; exact hc
theorem ok_ksp (L : Lx K mg a) (h : Nat) (F1 : Fc P w K mg base "place_of" [] 2 2 (cPlace a.c)) : BodyOk P w K mg base "CopiesLine.spot_of" s_CopiesLine_spot_of ["self", "person"] 2 (h + 5) (cLSp a h .k) := by
  intro f cdv A outer s H E hr ds M Φ hl hc
  obtain ⟨t, p, rfl, ok, hh, h30, hκ, hp, hc⟩ := hc
  obtain ⟨n, u, rfl⟩ := kd_k ok hκ
  cases p with
  | nil => have := pers_nil hp; cases this
  | cons i p =>
  obtain ⟨v, hi, hv, hpu⟩ := pers_cons hp
  obtain rfl : u = v := Option.some.inj hv
  have oku : Ok u := piece_Ok (t := .cop true n u) (i := 0) rfl ok
  have hp0 := ppl_pos oku.1
  have hle : ppl u ≤ ppl (.cop true n u) := (piece_le' (t := .cop true n u) (i := 0) rfl ok.1).1
  have hpn : n ≤ ppl (.cop true n u) := by rw [ppl]; exact Nat.le_mul_of_pos_right _ hp0
  have hnum := num_lt oku hpu
  have p0 : ∀ M : Mp, IxD M (perD (i :: p)) 0 (.int (i : Nat)) := fun M => ixT (atI_nat (j := 0) rfl)
  rw [linM_cop] at hc
  refine wss_cons (ws_ret (we_addI (we_mulI (we_call F1 (hr.mono (by omega)) (wa_cons (we_fld (C := a.k) (we_var 0 rfl ⟨_, _, insK, L.cl .k, L.na .k _ (by decide +kernel), lk_kpart n u, wa_cons (we_slice (we_var 1 rfl (we_int ⟨1, rfl, _, .inr (.inl ⟨_, rfl, rfl⟩), wa_nil ⟨rfl, u, p, PL.num u p, by rw [cut_tail']; rfl, oku, pers_num oku hpu, ?_⟩⟩)))⟩)))))))
  refine we_fld (C := a.k) (we_var 0 rfl ⟨_, _, insK, L.cl .k, L.na .k _ (by decide +kernel), lk_kmany n u, _, _, rfl, rfl, mul31 (by omega) (by omega), ?_⟩)
  rw [← Int.natCast_mul]
  refine we_ix (we_var 1 rfl (we_int ⟨0, _, rfl, p0 _, _, _, rfl, rfl, Lets.of ?_⟩))
  rw [← Int.natCast_add]
  exact hc
/-! ### halves -/
theorem insH {M : Mp} {ts : List T} (c : ppl (topT ts) ≤ totC (othC ts) + 1) : InsOf M a.h (linD a (.row true ts)) (fH a ts) := by rw [linD_hal a c]; exact ⟨rfl, rfl⟩
theorem lk_hcr (ts : List T) : List.lookup ("own_crowd" : Str) (fH a ts) = some (crwD a.c a.r (byP ts)) := lk_hit
theorem ok_hstart (L : Lx K mg a) (h : Nat) : BodyOk P w K mg base "HalvesLine.start" s_HalvesLine_start ["self", "row"] 2 1 (cSt a h .h) := by
  intro f cdv A outer s H E hr ds M Φ hl hc
  obtain ⟨t, x, rfl, ok, hh, h30, hκ, hx, hc⟩ := hc
  obtain ⟨ts, rfl, c⟩ := kd_h ok hκ
  have hrl := rws_le ok.1
  refine wss_cons (ws_ret (we_mulI (we_var 1 rfl (we_lpeo L ok (we_var 0 rfl ⟨rfl, _, _, rfl, rfl, mul31 (by omega) (by omega), Lets.of ?_⟩)))))
  rw [linM_hal c] at hc
  rw [← Int.natCast_mul, ppl, ← byP_tot]
  exact hc
theorem ok_hrow (L : Lx K mg a) (h : Nat) : BodyOk P w K mg base "HalvesLine.row_of" s_HalvesLine_row_of ["self", "spot"] 2 1 (cRo a h .h) := by
  intro f cdv A outer s H E hr ds M Φ hl hc
  obtain ⟨t, x, rfl, ok, hh, h30, hκ, hx, hc⟩ := hc
  obtain ⟨ts, rfl, c⟩ := kd_h ok hκ
  rw [linM_hal c] at hc
  exact wss_cons (ws_ret (we_int (Lets.of hc)))
def cHalf (a : Ad) : Con := fun ds M Φ => ∃ ts, ds = [linD a (.row true ts)] ∧ Ok (.row true ts) ∧ ppl (topT ts) ≤ totC (othC ts) + 1 ∧ Φ (.int (((ppls ts + 1) / 2 : Nat) : Int)) M
theorem ok_half (L : Lx K mg a) : BodyOk P w K mg base "HalvesLine.half" s_HalvesLine_half ["self"] 1 1 (cHalf a) := by
  intro f cdv A outer s H E hr ds M Φ hl hc
  obtain ⟨ts, rfl, ok, c, hc⟩ := hc
  refine wss_cons (ws_ret (we_divI (we_addI (we_lpeo L ok (we_var 0 rfl ⟨rfl, we_int ⟨_, _, rfl, rfl, we_int ⟨_, _, rfl, rfl, ⟨by decide, by decide⟩, Lets.of ?_⟩⟩⟩)))))
  rw [ppl, show ((ppls ts : Nat) : Int) + 1 = ((ppls ts + 1 : Nat) : Int) by omega, show (2 : Int) = ((2 : Nat) : Int) from rfl, ← Int.natCast_ediv]
  exact hc
theorem ok_hat (L : Lx K mg a) (h : Nat) (F1 : Mc P w K mg base a.h "half" [] 2 1 (cHalf a)) (F2 : Mc P w K mg base a.r "at" [] 4 2 (cWAt a.c a.r)) : BodyOk P w K mg base "HalvesLine.at" s_HalvesLine_at ["self", "spot"] 2 (h + 6) (cLAt a h .h) := by
  intro f cdv A outer s H E hr ds M Φ hl hc
  obtain ⟨t, x, rfl, ok, hh, h60, h30, hκ, hx, hc⟩ := hc
  obtain ⟨ts, rfl, c⟩ := kd_h ok hκ
  have R := rwK ok
  rw [ppl] at hx h30
  have ht := byP_tot ts
  obtain ⟨m, hm⟩ : ∃ m, m = unh (ppls ts) x := ⟨_, rfl⟩
  have hml : m < totC (byP ts) := by rw [ht, hm]; exact (unh_ok hx).1
  obtain ⟨l1, l2, q, p, hps, g1, g2, hp, ha⟩ := crw_at R.nd R.ok hml
  have hq : q ∈ byP ts := by rw [hps]; simp
  have h1 := R.ht q hq
  have h2 := R.le q hq
  have h3 := R.len
  have hu : m = x / 2 + if x % 2 = 1 then (ppls ts + 1) / 2 else 0 := hm
  rw [linM_hal c] at hc
  have hc : Φ (perD (atC (byP ts) (unh (totC (byP ts)) x))) M := hc
  rw [ht, ← hm, ha] at hc
  have lkm : List.lookup ("at" : Str) (crwF a.c (byP ts)) = none := by unfold crwF; rw [lk_miss (by decide +kernel), lk_miss (by decide +kernel)]; rfl
  have fin : ∀ M' : Mp, M' = M → cWAt a.c a.r [crwD a.c a.r (byP ts), .int (m : Nat)] M' (Lets Φ) := fun M' e => by
    subst e
    exact ⟨l1, l2, q, m, p, by rw [hps], R.ok q hq, Nat.le_trans (Nat.le_trans h2 h30) (by decide), by omega, by rw [← hps]; exact h3, g1, g2, hp, Lets.of hc⟩
  refine wss_cons (ws_ret (we_meth F2 (hr.mono (by omega)) (we_fld (C := a.h) (we_var 0 rfl ⟨_, _, insH c, L.cl .h, L.na .h _ (by decide +kernel), lk_hcr ts, _, insW, lkm, wa_cons (we_addI (we_divI (we_var 1 rfl (we_int ⟨_, _, rfl, rfl, ⟨by decide, by decide⟩, we_if (wt_eqS (we_modI (we_var 1 rfl (we_int ⟨_, _, rfl, rfl, by decide, we_int ⟨_, rfl, ?_⟩⟩))))⟩))))⟩))))
  by_cases c2 : x % 2 = 1
  · rw [if_pos c2] at hu
    rw [decide_eq_true (show ((x : Nat) : Int) % 2 = 1 by omega)]
    refine we_meth0 F1 (hr.mono (by omega)) (we_var 0 rfl ⟨_, insH c, lkF ok (fld_hal a c), rfl, ts, rfl, ok, c, _, _, rfl, rfl, wa_nil ⟨rfl, ?_⟩⟩)
    rw [show ((x : Nat) : Int) / 2 + (((ppls ts + 1) / 2 : Nat) : Int) = ((m : Nat) : Int) by omega]
    exact fin _ rfl
  · rw [if_neg c2] at hu
    rw [decide_eq_false (show ¬ ((x : Nat) : Int) % 2 = 1 by omega)]
    refine we_int ⟨_, _, rfl, rfl, wa_nil ⟨rfl, ?_⟩⟩
    rw [show ((x : Nat) : Int) / 2 + 0 = ((m : Nat) : Int) by omega]
    exact fin _ rfl
theorem ok_hsp (L : Lx K mg a) (h : Nat) (F1 : Mc P w K mg base a.h "half" [] 2 1 (cHalf a)) (F2 : Mc P w K mg base a.r "number_of" [] 4 2 (cWNum a.c a.r)) : BodyOk P w K mg base "HalvesLine.spot_of" s_HalvesLine_spot_of ["self", "person", "number"] 2 (h + 5) (cLSp a h .h) := by
  intro f cdv A outer s H E hr ds M Φ hl hc
  obtain ⟨t, x, rfl, ok, hh, h30, hκ, hp, hc⟩ := hc
  have nd : (["self", "person", "number"] : List Str).Nodup := by decide +kernel
  obtain ⟨ts, rfl, c⟩ := kd_h ok hκ
  have R := rwK ok
  cases x with
  | nil => have := pers_nil hp; cases this
  | cons i p =>
  obtain ⟨u, hi, hu, hpu⟩ := pers_cons hp
  have hq : (i, u) ∈ byP ts := byP_mem.mpr hu
  obtain ⟨l1, l2, hps, hb, hnp, hn⟩ := crw_num (q := (i, u)) R.nd R.ok hq hpu
  have ht := byP_tot ts
  have h3 := R.len
  have hlt := (nuC_ok (q := (i, u)) R.nd R.ok hq hpu).1
  obtain ⟨m, hm⟩ : ∃ m, m = tot l1 + PL.num u p := ⟨_, rfl⟩
  rw [linM_hal c] at hc
  have hc : Φ (.int ((hvF (totC (byP ts)) (nuC (byP ts) (i :: p)) : Nat) : Int)) M := hc
  rw [show nuC (byP ts) (i :: p) = m from hn.trans hm.symm, ht] at hc
  rw [show nuC (byP ts) ((i, u).1 :: p) = m from hn.trans hm.symm, ht] at hlt
  rw [ppl] at h30
  have lkm : List.lookup ("number_of" : Str) (crwF a.c (byP ts)) = none := by unfold crwF; rw [lk_miss (by decide +kernel), lk_miss (by decide +kernel)]; rfl
  refine wss_cons (ws_set 2 nd (we_meth F2 (hr.mono (by omega)) (we_fld (C := a.h) (we_var 0 rfl ⟨_, _, insH c, L.cl .h, L.na .h _ (by decide +kernel), lk_hcr ts, _, insW, lkm, wa_cons (we_var 1 rfl (wa_nil ⟨rfl, l1, l2, (i, u), p, PL.num u p, by rw [hps]; rfl, R.ok _ hq, by rw [← hps]; exact h3, hb, hnp, ?_⟩))⟩))))
  rw [← hm]
  refine wss_cons (ws_ret (we_if (wt_ltI (we_var 2 rfl (we_meth0 F1 (hr.mono (by omega)) (we_var 0 rfl ⟨_, insH c, lkF ok (fld_hal a c), rfl, ts, rfl, ok, c, _, _, rfl, rfl, ?_⟩))))))
  unfold hvF at hc
  by_cases c2 : m < (ppls ts + 1) / 2
  · rw [if_pos c2] at hc
    rw [decide_eq_true (show ((m : Nat) : Int) < (((ppls ts + 1) / 2 : Nat) : Int) by omega)]
    refine we_mulS (we_int (we_var 2 rfl ⟨_, _, rfl, rfl, .inl ⟨by decide, by decide⟩, Lets.of ?_⟩))
    rw [show (2 : Int) * ((m : Nat) : Int) = ((2 * m : Nat) : Int) by omega]
    exact hc
  · rw [if_neg c2] at hc
    rw [decide_eq_false (show ¬ ((m : Nat) : Int) < (((ppls ts + 1) / 2 : Nat) : Int) by omega)]
    refine we_addI (we_mulS (we_int (we_subI (we_var 2 rfl (we_meth0 F1 (hr.mono (by omega)) (we_var 0 rfl ⟨_, insH c, lkF ok (fld_hal a c), rfl, ts, rfl, ok, c, _, _, rfl, rfl, _, _, rfl, rfl, .inl ⟨by decide, by decide⟩, we_int ⟨_, _, rfl, rfl, Lets.of ?_⟩⟩))))))
    rw [show (2 : Int) * (((m : Nat) : Int) - (((ppls ts + 1) / 2 : Nat) : Int)) + 1 = ((2 * (m - (ppls ts + 1) / 2) + 1 : Nat) : Int) by omega]
    exact hc
end
end W
/-! E84: woven lines: what the methods tell. -/
namespace W
open PySem PySem.Spec PyProof.Rows L2 DL SX PL SlX
abbrev noT (ts : List T) : Nat := totC (othC ts)
abbrev lnT (ts : List T) : Lin := linM (topT ts)
abbrev sgT (ts : List T) : Nat := sgW (linM (topT ts)) (totC (othC ts) + 1)
structure WvK (ts : List T) : Prop where
  n0 : ts ≠ []
  nd : ((othC ts).map (·.1)).Nodup
  ok : ∀ q ∈ othC ts, Ok q.2
  ht : ∀ q ∈ othC ts, PL.ht q.2 < PL.ht (.row true ts)
  le : ∀ q ∈ othC ts, ppl q.2 ≤ ppls ts
  len : (othC ts).length ≤ 100000
  oku : Ok (topT ts)
  htu : PL.ht (topT ts) < PL.ht (.row true ts)
  leu : ppl (topT ts) ≤ ppls ts
  tot : noT ts + ppl (topT ts) = ppls ts
  big : noT ts + 2 ≤ ppl (topT ts)
  rw : rws (.row true ts) = max 1 (rws (topT ts) - noT ts)
  rl : rws (topT ts) ≤ ppl (topT ts)
  o : OkL (topT ts) (lnT ts)
  g : Sg (lnT ts) (noT ts) (sgT ts)
  v : Wv (lnT ts).n (noT ts) (pcW (lnT ts) (sgT ts)) (eW (lnT ts) (sgT ts))
theorem wvK {ts : List T} (ok : Ok (.row true ts)) (c : ¬ ppl (topT ts) ≤ totC (othC ts) + 1) : WvK ts := by
  have h0 := ts_ne ok
  have hl : ts.length ≤ 100000 := by
    have h1 := kids_len ok.1
    have h2 := ok.2.2
    have h3 : (kids (.row true ts)).length = ts.length := by show (ts.map _).length = _; rw [List.length_map]
    omega
  have hp : ∀ q ∈ othC ts, piece (.row true ts) q.1 = some q.2 := fun q hq => (oth_mem.mp hq).1
  have hu : piece (.row true ts) (topN ts) = some (topT ts) := top_at h0
  have oku := piece_Ok hu ok
  have ht := oth_tot h0
  have o := linM_ok _ (Nat.le_refl _) oku
  have hr := (linM_ok _ (Nat.le_refl _) ok).hr
  rw [linM_wov h0 c] at hr
  have hr : max 1 ((lnT ts).r - noT ts) = rws (.row true ts) := hr
  rw [o.hr] at hr
  have hn : (lnT ts).n = ppl (topT ts) := o.hn
  have hrr : (lnT ts).r = rws (topT ts) := o.hr
  have hpp := ppl_pos oku.1
  have hrp := rws_pos oku.1
  have g : Sg (lnT ts) (noT ts) (sgT ts) := sg_ok o (by omega) (by omega) (by show totC (othC ts) + 1 ≤ _; omega)
  refine ⟨h0, oth_nd ts, fun q hq => piece_Ok (hp q hq) ok, fun q hq => piece_ht (hp q hq), fun q hq => ?_, ?_, oku, piece_ht hu, by omega, ht, by show totC (othC ts) + 2 ≤ _; omega, hr.symm, rws_le oku.1, o, g, wv_ok o g⟩
  · have := (piece_le' (hp q hq) ok.1).1
    rw [ppl] at this
    exact this
  · unfold othC
    exact Nat.le_trans (List.length_filter_le _ _) (by rw [idxT_len]; exact hl)
section
variable {P : Program} {w : World} {K : PySem.W.Frag} {mg : Str → Option Value} {base : Heap} {a : Ad}
theorem insV {M : Mp} {ts : List T} (ok : Ok (.row true ts)) (c : ¬ ppl (topT ts) ≤ totC (othC ts) + 1) : InsOf M a.w (linD a (.row true ts)) (fW a ts (linD a (topT ts)) (linM (topT ts))) := by rw [linD_wov a (ts_ne ok) c]; exact ⟨rfl, rfl⟩
theorem lk_wnum (ts : List T) (ld : D) (L : Lin) : List.lookup ("own_number" : Str) (fW a ts ld L) = some (.int (topN ts : Nat)) := lk_hit
theorem lk_wlin (ts : List T) (ld : D) (L : Lin) : List.lookup ("own_line" : Str) (fW a ts ld L) = some ld := by unfold fW; rw [lk_miss (by decide +kernel), lk_hit]
theorem lk_woth (ts : List T) (ld : D) (L : Lin) : List.lookup ("own_others" : Str) (fW a ts ld L) = some (crwD a.c a.r (othC ts)) := by unfold fW; rw [lk_miss (by decide +kernel), lk_miss (by decide +kernel), lk_hit]
theorem lk_wsin (ts : List T) (ld : D) (L : Lin) : List.lookup ("own_single" : Str) (fW a ts ld L) = some (.int ((sgW L (totC (othC ts) + 1) : Nat) : Int)) := by unfold fW; rw [lk_miss (by decide +kernel), lk_miss (by decide +kernel), lk_miss (by decide +kernel), lk_miss (by decide +kernel), lk_miss (by decide +kernel), lk_hit]
section
variable {X : Cx} {ρ : Rho} {M : Mp} {Φ : D → Mp → Prop} {ts : List T} {o : Expr} {pos apos : Pos}
/-- the fields of a woven line -/
theorem we_wsin (L : Lx X.K X.mg a) (ok : Ok (.row true ts)) (c : ¬ ppl (topT ts) ≤ totC (othC ts) + 1) (h : WE X ρ M o fun d M1 => d = linD a (.row true ts) ∧ Φ (.int ((sgT ts : Nat) : Int)) M1) (hb : attributeBase o "own_single" X.env (eval o X.env) = eval o X.env := by rfl) : WE X ρ M (.Attribute o "own_single" pos) Φ :=
  we_fld (C := a.w) (h.imp fun d M1 ⟨e1, h⟩ => ⟨_, _, by rw [e1]; exact insV ok c, L.cl .w, L.na .w _ (by decide +kernel), lk_wsin (a := a) ts (linD a (topT ts)) (linM (topT ts)), h⟩) hb
theorem we_wlin (L : Lx X.K X.mg a) (ok : Ok (.row true ts)) (c : ¬ ppl (topT ts) ≤ totC (othC ts) + 1) (h : WE X ρ M o fun d M1 => d = linD a (.row true ts) ∧ Φ (linD a (topT ts)) M1) (hb : attributeBase o "own_line" X.env (eval o X.env) = eval o X.env := by rfl) : WE X ρ M (.Attribute o "own_line" pos) Φ :=
  we_fld (C := a.w) (h.imp fun d M1 ⟨e1, h⟩ => ⟨_, _, by rw [e1]; exact insV ok c, L.cl .w, L.na .w _ (by decide +kernel), lk_wlin (a := a) ts (linD a (topT ts)) (linM (topT ts)), h⟩) hb
theorem we_wnum (L : Lx X.K X.mg a) (ok : Ok (.row true ts)) (c : ¬ ppl (topT ts) ≤ totC (othC ts) + 1) (h : WE X ρ M o fun d M1 => d = linD a (.row true ts) ∧ Φ (.int ((topN ts : Nat) : Int)) M1) (hb : attributeBase o "own_number" X.env (eval o X.env) = eval o X.env := by rfl) : WE X ρ M (.Attribute o "own_number" pos) Φ :=
  we_fld (C := a.w) (h.imp fun d M1 ⟨e1, h⟩ => ⟨_, _, by rw [e1]; exact insV ok c, L.cl .w, L.na .w _ (by decide +kernel), lk_wnum (a := a) ts (linD a (topT ts)) (linM (topT ts)), h⟩) hb
theorem we_woth (L : Lx X.K X.mg a) (ok : Ok (.row true ts)) (c : ¬ ppl (topT ts) ≤ totC (othC ts) + 1) (h : WE X ρ M o fun d M1 => d = linD a (.row true ts) ∧ Φ (crwD a.c a.r (othC ts)) M1) (hb : attributeBase o "own_others" X.env (eval o X.env) = eval o X.env := by rfl) : WE X ρ M (.Attribute o "own_others" pos) Φ :=
  we_fld (C := a.w) (h.imp fun d M1 ⟨e1, h⟩ => ⟨_, _, by rw [e1]; exact insV ok c, L.cl .w, L.na .w _ (by decide +kernel), lk_woth (a := a) ts (linD a (topT ts)) (linM (topT ts)), h⟩) hb
/-- how many others there are -/
theorem we_wno {ap : Pos} (L : Lx X.K X.mg a) (ok : Ok (.row true ts)) (c : ¬ ppl (topT ts) ≤ totC (othC ts) + 1) (h : WE X ρ M o fun d M1 => d = linD a (.row true ts) ∧ Φ (.int ((noT ts : Nat) : Int)) M1) (hb : attributeBase o "own_others" X.env (eval o X.env) = eval o X.env := by rfl) (hb2 : attributeBase (.Attribute o "own_others" ap) "own_people" X.env (eval (.Attribute o "own_others" ap) X.env) = eval (.Attribute o "own_others" ap) X.env := by rfl) : WE X ρ M (.Attribute (.Attribute o "own_others" ap) "own_people" pos) Φ :=
  we_fld (C := a.r) (we_woth L ok c (h.imp fun d M1 ⟨e1, h⟩ => ⟨e1, _, _, insW, L.cr.cl, L.cr.na _ (by simp), lk_wpeople, h⟩) hb) hb2
/-- a question that the great part's line answers -/
theorem we_wlm {ap : Pos} {m : Str} {k : Nat} {cc : Kd → Con} {e : Expr} {pl : Sem Bool} (L : Lx X.K X.mg a) (ok : Ok (.row true ts)) (c : ¬ ppl (topT ts) ≤ totC (othC ts) + 1) (oku : Ok (topT ts)) (F : ∀ κ, Mc X.prog X.w X.K X.mg X.base (adK a κ) m [] k 2 (cc κ)) (hr : Room k X.A)
    (h : WE X ρ M o fun d M1 => d = linD a (.row true ts) ∧ WE X ρ M1 e fun y M2 => cc (kdL (topT ts)) [linD a (topT ts), y] M2 Φ) (hm : m ∉ lNames := by decide +kernel) (hb : attributeBase o "own_line" X.env (eval o X.env) = eval o X.env := by rfl)
    (hst : starEach [e] X.env = (false, eval e X.env) :: starEach [] X.env := by rfl) (hpl : (backTo pos (starEach [] X.env)).any (·.1) = false := by rfl)
    (ht : eval (.Call (.Attribute (.Attribute o "own_line" ap) m apos) [e] [] pos) X.env = (do
      let ov ← eval (.Attribute o "own_line" ap) X.env
      standAt apos.atName
      let (f, first) ← holding [ov] (getMethod ov m pl)
      callWith pos f first (backTo pos (starEach [e] X.env)) (backToKw pos (keywordEach [] X.env))) := by rfl) : WE X ρ M (.Call (.Attribute (.Attribute o "own_line" ap) m apos) [e] [] pos) Φ :=
  we_lmeth F hr oku (we_wlin L ok c (h.imp fun d M1 ⟨e1, h⟩ => ⟨e1, rfl, h⟩) hb) hm hst hpl ht
end
/-! ### the spots of the others -/
def cOs (a : Ad) (h : Nat) : Con := fun ds M Φ => ∃ ts k, ds = [linD a (.row true ts), .int (k : Nat)] ∧ Ok (.row true ts) ∧ ¬ ppl (topT ts) ≤ totC (othC ts) + 1 ∧ ht (.row true ts) ≤ h ∧ ppls ts ≤ 10 ^ 30 ∧ k < noT ts ∧ Φ (.int ((osW (lnT ts) (sgT ts) k : Nat) : Int)) M
theorem ok_wos (h : Nat) (L : Lx K mg a) (F1 : ∀ j, h = j + 1 → ∀ κ, Mc P w K mg base (adK a κ) "row_of" [] (j + 5) 2 (cRo a j κ)) (F2 : ∀ j, h = j + 1 → ∀ κ, Mc P w K mg base (adK a κ) "start" [] (j + 4) 2 (cSt a j κ)) : BodyOk P w K mg base "WovenLine.other_spot" s_WovenLine_other_spot ["self", "number", "row"] 2 (h + 4) (cOs a h) := by
  intro f cdv A outer s H E hr ds M Φ hl hc
  obtain ⟨ts, k, rfl, ok, c, hh, h30, hk, hc⟩ := hc
  have nd : (["self", "number", "row"] : List Str).Nodup := by decide +kernel
  have R := wvK ok c
  have oku := R.oku
  have hhu := R.htu
  have htot := R.tot
  have hsl := R.g.lt
  have hsg := R.g.ge
  unfold pcs1 at hsg
  rw [R.o.hn] at hsl
  rw [R.o.hr] at hsg
  have hro := (R.o.ro (sgT ts) R.g.lt).1
  rw [R.o.hr] at hro
  obtain ⟨j, rfl⟩ : ∃ j, h = j + 1 := ⟨h - 1, by omega⟩
  refine wss_cons (ws_if (wt_ltI (we_var 1 rfl (we_wsin L ok c (we_var 0 rfl ⟨rfl, _, _, rfl, rfl, ?_⟩)))))
  unfold osW at hc
  by_cases c1 : k < sgT ts
  · rw [if_pos c1] at hc
    rw [decide_eq_true (show ((k : Nat) : Int) < ((sgT ts : Nat) : Int) by omega)]
    refine wss_cons (ws_ret (we_addI (we_mulS (we_int (we_var 1 rfl ⟨_, _, rfl, rfl, .inl ⟨by decide, by decide⟩, we_int ⟨_, _, rfl, rfl, Lets.of ?_⟩⟩)))))
    rw [show (2 : Int) * ((k : Nat) : Int) + 1 = ((2 * k + 1 : Nat) : Int) by omega]
    exact hc
  rw [if_neg c1] at hc
  rw [decide_eq_false (show ¬ ((k : Nat) : Int) < ((sgT ts : Nat) : Int) by omega)]
  refine wss_nil (wss_cons (ws_set 2 nd (we_subI (we_addI (we_wlm L ok c oku (F1 j rfl) (hr.mono (by omega)) (we_var 0 rfl ⟨rfl, we_wsin L ok c (we_var 0 rfl ⟨rfl, topT ts, sgT ts, rfl, oku, by omega, by omega, rfl, hsl, we_var 1 rfl ⟨_, _, rfl, rfl, we_wsin L ok c (we_var 0 rfl ⟨rfl, _, _, rfl, rfl, ?_⟩)⟩⟩)⟩))))))
  obtain ⟨i, hi⟩ : ∃ i, i = (lnT ts).ro (sgT ts) + k - sgT ts := ⟨_, rfl⟩
  rw [show (((linM (topT ts)).ro (sgT ts) : Nat) : Int) + ((k : Nat) : Int) - ((sgT ts : Nat) : Int) = ((i : Nat) : Int) by rw [hi]; show (((lnT ts).ro (sgT ts) : Nat) : Int) + _ - _ = _; omega]
  refine wss_cons (ws_ret (we_addI (we_wlm L ok c oku (F2 j rfl) (hr.mono (by omega)) (we_var 0 rfl ⟨rfl, we_addI (we_var 2 rfl (we_int ⟨_, _, rfl, rfl, topT ts, i + 1, by rw [Int.natCast_add]; rfl, oku, by omega, by omega, rfl, by omega, we_var 1 rfl ⟨_, _, rfl, rfl, Lets.of ?_⟩⟩))⟩))))
  rw [← hi, Int.natCast_add] at hc
  exact hc
def cAh (a : Ad) (h : Nat) : Con := fun ds M Φ => ∃ ts x, ds = [linD a (.row true ts), .int (x : Nat)] ∧ Ok (.row true ts) ∧ ¬ ppl (topT ts) ≤ totC (othC ts) + 1 ∧ ht (.row true ts) ≤ h ∧ ppls ts ≤ 10 ^ 30 ∧ Φ (.int ((ahW (lnT ts) (sgT ts) (noT ts) x : Nat) : Int)) M
theorem insV_m {ts : List T} {m : Str} (ok : Ok (.row true ts)) (c : ¬ ppl (topT ts) ≤ totC (othC ts) + 1) (h : m ∉ lNames := by decide +kernel) : List.lookup m (fW a ts (linD a (topT ts)) (linM (topT ts))) = none := lkF ok (fld_wov a c) h
theorem ok_wah (h : Nat) (L : Lx K mg a) (F1 : Mc P w K mg base a.w "other_spot" [] (h + 5) 2 (cOs a h)) : BodyOk P w K mg base "WovenLine.ahead" s_WovenLine_ahead ["self", "spot", "low", "high", "middle"] 2 (h + 5) (cAh a h) := by
  intro f cdv A outer s H E hr ds M Φ hl hc
  obtain ⟨ts, x, rfl, ok, c, hh, h30, hc⟩ := hc
  have nd : (["self", "spot", "low", "high", "middle"] : List Str).Nodup := by decide +kernel
  have R := wvK ok c
  have up : ∀ {i k}, i < k → k < noT ts → osW (lnT ts) (sgT ts) i < osW (lnT ts) (sgT ts) k := fun {i k} h1 h2 => by
    have := R.v.up h1 h2
    rw [osW_e, osW_e]; omega
  refine wss_cons (ws_par 2 3 nd (wa_cons (we_int (wa_cons (we_wno L ok c (we_var 0 rfl ⟨rfl, wa_nil ⟨_, _, rfl, ?_⟩⟩))))))
  refine wss_cons (ws_while PassesOwn.never (fun n ρ' M' => ∃ (lo hi : Nat) (o4 : Option D), ρ' = [some (linD a (.row true ts)), some (.int (x : Nat)), some (.int (lo : Nat)), some (.int (hi : Nat)), o4] ∧ M' = M ∧ n = hi - lo ∧ lo ≤ hi ∧ hi ≤ noT ts ∧ (∀ i, i < lo → ¬ x ≤ osW (lnT ts) (sgT ts) i) ∧ (hi < noT ts → x ≤ osW (lnT ts) (sgT ts) hi)) (noT ts) ⟨0, noT ts, none, rfl, rfl, by omega, by omega, Nat.le_refl _, fun i h => absurd h (Nat.not_lt_zero _), fun h => absurd h (Nat.lt_irrefl _)⟩ ?_)
  rintro n ρ' M' ⟨lo, hi, o4, rfl, hM, rfl, h1, h2, h3, h4⟩
  obtain rfl : M = M' := hM.symm
  refine wt_ltI (we_var 2 rfl (we_var 3 rfl ⟨_, _, rfl, rfl, ?_⟩))
  by_cases e : lo < hi
  · rw [decide_eq_true (show ((lo : Nat) : Int) < (hi : Nat) by omega)]
    refine wss_cons (ws_set 4 nd (we_divI (we_addI (we_var 2 rfl (we_var 3 rfl ⟨_, _, rfl, rfl, we_int ⟨_, _, rfl, rfl, ⟨by decide, by decide⟩, ?_⟩⟩)))))
    obtain ⟨m, hm⟩ : ∃ m, m = (lo + hi) / 2 := ⟨_, rfl⟩
    rw [show (((lo : Nat) : Int) + (hi : Nat)) / 2 = ((m : Nat) : Int) by omega]
    refine wss_cons (ws_if (wt_geI (we_meth F1 (hr.mono (by omega)) (we_var 0 rfl ⟨_, insV ok c, insV_m ok c, wa_cons (we_var 4 rfl (wa_nil ⟨rfl, ts, m, rfl, ok, c, hh, h30, by omega, we_var 1 rfl ⟨_, _, rfl, rfl, ?_⟩⟩))⟩))))
    by_cases e2 : x ≤ osW (lnT ts) (sgT ts) m
    · rw [decide_eq_true (show ((x : Nat) : Int) ≤ (osW (lnT ts) (sgT ts) m : Nat) by omega)]
      exact wss_cons (ws_set 3 nd (we_var 4 rfl (wss_nil (wss_nil ⟨m - lo, by omega, lo, m, _, rfl, rfl, rfl, by omega, by omega, h3, fun _ => e2⟩))))
    · rw [decide_eq_false (show ¬ ((x : Nat) : Int) ≤ (osW (lnT ts) (sgT ts) m : Nat) by omega)]
      refine wss_cons (ws_set 2 nd (we_addI (we_var 4 rfl (we_int ⟨_, _, rfl, rfl, wss_nil (wss_nil ⟨hi - (m + 1), by omega, m + 1, hi, _, rfl, rfl, rfl, by omega, h2, fun i hi2 => ?_, h4⟩)⟩))))
      by_cases e3 : i = m
      · rw [e3]; exact e2
      · have := up (i := i) (k := m) (by omega) (by omega)
        omega
  · rw [decide_eq_false (show ¬ ((lo : Nat) : Int) < (hi : Nat) by omega)]
    obtain rfl : lo = hi := by omega
    refine wss_cons (ws_ret (we_var 2 rfl (Lets.of ?_)))
    rw [show ahW (lnT ts) (sgT ts) (noT ts) x = lo from fstU_uniq h2 (fun i hi => decide_eq_false (h3 i hi)) fun hi => decide_eq_true (h4 hi)] at hc
    exact hc
theorem ok_wstart (h : Nat) (L : Lx K mg a) (F2 : ∀ j, h = j + 1 → ∀ κ, Mc P w K mg base (adK a κ) "start" [] (j + 4) 2 (cSt a j κ)) : BodyOk P w K mg base "WovenLine.start" s_WovenLine_start ["self", "row"] 2 (h + 3) (cSt a h .w) := by
  intro f cdv A outer s H E hr ds M Φ hl hc
  obtain ⟨t, i, rfl, ok, hh, h30, hκ, hx, hc⟩ := hc
  obtain ⟨ts, rfl, c⟩ := kd_w ok hκ
  have R := wvK ok c
  have hhu := R.htu
  have htot := R.tot
  have hn := R.o.hn
  have hr0 := R.o.hr
  have hrw := R.rw
  have oku := R.oku
  rw [linM_wov R.n0 c] at hc
  have hc : Φ (.int ((stW (lnT ts) (noT ts) i : Nat) : Int)) M := hc
  unfold stW at hc
  rw [R.o.hr, ← hrw] at hc
  obtain ⟨j, rfl⟩ : ∃ j, h = j + 1 := ⟨h - 1, by omega⟩
  have h30' := h30
  rw [ppl] at h30'
  refine wss_cons (ws_if (wt_eqS (we_var 1 rfl (we_int ⟨_, rfl, ?_⟩))))
  by_cases c1 : i = 0
  · rw [if_pos c1] at hc
    rw [decide_eq_true (show ((i : Nat) : Int) = 0 by omega)]
    exact wss_cons (ws_ret (we_int (Lets.of hc)))
  rw [if_neg c1] at hc
  rw [decide_eq_false (show ¬ ((i : Nat) : Int) = 0 by omega)]
  refine wss_nil (wss_cons (ws_if (wt_eqS (we_var 1 rfl (we_lrow L ok (we_var 0 rfl ⟨rfl, _, rfl, ?_⟩))))))
  by_cases c2 : i = rws (.row true ts)
  · rw [if_pos c2] at hc
    rw [decide_eq_true (show ((i : Nat) : Int) = (rws (.row true ts) : Nat) by omega)]
    refine wss_cons (ws_ret (we_lpeo L ok (we_var 0 rfl ⟨rfl, Lets.of ?_⟩)))
    rw [ppl, ← htot, Nat.add_comm, ← hn]
    exact hc
  rw [if_neg c2] at hc
  rw [decide_eq_false (show ¬ ((i : Nat) : Int) = (rws (.row true ts) : Nat) by omega)]
  refine wss_nil (wss_cons (ws_ret (we_addI (we_wlm L ok c oku (F2 j rfl) (hr.mono (by omega)) (we_var 0 rfl ⟨rfl, we_addI (we_var 1 rfl (we_wno L ok c (we_var 0 rfl ⟨rfl, _, _, rfl, rfl, topT ts, i + noT ts, by rw [Int.natCast_add], oku, by omega, by omega, rfl, by omega, we_wno L ok c (we_var 0 rfl ⟨rfl, _, _, rfl, rfl, Lets.of ?_⟩)⟩)))⟩)))))
  rw [Int.natCast_add] at hc
  exact hc
theorem ok_wrow (h : Nat) (L : Lx K mg a) (F1 : Mc P w K mg base a.w "start" [] (h + 4) 2 (cSt a h .w)) (F2 : ∀ j, h = j + 1 → ∀ κ, Mc P w K mg base (adK a κ) "row_of" [] (j + 5) 2 (cRo a j κ)) : BodyOk P w K mg base "WovenLine.row_of" s_WovenLine_row_of ["self", "spot"] 2 (h + 4) (cRo a h .w) := by
  intro f cdv A outer s H E hr ds M Φ hl hc
  obtain ⟨t, x, rfl, ok, hh, h30, hκ, hx, hc⟩ := hc
  obtain ⟨ts, rfl, c⟩ := kd_w ok hκ
  have R := wvK ok c
  have hhu := R.htu
  have htot := R.tot
  have hn := R.o.hn
  have hr0 := R.o.hr
  have hrw := R.rw
  have oku := R.oku
  have h30' := h30
  rw [ppl] at h30' hx
  have hlin := linM_wov R.n0 c
  rw [hlin] at hc
  have hc : Φ (.int ((roW (lnT ts) (noT ts) x : Nat) : Int)) M := hc
  unfold roW at hc
  have h1 : (linM (.row true ts)).st 1 = stW (lnT ts) (noT ts) 1 := by rw [hlin]; rfl
  rw [R.o.hr, ← hrw] at hc
  obtain ⟨j, rfl⟩ : ∃ j, h = j + 1 := ⟨h - 1, by omega⟩
  refine wss_cons (ws_if (wt_ww (ww_or (wt_eqS (we_lrow L ok (we_var 0 rfl ⟨rfl, we_int ⟨_, rfl, ?_⟩⟩))))))
  by_cases c1 : rws (.row true ts) = 1
  · rw [if_pos (.inl c1)] at hc
    rw [decide_eq_true (show ((rws (.row true ts) : Nat) : Int) = 1 by omega)]
    exact wss_cons (ws_ret (we_int (Lets.of hc)))
  rw [decide_eq_false (show ¬ ((rws (.row true ts) : Nat) : Int) = 1 by omega)]
  refine ww_or1 (wt_ltI (we_var 1 rfl (we_meth F1 (hr.mono (by omega)) (we_var 0 rfl ⟨_, insV ok c, insV_m ok c, wa_cons (we_int (wa_nil ⟨rfl, .row true ts, 1, rfl, ok, hh, h30, hκ, by omega, _, _, rfl, rfl, ?_⟩))⟩))))
  rw [h1]
  by_cases c2 : x < stW (lnT ts) (noT ts) 1
  · rw [if_pos (.inr c2)] at hc
    rw [decide_eq_true (show ((x : Nat) : Int) < (stW (lnT ts) (noT ts) 1 : Nat) by omega)]
    exact wss_cons (ws_ret (we_int (Lets.of hc)))
  rw [if_neg (fun h => h.elim c1 c2)] at hc
  rw [decide_eq_false (show ¬ ((x : Nat) : Int) < (stW (lnT ts) (noT ts) 1 : Nat) by omega)]
  have e1 : stW (lnT ts) (noT ts) 1 = (lnT ts).st (1 + noT ts) + noT ts := by
    unfold stW
    rw [if_neg (by decide), R.o.hr, ← hrw, if_neg (fun h => c1 h.symm)]
  obtain ⟨y, hy⟩ : ∃ y, y = x - noT ts := ⟨_, rfl⟩
  have hyl : y < (lnT ts).n := by show y < _; omega
  obtain ⟨y1, y2, y3⟩ := R.o.ro y hyl
  have hbig : noT ts ≤ (lnT ts).ro y := Classical.byContradiction fun hh => by
    have := st_le R.o (i := (lnT ts).ro y + 1) (j := 1 + noT ts) (by omega) (by omega)
    omega
  rw [← hy] at hc
  refine wss_nil (wss_cons (ws_ret (we_subI (we_wlm L ok c oku (F2 j rfl) (hr.mono (by omega)) (we_var 0 rfl ⟨rfl, we_subI (we_var 1 rfl (we_wno L ok c (we_var 0 rfl ⟨rfl, _, _, rfl, rfl, topT ts, y, ?_, oku, by omega, by omega, rfl, by omega, we_wno L ok c (we_var 0 rfl ⟨rfl, _, _, rfl, rfl, Lets.of ?_⟩)⟩)))⟩)))))
  · rw [show ((x : Nat) : Int) - ((noT ts : Nat) : Int) = ((y : Nat) : Int) by omega]
  rw [show ((((linM (topT ts)).ro y : Nat) : Int) - ((noT ts : Nat) : Int)) = (((lnT ts).ro y - noT ts : Nat) : Int) by show (((lnT ts).ro y : Nat) : Int) - _ = _; omega]
  exact hc
end
end W
/-! E85: woven lines: pieces, who sits where. -/
namespace W
open PySem PySem.Spec PyProof.Rows L2 DL SX PL SlX
section
variable {P : Program} {w : World} {K : PySem.W.Frag} {mg : Str → Option Value} {base : Heap} {a : Ad}
def cPc (a : Ad) (h : Nat) : Con := fun ds M Φ => ∃ ts x, ds = [linD a (.row true ts), .int (x : Nat)] ∧ Ok (.row true ts) ∧ ¬ ppl (topT ts) ≤ totC (othC ts) + 1 ∧ ht (.row true ts) ≤ h ∧ ppls ts ≤ 10 ^ 30 ∧ x < ppl (topT ts) ∧ Φ (.int ((pcW (lnT ts) (sgT ts) x : Nat) : Int)) M
theorem ok_wpc (h : Nat) (L : Lx K mg a) (F1 : ∀ j, h = j + 1 → ∀ κ, Mc P w K mg base (adK a κ) "row_of" [] (j + 5) 2 (cRo a j κ)) : BodyOk P w K mg base "WovenLine.piece_of" s_WovenLine_piece_of ["self", "spot"] 2 (h + 4) (cPc a h) := by
  intro f cdv A outer s H E hr ds M Φ hl hc
  obtain ⟨ts, x, rfl, ok, c, hh, h30, hx, hc⟩ := hc
  have R := wvK ok c
  have oku := R.oku
  have hhu := R.htu
  have htot := R.tot
  have hsl := R.g.lt
  have hn := R.o.hn
  rw [hn] at hsl
  obtain ⟨j, rfl⟩ : ∃ j, h = j + 1 := ⟨h - 1, by omega⟩
  unfold pcW at hc
  refine wss_cons (ws_if (wt_ltI (we_var 1 rfl (we_wsin L ok c (we_var 0 rfl ⟨rfl, _, _, rfl, rfl, ?_⟩)))))
  by_cases c1 : x < sgT ts
  · rw [if_pos c1] at hc
    rw [decide_eq_true (show ((x : Nat) : Int) < ((sgT ts : Nat) : Int) by omega)]
    exact wss_cons (ws_ret (we_var 1 rfl (Lets.of hc)))
  rw [if_neg c1] at hc
  rw [decide_eq_false (show ¬ ((x : Nat) : Int) < ((sgT ts : Nat) : Int) by omega)]
  have hle := ro_le R.o (a := sgT ts) (b := x) (by omega) (by rw [hn]; exact hx)
  refine wss_nil (wss_cons (ws_ret (we_subI (we_addI (we_wsin L ok c (we_var 0 rfl ⟨rfl, we_wlm L ok c oku (F1 j rfl) (hr.mono (by omega)) (we_var 0 rfl ⟨rfl, we_var 1 rfl ⟨topT ts, x, rfl, oku, by omega, by omega, rfl, hx, _, _, rfl, rfl, we_wlm L ok c oku (F1 j rfl) (hr.mono (by omega)) (we_var 0 rfl ⟨rfl, we_wsin L ok c (we_var 0 rfl ⟨rfl, topT ts, sgT ts, rfl, oku, by omega, by omega, rfl, hsl, _, _, rfl, rfl, Lets.of ?_⟩)⟩)⟩⟩)⟩))))))
  rw [show ((sgT ts : Nat) : Int) + (((linM (topT ts)).ro x : Nat) : Int) - (((linM (topT ts)).ro (sgT ts) : Nat) : Int) = ((sgT ts + (lnT ts).ro x - (lnT ts).ro (sgT ts) : Nat) : Int) by show _ + (((lnT ts).ro x : Nat) : Int) - (((lnT ts).ro (sgT ts) : Nat) : Int) = _; omega]
  exact hc
theorem ok_wat' (h : Nat) (L : Lx K mg a) (F1 : Mc P w K mg base a.w "ahead" [] (h + 6) 2 (cAh a h)) (F2 : Mc P w K mg base a.w "other_spot" [] (h + 5) 2 (cOs a h)) (F3 : Mc P w K mg base a.r "at" [] 4 2 (cWAt a.c a.r)) (F4 : ∀ j, h = j + 1 → ∀ κ, Mc P w K mg base (adK a κ) "at" [] (j + 7) 2 (cLAt a j κ)) :
    BodyOk P w K mg base "WovenLine.at" s_WovenLine_at ["self", "spot", "ahead"] 2 (h + 6) (cLAt a h .w) := by
  intro f cdv A outer s H E hr ds M Φ hl hc
  obtain ⟨t, x, rfl, ok, hh, h60, h30, hκ, hx, hc⟩ := hc
  have nd : (["self", "spot", "ahead"] : List Str).Nodup := by decide +kernel
  obtain ⟨ts, rfl, c⟩ := kd_w ok hκ
  have R := wvK ok c
  have oku := R.oku
  have hhu := R.htu
  have htot := R.tot
  have hn := R.o.hn
  have h30' := h30
  rw [ppl] at h30' hx
  rw [linM_wov R.n0 c] at hc
  have hc : Φ (perD (atW (lnT ts) (sgT ts) (topN ts) (othC ts) x)) M := hc
  obtain ⟨m, hm⟩ : ∃ m, m = ahW (lnT ts) (sgT ts) (noT ts) x := ⟨_, rfl⟩
  unfold atW at hc
  rw [← hm] at hc
  obtain ⟨j, rfl⟩ : ∃ j, h = j + 1 := ⟨h - 1, by omega⟩
  refine wss_cons (ws_set 2 nd (we_meth F1 (hr.mono (by omega)) (we_var 0 rfl ⟨_, insV ok c, insV_m ok c, wa_cons (we_var 1 rfl (wa_nil ⟨rfl, ts, x, rfl, ok, c, hh, h30', ?_⟩))⟩)))
  rw [← hm]
  have lkm : List.lookup ("at" : Str) (crwF a.c (othC ts)) = none := by unfold crwF; rw [lk_miss (by decide +kernel), lk_miss (by decide +kernel)]; rfl
  have els : ¬ (m < noT ts ∧ osW (lnT ts) (sgT ts) m = x) → WSs (bx P w K mg base ["self", "spot", "ahead"] "WovenLine.at" (defScope s_WovenLine_at) f cdv A outer s H E) [some (linD a (.row true ts)), some (.int (x : Nat)), some (.int (m : Nat))] M ((defBody s_WovenLine_at).drop 2) { nx := fun _ M' => Φ .non M', rt := Lets Φ } := fun hne => by
    rw [if_neg hne] at hc
    obtain ⟨y, hy, hyx, hym⟩ : ∃ y, y < ppl (topT ts) ∧ x = y + m ∧ m ≤ noT ts := by
      rcases R.v.find (x := x) (by rw [hn]; omega) with ⟨k, hk, hxk⟩ | ⟨y, hy, hxy⟩
      · exfalso
        have e1 : m = k := by rw [hm, ahW_e, hxk]; exact R.v.ah_os hk
        exact hne ⟨by omega, by rw [e1, osW_e, hxk]⟩
      · have e1 : m = min (pcW (lnT ts) (sgT ts) y) (noT ts) := by rw [hm, ahW_e, hxy]; exact (R.v.ah_pl hy).1
        exact ⟨y, by rw [← hn]; exact hy, by rw [e1]; exact hxy, by rw [e1]; omega⟩
    have hpl := pers_ht (R.o.at_ y (by rw [hn]; exact hy)).1
    rw [show x - m = y by omega] at hc
    refine wss_cons (ws_ret (we_tup (wa_cons (we_wnum L ok c (we_var 0 rfl ⟨rfl, wa_star (we_wlm L ok c oku (F4 j rfl) (hr.mono (by omega)) (we_var 0 rfl ⟨rfl, we_subI (we_var 1 rfl (we_var 2 rfl ⟨_, _, rfl, rfl, topT ts, y, ?_, oku, by omega, by omega, by omega, rfl, hy, _, .inr rfl, wa_nil fun ys e => ?_⟩))⟩))⟩)))))
    · rw [show ((x : Nat) : Int) - ((m : Nat) : Int) = ((y : Nat) : Int) by omega]
    subst e
    refine ⟨?_, Lets.of ?_⟩
    · rw [List.append_nil, List.length_cons, List.length_map, sizeLine_eq]
      have : ((linM (topT ts)).at_ y).length ≤ ht (topT ts) := hpl
      omega
    · rw [List.append_nil]; exact hc
  refine wss_cons (ws_if (wt_ww (ww_and (wt_ltI (we_var 2 rfl (we_wno L ok c (we_var 0 rfl ⟨rfl, _, _, rfl, rfl, ?_⟩)))))))
  by_cases c1 : m < noT ts
  case neg =>
    rw [decide_eq_false (show ¬ ((m : Nat) : Int) < ((noT ts : Nat) : Int) by omega)]
    exact wss_nil (els fun h => c1 h.1)
  rw [decide_eq_true (show ((m : Nat) : Int) < ((noT ts : Nat) : Int) by omega)]
  refine ww_and1 (wt_eqS (we_meth F2 (hr.mono (by omega)) (we_var 0 rfl ⟨_, insV ok c, insV_m ok c, wa_cons (we_var 2 rfl (wa_nil ⟨rfl, ts, m, rfl, ok, c, hh, h30', c1, we_var 1 rfl ⟨_, rfl, ?_⟩⟩))⟩)))
  by_cases c2 : osW (lnT ts) (sgT ts) m = x
  case neg =>
    rw [decide_eq_false (show ¬ ((osW (lnT ts) (sgT ts) m : Nat) : Int) = (x : Nat) by omega)]
    exact wss_nil (els fun h => c2 h.2)
  rw [decide_eq_true (show ((osW (lnT ts) (sgT ts) m : Nat) : Int) = (x : Nat) by omega)]
  rw [if_pos ⟨c1, c2⟩] at hc
  obtain ⟨l1, l2, q, p, hps, g1, g2, hp, ha⟩ := crw_at R.nd R.ok c1
  have hq : q ∈ othC ts := by rw [hps]; simp
  have h1 := R.ht q hq
  have h2 := R.le q hq
  have h3 := R.len
  rw [ha] at hc
  refine wss_cons (ws_ret (we_meth F3 (hr.mono (by omega)) (we_woth L ok c (we_var 0 rfl ⟨rfl, _, insW, lkm, wa_cons (we_var 2 rfl (wa_nil ⟨rfl, l1, l2, q, m, p, by rw [← hps]; rfl, R.ok q hq, Nat.le_trans (Nat.le_trans h2 h30') (by decide), by omega, by rw [← hps]; exact h3, g1, g2, hp, Lets.of hc⟩))⟩))))
theorem ok_wsp (h : Nat) (F : Fx w K mg) (L : Lx K mg a) (F1 : Mc P w K mg base a.w "piece_of" [] (h + 5) 2 (cPc a h)) (F2 : Mc P w K mg base a.w "other_spot" [] (h + 5) 2 (cOs a h)) (F3 : Mc P w K mg base a.r "number_of" [] 4 2 (cWNum a.c a.r)) (F4 : ∀ j, h = j + 1 → ∀ κ, Mc P w K mg base (adK a κ) "spot_of" [] (j + 6) 2 (cLSp a j κ)) :
    BodyOk P w K mg base "WovenLine.spot_of" s_WovenLine_spot_of ["self", "person", "spot"] 2 (h + 5) (cLSp a h .w) := by
  intro f cdv A outer s H E hr ds M Φ hl hc
  obtain ⟨t, p, rfl, ok, hh, h30, hκ, hp, hc⟩ := hc
  have nd : (["self", "person", "spot"] : List Str).Nodup := by decide +kernel
  obtain ⟨ts, rfl, c⟩ := kd_w ok hκ
  have R := wvK ok c
  have oku := R.oku
  have hhu := R.htu
  have htot := R.tot
  have hn := R.o.hn
  have h30' := h30
  rw [ppl] at h30'
  cases p with
  | nil => have := pers_nil hp; cases this
  | cons i p =>
  obtain ⟨u, hi, hu, hpu⟩ := pers_cons hp
  rw [linM_wov R.n0 c] at hc
  have hc : Φ (.int ((spW (lnT ts) (sgT ts) (topN ts) (othC ts) (i :: p) : Nat) : Int)) M := hc
  have hc : Φ (.int ((if i = topN ts then (lnT ts).sp p + min (pcW (lnT ts) (sgT ts) ((lnT ts).sp p)) (noT ts) else osW (lnT ts) (sgT ts) (nuC (othC ts) (i :: p)) : Nat) : Int)) M := hc
  have p0 : ∀ M : Mp, IxD M (perD (i :: p)) 0 (.int (i : Nat)) := fun M => ixT (atI_nat (j := 0) rfl)
  obtain ⟨j, rfl⟩ : ∃ j, h = j + 1 := ⟨h - 1, by omega⟩
  have lkm : List.lookup ("number_of" : Str) (crwF a.c (othC ts)) = none := by unfold crwF; rw [lk_miss (by decide +kernel), lk_miss (by decide +kernel)]; rfl
  refine wss_cons (ws_if (wt_neS (we_ix (we_var 1 rfl (we_int ⟨0, _, rfl, p0 _, we_wnum L ok c (we_var 0 rfl ⟨rfl, _, rfl, ?_⟩)⟩)))))
  by_cases c1 : i = topN ts
  · have hc : Φ (.int (((lnT ts).sp p + min (pcW (lnT ts) (sgT ts) ((lnT ts).sp p)) (noT ts) : Nat) : Int)) M := by
      rw [if_pos c1] at hc; exact hc
    rw [decide_eq_true (show ((i : Nat) : Int) = (topN ts : Nat) by omega)]
    obtain rfl : u = topT ts := by
      rw [c1] at hu
      exact Option.some.inj (hu.symm.trans (top_at R.n0))
    have hsp := (R.o.sp p hpu).1
    rw [hn] at hsp
    refine wss_nil (wss_cons (ws_set 2 nd (we_wlm L ok c oku (F4 j rfl) (hr.mono (by omega)) (we_var 0 rfl ⟨rfl, we_slice (we_var 1 rfl (we_int ⟨1, rfl, _, .inr (.inl ⟨_, rfl, rfl⟩), topT ts, p, by rw [cut_tail'], oku, by omega, by omega, rfl, hpu, ?_⟩))⟩))))
    refine wss_cons (ws_ret (we_addI (we_var 2 rfl (we_min2 (F.bn _ (by decide +kernel)) (we_meth F1 (hr.mono (by omega)) (we_var 0 rfl ⟨_, insV ok c, insV_m ok c, wa_cons (we_var 2 rfl (wa_nil ⟨rfl, ts, (lnT ts).sp p, rfl, ok, c, hh, h30', hsp, we_intN (F.bn _ (by decide +kernel)) (we_wno L ok c (we_var 0 rfl ⟨rfl, .inl ⟨_, rfl, _, _, rfl, rfl, _, _, rfl, rfl, Lets.of ?_⟩⟩))⟩))⟩))))))
    rw [show (((linM (topT ts)).sp p : Nat) : Int) + (if ((noT ts : Nat) : Int) < ((pcW (lnT ts) (sgT ts) ((lnT ts).sp p) : Nat) : Int) then ((noT ts : Nat) : Int) else ((pcW (lnT ts) (sgT ts) ((lnT ts).sp p) : Nat) : Int)) = (((lnT ts).sp p + min (pcW (lnT ts) (sgT ts) ((lnT ts).sp p)) (noT ts) : Nat) : Int) by
      show (((lnT ts).sp p : Nat) : Int) + _ = _
      split <;> omega]
    exact hc
  · have hc : Φ (.int ((osW (lnT ts) (sgT ts) (nuC (othC ts) (i :: p)) : Nat) : Int)) M := by
      rw [if_neg c1] at hc; exact hc
    rw [decide_eq_false (show ¬ ((i : Nat) : Int) = (topN ts : Nat) by omega)]
    have hq : (i, u) ∈ othC ts := oth_mem.mpr ⟨hu, c1⟩
    obtain ⟨l1, l2, hps, hb, hnp, hnn⟩ := crw_num (q := (i, u)) R.nd R.ok hq hpu
    have hlt := (nuC_ok (q := (i, u)) R.nd R.ok hq hpu).1
    have h3 := R.len
    obtain ⟨m, hm⟩ : ∃ m, m = tot l1 + PL.num u p := ⟨_, rfl⟩
    rw [show nuC (othC ts) (i :: p) = m from hnn.trans hm.symm] at hc
    rw [show nuC (othC ts) ((i, u).1 :: p) = m from hnn.trans hm.symm] at hlt
    refine wss_cons (ws_ret (we_meth F2 (hr.mono (by omega)) (we_var 0 rfl ⟨_, insV ok c, insV_m ok c, wa_cons (we_meth F3 (hr.mono (by omega)) (we_woth L ok c (we_var 0 rfl ⟨rfl, _, insW, lkm, wa_cons (we_var 1 rfl (wa_nil ⟨rfl, l1, l2, (i, u), p, PL.num u p, by rw [← hps]; rfl, R.ok _ hq, by rw [← hps]; exact h3, hb, hnp, ?_⟩))⟩)))⟩)))
    rw [← hm]
    exact wa_nil ⟨rfl, ts, m, rfl, ok, c, hh, h30', hlt, Lets.of hc⟩
/-- how many people to cut off one by one: the object is not yet whole -/
def cSing (a : Ad) (h : Nat) : Con := fun ds M Φ => ∃ p fs u k, ds = [.ob p, .int (k : Nat)] ∧ M p = some (.ins a.w fs) ∧ List.lookup ("own_line" : Str) fs = some (linD a u) ∧ Ok u ∧ ht u ≤ h ∧ ppl u ≤ 10 ^ 30 ∧ Φ (.int ((sgW (linM u) k : Nat) : Int)) M
theorem ok_sing (h : Nat) (L : Lx K mg a) (F1 : ∀ κ, Mc P w K mg base (adK a κ) "row_of" [] (h + 5) 2 (cRo a h κ)) : BodyOk P w K mg base "WovenLine.singles" s_WovenLine_singles ["self", "pieces", "line", "low", "high", "middle"] 2 (h + 5) (cSing a h) := by
  intro f cdv A outer s H E hr ds M Φ hl hc
  obtain ⟨p, fs, u, k, rfl, hM, hfs, oku, hh, h30, hc⟩ := hc
  have nd : (["self", "pieces", "line", "low", "high", "middle"] : List Str).Nodup := by decide +kernel
  have o := linM_ok _ (Nat.le_refl _) oku
  have hp := ppl_pos oku.1
  have hn := o.hn
  have hr0 := o.hr
  refine wss_cons (ws_set 2 nd (we_fld (C := a.w) (we_var 0 rfl ⟨_, _, hM, L.cl .w, L.na .w _ (by decide +kernel), hfs, ?_⟩)))
  refine wss_cons (ws_par 3 4 nd (wa_cons (we_int (wa_cons (we_subI (we_lpeo L oku (we_var 2 rfl ⟨rfl, we_int ⟨_, _, rfl, rfl, wa_nil ⟨_, _, rfl, ?_⟩⟩⟩)))))))
  rw [show ((ppl u : Nat) : Int) - 1 = ((ppl u - 1 : Nat) : Int) by omega]
  refine wss_cons (ws_while PassesOwn.never (fun n ρ' M' => ∃ (lo hi : Nat) (o5 : Option D), ρ' = [some (.ob p), some (.int (k : Nat)), some (linD a u), some (.int (lo : Nat)), some (.int (hi : Nat)), o5] ∧ M' = M ∧ n = hi - lo ∧ lo ≤ hi ∧ hi ≤ (linM u).n - 1 ∧ (∀ i, i < lo → ¬ k ≤ pcs1 (linM u) i) ∧ (hi < (linM u).n - 1 → k ≤ pcs1 (linM u) hi)) (ppl u - 1) ⟨0, ppl u - 1, none, rfl, rfl, by omega, by omega, by omega, fun i h => absurd h (Nat.not_lt_zero _), fun h => by omega⟩ ?_)
  rintro n ρ' M' ⟨lo, hi, o5, rfl, hM', rfl, h1, h2, h3, h4⟩
  obtain rfl : M = M' := hM'.symm
  refine wt_ltI (we_var 3 rfl (we_var 4 rfl ⟨_, _, rfl, rfl, ?_⟩))
  by_cases e : lo < hi
  · rw [decide_eq_true (show ((lo : Nat) : Int) < (hi : Nat) by omega)]
    refine wss_cons (ws_set 5 nd (we_divI (we_addI (we_var 3 rfl (we_var 4 rfl ⟨_, _, rfl, rfl, we_int ⟨_, _, rfl, rfl, ⟨by decide, by decide⟩, ?_⟩⟩)))))
    obtain ⟨m, hm⟩ : ∃ m, m = (lo + hi) / 2 := ⟨_, rfl⟩
    rw [show (((lo : Nat) : Int) + (hi : Nat)) / 2 = ((m : Nat) : Int) by omega]
    have hrm := (o.ro m (by omega)).1
    refine wss_cons (ws_if (wt_geI (we_subI (we_addI (we_var 5 rfl (we_lrow L oku (we_var 2 rfl ⟨rfl, _, _, rfl, rfl, we_lmeth F1 (hr.mono (by omega)) oku (we_var 2 rfl ⟨rfl, we_var 5 rfl ⟨u, m, rfl, oku, hh, h30, rfl, by omega, _, _, rfl, rfl, we_var 1 rfl ⟨_, _, rfl, rfl, ?_⟩⟩⟩)⟩)))))))
    have hpm : ((m : Nat) : Int) + ((rws u : Nat) : Int) - (((linM u).ro m : Nat) : Int) = ((pcs1 (linM u) m : Nat) : Int) := by unfold pcs1; omega
    rw [hpm]
    by_cases e2 : k ≤ pcs1 (linM u) m
    · rw [decide_eq_true (show ((k : Nat) : Int) ≤ (pcs1 (linM u) m : Nat) by omega)]
      exact wss_cons (ws_set 4 nd (we_var 5 rfl (wss_nil (wss_nil ⟨m - lo, by omega, lo, m, _, rfl, rfl, rfl, by omega, by omega, h3, fun _ => e2⟩))))
    · rw [decide_eq_false (show ¬ ((k : Nat) : Int) ≤ (pcs1 (linM u) m : Nat) by omega)]
      refine wss_cons (ws_set 3 nd (we_addI (we_var 5 rfl (we_int ⟨_, _, rfl, rfl, wss_nil (wss_nil ⟨hi - (m + 1), by omega, m + 1, hi, _, rfl, rfl, rfl, by omega, h2, fun i hi2 => ?_, h4⟩)⟩))))
      have := pcs1_mono o (x := i) (y := m) (by omega) (by omega)
      omega
  · rw [decide_eq_false (show ¬ ((lo : Nat) : Int) < (hi : Nat) by omega)]
    obtain rfl : lo = hi := by omega
    refine wss_cons (ws_ret (we_var 3 rfl (Lets.of ?_)))
    rw [show sgW (linM u) k = lo from fstU_uniq h2 (fun i hi => decide_eq_false (h3 i hi)) fun hi => decide_eq_true (h4 hi)] at hc
    exact hc
end
end W
/-! DL27: sorted(set(a list of tuples of ints)), whatever their lengths. -/
namespace DL
open PySem PySem.Spec PyProof.Rows L2
section
variable {P : Program} {w : World} {A : Around} {E : Value → Shared → Prop} {s : Shared}
theorem sorted_setX {a : Addr} {L : List (Addr × List Int)} {es : Array (Int × Value)} {ep : Nat} {t : SetTable} {Q : Value → Shared → Prop} (R : SetTR P w s.heap a L es ep t) (hh : A.handled = none) (hne : 2 ≤ L.length → ∀ p ∈ L, p.2 ≠ [])
    (hQ : ∀ s' p (out : Array Value) (c : Nat) (L' : List (Addr × List Int)), (∀ b o, s.heap.get? b = some o → s'.heap.get? b = some o) → s'.gens = s.gens → s'.os = s.os → s.heap.objs.size ≤ p →
      s'.heap.get? p = some (seqObj "list" out c) → out.toList = L'.map (fun q => Value.ref q.1) → L'.Perm L → Q (.ref p) s') :
    wpAny (model P w) A (call (.builtin "sorted") [.ref a]) Q E s := by
  obtain ⟨o, ho, hex, hd⟩ := R.ob
  have hfew := R.few
  have hsz := R.size
  refine Calls.call_function_entry kind_sorted plain_sorted entry_sorted (args_sorted1 _) ?_
  unfold Builtin.«sorted»
  refine wpAny_bind (m := checkCount "sorted" 1 1 _) (wpAny_pure ?_)
  refine wpAny_bind (collect_set (A := A.in1) hh ⟨o, ho, hex.1, hd⟩ R.fits (by unfold scanBound; omega) R.tab.ris R.led fun s1 vs k1 hz g1 o1 pm => ?_)
  have hes : es.toList.map (·.2) = L.map fun q => Value.ref q.1 := by
    rw [R.rows]
    unfold rowsOf
    rw [List.map_map] <;> rfl
  rw [hes] at pm
  have pick : ∀ us : List Value, (∀ v ∈ us, ∃ q ∈ L, v = Value.ref q.1) → ∃ L1 : List (Addr × List Int), us = L1.map (fun q => Value.ref q.1) ∧ ∀ q ∈ L1, q ∈ L := by
    intro us
    induction us with
    | nil => exact fun _ => ⟨[], rfl, fun q hq => nomatch hq⟩
    | cons v us ih =>
      intro hv
      obtain ⟨q, hq, e⟩ := hv v List.mem_cons_self
      obtain ⟨L1, e1, hs⟩ := ih fun u hu => hv u (List.mem_cons_of_mem _ hu)
      exact ⟨q :: L1, by rw [List.map_cons, e, e1], fun r hr => (List.mem_cons.mp hr).elim (fun z => z ▸ hq) (hs r)⟩
  have inj : ∀ q ∈ L, ∀ r ∈ L, q.1 = r.1 → q = r := fun q hq r hr e => by
    have a1 := R.tup q hq
    rw [e] at a1
    exact Prod.ext e (a1.inj (R.tup r hr))
  have hvl : vs.length = L.length := by rw [pm.length_eq, List.length_map]
  have hz2 : vs.length ≤ sizeLine := by rw [sizeLine_eq]; omega
  refine wpAny_bind (wpAny_newList ?_ hz2)
  have hoL : (s1.heap.push (seqObj "list" vs.toArray 0)).get? s1.heap.objs.size = some (seqObj "list" vs.toArray 0) := Heap.get?_push_size _ rfl
  have tk : ∀ q ∈ L, TS.TupInts (s1.heap.push (seqObj "list" vs.toArray 0)) (.ref q.1) q.2 := fun q hq => tupInts_of (P := P) (w := w) (isT_keep (R.tup q hq) fun b u e => Heap.get?_push_of_some _ (k1 b u e))
  have tv : ∀ v ∈ vs, ∃ q ∈ L, v = Value.ref q.1 := fun v hv => by
    obtain ⟨q, hq, e⟩ := List.mem_map.mp (pm.mem_iff.mp hv)
    exact ⟨q, hq, e.symm⟩
  refine wpAny_bind (wpAny_holding (wpAny_call_entry slot_list_sort ⟨_, hoL, rfl⟩ entry_list_sort (SrtO.list_sort_ord (swoI (TS.intsOf (s1.heap.push (seqObj "list" vs.toArray 0)))) hoL hz2 (fun h2 => ?_) fun out hs hb => ⟨_, rfl, ?_⟩) (args_list_sort _)))
  · refine tupsSortable (s := { s1 with heap := s1.heap.push (seqObj "list" vs.toArray 0) }) (by omega) (fun v hv => ?_) fun o z => ?_
    · obtain ⟨q, hq, rfl⟩ := tv v hv
      refine ⟨?_, ?_⟩
      · rw [(tk q hq).ints]; exact tk q hq
      · rw [(tk q hq).ints]; exact hne (by omega) q hq
    · have z' := z.symm.trans hoL
      cases z'
      intro c
      exact absurd (Value.type.inj c) (by decide)
  · have hp : out.Perm vs := hb.perm
    obtain ⟨c, hc⟩ := sortedHeap_at (vs := vs) (out := out.toArray) hoL
    obtain ⟨L', e', hs'⟩ := pick out fun v hv => tv v (hp.mem_iff.mp hv)
    have nL : L.Nodup := nodup_of_map R.nd
    have nref : (L.map fun q => Value.ref q.1).Nodup := by
      refine List.pairwise_map.mpr (List.Pairwise.imp_of_mem (fun {q r} hq hr hne e => ?_) nL)
      injection e with e
      exact hne (inj q hq r hr e)
    have pm1 : (L'.map fun q => Value.ref q.1).Perm (L.map fun q => Value.ref q.1) := by rw [← e']; exact hp.trans pm
    have pL : L'.Perm L := by
      refine (List.perm_ext_iff_of_nodup (nodup_of_map (pm1.nodup_iff.mpr nref)) nL).mpr fun q => ⟨hs' q, fun hq => ?_⟩
      obtain ⟨r, hr, e⟩ := List.mem_map.mp (pm1.mem_iff.mpr (List.mem_map.mpr ⟨q, hq, rfl⟩))
      injection e with e
      rw [← inj r (hs' r hr) q hq e]
      exact hr
    refine wpAny_pure ⟨_, rfl, hQ _ s1.heap.objs.size out.toArray c L' (fun b u e => ?_) g1 o1 hz hc (by simpa using e') pL⟩
    have q := k1 b u e
    have hlt := Heap.lt_size q
    show (sortedHeap (s1.heap.push (seqObj "list" vs.toArray 0)) s1.heap.objs.size vs out.toArray).get? b = some u
    rw [sortedHeap_old (Nat.ne_of_lt hlt) (by rw [size_push']; exact Nat.lt_succ_of_lt hlt)]
    exact Heap.get?_push_of_some _ q
end
section
variable {X : Cx} {ρ : Rho} {M : Mp} {Φ : D → Mp → Prop} {e : Expr} {pos p p2 pos2 : Pos}
def rSortedX (K : PySem.W.Frag) (P : Program) (w : World) : List V → Hp → VK → Prop := fun vs H Q => ∃ (a : Addr) (L : List (Addr × List Int)), vs = [V.ref a] ∧ H a = some (SetTO P w a L) ∧ (∀ p ∈ L, SqT K H p.1 (p.2.map V.int)) ∧ (2 ≤ L.length → (L.map (·.2)).Nodup → ∀ p ∈ L, p.2 ≠ []) ∧
  ∀ (L' : List (Addr × List Int)) (p : Addr), L'.Perm L → (L'.map (·.2)).Nodup → L'.length < 64 → H p = none → Q (.ref p) (upd H p (.lst (L'.map fun q => V.ref q.1)))
theorem cr_sortedX (hc : X.calm = true) : CallR X (.builtin "sorted") (rSortedX X.K X.prog X.w) := by
  intro pins s σ H vs us Q I r h
  obtain ⟨a, L, rfl, ha, hk, hne, q⟩ := h
  have R0 : SetT0 X.prog X.w s.heap a L := (I.hok a _ ha).1
  obtain ⟨es, ep, t, R⟩ := R0.full fun p hp => I.isT (hk p hp)
  rw [Vals.ref1 r]
  refine sorted_setX R (I.ok.hd hc) (fun h2 => hne h2 R.nd) fun s' p out c L' k g o hp hg hout pm => ?_
  have hfew : L'.length < 64 := by rw [pm.length_eq]; exact R.few
  have hlen : (L'.map fun q => V.ref q.1).length ≤ sizeLine := by rw [List.length_map, sizeLine_eq]; omega
  have hn : H p = none := I.hok.fresh hp
  have hv : Vals (L'.map fun q => V.ref q.1) out.toList := by rw [hout]; exact vals_of_refs L'
  have J : Inv X pins σ (upd H p (.lst (L'.map fun q => V.ref q.1))) { s with heap := s'.heap, gens := s'.gens, drawn := s'.drawn, toks := s'.toks } :=
    I.call (ch := []) (Un.laid k hp hn) (I.hok.laid k hp ⟨hlen, out.toList, c, hv, hg⟩) (by rw [g]; exact I.bare) (fun _ z => nomatch z)
  have e : s' = { s with heap := s'.heap, gens := s'.gens, drawn := s'.drawn, toks := s'.toks } := by
    cases s'; cases s; cases o; rfl
  rw [e]
  exact ⟨.ref p, _, J, rfl, q L' p pm ((pm.map (·.2)).nodup_iff.mpr R.nd) hfew hn⟩
/-- the addresses of some tuples -/
theorem tups_refs {K : PySem.W.Frag} {H : Hp} : ∀ {vs : List V} {ps : List (List Int)}, TupsV K H vs ps → ∃ ks : List (Addr × List Int), vs = ks.map (fun q => V.ref q.1) ∧ ks.map (·.2) = ps ∧ ∀ q ∈ ks, SqT K H q.1 (q.2.map V.int)
  | _, _, .nil => ⟨[], rfl, rfl, fun q h => nomatch h⟩
  | _, _, .cons (a := v) (b := ns) h t => by
    obtain ⟨a, rfl, hq⟩ := h
    obtain ⟨ks, e1, e2, h3⟩ := tups_refs t
    exact ⟨(a, ns) :: ks, by rw [e1]; rfl, by rw [List.map_cons, e2], fun q hm => (List.mem_cons.mp hm).elim (fun z => z ▸ hq) (h3 q)⟩
theorem reps_mem {K : PySem.W.Frag} {M : Mp} {Z : Zn} {H : Hp} : ∀ {ks : List (Addr × List Int)}, Reps K M Z H (ks.map fun q => V.ref q.1) (ks.map fun q => D.tup (q.2.map D.int)) → ∀ q ∈ ks, Rep K M Z H (.ref q.1) (.tup (q.2.map D.int))
  | [], _, q, h => nomatch h
  | k :: ks, .cons r t, q, h => (List.mem_cons.mp h).elim (fun z => z ▸ r) (reps_mem t q)
theorem reps_all {K : PySem.W.Frag} {M : Mp} {Z : Zn} {H : Hp} : ∀ {ks : List (Addr × List Int)}, (∀ q ∈ ks, Rep K M Z H (.ref q.1) (.tup (q.2.map D.int))) → Reps K M Z H (ks.map fun q => V.ref q.1) (ks.map fun q => D.tup (q.2.map D.int))
  | [], _ => .nil
  | k :: ks, h => .cons (h k List.mem_cons_self) (reps_all fun q hq => h q (List.mem_cons_of_mem _ hq))
/-- sorted(set(e)), e a list of tuples of ints -/
theorem we_sortedSetT (hm : X.mg "sorted" = none) (hm2 : X.mg "set" = none) (hu : X.A.units + 64 < cLine) (h : WE X ρ M e fun d M1 => ∃ ps : List (List Int), LstOf M1 d (ps.map fun q => D.tup (q.map D.int)) ∧ ps.length < 64 ∧ (∀ q ∈ ps, q = [] → ∀ q' ∈ ps, q' = []) ∧ ∀ qs : List (List Int), qs.Nodup → (∀ k, k ∈ qs ↔ k ∈ ps) → qs.length < 64 → Φ (.lst (qs.map fun q => D.tup (q.map D.int))) M1) (hc : X.calm = true := by rfl)
    (hg : Gl X "sorted" := by rfl) (hg2 : Gl X "set" := by rfl) (he : starEach [.Call (.Name "set" p2) [e] [] pos2] X.env = (false, eval (.Call (.Name "set" p2) [e] [] pos2) X.env) :: starEach [] X.env := by rfl) (hpl : (backTo pos (starEach [] X.env)).any (·.1) = false := by rfl)
    (he2 : starEach [e] X.env = (false, eval e X.env) :: starEach [] X.env := by rfl) (hpl2 : (backTo pos2 (starEach [] X.env)).any (·.1) = false := by rfl) : WE X ρ M (.Call (.Name "sorted" p) [.Call (.Name "set" p2) [e] [] pos2] [] pos) Φ := .mk fun {Z} σ H Q en w k =>
  eOf (pe_callB (cr_sortedX hc) hg hm (by decide +kernel) (pa_cons (pe_callTy (cr_setOfT hc hu) hg2 hm2 (by decide +kernel) pa_sem (by decide) (by decide) he2 hpl2) pa_nil he) (by decide) (by decide) he hpl)
    ((wa_cons (ΦA := fun ds M2 => ∃ d, ∃ ps : List (List Int), ds = [d] ∧ LstOf M2 d (ps.map fun q => D.tup (q.map D.int)) ∧ ps.length < 64 ∧ (∀ q ∈ ps, q = [] → ∀ q' ∈ ps, q' = []) ∧ ∀ qs : List (List Int), qs.Nodup → (∀ k, k ∈ qs ↔ k ∈ ps) → qs.length < 64 → Φ (.lst (qs.map fun q => D.tup (q.map D.int))) M2) (h.imp fun d M1 ⟨ps, h1, h2, h3, h4⟩ => wa_nil ⟨d, ps, rfl, h1, h2, h3, h4⟩) he2).run σ H _ en w fun vs ds H1 M1 e1 w1 r1 hz => by
      obtain ⟨d, ps, rfl, hl, h63, hemp, hz⟩ := hz
      cases r1 with
      | cons r1 r2 =>
        cases r2
        obtain ⟨l, us, rfl, hq, rs⟩ := r1.asLst w1 hl
        obtain ⟨ks, rfl, hks, hsq⟩ := tups_refs rs.tups
        refine ⟨l, ks, rfl, hq, hsq, by rw [← List.length_map (f := fun q : Addr × List Int => q.2), hks]; exact h63, fun a L ha hsub hall => ?_⟩
        have x1 := Ext.new (o := SetTO X.prog X.w a L) w1 ha
        have hrep : ∀ q ∈ ks, Rep X.K M1 Z H1 (.ref q.1) (.tup (q.2.map D.int)) := reps_mem (by rw [← hks, List.map_map] at rs; exact rs)
        refine ⟨a, L, rfl, upd_same, fun q hq2 => ?_, fun h2 nk q hq2 e0 => ?_, fun L' b hp nd hlt hb => ?_⟩
        · obtain ⟨a', us, e, hs, rs'⟩ := ((hrep q (hsub q hq2)).mono x1).asTup
          cases e
          rw [rs'.ints] at hs; exact hs
        · have hall0 : ∀ q' ∈ L, q'.2 = [] := fun q' hq' => hemp q.2 (by rw [← hks]; exact List.mem_map_of_mem (hsub q hq2)) e0 q'.2 (by rw [← hks]; exact List.mem_map_of_mem (hsub q' hq'))
          match L, h2, nk, hall0 with
          | x :: y :: r, _, nk, hall0 =>
            have h1 := hall0 x List.mem_cons_self
            have h2 := hall0 y (List.mem_cons_of_mem _ List.mem_cons_self)
            rw [List.map_cons, List.map_cons, h1, h2] at nk
            exact (List.nodup_cons.mp nk).1 List.mem_cons_self
        · have x2 := Ext.new (o := HO.lst (L'.map fun q => V.ref q.1)) (w1.new ha) hb
          have hm' : ∀ k, k ∈ L'.map (·.2) ↔ k ∈ ps := fun k => by
            rw [← hks]
            refine ⟨fun hk => ?_, fun hk => ?_⟩
            · obtain ⟨q, hq2, rfl⟩ := List.mem_map.mp hk
              exact List.mem_map_of_mem (hsub q (hp.mem_iff.mp hq2))
            · obtain ⟨q, hq2, rfl⟩ := List.mem_map.mp hk
              obtain ⟨q', hq', e⟩ := List.mem_map.mp (hall q hq2)
              rw [← e]
              exact List.mem_map_of_mem (hp.mem_iff.mpr hq')
          have hr := reps_all (K := X.K) (M := M1) (Z := Z) (ks := L') fun q hq2 => ((hrep q (hsub q (hp.mem_iff.mp hq2))).mono x1).mono x2
          refine (k.step (e1.trans x1)).new (w1.new ha) hb (.lst upd_same ((w1.new ha).fresh hb) hr) ?_
          have := hz (L'.map (·.2)) nd hm' (by rw [List.length_map]; exact hlt)
          rw [List.map_map] at this
          exact this)
end
end DL
/-! DL32: [x] * n, sorted of tuples of ints. -/
namespace DL
open PySem PySem.Spec PyProof.Rows L2
theorem perm_map {α β : Type} {f : α → β} {a b : List β} (h : a.Perm b) : ∀ l : List α, b = l.map f → ∃ l' : List α, l'.Perm l ∧ a = l'.map f := by
  induction h with
  | nil =>
    intro l e
    cases l with
    | nil => exact ⟨[], .nil, rfl⟩
    | cons x l => cases e
  | cons x h ih =>
    intro l e
    cases l with
    | nil => cases e
    | cons y l =>
      obtain ⟨e1, e2⟩ := List.cons.inj e
      obtain ⟨l', h1, h2⟩ := ih l e2
      exact ⟨y :: l', h1.cons y, by rw [e1, h2]; rfl⟩
  | swap x y r =>
    intro l e
    match l, e with
    | p :: q :: l, e =>
      obtain ⟨e1, e2⟩ := List.cons.inj e
      obtain ⟨e3, e4⟩ := List.cons.inj e2
      exact ⟨q :: p :: l, .swap p q l, by rw [e1, e3, e4]; rfl⟩
  | trans h1 h2 ih1 ih2 =>
    intro l e
    obtain ⟨l1, p1, e1⟩ := ih2 l e
    obtain ⟨l2, p2, e2⟩ := ih1 l1 e1
    exact ⟨l2, p2.trans p1, e2⟩
theorem sorted_uniq {α : Type} {R : α → α → Prop} (anti : ∀ x y, R x y → R y x → x = y) : ∀ {a b : List α}, a.Pairwise R → b.Pairwise R → a.Nodup → b.Nodup → (∀ x, x ∈ a ↔ x ∈ b) → a = b
  | [], [], _, _, _, _, _ => rfl
  | [], y :: b, _, _, _, _, h => absurd ((h y).mpr List.mem_cons_self) (fun h => nomatch h)
  | x :: a, [], _, _, _, _, h => absurd ((h x).mp List.mem_cons_self) (fun h => nomatch h)
  | x :: a, y :: b, ha, hb, na, nb, h => by
    have ha2 := List.pairwise_cons.mp ha
    have hb2 := List.pairwise_cons.mp hb
    have na2 := List.nodup_cons.mp na
    have nb2 := List.nodup_cons.mp nb
    have e : x = y := by
      rcases List.mem_cons.mp ((h x).mp List.mem_cons_self) with e | hx
      · exact e
      · rcases List.mem_cons.mp ((h y).mpr List.mem_cons_self) with e | hy
        · exact e.symm
        · exact anti x y (ha2.1 y hy) (hb2.1 x hx)
    subst e
    rw [sorted_uniq anti ha2.2 hb2.2 na2.2 nb2.2 fun z => ?_]
    refine ⟨fun hz => ?_, fun hz => ?_⟩
    · rcases List.mem_cons.mp ((h z).mp (List.mem_cons_of_mem _ hz)) with e | hz'
      · subst e; exact absurd hz na2.1
      · exact hz'
    · rcases List.mem_cons.mp ((h z).mpr (List.mem_cons_of_mem _ hz)) with e | hz'
      · subst e; exact absurd hz nb2.1
      · exact hz'
theorem lexI_anti : ∀ x y : List Int, lexI y x = false → lexI x y = false → x = y
  | [], [], _, _ => rfl
  | [], j :: y, _, h => by rw [lexI] at h; cases h
  | i :: x, [], h, _ => by rw [lexI] at h; cases h
  | i :: x, j :: y, h1, h2 => by
    rw [lexI] at h1 h2
    by_cases e : i = j
    · subst e
      rw [if_pos rfl] at h1 h2
      rw [lexI_anti x y h1 h2]
    · rw [if_neg (fun e' => e e'.symm)] at h1
      rw [if_neg e] at h2
      have := of_decide_eq_false h1
      have := of_decide_eq_false h2
      omega
section
variable {X : Cx} {ρ : Rho} {M : Mp} {Φ : D → Mp → Prop} {a b e o : Expr} {es : List Expr} {pos p apos : Pos}
theorem flat_rep {α : Type} (x : α) : ∀ n : Nat, (List.replicate n [x]).flatten = List.replicate n x
  | 0 => rfl
  | n + 1 => by rw [List.replicate_succ, List.flatten_cons, flat_rep x n, List.replicate_succ]; rfl
theorem reps_rep {K : PySem.W.Frag} {M : Mp} {Z : Zn} {H : Hp} {v : V} {d : D} (r : Rep K M Z H v d) : ∀ n : Nat, Reps K M Z H (List.replicate n v) (List.replicate n d)
  | 0 => .nil
  | n + 1 => by rw [List.replicate_succ, List.replicate_succ]; exact .cons r (reps_rep r n)
theorem we_repM (h : WE X ρ M a fun x M1 => WE X ρ M1 b fun y M2 => ∃ (d : D) (n : Nat), x = .lst [d] ∧ y = .int (n : Nat) ∧ n ≤ sizeLine ∧ ∀ q, M2 q = none → Φ (.ob q) (mset M2 q (.lst (List.replicate n d)))) : WE X ρ M (.BinOp a .Mult b pos) Φ := we_op op_rep (h.imp fun _ _ h => h.imp fun _ M2 h Z v u H Q w r1 r2 k => by
  obtain ⟨d, n, rfl, rfl, hz, h⟩ := h
  cases r2
  cases r1 with
  | lst h1 m1 r1 =>
    cases r1 with
    | cons r1 r2 =>
      cases r2
      have hs := sizeLine_eq
      refine ⟨_, _, _, rfl, rfl, h1, by omega, by omega, by rw [Int.toNat_natCast]; simp; exact hz, fun q hq => ?_⟩
      rw [Int.toNat_natCast, flat_rep]
      exact k _ (.ob q) _ (mset M2 q (.lst (List.replicate n d))) (Ext.newM w hq) (w.newM hq ⟨_, upd_same, (reps_rep r1 n).mono (Ext.newM w hq)⟩) (.ob q) (h q (w.fresh hq).1))
theorem vals_refs : ∀ {ks : List (Addr × List Int)} {its : List Value}, Vals (ks.map fun q => V.ref q.1) its → its = ks.map fun q => Value.ref q.1
  | [], _, .nil => rfl
  | k :: ks, _, .cons r t => by
    rw [vals_refs t]
    cases r
    rfl
theorem refs_vals : ∀ ks : List (Addr × List Int), Vals (ks.map fun q => V.ref q.1) (ks.map fun q => Value.ref q.1)
  | [] => .nil
  | k :: ks => .cons rfl (refs_vals ks)
theorem cr_sortedT : CallR X (.builtin "sorted") (fun vs H Q => ∃ (a : Addr) (ks : List (Addr × List Int)), vs = [V.ref a] ∧ SqL X.K H a (ks.map fun q => V.ref q.1) ∧ (∀ q ∈ ks, SqT X.K H q.1 (q.2.map V.int)) ∧ (2 ≤ ks.length → ∀ q ∈ ks, q.2 ≠ []) ∧ ∀ (ls : List (Addr × List Int)) (p : Addr), ls.Perm ks → (ls.map (·.2)).Pairwise (fun x y => lexI y x = false) → H p = none → Q (.ref p) (upd H p (.lst (ls.map fun q => V.ref q.1)))) := by
  intro pins s σ H vs us Q I r h
  obtain ⟨a, ks, rfl, hs, ht, hne, q⟩ := h
  rw [Vals.ref1 r]
  obtain ⟨its, rv, hl, hz⟩ := I.list hs
  have tv : TupsV X.K H (ks.map fun q => V.ref q.1) (ks.map (·.2)) := by
    have : ∀ ks : List (Addr × List Int), (∀ q ∈ ks, SqT X.K H q.1 (q.2.map V.int)) → TupsV X.K H (ks.map fun q => V.ref q.1) (ks.map (·.2)) := by
      intro ks
      induction ks with
      | nil => intro _; exact .nil
      | cons k ks ih => intro h; exact .cons ⟨k.1, rfl, h k List.mem_cons_self⟩ (ih fun q hq => h q (List.mem_cons_of_mem _ hq))
    exact this ks ht
  obtain ⟨h1, h2⟩ := TupsV.raw I tv rv
  have lenI := rv.length
  rw [List.length_map] at lenI hz
  have hz2 : its.length ≤ sizeLine := by omega
  have eits := vals_refs rv
  refine SrtO.sorted_ord (swoI (TS.intsOf s.heap)) hl.isList hz2 (fun h2l hp1 a1 ha1 kk => ?_) fun out o1 o2 => ?_
  · refine tupsSortable (s := { s with heap := hp1 }) (by omega) (fun v hv => ⟨(h2 v hv).keeps fun b o z _ => (kk b o z).2, ?_⟩) fun o z => ?_
    · have hm : TS.intsOf s.heap v ∈ ks.map (·.2) := by rw [← h1]; exact List.mem_map_of_mem hv
      obtain ⟨q', hq', e'⟩ := List.mem_map.mp hm
      rw [← e']
      exact hne (by omega) q' hq'
    · have z' := z.symm.trans ha1
      cases z'
      intro c
      exact absurd (Value.type.inj c) (by decide)
  · obtain ⟨ls, pm, eo⟩ := perm_map (f := fun q : Addr × List Int => Value.ref q.1) o2.perm ks eits
    have emap : ∀ q ∈ ks, TS.intsOf s.heap (Value.ref q.1) = q.2 := by
      have := h1
      rw [eits, List.map_map] at this
      intro q hq
      obtain ⟨i, hi, rfl⟩ := List.getElem_of_mem hq
      have e1 := congrArg (fun l => l[i]?) this
      simp only [List.getElem?_map, List.getElem?_eq_getElem hi] at e1
      exact Option.some.inj e1
    have srt : (ls.map (·.2)).Pairwise (fun x y => lexI y x = false) := by
      have o1' : out.Pairwise fun v u => lexI (TS.intsOf s.heap u) (TS.intsOf s.heap v) = false := o1
      rw [eo, List.pairwise_map] at o1'
      rw [List.pairwise_map]
      refine List.Pairwise.imp_of_mem (fun {x y} hx hy hxy => ?_) o1'
      rw [emap x (pm.mem_iff.mp hx), emap y (pm.mem_iff.mp hy)] at hxy
      exact hxy
    obtain ⟨n, hn⟩ := sortedAll_at s.heap its out.toArray
    have hlen : (ls.map fun q => V.ref q.1).length ≤ sizeLine := by rw [List.length_map, pm.length_eq]; exact hz
    exact ⟨.ref _, upd H (s.heap.objs.size + 1) (.lst (ls.map fun q => V.ref q.1)), I.laid (t' := s.toks) (fun b o z => sortedAll_old z) (Nat.le_succ _) ⟨hlen, out, n, by rw [eo]; exact refs_vals ls, hn⟩, rfl, q ls _ pm srt (I.hok.fresh (Nat.le_succ _))⟩
theorem we_sortedT (hm : X.mg "sorted" = none) (h : WE X ρ M e fun d M1 => ∃ ps qs : List (List Int), LstOf M1 d (ps.map fun q => D.tup (q.map D.int)) ∧ (2 ≤ ps.length → ∀ n ∈ ps, n ≠ []) ∧ ps.Nodup ∧ qs.Nodup ∧ (∀ x, x ∈ qs ↔ x ∈ ps) ∧ qs.Pairwise (fun x y => lexI y x = false) ∧ Φ (.lst (qs.map fun q => D.tup (q.map D.int))) M1) (hg : Gl X "sorted" := by rfl)
    (he : starEach [e] X.env = (false, eval e X.env) :: starEach [] X.env := by rfl) (hpl : (backTo pos (starEach [] X.env)).any (·.1) = false := by rfl) : WE X ρ M (.Call (.Name "sorted" p) [e] [] pos) Φ :=
  we_callB cr_sortedT hm (by decide +kernel) (wa_cons (h.imp fun d M1 h => wa_nil fun Z vs H Q w rr k => by
    obtain ⟨v, rfl, r⟩ := rr.one
    obtain ⟨ps, qs, hl, h1, np, nq, hmem, hasc, h⟩ := h
    obtain ⟨l, us, rfl, hq, rs⟩ := r.asLst w hl
    obtain ⟨ks, rfl, hks, hsq⟩ := tups_refs rs.tups
    have hkl : ks.length = ps.length := by rw [← hks, List.length_map]
    refine ⟨l, ks, rfl, hq, hsq, fun z q' hq' => h1 (by omega) _ (by rw [← hks]; exact List.mem_map_of_mem hq'), fun ls p' pm srt hp => ?_⟩
    have hrep : ∀ q ∈ ks, Rep X.K M1 Z H (.ref q.1) (.tup (q.2.map D.int)) := reps_mem (by rw [← hks, List.map_map] at rs; exact rs)
    have e : ls.map (·.2) = qs := by
      refine sorted_uniq (R := fun x y => lexI y x = false) (fun x y h1 h2 => lexI_anti x y h1 h2) srt hasc ?_ nq fun x => ?_
      · exact ((pm.map (·.2)).nodup_iff).mpr (by rw [hks]; exact np)
      · rw [(pm.map (·.2)).mem_iff, hks, hmem]
    rw [← e, List.map_map] at h
    have hr2 := reps_all (ks := ls) fun q hq2 => hrep q (pm.mem_iff.mp hq2)
    exact k.new w hp (.lst upd_same (w.fresh hp) (hr2.mono (Ext.new w hp))) h) he) hg (he := he) (hpl := hpl)
end
end DL
/-! E86: parts by how many people they have; the greatest one. -/
namespace W
open PySem PySem.Spec PyProof.Rows L2 DL SX PL SlX
theorem row_kids (s : Bool) (ts : List T) : kids (.row s ts) = ts.map fun t => (1, t) := rfl
theorem row_ahead {s : Bool} {ts : List T} {k : Nat} (hk : k ≤ ts.length) : (((kids (.row s ts)).take k).map (·.1)).sum = k := by
  rw [row_kids, ← List.map_take]
  have : ∀ l : List T, ((l.map fun t => ((1 : Nat), t)).map (·.1)).sum = l.length := ones_sum
  rw [this, List.length_take]; omega
/-- a row's parts as parts_of tells them -/
theorem row_prt (C : Addr) {s : Bool} {ts : List T} {k : Nat} {x : D} (h : (prts C 0 (kids (.row s ts)))[k]? = some x) : ∃ u, ts[k]? = some u ∧ x = .tup [.int (k : Nat), .int ((1 : Nat) : Int), planD C u] := by
  obtain ⟨q, hq, rfl⟩ := prts_get C h
  have hk : k < ts.length := by have := (List.getElem?_eq_some_iff.mp hq).1; rwa [row_kids, List.length_map] at this
  rw [row_ahead (by omega), Nat.zero_add]
  rw [row_kids, List.getElem?_map] at hq
  obtain ⟨u, hu, rfl⟩ := Option.map_eq_some_iff.mp hq
  exact ⟨u, hu, rfl⟩
theorem rowP_len (C : Addr) (s : Bool) (ts : List T) : (prts C 0 (kids (.row s ts))).length = ts.length := by rw [prts_len, row_kids, List.length_map]
theorem idx_get : ∀ {ts : List T} {j k : Nat} {u : T}, ts[k]? = some u → (idxT j ts)[k]? = some (j + k, u)
  | [], _, _, _, h => by simp at h
  | t :: ts, j, 0, u, h => by simp at h; subst h; rfl
  | t :: ts, j, k + 1, u, h => by
    rw [idxT, List.getElem?_cons_succ, idx_get (ts := ts) (by simpa using h), show j + 1 + k = j + (k + 1) by omega]
abbrev prI (q : Nat × T) : List Int := [-((ppl q.2 : Nat) : Int), ((q.1 : Nat) : Int)]
theorem prI_nd {l : List (Nat × T)} (nd : (l.map (·.1)).Nodup) : (l.map prI).Nodup := by
  unfold List.Nodup at nd ⊢
  rw [List.pairwise_map] at nd ⊢
  refine nd.imp fun {x y} h e => h ?_
  have := (List.cons.inj (List.cons.inj e).2).1
  show x.1 = y.1
  omega
theorem prI_asc (ts : List T) : ((byP ts).map prI).Pairwise fun x y => lexI y x = false := by
  rw [List.pairwise_map]
  refine (byP_sorted ts).imp fun {x y} h => ?_
  have h := (leP_iff x y).mp h
  show (if -((ppl y.2 : Nat) : Int) = -((ppl x.2 : Nat) : Int) then (if ((y.1 : Nat) : Int) = ((x.1 : Nat) : Int) then false else decide (((y.1 : Nat) : Int) < ((x.1 : Nat) : Int))) else decide (-((ppl y.2 : Nat) : Int) < -((ppl x.2 : Nat) : Int))) = false
  by_cases c : ppl x.2 = ppl y.2
  · rw [if_pos (by omega)]
    by_cases d : x.1 = y.1
    · rw [if_pos (by omega)]
    · rw [if_neg (by omega)]; exact decide_eq_false (by omega)
  · rw [if_neg (by omega)]; exact decide_eq_false (by omega)
section
variable {P : Program} {w : World} {K : PySem.W.Frag} {mg : Str → Option Value} {base : Heap} {C : Addr}
def cByP (C : Addr) : Con := fun ds M Φ => ∃ ts, ds = [planD C (.row true ts)] ∧ Ok (.row true ts) ∧ Φ (.lst ((byP ts).map (nmD C))) M
abbrev nByP : List Str := ["plan", "rows", "first", "many", "part", "less"]
theorem ok_by_people (F : Fx w K mg) (Y : Px K mg C) (F1 : Fc P w K mg base "parts_of" [] 1 1 (cParts C)) (F2 : Pc P w K mg base C "people" 1 (cGet C fun t => .int (ppl t : Nat))) : BodyOk P w K mg base "by_people" s_by_people nByP 1 2 (cByP C) := by
  intro f cdv A outer s H E hr ds M Φ hl hc
  obtain ⟨ts, rfl, ok, hc⟩ := hc
  have nd : nByP.Nodup := by decide +kernel
  have hkl : ts.length ≤ 100000 := by
    have h1 := kids_len ok.1
    rw [row_kids, List.length_map] at h1
    have := ok.2.2; omega
  refine wss_cons (ws_setLc 1 nd (blkOk_by (N := nByP) (sc := defScope s_by_people) (own := [("first", 2), ("many", 3), ("part", 4)]) (by decide +kernel)) (fun _ _ _ _ _ => pg_tup rfl (pgs_cons (pg_name (i := 2) nd rfl (Or.inl rfl)) (pgs_cons (pg_name (i := 3) nd rfl (Or.inl rfl)) (pgs_cons (pg_name (i := 4) nd rfl (Or.inl rfl)) pgs_nil))) rfl rfl) (gt_three (by decide) (by decide) (by decide)) (fun _ _ _ _ _ => pts_nil) tk_nil (wi_list (we_call F1 (hr.mono (by omega)) (wa_cons (we_var 0 rfl (wa_nil ⟨rfl, _, rfl, ok, _, .inl rfl, ?_⟩))))) rfl)
  refine ⟨by rw [rowP_len, sizeLine_eq]; omega, fun k acc M' => M' = M ∧ acc = (((idxT 0 ts).take k).map prI).map fun q => D.tup (q.map D.int), ⟨rfl, rfl⟩, ?_, ?_⟩
  · rintro k x acc M' hx ⟨hM', rfl⟩
    obtain rfl : M = M' := hM'.symm
    obtain ⟨u, hu, rfl⟩ := row_prt C hx
    have oku : Ok u := piece_Ok (t := .row true ts) (i := k) hu ok
    refine ⟨_, _, _, rfl, ?_⟩
    intro s1 H1 C' cl fp
    refine we_tup (wa_cons (we_negI (we_prop F2 (hr.mono (by omega)) (we_var 4 rfl ⟨_, insP oku.2.1, u, rfl, oku, _, rfl, wa_cons (we_var 2 rfl (wa_nil ⟨sz2, rfl, ?_⟩))⟩))))
    rw [take_snoc (idx_get (j := 0) hu), List.map_append, List.map_append, Nat.zero_add]; rfl
  rintro acc M' ⟨hM', rfl⟩
  obtain rfl : M = M' := hM'.symm
  rw [rowP_len, List.take_of_length_le (by rw [idxT_len]; exact Nat.le_refl _)]
  refine wss_cons (ws_ret (we_lc nd (blkOk_by (N := nByP) (sc := defScope s_by_people) (own := [("less", 5), ("first", 2)]) (by decide +kernel)) (fun _ _ _ _ _ => pg_tup rfl (pgs_cons (pg_name (i := 5) nd rfl (Or.inl rfl)) (pgs_cons (pg_name (i := 2) nd rfl (Or.inl rfl)) pgs_nil)) rfl rfl) (gt_two (by decide) (by decide)) (fun _ _ _ _ _ => pts_nil) tk_nil (wi_list (we_sortedT (F.bn _ (by decide +kernel)) (we_var 1 rfl ⟨(idxT 0 ts).map prI, (byP ts).map prI, rfl, fun _ n hn => ?_, prI_nd (idxT_nd ts 0), prI_nd (byP_nd ts), fun x => ?_, prI_asc ts, _, .inl rfl, ?_⟩)))))
  · obtain ⟨q, _, rfl⟩ := List.mem_map.mp hn
    exact fun e => by cases e
  · exact ((byP_perm ts).map prI).mem_iff
  refine ⟨by rw [List.length_map, List.length_map, byP_len, sizeLine_eq]; omega, fun k acc M' => M' = M ∧ acc = ((byP ts).take k).map (nmD C), ⟨rfl, rfl⟩, ?_, ?_⟩
  · rintro k x acc M' hx ⟨hM', rfl⟩
    obtain rfl : M = M' := hM'.symm
    rw [List.getElem?_map, List.getElem?_map] at hx
    obtain ⟨z, hz, rfl⟩ := Option.map_eq_some_iff.mp hx
    obtain ⟨q, hq, rfl⟩ := Option.map_eq_some_iff.mp hz
    have hu : ts[q.1]? = some q.2 := byP_mem.mp (List.mem_of_getElem? hq)
    have hg : (subsD C (.row true ts))[q.1]? = some (.tup [.int ((1 : Nat) : Int), planD C q.2]) := by unfold subsD; rw [row_kids, List.getElem?_map, List.getElem?_map, hu]; rfl
    refine ⟨_, _, rfl, ?_⟩
    intro s1 H1 C' cl fp
    refine we_tup (wa_cons (we_var 2 rfl (wa_cons (we_ix (we_ix (we_fld (C := C) (we_var 0 rfl ⟨_, _, insP ok.2.1, Y.cl, Y.na _ (by decide +kernel), lk_groups, we_var 2 rfl ⟨_, _, rfl, ixL (atI_nat hg), we_int ⟨((1 : Nat) : Int), _, rfl, ixT (atI_nat (j := 1) rfl), wa_nil ⟨sz2, rfl, ?_⟩⟩⟩⟩)))))))
    rw [take_snoc hq, List.map_append]; rfl
  rintro acc M' ⟨hM', rfl⟩
  obtain rfl : M = M' := hM'.symm
  rw [List.length_map, List.length_map, List.take_length]
  exact Lets.of hc
def cMost (C : Addr) : Con := fun ds M Φ => ∃ ts, ds = [planD C (.row true ts)] ∧ Ok (.row true ts) ∧ Φ (.tup [.int (ppl (topT ts) : Nat), .int (totC (othC ts) : Nat)]) M
abbrev nMost : List Str := ["plan", "most", "first", "many", "part"]
theorem ok_most (F : Fx w K mg) (Y : Px K mg C) (F1 : Fc P w K mg base "parts_of" [] 1 1 (cParts C)) (F2 : Pc P w K mg base C "people" 1 (cGet C fun t => .int (ppl t : Nat))) : BodyOk P w K mg base "most_and_others" s_most_and_others nMost 1 2 (cMost C) := by
  intro f cdv A outer s H E hr ds M Φ hl hc
  obtain ⟨ts, rfl, ok, hc⟩ := hc
  have nd : nMost.Nodup := by decide +kernel
  have h0 := ts_ne ok
  have hkl : ts.length ≤ 100000 := by
    have h1 := kids_len ok.1
    rw [row_kids, List.length_map] at h1
    have := ok.2.2; omega
  refine wss_cons (ws_set 1 nd (we_maxL (F.bn _ (by decide +kernel)) (we_lc nd (blkOk_by (N := nMost) (sc := defScope s_most_and_others) (own := [("first", 2), ("many", 3), ("part", 4)]) (by decide +kernel)) (fun _ _ _ _ _ => pg_tup rfl (pgs_cons (pg_name (i := 2) nd rfl (Or.inl rfl)) (pgs_cons (pg_name (i := 3) nd rfl (Or.inl rfl)) (pgs_cons (pg_name (i := 4) nd rfl (Or.inl rfl)) pgs_nil))) rfl rfl) (gt_three (by decide) (by decide) (by decide)) (fun _ _ _ _ _ => pts_nil) tk_nil (wi_list (we_call F1 (hr.mono (by omega)) (wa_cons (we_var 0 rfl (wa_nil ⟨rfl, _, rfl, ok, _, .inl rfl, ?_⟩))))))))
  refine ⟨by rw [rowP_len, sizeLine_eq]; omega, fun k acc M' => M' = M ∧ acc = ((ts.take k).map fun u => ((ppl u : Nat) : Int)).map D.int, ⟨rfl, rfl⟩, ?_, ?_⟩
  · rintro k x acc M' hx ⟨hM', rfl⟩
    obtain rfl : M = M' := hM'.symm
    obtain ⟨u, hu, rfl⟩ := row_prt C hx
    have oku : Ok u := piece_Ok (t := .row true ts) (i := k) hu ok
    refine ⟨_, _, _, rfl, ?_⟩
    intro s1 H1 C' cl fp
    refine we_prop F2 (hr.mono (by omega)) (we_var 4 rfl ⟨_, insP oku.2.1, u, rfl, oku, rfl, ?_⟩)
    rw [take_snoc hu, List.map_append, List.map_append]; rfl
  rintro acc M' ⟨hM', rfl⟩
  obtain rfl : M = M' := hM'.symm
  rw [rowP_len, List.take_length]
  refine ⟨ts.map fun u => ((ppl u : Nat) : Int), rfl, by rw [List.length_map]; exact List.length_pos_iff.mpr h0, fun m hm hmax => ?_⟩
  have ht := top_at h0
  have e : m = ((ppl (topT ts) : Nat) : Int) := by
    obtain ⟨u, hu, rfl⟩ := List.mem_map.mp hm
    have a1 := top_max hu
    have a2 := hmax _ (List.mem_map_of_mem (f := fun u => ((ppl u : Nat) : Int)) (List.mem_of_getElem? ht))
    omega
  subst e
  have htot := oth_tot h0
  refine wss_cons (ws_ret (we_tup (wa_cons (we_var 1 rfl (wa_cons (we_subI (we_prop F2 (hr.mono (by omega)) (we_var 0 rfl ⟨_, insP ok.2.1, _, rfl, ok, we_var 1 rfl ⟨_, _, rfl, rfl, wa_nil ⟨sz2, Lets.of ?_⟩⟩⟩))))))))
  rw [ppl, show ((ppls ts : Nat) : Int) - ((ppl (topT ts) : Nat) : Int) = ((totC (othC ts) : Nat) : Int) by omega]
  exact hc
end
end W
/-! E87: lines are made. -/
namespace W
open PySem PySem.Spec PyProof.Rows L2 DL SX PL SlX
theorem putD_len (f : Str) (d : D) : ∀ fs : List (Str × D), (putD f d fs).length ≤ fs.length + 1
  | [] => Nat.le_refl _
  | (g, y) :: r => by
    rw [putD]
    split
    · simp
    · rw [List.length_cons, List.length_cons]; have := putD_len f d r; omega
theorem len_put {f : Str} {d : D} {fs : List (Str × D)} {n : Nat} (h : fs.length < n) : (putD f d fs).length < n + 1 := by have := putD_len f d fs; omega
theorem len_up {fs : List (Str × D)} {n : Nat} (h : fs.length < n) (hn : n ≤ 1000 := by decide) : fs.length < 1000 := by omega
theorem len_nil : ([] : List (Str × D)).length < 1 := by decide
theorem len1 {f : Str} {d : D} : (putD f d []).length < 1000 := len_up (len_put len_nil)
theorem len2 {f g : Str} {d e : D} : (putD g e (putD f d [])).length < 1000 := len_up (len_put (len_put len_nil))
theorem len3 {f g h : Str} {d e b : D} : (putD h b (putD g e (putD f d []))).length < 1000 := len_up (len_put (len_put (len_put len_nil)))
theorem sz4 : 4 ≤ sizeLine := by decide
def cIniL (a : Ad) (κ : Kd) (h : Nat) : Con := fun ds M Φ => ∃ o t, ds = [.ob o, planD a.c t] ∧ Ok t ∧ kdL t = κ ∧ ht t ≤ h ∧ ppl t ≤ 10 ^ 30 ∧ M o = some (.ins (adK a κ) []) ∧ Φ .non (mset M o (.ins (adK a κ) (fldK a t)))
def cIniW (a : Ad) (h : Nat) : Con := fun ds M Φ => ∃ o t, ds = [.ob o, planD a.c t, .bl false] ∧ Ok t ∧ kdL t = .w ∧ ht t ≤ h ∧ ppl t ≤ 10 ^ 30 ∧ M o = some (.ins a.w []) ∧ Φ .non (mset M o (.ins a.w (fldK a t)))
def cIniO (a : Ad) : Con := fun ds M Φ => ∃ o, ds = [.ob o] ∧ M o = some (.ins a.o []) ∧ Φ .non (mset M o (.ins a.o fO))
def cLnOf (a : Ad) (h : Nat) : Con := fun ds M Φ => ∃ t, ds = [planD a.c t] ∧ Ok t ∧ ht t ≤ h ∧ ppl t ≤ 10 ^ 30 ∧ Φ (linD a t) M
section
variable {X : Cx} {ρ : Rho} {M : Mp} {Φ : D → Mp → Prop} {e : Expr} {x : Str} {p pos : Pos} {h k : Nat} {a : Ad} {κ : Kd}
theorem we_makeL (F : Kc X.prog X.w X.K X.mg X.base x (adK a κ) [] k 2 (cIniL a κ h)) (hr : Room (k + 1) X.A)
    (q : WE X ρ M e fun d M1 => ∃ t, d = planD a.c t ∧ Ok t ∧ kdL t = κ ∧ ht t ≤ h ∧ ppl t ≤ 10 ^ 30 ∧ Φ (linD a t) M1) (hg : Gl X x := by rfl) (hdb : (x == ("__debug__" : Str)) = false := by decide)
    (he : starEach [e] X.env = (false, eval e X.env) :: starEach [] X.env := by rfl) (hpl : (backTo pos (starEach [] X.env)).any (·.1) = false := by rfl) : WE X ρ M (.Call (.Name x p) [e] [] pos) Φ :=
  we_make F hr (wa_cons (q.imp fun d M1 ⟨t, e1, h1, h2, h3, h4, h5⟩ => wa_nil fun b hb => ⟨rfl, b, t, by rw [e1]; rfl, h1, h2, h3, h4, mset_same, rfl, by
    rw [mset_mset]
    exact ⟨_, M1, les_new hb, .ins mset_same hb, by rw [← h2, ← linD_at a h1]; exact h5⟩⟩) he) hg hdb (he := he) (hpl := hpl)
theorem we_makeW {e2 : Expr} (F : Kc X.prog X.w X.K X.mg X.base "WovenLine" a.w [] k 3 (cIniW a h)) (hr : Room (k + 1) X.A)
    (q : WE X ρ M e fun d M1 => ∃ t, d = planD a.c t ∧ Ok t ∧ kdL t = .w ∧ ht t ≤ h ∧ ppl t ≤ 10 ^ 30 ∧ WE X ρ M1 e2 fun y M2 => y = .bl false ∧ Φ (linD a t) M2) (hg : Gl X "WovenLine" := by rfl)
    (he : starEach [e, e2] X.env = (false, eval e X.env) :: starEach [e2] X.env := by rfl) (he2 : starEach [e2] X.env = (false, eval e2 X.env) :: starEach [] X.env := by rfl) (hpl : (backTo pos (starEach [e2] X.env)).any (·.1) = false := by rfl) : WE X ρ M (.Call (.Name "WovenLine" p) [e, e2] [] pos) Φ :=
  we_make F hr (wa_cons (q.imp fun d M1 ⟨t, e1, h1, h2, h3, h4, q2⟩ => wa_cons (q2.imp fun y M2 ⟨e2, h5⟩ => wa_nil fun b hb => ⟨rfl, b, t, by rw [e1, e2]; rfl, h1, h2, h3, h4, mset_same, rfl, by
    rw [mset_mset]
    exact ⟨_, M2, les_new hb, .ins mset_same hb, by
      have := linD_at a h1
      rw [h2] at this
      rw [show D.ins a.w (fldK a t) = linD a t from this.symm]; exact h5⟩⟩) he2) he) hg (he := he) (hpl := hpl)
theorem we_makeO (F : Kc X.prog X.w X.K X.mg X.base "OneLine" a.o [] k 1 (cIniO a)) (hr : Room (k + 1) X.A) (h : Φ (linD a .one) M) (hg : Gl X "OneLine" := by rfl) : WE X ρ M (.Call (.Name "OneLine" p) [] [] pos) Φ :=
  we_make0 F hr (fun b hb => ⟨rfl, b, rfl, mset_same, rfl, by
    rw [mset_mset]
    exact ⟨_, M, les_new hb, .ins mset_same hb, by rw [← linD_one]; exact h⟩⟩) hg
end
section
variable {P : Program} {w : World} {K : PySem.W.Frag} {mg : Str → Option Value} {base : Heap} {a : Ad}
theorem ok_oini (L : Lx K mg a) : BodyOk P w K mg base "OneLine.__init__" s_OneLine___init__ ["self"] 1 1 (cIniO a) := by
  intro f cdv A outer s H E hr ds M Φ hl hc
  obtain ⟨o, rfl, hM, hc⟩ := hc
  refine wss_cons (ws_fld (C := a.o) (we_int (we_var 0 rfl ⟨o, _, rfl, hM, L.cl .o, L.na .o _ (by decide +kernel), by decide, ?_⟩)))
  refine wss_cons (ws_fld (C := a.o) (we_int (we_var 0 rfl ⟨o, _, rfl, mset_same, L.cl .o, L.na .o _ (by decide +kernel), len1, ?_⟩)))
  rw [mset_mset]
  exact wss_nil hc
theorem ok_kini (h : Nat) (Y : Px K mg a.c) (L : Lx K mg a) (F2 : Pc P w K mg base a.c "people" 1 (cGet a.c fun t => .int (ppl t : Nat))) : BodyOk P w K mg base "CopiesLine.__init__" s_CopiesLine___init__ ["self", "plan"] 2 2 (cIniL a .k h) := by
  intro f cdv A outer s H E hr ds M Φ hl hc
  obtain ⟨o, t, rfl, ok, hκ, hh, h30, hM, hc⟩ := hc
  obtain ⟨n, u, rfl⟩ := kd_k ok hκ
  have hM : M o = some (.ins a.k []) := hM
  have hg : (subsD a.c (.cop true n u))[0]? = some (.tup [.int (n : Nat), planD a.c u]) := rfl
  refine wss_cons (ws_asg (we_ix (we_fld (C := a.c) (we_var 1 rfl ⟨_, _, insP ok.2.1, Y.cl, Y.na _ (by decide +kernel), lk_groups, we_int ⟨((0 : Nat) : Int), _, rfl, ixL (atI_nat hg), ?_⟩⟩))))
  refine wg_tup ⟨rfl, rfl, wgs_cons (wg_fld (C := a.k) (we_var 0 rfl ⟨o, _, rfl, hM, L.cl .k, L.na .k _ (by decide +kernel), by decide, wgs_cons (wg_fld (C := a.k) (we_var 0 rfl ⟨o, _, rfl, mset_same, L.cl .k, L.na .k _ (by decide +kernel), len1, wgs_nil ⟨rfl, ?_⟩⟩))⟩))⟩
  rw [mset_mset]
  refine wss_cons (ws_fld (C := a.k) (we_prop F2 (hr.mono (by omega)) (we_var 1 rfl ⟨_, insP ok.2.1, _, rfl, ok, we_var 0 rfl ⟨o, _, rfl, mset_same, L.cl .k, L.na .k _ (by decide +kernel), len2, ?_⟩⟩)))
  rw [mset_mset]
  refine wss_cons (ws_fld (C := a.k) (we_int (we_var 0 rfl ⟨o, _, rfl, mset_same, L.cl .k, L.na .k _ (by decide +kernel), len3, ?_⟩)))
  rw [mset_mset]
  rw [fld_cop] at hc
  unfold fK at hc
  rw [← show ppl (.cop true n u) = n * ppl u by rw [ppl]] at hc
  exact wss_nil hc
theorem ok_hini (h : Nat) (Y : Px K mg a.c) (L : Lx K mg a) (F1 : Fc P w K mg base "by_people" [] 3 1 (cByP a.c)) (F4 : Kc P w K mg base "Crowd" a.r [] 3 2 (cWInit a.c a.r)) : BodyOk P w K mg base "HalvesLine.__init__" s_HalvesLine___init__ ["self", "plan"] 2 4 (cIniL a .h h) := by
  intro f cdv A outer s H E hr ds M Φ hl hc
  obtain ⟨o, t, rfl, ok, hκ, hh, h30, hM, hc⟩ := hc
  obtain ⟨ts, rfl, c⟩ := kd_h ok hκ
  have hM : M o = some (.ins a.h []) := hM
  have R := rwK ok
  refine wss_cons (ws_fld (C := a.h) (we_crowd F4 (hr.mono (by omega)) (we_call F1 (hr.mono (by omega)) (wa_cons (we_var 1 rfl (wa_nil ⟨rfl, ts, rfl, ok, byP ts, rfl, R.ok, R.len, we_var 0 rfl ⟨o, _, rfl, hM, L.cl .h, L.na .h _ (by decide +kernel), by decide, ?_⟩⟩))))))
  refine wss_cons (ws_fld (C := a.h) (we_fld (C := a.r) (we_fld (C := a.h) (we_var 0 rfl ⟨_, _, mset_same, L.cl .h, L.na .h _ (by decide +kernel), lk_hit, _, _, insW, L.cr.cl, L.cr.na _ (by simp), lk_wpeople, we_var 0 rfl ⟨o, _, rfl, mset_same, L.cl .h, L.na .h _ (by decide +kernel), len1, ?_⟩⟩))))
  rw [mset_mset]
  refine wss_cons (ws_fld (C := a.h) (we_int (we_var 0 rfl ⟨o, _, rfl, mset_same, L.cl .h, L.na .h _ (by decide +kernel), len2, ?_⟩)))
  rw [mset_mset]
  rw [fld_hal a c] at hc
  unfold fH at hc
  rw [← byP_tot ts] at hc
  exact wss_nil hc
abbrev nBIni : List Str := ["self", "plan", "first", "many", "part", "line"]
theorem ok_bini (h : Nat) (L : Lx K mg a) (F1 : Fc P w K mg base "parts_of" [] 1 1 (cParts a.c)) (F2 : ∀ j, h = j + 1 → Fc P w K mg base "line_of" [] (3 * j + 11) 1 (cLnOf a j)) : BodyOk P w K mg base "BesideLine.__init__" s_BesideLine___init__ nBIni 2 (3 * h + 8) (cIniL a .b h) := by
  intro f cdv A outer s H E hr ds M Φ hl hc
  obtain ⟨o, t, rfl, ok, hκ, hh, h30, hM, hc⟩ := hc
  obtain ⟨hI, h1⟩ := kd_b ok hκ
  have nd : nBIni.Nodup := by decide +kernel
  have hM : M o = some (.ins a.b []) := hM
  have cl : Cls K a.b := L.cl .b
  have na : ∀ f, f ∈ lNames → NoAttr K a.b f := L.na .b
  have nX1 := na "own_blocks" (by decide +kernel)
  have nX2 := na "own_people" (by decide +kernel)
  have nX3 := na "own_rows" (by decide +kernel)
  have hkl := kids_len ok.1
  have h2 := ok.2.2
  refine wss_cons (ws_fld (C := a.b) (we_lstM (wa_nil ⟨Nat.zero_le _, fun q hq => ?_⟩)))
  have oq : o ≠ q := fun e => by rw [← e, hM] at hq; cases hq
  refine we_var 0 rfl ⟨o, [], rfl, by rw [mset_ne oq]; exact hM, cl, nX1, by decide, ?_⟩
  refine wss_cons (ws_fld (C := a.b) (we_int (we_var 0 rfl ⟨o, _, rfl, mset_same, cl, nX2, len1, ?_⟩)))
  rw [mset_mset]
  refine wss_cons (ws_fld (C := a.b) (we_int (we_var 0 rfl ⟨o, _, rfl, mset_same, cl, nX3, len2, ?_⟩)))
  rw [mset_mset]
  have lk1 : ∀ x y z : D, List.lookup ("own_blocks" : Str) [("own_blocks", x), ("own_people", y), ("own_rows", z)] = some x := fun x y z => lk_hit
  have lk2 : ∀ x y z : D, List.lookup ("own_people" : Str) [("own_blocks", x), ("own_people", y), ("own_rows", z)] = some y := fun x y z => by rw [lk_miss (by decide +kernel), lk_hit]
  have lk3 : ∀ x y z : D, List.lookup ("own_rows" : Str) [("own_blocks", x), ("own_people", y), ("own_rows", z)] = some z := fun x y z => by rw [lk_miss (by decide +kernel), lk_miss (by decide +kernel), lk_hit]
  have inst : ∀ (x : List D) (y : MO), (mset (mset M q (.lst x)) o y) q = some (.lst x) := fun x y => by rw [mset_ne (fun e => oq e.symm)]; exact mset_same
  refine wss_cons (ws_for PassesOwn.never (wi_list (we_call F1 (hr.mono (by omega)) (wa_cons (we_var 1 rfl (wa_nil ⟨rfl, t, rfl, ok, _, .inl rfl, ?_⟩))))))
  refine ⟨fun i ρ' M' => ∃ o2 o3 o4 o5, ρ' = [some (.ob o), some (planD a.c t), o2, o3, o4, o5] ∧ M' = mset (mset M q (.lst ((mkL 0 0 0 ((kids t).take i)).map (blD a)))) o (.ins a.b [("own_blocks", .ob q), ("own_people", .int (gS wp ((kids t).take i) : Nat)), ("own_rows", .int (gS wr ((kids t).take i) : Nat))]), ⟨none, none, none, none, rfl, rfl⟩, ?_, ?_⟩
  · rintro i x ρ' M' hx ⟨o2, o3, o4, o5, rfl, rfl⟩
    obtain ⟨z, hz, rfl⟩ := prts_get a.c hx
    have hm := List.mem_of_getElem? hz
    have G := grp_of ok hm
    have okz := G.ok
    have hhz := G.hh
    have hle := G.le
    have hrl := G.rl
    have hqn := kids_n hm ok
    have hil := (List.getElem?_eq_some_iff.mp hz).1
    obtain ⟨j, rfl⟩ : ∃ j, h = j + 1 := ⟨h - 1, by omega⟩
    refine wg_tup ⟨rfl, rfl, wgs_cons (wg_name 2 (wgs_cons (wg_name 3 (wgs_cons (wg_name 4 (wgs_nil ⟨rfl, ?_⟩) nd)) nd)) nd)⟩
    rw [Nat.zero_add]
    refine wss_cons (ws_set 5 nd (we_call (F2 j rfl) (hr.mono (by omega)) (wa_cons (we_var 4 rfl (wa_nil ⟨rfl, z.2, rfl, okz, by omega, by omega, ?_⟩)))))
    refine wss_cons (ws_expr (we_append (we_fld (C := a.b) (we_var 0 rfl ⟨_, _, mset_same, cl, nX1, lk1 _ _ _, q, _, rfl, inst _ _, we_tup (wa_cons (we_fld (C := a.b) (we_var 0 rfl ⟨_, _, mset_same, cl, nX2, lk2 _ _ _, wa_cons (we_fld (C := a.b) (we_var 0 rfl ⟨_, _, mset_same, cl, nX3, lk3 _ _ _, wa_cons (we_var 2 rfl (wa_cons (we_var 5 rfl (wa_nil ⟨sz4, _, inst _ _, ?_, ?_⟩))))⟩))⟩)))⟩))))
    · rw [List.length_map, mkL_len, List.length_take, sizeLine_eq]; omega
    refine wss_cons (ws_augF (C := a.b) (we_var 0 rfl ⟨o, _, _, rfl, by rw [mset_ne oq]; exact mset_same, cl, nX2, lk2 _ _ _, we_mulI (we_var 3 rfl (we_lpeo L okz (we_var 5 rfl ⟨rfl, _, _, rfl, rfl, mul31 (by omega) (by omega), _, _, rfl, by rw [mset_ne oq]; exact mset_same, by simp, ?_⟩)))⟩))
    refine wss_cons (ws_augF (C := a.b) (we_var 0 rfl ⟨o, _, _, rfl, mset_same, cl, nX3, lk3 _ _ _, we_mulI (we_var 3 rfl (we_lrow L okz (we_var 5 rfl ⟨rfl, _, _, rfl, rfl, mul31 (by omega) (by omega), _, _, rfl, mset_same, len_up (len_put (n := 4) (by simp)), ?_⟩)))⟩))
    refine wss_nil ⟨_, _, _, _, rfl, ?_⟩
    rw [mkL_snoc hz, gS_snoc hz, gS_snoc hz, List.map_append]
    rw [mset_mset]
    show mset (mset (mset (mset M q _) o _) q _) o _ = _
    rw [mset_comm (p := q) (q := o) (fun e => oq e.symm), mset_mset, mset_mset]
    show _ = mset _ o (MO.ins a.b ([("own_blocks", D.ob q), ("own_people", D.int ((gS wp ((kids t).take i) + z.1 * ppl z.2 : Nat) : Int)), ("own_rows", D.int ((gS wr ((kids t).take i) + z.1 * rws z.2 : Nat) : Int))] : List (Str × D)))
    rw [Int.natCast_add, Int.natCast_add, Int.natCast_mul, Int.natCast_mul]
    congr 1
  · rintro ρ' M' ⟨o2, o3, o4, o5, rfl, rfl⟩
    rw [prts_len, List.take_length]
    refine wss_insFz (x := o) (C := a.b) (M1 := mset M o (.ins a.b [("own_blocks", .ob q), ("own_people", .int (gS wp (kids t) : Nat)), ("own_rows", .int (gS wr (kids t) : Nat))])) mset_same (fun b => ?_) mset_same (.cons (.lst (inst _ _) (by rw [mset_ne (fun e => oq e.symm)]; exact hq)) (.cons (.same _) (.cons (.same _) .nil))) ?_
    · by_cases e1 : b = o
      · subst e1; exact .inl (by rw [mset_same, mset_same])
      · rw [mset_ne e1, mset_ne e1]
        by_cases e2 : b = q
        · subst e2; exact .inr hq
        · exact .inl (by rw [mset_ne e2])
    rw [mset_mset]
    rw [fld_bes a ok.2.1 hI h1] at hc
    unfold fB at hc
    rw [gp_all ok h1, gr_all ok hI h1]
    exact wss_nil hc
end
end W
/-! E88: woven lines are made; line_of. -/
namespace W
open PySem PySem.Spec PyProof.Rows L2 DL SX PL SlX
theorem lkl {x y : D} {r : List (Str × D)} : List.lookup ("own_line" : Str) (("own_number", x) :: ("own_line", y) :: r) = some y := by rw [lk_miss (by decide +kernel), lk_hit]
theorem lko {x y z : D} {r : List (Str × D)} : List.lookup ("own_others" : Str) (("own_number", x) :: ("own_line", y) :: ("own_others", z) :: r) = some z := by rw [lk_miss (by decide +kernel), lk_miss (by decide +kernel), lk_hit]
abbrev g2' (n l : D) : List (Str × D) := [("own_number", n), ("own_line", l)]
abbrev g3' (n l o : D) : List (Str × D) := [("own_number", n), ("own_line", l), ("own_others", o)]
abbrev g4' (n l o p : D) : List (Str × D) := [("own_number", n), ("own_line", l), ("own_others", o), ("own_people", p)]
abbrev g5' (n l o p r : D) : List (Str × D) := [("own_number", n), ("own_line", l), ("own_others", o), ("own_people", p), ("own_rows", r)]
abbrev g6' (n l o p r s : D) : List (Str × D) := [("own_number", n), ("own_line", l), ("own_others", o), ("own_people", p), ("own_rows", r), ("own_single", s)]
theorem pf2 {n l : D} : putD "own_line" l (putD "own_number" n []) = g2' n l := rfl
theorem pf3 {n l o : D} : putD "own_others" o (g2' n l) = g3' n l o := rfl
theorem pf4 {n l o p : D} : putD "own_people" p (g3' n l o) = g4' n l o p := rfl
theorem pf5 {n l o p r : D} : putD "own_rows" r (g4' n l o p) = g5' n l o p r := rfl
theorem pf6 {n l o p r s : D} : putD "own_single" s (g5' n l o p r) = g6' n l o p r s := rfl
section
variable {P : Program} {w : World} {K : PySem.W.Frag} {mg : Str → Option Value} {base : Heap} {a : Ad}
abbrev nWIni : List Str := ["self", "plan", "is_round", "part", "rows", "first", "many", "other"]
theorem ok_wini (h : Nat) (F : Fx w K mg) (L : Lx K mg a) (F1 : Fc P w K mg base "by_people" [] 3 1 (cByP a.c)) (F2 : ∀ j, h = j + 1 → Fc P w K mg base "line_of" [] (3 * j + 11) 1 (cLnOf a j)) (F3 : Fc P w K mg base "parts_of" [] 1 1 (cParts a.c)) (F4 : Kc P w K mg base "Crowd" a.r [] 3 2 (cWInit a.c a.r)) (F5 : ∀ j, h = j + 1 → Mc P w K mg base a.w "singles" [] (j + 6) 2 (cSing a j)) :
    BodyOk P w K mg base "WovenLine.__init__" s_WovenLine___init__ nWIni 3 (3 * h + 8) (cIniW a h) := by
  intro f cdv A outer s H E hr ds M Φ hl hc
  obtain ⟨o, t, rfl, ok, hκ, hh, h30, hM, hc⟩ := hc
  obtain ⟨ts, rfl, c⟩ := kd_w ok hκ
  have nd : nWIni.Nodup := by decide +kernel
  have R := wvK ok c
  have oku := R.oku
  have hhu := R.htu
  have htot := R.tot
  have hrl := R.rl
  have cl : Cls K a.w := L.cl .w
  have na : ∀ f, f ∈ lNames → NoAttr K a.w f := L.na .w
  have n1 := na "own_number" (by decide +kernel)
  have n2 := na "own_line" (by decide +kernel)
  have n3 := na "own_others" (by decide +kernel)
  have n4 := na "own_people" (by decide +kernel)
  have n5 := na "own_rows" (by decide +kernel)
  have n6 := na "own_single" (by decide +kernel)
  have h30' := h30
  rw [ppl] at h30'
  obtain ⟨j, rfl⟩ : ∃ j, h = j + 1 := ⟨h - 1, by omega⟩
  have hg : ((byP ts).map (nmD a.c))[0]? = some (.tup [.int (topN ts : Nat), planD a.c (topT ts)]) := by
    obtain ⟨x, r, e⟩ := byP_ne R.n0
    rw [List.getElem?_map]
    unfold topN topT
    rw [e]; rfl
  refine wss_cons (ws_asg (we_ix (we_call F1 (hr.mono (by omega)) (wa_cons (we_var 1 rfl (wa_nil ⟨rfl, ts, rfl, ok, we_int ⟨((0 : Nat) : Int), _, rfl, ixL (atI_nat hg), ?_⟩⟩))))))
  refine wg_tup ⟨rfl, rfl, wgs_cons (wg_fld (C := a.w) (we_var 0 rfl ⟨o, [], rfl, hM, cl, n1, by decide, wgs_cons (wg_name 3 (wgs_nil ⟨rfl, ?_⟩) nd)⟩))⟩
  refine wss_cons (ws_fld (C := a.w) (we_call (F2 j rfl) (hr.mono (by omega)) (wa_cons (we_var 3 rfl (wa_nil ⟨rfl, topT ts, rfl, oku, by omega, by omega, we_var 0 rfl ⟨o, _, rfl, mset_same, cl, n2, len1, ?_⟩⟩)))))
  rw [mset_mset, pf2]
  obtain ⟨M0, hM0⟩ : ∃ M0, M0 = mset M o (.ins a.w (g2' (.int (topN ts : Nat)) (linD a (topT ts)))) := ⟨_, rfl⟩
  rw [← hM0]
  have iM : InsOf M0 a.w (.ob o) (g2' (.int (topN ts : Nat)) (linD a (topT ts))) := by show M0 o = _; rw [hM0]; exact mset_same
  have hkl : ts.length ≤ 100000 := by
    have h1 := kids_len ok.1
    rw [row_kids, List.length_map] at h1
    have := ok.2.2; omega
  refine wss_cons (ws_setLc 4 nd (blkOk_by (N := nWIni) (sc := defScope s_WovenLine___init__) (own := [("first", 5), ("many", 6), ("other", 7)]) (by decide +kernel)) (fun _ _ _ _ _ => pg_tup rfl (pgs_cons (pg_name (i := 5) nd rfl (Or.inl rfl)) (pgs_cons (pg_name (i := 6) nd rfl (Or.inl rfl)) (pgs_cons (pg_name (i := 7) nd rfl (Or.inl rfl)) pgs_nil))) rfl rfl) (gt_three (by decide) (by decide) (by decide)) pt_blk tk_one (wi_list (we_call F3 (hr.mono (by omega)) (wa_cons (we_var 1 rfl (wa_nil ⟨rfl, _, rfl, ok, _, .inl rfl, ?_⟩))))) rfl)
  refine ⟨by rw [rowP_len, sizeLine_eq]; omega, fun k acc M' => M' = M0 ∧ acc = (((idxT 0 ts).take k).filter fun q => decide (q.1 ≠ topN ts)).map (nmD a.c), ⟨rfl, rfl⟩, ?_, ?_⟩
  · rintro k x acc M' hx ⟨hM', rfl⟩
    obtain rfl : M0 = M' := hM'.symm
    obtain ⟨u, hu, rfl⟩ := row_prt a.c hx
    have hz : (idxT 0 ts)[k]? = some (k, u) := by rw [idx_get (j := 0) hu, Nat.zero_add]
    refine ⟨_, _, _, rfl, ?_⟩
    intro s1 H1 C' cl' fp
    refine wt_neS (we_var 5 rfl (we_fld (C := a.w) (we_var 0 rfl ⟨_, _, iM, cl, n1, lk_hit, _, rfl, ?_⟩)))
    by_cases e : k = topN ts
    · rw [decide_eq_true (show ((k : Nat) : Int) = ((topN ts : Nat) : Int) by omega)]
      exact ⟨rfl, by rw [filt_snocG hz, decide_eq_false (fun h => h e)]; simp⟩
    · rw [decide_eq_false (show ¬ ((k : Nat) : Int) = ((topN ts : Nat) : Int) by omega)]
      intro s1 H1 C' cl' fp
      refine we_tup (wa_cons (we_var 5 rfl (wa_cons (we_var 7 rfl (wa_nil ⟨sz2, rfl, ?_⟩)))))
      rw [filt_snocG hz, decide_eq_true e, if_pos rfl, List.map_append]; rfl
  rintro acc M' ⟨hM', rfl⟩
  obtain rfl : M0 = M' := hM'.symm
  rw [rowP_len, List.take_of_length_le (by rw [idxT_len]; exact Nat.le_refl _)]
  have e0 : ((idxT 0 ts).filter fun q => decide (q.1 ≠ topN ts)).map (nmD a.c) = (othC ts).map (nmD a.c) := rfl
  rw [e0]
  refine wss_cons (ws_fld (C := a.w) (we_crowd F4 (hr.mono (by omega)) (we_var 4 rfl ⟨othC ts, rfl, R.ok, R.len, we_var 0 rfl ⟨o, g2' (.int (topN ts : Nat)) (linD a (topT ts)), rfl, by rw [hM0]; exact mset_same, cl, n3, by simp, ?_⟩⟩)))
  rw [hM0, mset_mset, pf3]
  refine wss_cons (ws_fld (C := a.w) (we_addI (we_lpeo L oku (we_fld (C := a.w) (we_var 0 rfl ⟨_, _, mset_same, cl, n2, lkl, rfl, we_fld (C := a.r) (we_fld (C := a.w) (we_var 0 rfl ⟨_, _, mset_same, cl, n3, lko, _, _, insW, L.cr.cl, L.cr.na _ (by simp), lk_wpeople, _, _, rfl, rfl, we_var 0 rfl ⟨o, _, rfl, mset_same, cl, n4, by simp, ?_⟩⟩))⟩)))))
  rw [mset_mset, pf4]
  refine wss_cons (ws_fld (C := a.w) (we_max2 (F.bn _ (by decide +kernel)) (we_int (we_intN (F.bn _ (by decide +kernel)) (we_subI (we_lrow L oku (we_fld (C := a.w) (we_var 0 rfl ⟨_, _, mset_same, cl, n2, lkl, rfl, we_fld (C := a.r) (we_fld (C := a.w) (we_var 0 rfl ⟨_, _, mset_same, cl, n3, lko, _, _, insW, L.cr.cl, L.cr.na _ (by simp), lk_wpeople, _, _, rfl, rfl, .inl ⟨_, rfl, _, _, rfl, rfl, we_var 0 rfl ⟨o, _, rfl, mset_same, cl, n5, by simp, ?_⟩⟩⟩))⟩))))))))
  rw [mset_mset, pf5]
  refine wss_cons (ws_fld (C := a.w) (we_meth (F5 j rfl) (hr.mono (by omega)) (we_var 0 rfl ⟨_, mset_same, ?_, wa_cons (we_if (wt_val (we_var 2 rfl ⟨false, rfl, ?_⟩)))⟩)))
  · show List.lookup _ [_, _, _, _, _] = none
    rw [lk_miss (by decide +kernel), lk_miss (by decide +kernel), lk_miss (by decide +kernel), lk_miss (by decide +kernel), lk_miss (by decide +kernel)]; rfl
  refine we_addI (we_fld (C := a.r) (we_fld (C := a.w) (we_var 0 rfl ⟨_, _, mset_same, cl, n3, lko, _, _, insW, L.cr.cl, L.cr.na _ (by simp), lk_wpeople, we_int ⟨_, _, rfl, rfl, wa_nil ⟨rfl, o, _, topT ts, noT ts + 1, ?_, mset_same, lkl, oku, by omega, by omega, we_var 0 rfl ⟨o, _, rfl, mset_same, cl, n6, by simp, ?_⟩⟩⟩⟩)))
  · rw [Int.natCast_add]; rfl
  rw [mset_mset, pf6]
  refine wss_nil ?_
  rw [fld_wov a c] at hc
  unfold fW at hc
  have e1 : (if ((rws (topT ts) : Nat) : Int) - ((tot (othC ts) : Nat) : Int) > 1 then ((rws (topT ts) : Nat) : Int) - ((tot (othC ts) : Nat) : Int) else 1) = ((max 1 ((linM (topT ts)).r - totC (othC ts)) : Nat) : Int) := by
    rw [R.o.hr, tot_C]
    split <;> omega
  rw [e1]
  rw [R.o.hn, Int.natCast_add] at hc
  exact hc
theorem ok_line (h : Nat) (F : Fx w K mg) (Y : Px K mg a.c) (L : Lx K mg a) (kO : Kc P w K mg base "OneLine" a.o [] 2 1 (cIniO a)) (kB : Kc P w K mg base "BesideLine" a.b [] (3 * h + 9) 2 (cIniL a .b h)) (kK : Kc P w K mg base "CopiesLine" a.k [] 3 2 (cIniL a .k h)) (kH : Kc P w K mg base "HalvesLine" a.h [] 5 2 (cIniL a .h h)) (kW : Kc P w K mg base "WovenLine" a.w [] (3 * h + 9) 3 (cIniW a h)) (F1 : Fc P w K mg base "most_and_others" [] 3 1 (cMost a.c)) :
    BodyOk P w K mg base "line_of" s_line_of ["plan", "most", "others"] 1 (3 * h + 10) (cLnOf a h) := by
  intro f cdv A outer s H E hr ds M Φ hl hc
  obtain ⟨t, rfl, ok, hh, h30, hc⟩ := hc
  have nd : (["plan", "most", "others"] : List Str).Nodup := by decide +kernel
  refine wss_cons (ws_if (wt_eqS (we_fld (C := a.c) (we_var 0 rfl ⟨_, _, insP ok.2.1, Y.cl, Y.na _ (by decide +kernel), lk_word, we_gstr F.gONE ⟨_, rfl, ?_⟩⟩))))
  rw [one_word ok.2.1]
  cases h1 : isOneT t with
  | true =>
    cases t with
    | one => exact wss_cons (ws_ret (we_makeO kO (hr.mono (by omega)) (Lets.of hc)))
    | _ => cases h1
  | false =>
  refine wss_nil (wss_cons (ws_if (wt_eqS (we_fld (C := a.c) (we_var 0 rfl ⟨_, _, insP ok.2.1, Y.cl, Y.na _ (by decide +kernel), lk_word, we_gstr F.gBESIDE ⟨_, rfl, ?_⟩⟩)))))
  rw [bes_word ok.2.1]
  cases hb : besT t with
  | true =>
    have hI := bes_intr hb
    have hκ : kdL t = .b := by
      cases t with
      | one => cases h1
      | name x => exact ok.2.1.elim
      | cop s n u => obtain rfl : s = false := hI; rfl
      | row s ts => obtain rfl : s = false := hI; rfl
    exact wss_cons (ws_ret (we_makeL (κ := .b) kB (hr.mono (by omega)) (we_var 0 rfl ⟨t, rfl, ok, hκ, hh, h30, Lets.of hc⟩)))
  | false =>
  have hI := intr_bes hb h1 ok.2.1
  refine wss_nil (wss_cons (ws_if (wt_val (we_fld (C := a.c) (we_var 0 rfl ⟨_, _, insP ok.2.1, Y.cl, Y.na _ (by decide +kernel), lk_copies, _, rfl, ?_⟩)))))
  cases t with
  | one => cases h1
  | name x => exact ok.2.1.elim
  | cop s n u =>
    obtain rfl : s = true := hI
    exact wss_cons (ws_ret (we_makeL (κ := .k) kK (hr.mono (by omega)) (we_var 0 rfl ⟨_, rfl, ok, rfl, hh, h30, Lets.of hc⟩)))
  | row s ts =>
    obtain rfl : s = true := hI
    refine wss_nil (wss_cons (ws_asg (we_call F1 (hr.mono (by omega)) (wa_cons (we_var 0 rfl (wa_nil ⟨rfl, ts, rfl, ok, ?_⟩))))))
    refine wg_tup ⟨rfl, rfl, wgs_cons (wg_name 1 (wgs_cons (wg_name 2 (wgs_nil ⟨rfl, ?_⟩) nd)) nd)⟩
    refine wss_cons (ws_ret (we_if (wt_leI (we_var 1 rfl (we_addI (we_var 2 rfl (we_int ⟨_, _, rfl, rfl, _, _, rfl, rfl, ?_⟩)))))))
    by_cases c : ppl (topT ts) ≤ totC (othC ts) + 1
    · rw [decide_eq_true (show ((ppl (topT ts) : Nat) : Int) ≤ ((totC (othC ts) : Nat) : Int) + 1 by omega)]
      exact we_makeL (κ := .h) kH (hr.mono (by omega)) (we_var 0 rfl ⟨_, rfl, ok, kdL_h c, hh, h30, Lets.of hc⟩)
    · rw [decide_eq_false (show ¬ ((ppl (topT ts) : Nat) : Int) ≤ ((totC (othC ts) : Nat) : Int) + 1 by omega)]
      exact we_makeW kW (hr.mono (by omega)) (we_var 0 rfl ⟨_, rfl, ok, kdL_w c, hh, h30, we_bl ⟨rfl, Lets.of hc⟩⟩)
end
end W
/-! DL34: != of instances with an own ==. -/
namespace DL
open PySem PySem.Spec PyProof.Rows L2
section
variable {M : Model} {prog : Program} {w : World} {A : Around} {E : Value → Shared → Prop} {s : Shared} {K : PySem.W.Frag} {x y f C : Addr} {ox : Obj} {od : Option Obj}
theorem ifBound_objNe {args : List Value} {Q : Option Value → Shared → Prop} (X : K.In s.heap) (I : PySem.W.InstAt s.heap x ox C od) (hs : PySem.W.findIn K (.ref C) "__ne__" = some (some (.builtin "object.__ne__")))
    (h : wpAny M A (call (.builtin "object.__ne__") (.ref x :: args)) (fun v => Q (some v)) E s) : wpAny M A (callSpecialIfBound? (.ref x) "__ne__" args) Q E s := by
  simp only [callSpecialIfBound?, bindSpecialIfBound?]
  refine wpAny_holding (wpAny_bind (wpAny_bind (wpAny_bind (I.type.here ((PySem.W.looks_findIn X hs).here ?_)))))
  refine wpAny_bind (wpAny_askSetting (wpAny_ite ?_))
  have fin : wpAny M A (call (.builtin "object.__ne__") ([.ref x] ++ args) >>= fun v => pure (some v)) Q E s := wpAny_bind (wpAny_mono h (fun v s' h' => wpAny_pure h') fun _ _ h' => h')
  split
  · exact wpAny_bind (wpAny_of_eq (F.cmp_object.ne.bind _) (wpAny_pure (by exact fin)))
  · exact wpAny_tryCatch (wpAny_bind (wpAny_of_eq (F.cmp_object.ne.bind _) (wpAny_pure (by exact fin))))
theorem entry_ownNe (X : K.In s.heap) (I : PySem.W.InstAt s.heap x ox C od) (hs : PySem.W.findIn K (.ref C) "__eq__" = some (some (.ref f))) (hf : PySem.W.isFn K (.ref f) = true) (hu : A.units < cLine) {Q : Fin → Shared → Prop}
    (hcall : wpAny (model prog w) A (call (.ref f) [.ref x, .ref y]) (fun v s' => ∃ b, v = .bool b ∧ Q (.done (.ret (.bool (!b)))) s') E s) :
    wpAny (model prog w) A (Builtin.«object.__ne__» ⟨[.ref x, .ref y], []⟩) Q E s := by
  unfold Builtin.«object.__ne__»
  repeat (first
    | with_reducible refine wpAny_cRoomFor hu ?_
    | (refine wpAny_bind (m := callSpecialIfBound? (.ref x) (Str.ofString "__eq__") [.ref y])
        (PySem.W.ifBound_K X I hs hf (wpAny_mono hcall (fun r s' hr => by
          obtain ⟨b, rfl, hq⟩ := hr
          repeat (first | exact hq | exact wpAny_pure hq | exact wpAny_truthy_bool hq | (refine wpAny_bind (m := truthy (.bool _)) (wpAny_truthy_bool ?_)) | wp_step)) fun _ _ e => e)))
    | wp_step)
theorem rc_ownNe {oy : Obj} {od2 : Option Obj} (X : K.In s.heap) (I : PySem.W.InstAt s.heap x ox C od) (J : PySem.W.InstAt s.heap y oy C od2) (hm : PySem.W.mroIn K C (.type "object") = some true) (hne : PySem.W.findIn K (.ref C) "__ne__" = some (some (.builtin "object.__ne__")))
    (hs : PySem.W.findIn K (.ref C) "__eq__" = some (some (.ref f))) (hf : PySem.W.isFn K (.ref f) = true) (hu : A.units < cLine) (hu1 : A.in1.units < cLine) {Q : Value → Shared → Prop}
    (hcall : wpAny (model prog w) A.in1 (call (.ref f) [.ref x, .ref y]) (fun v s' => ∃ b, v = .bool b ∧ Q (.bool (!b)) s') E s) :
    wpAny (model prog w) A (richCompare .NotEq (.ref x) (.ref y)) Q E s := by
  have one : wpAny (model prog w) A (tryCompare (.ref x) "__ne__" (.ref y)) (fun r s' => ∃ b, r = some (.bool b) ∧ Q (.bool b) s') E s := by
    unfold tryCompare
    refine wpAny_bind (ifBound_objNe X I hne (wpAny_call (codeAny_call_builtin F.cmp_object.ne.plain F.cmpEntry_ne (PySem.W.check_slot F.cmpKind_ne F.cmpSplit_ne (I.type.andThen (PySem.W.looks_mroIn X hm)) (F.cmpArgs_ne _ _)
      (entry_ownNe X I hs hf hu1 (wpAny_mono hcall (fun v s' hv => ?_) fun _ _ e => e))))))
    obtain ⟨b, rfl, hq⟩ := hv
    exact ⟨b, rfl, wpAny_pure ⟨_, rfl, hq⟩⟩
  unfold richCompare
  simp only [oneThing_ref]
  refine wpAny_holding (wpAny_bind (wpAny_cRoomFor hu ?_))
  refine wpAny_bind (I.type.here (wpAny_bind (J.type.here ?_)))
  split
  · rename_i q
    simp at q
  · refine wpAny_bind (wpAny_pure ?_)
    simp only [Bool.false_eq_true, if_false]
    refine wpAny_bind (wpAny_mono one (fun r s' z => ?_) fun _ _ e => e)
    obtain ⟨b, rfl, hq⟩ := z
    exact wpAny_pure hq
end
section
variable {X : Cx} {ρ : Rho} {M : Mp} {Φ : D → Mp → Prop} {Θ : Bool → Mp → Prop} {a b : Expr} {pos : Pos} {C : Addr} {k : Nat} {c : Con}
def rNeO (X : Cx) (C : Addr) (c : Con) : R2 := fun v u H Q => ∃ p q dx dy fs gs, v = V.ref p ∧ u = V.ref q ∧ H p = some (.ins C dx fs) ∧ H q = some (.ins C dy gs) ∧ spD X.K 2 c [v, u] H (fun z H' => ∃ b, z = .bl b ∧ Q (.bl (!b)) H') E0
theorem op_neO (F : Mc X.prog X.w X.K X.mg X.base C "__eq__" [] k 2 c) (hr : Room (k + 1) X.A) (hm : PySem.W.mroIn X.K C (.type "object") = some true) (hne : PySem.W.findIn X.K (.ref C) "__ne__" = some (some (.builtin "object.__ne__"))) : OpR X (compareOp .NotEq) (rNeO X C c) := by
  intro pins s σ H v u v' u' Q I rv ru hq
  obtain ⟨p, q, dx, dy, fs, gs, rfl, rfl, ha, hb, hq⟩ := hq
  cases rv
  cases ru
  obtain ⟨f, fd, ps, dvs, ds, F', hme, hbd, hd, hdd⟩ := F.ex
  obtain ⟨mA, J, _⟩ := ins_get I.hok ha
  obtain ⟨mB, J', _⟩ := ins_get I.hok hb
  obtain ⟨od, J, _⟩ := J.look
  obtain ⟨od', J', _⟩ := J'.look
  have sb : Sub X k X.A.in1 := (⟨hr, rfl⟩ : Sub X (k + 1) X.A).in1
  show wpAny _ _ (richCompare .NotEq (.ref p) (.ref q)) _ _ _
  refine rc_ownNe I.kIn J J' hm hne hme.at_ hme.fn hr.units0 sb.room.units0 ?_
  have e0 : Env0 X.prog X.w X.K X.mg X.base X.A.in1 X.stack s H := by
    have e := I.env0
    exact ⟨by rw [sb.fr]; exact e.frames, e.mod, e.bs, e.bsz, e.funs, e.frf, e.hok, e.bare⟩
  have hl := F'.len _ _ _ _ hq
  have r2 : Vals [V.ref p, V.ref q] [Value.ref p, Value.ref q] := .cons rfl (.cons rfl .nil)
  have d0 : ds = [] := by
    have r0 : Reps X.K (fun _ => none) (fun _ => False) (fun _ => none) dvs [] := hdd _ _ _
    cases r0
    cases hd
    rfl
  subst d0
  refine wpAny_call (codeAny_mono (F'.run X.A.in1 X.stack s H ⟨[.ref p, .ref q], []⟩ [.ref p, .ref q] [.ref p, .ref q] _ E0 sb.room e0 (by
    have := hbd s [.ref p, .ref q] I.kIn (by simpa using hl)
    simpa using this) r2 hq) fun r s' hq => ?_)
  cases r with
  | error e => exact (pass0 pins σ H s e s' I hq)
  | ok fl =>
    cases fl with
    | ret w =>
      obtain ⟨z, H', I', rz, bb, ez, qz⟩ := I.after hq
      subst ez
      cases rz
      exact ⟨bb, rfl, .bl (!bb), H', I', rfl, qz⟩
    | next => exact False.elim hq
    | brk => exact False.elim hq
    | cont => exact False.elim hq
theorem rd_neO {x y : D} (h : ∃ fs gs, InsOf M C x fs ∧ InsOf M C y gs ∧ c [x, y] M fun d M3 => ∃ b, d = .bl b ∧ Φ (.bl (!b)) M3) : RD X.K (rNeO X C c) x y M Φ := fun Z v u H Q w r1 r2 k => by
  obtain ⟨fs, gs, h1, h2, h⟩ := h
  obtain ⟨p, dx, vs, rfl, hp, _⟩ := r1.asIns w h1
  obtain ⟨q, dy, us, rfl, hq, _⟩ := r2.asIns w h2
  refine ⟨p, q, dx, dy, vs, us, rfl, rfl, hp, hq, [x, y], M, Z, _, rfl, .cons r1 (.cons r2 .nil), w, h, fun z d H' M' e w' r' hz => ?_⟩
  obtain ⟨b, rfl, hz⟩ := hz
  cases r'
  exact ⟨b, rfl, k _ _ H' M' e w' (.bl _) hz⟩
theorem wt_neO (F : Mc X.prog X.w X.K X.mg X.base C "__eq__" [] k 2 c) (hr : Room (k + 1) X.A) (hm : PySem.W.mroIn X.K C (.type "object") = some true) (hne : PySem.W.findIn X.K (.ref C) "__ne__" = some (some (.builtin "object.__ne__")))
    (h : WE X ρ M a fun x M1 => WE X ρ M1 b fun y M2 => ∃ fs gs, InsOf M2 C x fs ∧ InsOf M2 C y gs ∧ c [x, y] M2 fun d M3 => ∃ b, d = .bl b ∧ Θ (!b) M3) : WT X ρ M (.Compare a [.NotEq] [b] pos) Θ :=
  wt_cmp (op_neO F hr hm hne) (nomark _) (h.imp fun _ _ h => h.imp fun _ _ ⟨fs, gs, h1, h2, h⟩ => rd_neO ⟨fs, gs, h1, h2, by simpa using h⟩)
theorem we_neO (F : Mc X.prog X.w X.K X.mg X.base C "__eq__" [] k 2 c) (hr : Room (k + 1) X.A) (hm : PySem.W.mroIn X.K C (.type "object") = some true) (hne : PySem.W.findIn X.K (.ref C) "__ne__" = some (some (.builtin "object.__ne__")))
    (h : WE X ρ M a fun x M1 => WE X ρ M1 b fun y M2 => ∃ fs gs, InsOf M2 C x fs ∧ InsOf M2 C y gs ∧ c [x, y] M2 fun d M3 => ∃ b, d = .bl b ∧ Φ (.bl (!b)) M3) : WE X ρ M (.Compare a [.NotEq] [b] pos) Φ :=
  we_cmp (op_neO F hr hm hne) (nomark _) (h.imp fun _ _ h => h.imp fun _ _ h => rd_neO h)
end
end DL
/-! E89: Seating; == of plans. -/
namespace W
open PySem PySem.Spec PyProof.Rows L2 DL SX PL SlX
/-- what the written part says of Seating -/
structure Zx (K : PySem.W.Frag) (mg : Str → Option Value) (S : Addr) : Prop where
  at_ : mg "Seating" = some (.ref S)
  cl : Cls K S
  na : ∀ f, f ∈ (["own_plan", "own_line"] : List Str) → NoAttr K S f
  init : ∃ f, Mk K S f ∧ Md K S "__init__" "Seating.__init__" s_Seating___init__ f
  plan : ∃ p f, PropOf K S "plan" p f ∧ Md K S "plan" "Seating.plan" s_Seating_plan f
  rows : ∃ p f, PropOf K S "rows" p f ∧ Md K S "rows" "Seating.rows" s_Seating_rows f
  made : ∃ f, Meth K S "made" f ∧ Md K S "made" "Seating.made" s_Seating_made f
  length : ∃ f, Meth K S "length" f ∧ Md K S "length" "Seating.length" s_Seating_length f
  ats : ∃ f, Meth K S "at" f ∧ Md K S "at" "Seating.at" s_Seating_at f
  place : ∃ f, Meth K S "place" f ∧ Md K S "place" "Seating.place" s_Seating_place f
abbrev txtS (t : T) : Str := S (txt t)
def seaF (a : Ad) (t : T) : List (Str × D) := [("own_plan", planD a.c t), ("own_line", linD a t)]
def seaD (a : Ad) (S : Addr) (t : T) : D := .ins S (seaF a t)
theorem insZ {M : Mp} {a : Ad} {S : Addr} {t : T} : InsOf M S (seaD a S t) (seaF a t) := ⟨rfl, rfl⟩
theorem lk_zplan {x y : D} : List.lookup ("own_plan" : Str) [("own_plan", x), ("own_line", y)] = some x := lk_hit
theorem lk_zline {x y : D} : List.lookup ("own_line" : Str) [("own_plan", x), ("own_line", y)] = some y := by rw [lk_miss (by decide +kernel), lk_hit]
theorem lk_sea {t : T} {a : Ad} {m : Str} (h1 : (m == ("own_plan" : Str)) = false := by decide +kernel) (h2 : (m == ("own_line" : Str)) = false := by decide +kernel) : (seaF a t).lookup m = none := by
  unfold seaF
  rw [lk_miss h1, lk_miss h2]; rfl
section
variable {P : Program} {w : World} {K : PySem.W.Frag} {mg : Str → Option Value} {base : Heap} {a : Ad} {S C : Addr}
def cPEq (C : Addr) : Con := fun ds M Φ => ∃ t u, ds = [planD C t, planD C u] ∧ Ok t ∧ Ok u ∧ Φ (.bl (decide (txtS t = txtS u))) M
theorem ok_peq (F : Fx w K mg) (Y : Px K mg C) (own : OwnC K C) (F1 : Pc P w K mg base C "text" 1 (cGet C fun t => tS (txt t))) : BodyOk P w K mg base "Plan.__eq__" s_Plan___eq__ ["self", "other"] 2 2 (cPEq C) := by
  intro f cdv A outer s H E hr ds M Φ hl hc
  obtain ⟨t, u, rfl, ok, oku, hc⟩ := hc
  refine wss_cons (ws_ret (we_and (we_isi (F.bn _ (by decide +kernel)) (we_var 1 rfl (we_gref Y.at_ (d := .fn C) (fun _ _ _ => .fn C) ⟨.ref C, .ref C, true, by rw [planD_told oku.2.1]; rfl, rfl, fun C' e => by cases e; exact own, by simp [PySem.W.kitOne], true, rfl, ?_⟩)))))
  exact we_one (we_eqS (we_prop F1 (hr.mono (by decide)) (we_var 0 rfl ⟨_, insP ok.2.1, t, rfl, ok, we_prop F1 (hr.mono (by decide)) (we_var 1 rfl ⟨_, insP oku.2.1, u, rfl, oku, _, rfl, Lets.of hc⟩)⟩)))
def cZMade (a : Ad) (h : Nat) : Con := fun ds M Φ => ∃ o t, ds = [.ob o, planD a.c t] ∧ Ok t ∧ ht t ≤ h ∧ ppl t ≤ 10 ^ 30 ∧ Φ (linD a t) M
theorem ok_zmade (h : Nat) (F1 : Fc P w K mg base "line_of" [] (3 * h + 11) 1 (cLnOf a h)) : BodyOk P w K mg base "Seating.made" s_Seating_made ["self", "plan"] 2 (3 * h + 11) (cZMade a h) := by
  intro f cdv A outer s H E hr ds M Φ hl hc
  obtain ⟨o, t, rfl, ok, hh, h30, hc⟩ := hc
  exact wss_cons (ws_ret (we_call F1 (hr.mono (by omega)) (wa_cons (we_var 1 rfl (wa_nil ⟨rfl, t, rfl, ok, hh, h30, Lets.of hc⟩)))))
def cZInit (a : Ad) (S : Addr) (h : Nat) : Con := fun ds M Φ => ∃ o t, ds = [.ob o, planD a.c t] ∧ Ok t ∧ ht t ≤ h ∧ ppl t ≤ 10 ^ 30 ∧ M o = some (.ins S []) ∧ Φ .non (mset M o (.ins S (seaF a t)))
theorem ok_zinit (h : Nat) (X : Zx K mg S) (F1 : Fc P w K mg base "check_told" [] 3 1 (cTold a.c)) (F2 : Mc P w K mg base S "made" [] (3 * h + 12) 2 (cZMade a h)) : BodyOk P w K mg base "Seating.__init__" s_Seating___init__ ["self", "plan"] 2 (3 * h + 12) (cZInit a S h) := by
  intro f cdv A outer s H E hr ds M Φ hl hc
  obtain ⟨o, t, rfl, ok, hh, h30, hM, hc⟩ := hc
  refine wss_cons (ws_expr (we_call F1 (hr.mono (by omega)) (wa_cons (we_var 1 rfl (wa_nil ⟨rfl, t, rfl, ok, ?_⟩)))))
  refine wss_cons (ws_fld (C := S) (we_var 1 rfl (we_var 0 rfl ⟨o, [], rfl, hM, X.cl, X.na _ (by simp), by decide, ?_⟩)))
  refine wss_cons (ws_fld (C := S) (we_meth F2 (hr.mono (by omega)) (we_var 0 rfl ⟨[("own_plan", planD a.c t)], mset_same, by rw [lk_miss (by decide +kernel)]; rfl, wa_cons (we_var 1 rfl (wa_nil ⟨rfl, o, t, rfl, ok, hh, h30, we_var 0 rfl ⟨o, _, rfl, mset_same, X.cl, X.na _ (by simp), len1, ?_⟩⟩))⟩)))
  rw [mset_mset]
  exact wss_nil hc
theorem we_seating {X : Cx} {ρ : Rho} {M : Mp} {Φ : D → Mp → Prop} {e : Expr} {p pos : Pos} {h k : Nat} (F : Kc X.prog X.w X.K X.mg X.base "Seating" S [] k 2 (cZInit a S h)) (hr : Room (k + 1) X.A)
    (q : WE X ρ M e fun d M1 => ∃ t, d = planD a.c t ∧ Ok t ∧ ht t ≤ h ∧ ppl t ≤ 10 ^ 30 ∧ Φ (seaD a S t) M1) (hg : Gl X "Seating" := by rfl)
    (he : starEach [e] X.env = (false, eval e X.env) :: starEach [] X.env := by rfl) (hpl : (backTo pos (starEach [] X.env)).any (·.1) = false := by rfl) : WE X ρ M (.Call (.Name "Seating" p) [e] [] pos) Φ :=
  we_make F hr (wa_cons (q.imp fun d M1 ⟨t, e1, h1, h2, h3, h4⟩ => wa_nil fun b hb => ⟨rfl, b, t, by rw [e1]; rfl, h1, h2, h3, mset_same, rfl, by
    rw [mset_mset]
    exact ⟨_, M1, les_new hb, .ins mset_same hb, h4⟩⟩) he) hg (he := he) (hpl := hpl)
def cZPlan (a : Ad) (S : Addr) : Con := fun ds M Φ => ∃ t, ds = [seaD a S t] ∧ Φ (planD a.c t) M
theorem ok_zplan (X : Zx K mg S) : BodyOk P w K mg base "Seating.plan" s_Seating_plan ["self"] 1 0 (cZPlan a S) := by
  intro f cdv A outer s H E hr ds M Φ hl hc
  obtain ⟨t, rfl, hc⟩ := hc
  exact wss_cons (ws_ret (we_fld (C := S) (we_var 0 rfl ⟨_, _, insZ, X.cl, X.na _ (by simp), lk_zplan, Lets.of hc⟩)))
def cZRows (a : Ad) (S : Addr) : Con := fun ds M Φ => ∃ t, ds = [seaD a S t] ∧ Ok t ∧ Φ (.int (rws t : Nat)) M
theorem ok_zrows (L : Lx K mg a) (X : Zx K mg S) : BodyOk P w K mg base "Seating.rows" s_Seating_rows ["self"] 1 0 (cZRows a S) := by
  intro f cdv A outer s H E hr ds M Φ hl hc
  obtain ⟨t, rfl, ok, hc⟩ := hc
  exact wss_cons (ws_ret (we_lrow L ok (we_fld (C := S) (we_var 0 rfl ⟨_, _, insZ, X.cl, X.na _ (by simp), lk_zline, rfl, Lets.of hc⟩))))
def cZLen (a : Ad) (S : Addr) (h : Nat) : Con := fun ds M Φ => ∃ t i, ds = [seaD a S t, .int (i : Nat)] ∧ Ok t ∧ ht t ≤ h ∧ ppl t ≤ 10 ^ 30 ∧ i < rws t ∧ Φ (.int (((linM t).st (i + 1) - (linM t).st i : Nat) : Int)) M
theorem ok_zlen (h : Nat) (L : Lx K mg a) (X : Zx K mg S) (F1 : Fc P w K mg base "is_integer" [] 1 3 cIsInt) (F2 : ∀ κ, Mc P w K mg base (adK a κ) "start" [] (h + 4) 2 (cSt a h κ)) : BodyOk P w K mg base "Seating.length" s_Seating_length ["self", "row"] 2 (h + 4) (cZLen a S h) := by
  intro f cdv A outer s H E hr ds M Φ hl hc
  obtain ⟨t, i, rfl, ok, hh, h30, hi, hc⟩ := hc
  have o := linM_ok _ (Nat.le_refl _) ok
  have hup := o.up i (by rw [o.hr]; exact hi)
  refine wss_cons (ws_if (wt_not (wt_val (we_call F1 (hr.mono (by omega)) (wa_cons (we_var 1 rfl (wa_cons (we_int (wa_cons (we_subI (we_lrow L ok (we_fld (C := S) (we_var 0 rfl ⟨_, _, insZ, X.cl, X.na _ (by simp), lk_zline, rfl, we_int ⟨_, _, rfl, rfl, wa_nil ⟨rfl, _, _, _, rfl, _, rfl, ?_⟩⟩⟩)))))))))))))
  rw [decide_eq_true (show (0 : Int) ≤ (i : Nat) by omega), decide_eq_true (show ((i : Nat) : Int) ≤ (rws t : Nat) - 1 by omega)]
  refine wss_nil (wss_cons (ws_ret (we_subI (we_lmeth F2 (hr.mono (by omega)) ok (we_fld (C := S) (we_var 0 rfl ⟨_, _, insZ, X.cl, X.na _ (by simp), lk_zline, rfl, we_addI (we_var 1 rfl (we_int ⟨_, _, rfl, rfl, t, i + 1, by rw [Int.natCast_add]; rfl, ok, hh, h30, rfl, hi, we_lmeth F2 (hr.mono (by omega)) ok (we_fld (C := S) (we_var 0 rfl ⟨_, _, insZ, X.cl, X.na _ (by simp), lk_zline, rfl, we_var 1 rfl ⟨t, i, rfl, ok, hh, h30, rfl, Nat.le_of_lt hi, _, _, rfl, rfl, Lets.of ?_⟩⟩))⟩))⟩))))))
  rw [show ((((linM t).st (i + 1) : Nat) : Int) - (((linM t).st i : Nat) : Int)) = (((linM t).st (i + 1) - (linM t).st i : Nat) : Int) by omega]
  exact hc
def cZAt (a : Ad) (S : Addr) (h : Nat) : Con := fun ds M Φ => ∃ t i k, ds = [seaD a S t, .int (i : Nat), .int (k : Nat)] ∧ Ok t ∧ ht t ≤ h ∧ ht t ≤ 60 ∧ ppl t ≤ 10 ^ 30 ∧ i < rws t ∧ k < (linM t).st (i + 1) - (linM t).st i ∧ Φ (perD ((linM t).at_ ((linM t).st i + k))) M
theorem st_in {t : T} {i k : Nat} (ok : Ok t) (hi : i < rws t) (hk : k < (linM t).st (i + 1) - (linM t).st i) : (linM t).st i + k < ppl t := by
  have o := linM_ok _ (Nat.le_refl _) ok
  have := st_le o (i := i + 1) (j := (linM t).r) (by rw [o.hr]; omega) (Nat.le_refl _)
  rw [o.sr, o.hn] at this
  omega
theorem ok_zat (h : Nat) (L : Lx K mg a) (X : Zx K mg S) (F1 : Fc P w K mg base "is_integer" [] 1 3 cIsInt) (F2 : Mc P w K mg base S "length" [] (h + 5) 2 (cZLen a S h)) (F3 : ∀ κ, Mc P w K mg base (adK a κ) "start" [] (h + 4) 2 (cSt a h κ)) (F4 : ∀ κ, Mc P w K mg base (adK a κ) "at" [] (h + 7) 2 (cLAt a h κ)) : BodyOk P w K mg base "Seating.at" s_Seating_at ["self", "row", "seat"] 3 (h + 7) (cZAt a S h) := by
  intro f cdv A outer s H E hr ds M Φ hl hc
  obtain ⟨t, i, k, rfl, ok, hh, h60, h30, hi, hk, hc⟩ := hc
  have hin := st_in ok hi hk
  refine wss_cons (ws_if (wt_not (wt_val (we_call F1 (hr.mono (by omega)) (wa_cons (we_var 2 rfl (wa_cons (we_int (wa_cons (we_subI (we_meth F2 (hr.mono (by omega)) (we_var 0 rfl ⟨_, insZ, lk_sea, wa_cons (we_var 1 rfl (wa_nil ⟨rfl, t, i, rfl, ok, hh, h30, hi, we_int ⟨_, _, rfl, rfl, wa_nil ⟨rfl, _, _, _, rfl, _, rfl, ?_⟩⟩⟩))⟩))))))))))))
  rw [decide_eq_true (show (0 : Int) ≤ (k : Nat) by omega), decide_eq_true (show ((k : Nat) : Int) ≤ (((linM t).st (i + 1) - (linM t).st i : Nat) : Int) - 1 by omega)]
  refine wss_nil (wss_cons (ws_ret (we_lmeth F4 (hr.mono (by omega)) ok (we_fld (C := S) (we_var 0 rfl ⟨_, _, insZ, X.cl, X.na _ (by simp), lk_zline, rfl, we_addI (we_lmeth F3 (hr.mono (by omega)) ok (we_fld (C := S) (we_var 0 rfl ⟨_, _, insZ, X.cl, X.na _ (by simp), lk_zline, rfl, we_var 1 rfl ⟨t, i, rfl, ok, hh, h30, rfl, Nat.le_of_lt hi, we_var 2 rfl ⟨_, _, rfl, rfl, t, (linM t).st i + k, by rw [Int.natCast_add], ok, hh, h60, h30, rfl, hin, Lets.of hc⟩⟩⟩)))⟩)))))
def cZPl (a : Ad) (S : Addr) (h : Nat) : Con := fun ds M Φ => ∃ t p, ds = [seaD a S t, perD p] ∧ Ok t ∧ ht t ≤ h ∧ ppl t ≤ 10 ^ 30 ∧ isPers t p = true ∧ Φ (.tup [.int ((linM t).ro ((linM t).sp p) : Nat), .int (((linM t).sp p - (linM t).st ((linM t).ro ((linM t).sp p)) : Nat) : Int)]) M
theorem ok_zpl (h : Nat) (L : Lx K mg a) (X : Zx K mg S) (F1 : Fc P w K mg base "check_person" [] 4 2 (cCheckPerson a.c)) (F2 : ∀ κ, Mc P w K mg base (adK a κ) "spot_of" [] (h + 6) 2 (cLSp a h κ)) (F3 : ∀ κ, Mc P w K mg base (adK a κ) "row_of" [] (h + 5) 2 (cRo a h κ)) (F4 : ∀ κ, Mc P w K mg base (adK a κ) "start" [] (h + 4) 2 (cSt a h κ)) : BodyOk P w K mg base "Seating.place" s_Seating_place ["self", "person", "spot", "row"] 2 (h + 6) (cZPl a S h) := by
  intro f cdv A outer s H E hr ds M Φ hl hc
  obtain ⟨t, p, rfl, ok, hh, h30, hp, hc⟩ := hc
  have nd : (["self", "person", "spot", "row"] : List Str).Nodup := by decide +kernel
  have o := linM_ok _ (Nat.le_refl _) ok
  have hsp := (o.sp p hp).1
  have hro := o.ro _ hsp
  rw [o.hn] at hsp
  rw [o.hr] at hro
  refine wss_cons (ws_expr (we_call F1 (hr.mono (by omega)) (wa_cons (we_fld (C := S) (we_var 0 rfl ⟨_, _, insZ, X.cl, X.na _ (by simp), lk_zplan, wa_cons (we_var 1 rfl (wa_nil ⟨rfl, t, p, rfl, ok, hp, ?_⟩))⟩)))))
  refine wss_cons (ws_set 2 nd (we_lmeth F2 (hr.mono (by omega)) ok (we_fld (C := S) (we_var 0 rfl ⟨_, _, insZ, X.cl, X.na _ (by simp), lk_zline, rfl, we_var 1 rfl ⟨t, p, rfl, ok, hh, h30, rfl, hp, ?_⟩⟩))))
  refine wss_cons (ws_set 3 nd (we_lmeth F3 (hr.mono (by omega)) ok (we_fld (C := S) (we_var 0 rfl ⟨_, _, insZ, X.cl, X.na _ (by simp), lk_zline, rfl, we_var 2 rfl ⟨t, _, rfl, ok, hh, h30, rfl, hsp, ?_⟩⟩))))
  refine wss_cons (ws_ret (we_tup (wa_cons (we_var 3 rfl (wa_cons (we_subI (we_var 2 rfl (we_lmeth F4 (hr.mono (by omega)) ok (we_fld (C := S) (we_var 0 rfl ⟨_, _, insZ, X.cl, X.na _ (by simp), lk_zline, rfl, we_var 3 rfl ⟨t, _, rfl, ok, hh, h30, rfl, Nat.le_of_lt hro.1, _, _, rfl, rfl, wa_nil ⟨sz2, Lets.of ?_⟩⟩⟩))))))))))
  rw [show ((((linM t).sp p : Nat) : Int) - (((linM t).st ((linM t).ro ((linM t).sp p)) : Nat) : Int)) = (((linM t).sp p - (linM t).st ((linM t).ro ((linM t).sp p)) : Nat) : Int) by omega]
  exact hc
end
end W
/-! E90p: seats and who sits there, shown. -/
namespace W
open PySem PySem.Spec PyProof.Rows L2 DL SX PL SlX
theorem cnt_le1 {t : T} (hg : Good t) : PL.cnt t ≤ ppl t := by
  cases t with
  | one => simp [PL.cnt, kids]
  | name x => simp [PL.cnt, kids]
  | cop s n u => rw [cnt_cop, ppl]; exact Nat.le_mul_of_pos_right _ (ppl_pos hg.2.2)
  | row s ts => rw [cnt_row, ppl]; exact ppls_pos hg.2
theorem sh_people {l : List (List Nat)} (h : ∀ p ∈ l, p.length ≤ 60 ∧ ∀ i ∈ p, i < 10 ^ 30) (hl : l.length ≤ 1000) : (PyData.list (l.map perP)).showable = true ∧ (PyData.list (l.map perP)).shown.length ≤ sizeLine := by
  have a := sh_list (b := 60 * (30 + 2) + 3) (n := 1000) (xs := l.map perP) (fun x hx => by
    obtain ⟨p, hp, rfl⟩ := List.mem_map.mp hx
    exact sh_tup (n := 60) (fun y hy => by
      obtain ⟨i, hi, rfl⟩ := List.mem_map.mp hy
      exact sh_nat ((h p hp).2 i hi)) (by rw [List.length_map]; exact (h p hp).1)) (by rw [List.length_map]; exact hl)
  exact ⟨a.ok, Nat.le_trans a.le (by rw [sizeLine_eq]; decide)⟩
theorem pers_small : ∀ {p : List Nat} {t : T}, isPers t p = true → Good t → ∀ i ∈ p, i < ppl t
  | [], _, _, _, i, hi => by simp at hi
  | j :: p, t, h, hg, i, hi => by
    obtain ⟨u, h1, h2, h3⟩ := pers_cons h
    obtain ⟨h4, h5⟩ := piece_le' h2 hg
    have h6 := cnt_le1 hg
    rcases List.mem_cons.mp hi with rfl | hi
    · omega
    · have := pers_small h3 h5 i hi; omega
abbrev prN (q : Nat × Nat) : D := .tup [.int (q.1 : Nat), .int (q.2 : Nat)]
abbrev prM (q : Nat × Nat) : PyData := .tuple [.int (q.1 : Nat), .int (q.2 : Nat)]
theorem cmp_prN (q : Nat × Nat) : CmpD (prN q) (prM q) 1 := cmp_tup (cmps_cons (cmp_int _) (Nat.le_refl _) (cmps_cons (cmp_int _) (Nat.le_refl _) cmps_nil))
theorem cmp_prNs (l : List (Nat × Nat)) : CmpD (.lst (l.map prN)) (.list (l.map prM)) 2 := cmp_lst (cmps_map (Nat.le_refl _) fun q _ => cmp_prN q)
theorem sh_prNs {l : List (Nat × Nat)} (h : ∀ q ∈ l, q.1 < 10 ^ 30 ∧ q.2 < 10 ^ 30) (hl : l.length ≤ 1000) : (PyData.list (l.map prM)).showable = true ∧ (PyData.list (l.map prM)).shown.length ≤ sizeLine := by
  have a := sh_list (b := 2 * (30 + 2) + 3) (n := 1000) (xs := l.map prM) (fun x hx => by
    obtain ⟨q, hq, rfl⟩ := List.mem_map.mp hx
    exact sh_tup (n := 2) (fun y hy => by
      rcases List.mem_cons.mp hy with rfl | hy
      · exact sh_nat (h q hq).1
      · rw [List.mem_singleton.mp hy]; exact sh_nat (h q hq).2) (Nat.le_refl _)) (by rw [List.length_map]; exact hl)
  exact ⟨a.ok, Nat.le_trans a.le (by rw [sizeLine_eq]; decide)⟩
/-- one seat: who sits there, what place tells -/
theorem seat_ok {t : T} {i s : Nat} (ok : Ok t) (hi : i < rws t) (hs : s < (linM t).st (i + 1) - (linM t).st i) : isPers t ((linM t).at_ ((linM t).st i + s)) = true ∧ (linM t).sp ((linM t).at_ ((linM t).st i + s)) = (linM t).st i + s ∧ (linM t).ro ((linM t).st i + s) = i := by
  have o := linM_ok _ (Nat.le_refl _) ok
  have hin := st_in ok hi hs
  rw [← o.hn] at hin
  obtain ⟨h1, h2⟩ := o.at_ _ hin
  exact ⟨h1, h2, ro_uniq o hin (by rw [o.hr]; exact hi) (by omega) (by omega)⟩
theorem seat_kn {t : T} {i s : Nat} (ok : Ok t) (hi : i < rws t) (hs : s + 1 < (linM t).st (i + 1) - (linM t).st i) : knowsB t ((linM t).at_ ((linM t).st i + s)) ((linM t).at_ ((linM t).st i + (s + 1))) = true := by
  have o := linM_ok _ (Nat.le_refl _) ok
  have hin := st_in ok hi hs
  rw [← o.hn] at hin
  have h1 := (seat_ok (s := s) ok hi (by omega)).2.2
  have h2 := (seat_ok ok hi hs).2.2
  exact o.kn _ hin (by rw [h1]; exact h2.symm)
end W
/-! E43: texts of trees. -/
namespace W
open PySem PySem.Spec PyProof.Rows L2 DL SX PL SlX
section
variable {P : Program} {w : World} {K : PySem.W.Frag} {mg : Str → Option Value} {base : Heap} {C G : Addr}
def cTText (h : Nat) : Con := fun ds M Φ => ∃ t, ds = [trD t] ∧ Ok t ∧ ht t ≤ h ∧ Φ (tS (txt t)) M
abbrev nTText : List Str := ["_law_tree", "_law_kind", "_law_word", "_law_many", "_law_parts", "_law_around", "_law_sign", "_law_part_here"]
theorem ar_at (b : Bool) : (if b = true then [D.str "{", .str "}"] else [D.str "[", .str "]"]) = [tS [opn b], tS [cls b]] := by
  cases b with
  | true => simp only [if_true]; rw [show ("{" : Str) = S [opn true] by decide +kernel, show ("}" : Str) = S [cls true] by decide +kernel]
  | false => simp only [Bool.false_eq_true, if_false]; rw [show ("[" : Str) = S [opn false] by decide +kernel, show ("]" : Str) = S [cls false] by decide +kernel]
theorem ok_ttext (h : Nat) (F : Fx w K mg) (F1 : ∀ j, h = j + 1 → Fc P w K mg base "_law_text" [] (j + 1) 1 (cTText j)) : BodyOk P w K mg base "_law_text" s__law_text nTText 1 h (cTText h) := by
  intro f cdv A outer s H E hr ds M Φ hl hc
  obtain ⟨t, rfl, ok, hh, hc⟩ := hc
  have nd : nTText.Nodup := by decide +kernel
  have hl := ok.2.2
  refine wss_cons (ws_asg (we_var 0 rfl (wg_tup ⟨trD_eq t, rfl, wgs_cons (wg_name 1 (wgs_cons (wg_name 2 (wgs_cons (wg_name 3 (wgs_cons (wg_name 4 (wgs_nil ⟨rfl, ?_⟩) nd)) nd)) nd)) nd)⟩)))
  refine wss_cons (ws_if (wt_eqS (we_var 1 rfl (we_str ⟨_, rfl, ?_⟩))))
  rw [kd_one ok.2.1]
  cases h1 : isOneT t with
  | true =>
    cases t with
    | one => exact wss_cons (ws_ret (we_str (Lets.of (by rw [show ("1" : Str) = S (txt .one) by rw [txt]; decide +kernel]; exact hc))))
    | _ => cases h1
  | false =>
  refine wss_nil (wss_cons (ws_if (wt_eqS (we_var 1 rfl (we_str ⟨_, rfl, ?_⟩)))))
  rw [kd_cop]
  cases t with
  | one => cases h1
  | name x => exact ok.2.1.elim
  | cop b n u =>
    obtain ⟨n1, n2, hu⟩ := ok.1
    have oku : Ok u := pts_Ok (t := .cop b n u) (by simp [pts]) ok
    obtain ⟨j, rfl⟩ : ∃ j, h = j + 1 := ⟨h - 1, by rw [ht] at hh; omega⟩
    have hl2 : (TL.numL n).length + (txt u).length + 3 ≤ 100000 := by rw [txt] at hl; simp at hl; omega
    have i0 : ∀ M : Mp, IxD M (.lst [tS [opn b], tS [cls b]]) 0 (tS [opn b]) := fun M => ixL (atI_nat (j := 0) rfl)
    have i1 : ∀ M : Mp, IxD M (.lst [tS [opn b], tS [cls b]]) 1 (tS [cls b]) := fun M => ixL (atI_nat (j := 1) rfl)
    have rest : WSs (bx P w K mg base nTText "_law_text" (defScope s__law_text) f cdv A outer s H E) [some (trD (.cop b n u)), some (.str (kdS (.cop b n u))), some (.str (wdS (.cop b n u))), some (.int (mnT (.cop b n u) : Nat)), some (.tup ((pts (.cop b n u)).map trD)), some (.lst [tS [opn b], tS [cls b]]), none, none] M ((match (defBody s__law_text).getD 2 (.Pass ⟨0, 0, 0, 0⟩) with | .If _ b _ _ => b | _ => []).drop 1) { nx := fun ρ1 M1 => WSs (bx P w K mg base nTText "_law_text" (defScope s__law_text) f cdv A outer s H E) ρ1 M1 ((defBody s__law_text).drop 3) { nx := fun _ M' => Φ .non M', rt := Lets Φ }, rt := Lets Φ } := by
      refine wss_cons (ws_ret (we_addS (we_addS (we_addS (we_addS (we_ix (we_var 5 rfl (we_int ⟨0, _, rfl, i0 _, we_strI (F.bn _ (by decide +kernel)) (we_var 3 rfl ⟨_, rfl, ?_, _, _, rfl, rfl, ?_, ?_⟩)⟩))))))))
      · rw [Int.natAbs_natCast]
        have e2 : n < 16 ^ 26 := Nat.lt_of_le_of_lt n2 (by decide)
        have e3 : n.log2 ≤ _ := log16 e2
        show n.log2 < 1920
        omega
      · show _ + (toString ((n : Nat) : Int) : Str).length ≤ _
        rw [num_S, S_len, S_len, sizeLine_eq]; simp; omega
      show DL.WE _ _ _ _ _
      rw [show mnT (.cop b n u) = n from rfl, num_S, S_cat]
      refine we_str ⟨_, _, rfl, rfl, ?_, we_call (F1 j rfl) (hr.mono (by omega)) (wa_cons (we_ix (we_var 4 rfl (we_int ⟨0, _, rfl, ixT (atI_nat (j := 0) rfl), wa_nil ⟨rfl, u, rfl, oku, by rw [ht] at hh; omega, _, _, rfl, rfl, ?_, ?_⟩⟩))))⟩
      · rw [show (" " : Str) = S [32] by decide +kernel, S_len, S_len, sizeLine_eq]; simp; omega
      · rw [show (" " : Str) = S [32] by decide +kernel, S_cat, S_len, S_len, sizeLine_eq]; simp; omega
      rw [show (" " : Str) = S [32] by decide +kernel, S_cat, S_cat]
      refine we_ix (we_var 5 rfl (we_int ⟨1, _, rfl, i1 _, _, _, rfl, rfl, ?_, Lets.of ?_⟩))
      · rw [S_len, S_len, sizeLine_eq]; simp; omega
      · rw [S_cat]
        have e3 : ([opn b] ++ TL.numL n ++ [32] ++ txt u ++ [cls b]) = txt (.cop b n u) := by rw [txt]; simp
        rw [e3]; exact hc
    have hab := ar_at b
    refine wss_cons (ws_set 5 nd (we_if (wt_eqS (we_var 2 rfl (we_str ⟨_, rfl, ?_⟩)))))
    rw [wd_bes]
    cases b with
    | false => exact we_lst (wa_cons (we_str (wa_cons (we_str (wa_nil ⟨sz2, by rw [show [D.str ("[" : Str), D.str "]"] = _ from hab]; exact rest⟩)))))
    | true => exact we_lst (wa_cons (we_str (wa_cons (we_str (wa_nil ⟨sz2, by rw [show [D.str ("{" : Str), D.str "}"] = _ from hab]; exact rest⟩)))))
  | row b ts =>
    have hz := row_len b ts
    have hj := joins_len b (txts ts)
    rw [txts_len] at hj
    have rest : WSs (bx P w K mg base nTText "_law_text" (defScope s__law_text) f cdv A outer s H E) [some (trD (.row b ts)), some (.str (kdS (.row b ts))), some (.str (wdS (.row b ts))), some (.int (mnT (.row b ts) : Nat)), some (.tup ((pts (.row b ts)).map trD)), none, some (tS (sep b)), none] M ((defBody s__law_text).drop 4) { nx := fun _ M' => Φ .non M', rt := Lets Φ } := by
      refine wss_cons (ws_ret (we_addS (we_addS (we_str (we_join (we_var 6 rfl ⟨_, rfl, we_lc nd (blkOk_by (N := nTText) (sc := defScope s__law_text) (own := [("_law_part_here", 7)]) (by decide +kernel)) (fun _ _ _ _ _ => pg_name (i := 7) nd rfl (Or.inl rfl)) (gt_name (by decide)) (fun _ _ _ _ _ => pts_nil) tk_nil (wi_tup (we_var 4 rfl ⟨_, rfl, ?_⟩))⟩))))))
      show LcI _ _ _ _ _ _ _ _ (ts.map trD) _
      refine ⟨by rw [List.length_map, sizeLine_eq]; omega, fun i acc M' => M' = M ∧ acc = (((ts.take i).map txt).map S).map D.str, ⟨rfl, rfl⟩, ?_, ?_⟩
      · rintro i x acc M' hx ⟨rfl, rfl⟩
        rw [List.getElem?_map] at hx
        obtain ⟨u, hu, rfl⟩ := Option.map_eq_some_iff.mp hx
        have hm : u ∈ pts (.row b ts) := List.mem_of_getElem? hu
        have oku := pts_Ok hm ok
        have hut := pts_ht hm
        obtain ⟨j, rfl⟩ : ∃ j, h = j + 1 := ⟨h - 1, by omega⟩
        intro s1 H1 C' cl fp
        refine we_call (F1 j rfl) (hr.mono (by omega)) (wa_cons (we_var 7 rfl (wa_nil ⟨rfl, u, rfl, oku, by omega, rfl, ?_⟩)))
        rw [take_snoc hu, List.map_append, List.map_append, List.map_append]; rfl
      · rintro acc M' ⟨rfl, rfl⟩
        rw [List.length_map, List.take_length]
        have hlen : ((txts ts).map (·.length)).sum + (txts ts).length * 3 ≤ (TL.joinL (sep b) (txts ts)).length + 3 := join_sum b _
        refine ⟨(ts.map txt).map S, .inl rfl, ?_, ?_⟩
        · rw [lens, ← txts_map, List.length_map, S_len, sep_len]; omega
        · rw [join_S, ← txts_map]
          refine ⟨_, _, rfl, rfl, ?_, we_str ⟨_, _, rfl, rfl, ?_, Lets.of ?_⟩⟩
          · rw [show ("(" : Str) = S [40] by decide +kernel, S_len, S_len, sizeLine_eq]; simp; omega
          · rw [show ("(" : Str) = S [40] by decide +kernel, show (")" : Str) = S [41] by decide +kernel, S_cat, S_len, S_len, sizeLine_eq]; simp; omega
          · rw [show ("(" : Str) = S [40] by decide +kernel, show (")" : Str) = S [41] by decide +kernel, S_cat, S_cat]
            have e3 : ([40] ++ TL.joinL (sep b) (txts ts) ++ [41]) = txt (.row b ts) := by rw [txt]; simp
            rw [e3]; exact hc
    refine wss_nil (wss_cons (ws_set 6 nd (we_if (wt_eqS (we_var 2 rfl (we_str ⟨_, rfl, ?_⟩))))))
    rw [wd_bes]
    cases b with
    | false => exact we_str (by rw [show (" + " : Str) = S (sep false) by decide +kernel]; exact rest)
    | true => exact we_str (by rw [show (" * " : Str) = S (sep true) by decide +kernel]; exact rest)
end
end W
/-! DL28: a shown dict of three texts, what it has; a <= b < c. -/
namespace DL
open PySem PySem.Spec PyProof.Rows L2
section
variable {X : Cx} {ρ : Rho} {M : Mp} {Φ : D → Mp → Prop} {Θ : Bool → Mp → Prop} {a b c e : Expr} {pos : Pos}
theorem we_disp3 {k1 k2 k3 v1 v2 v3 : Str} {j1 j2 j3 j4 j5 j6 : Nat} {q1 q2 q3 q4 q5 q6 dp : Pos} (h12 : k1 ≠ k2) (h13 : k1 ≠ k3) (h23 : k2 ≠ k3) (h : Φ (.dK [(.inr k1, .str v1), (.inr k2, .str v2), (.inr k3, .str v3)]) M) :
    WE X ρ M (.Dict [some (.Constant (.str k1) j1 q1), some (.Constant (.str k2) j2 q2), some (.Constant (.str k3) j3 q3)] [.Constant (.str v1) j4 q4, .Constant (.str v2) j5 q5, .Constant (.str v3) j6 q6] dp) Φ := .mk fun {Z} σ H Q en w k => by
  refine eOf (pe_disp (pps_cons pe_str pe_str (pps_cons pe_str pe_str (pps_cons pe_str pe_str pps_nil))) rfl rfl (by simp) (by simp)) ?_
  intro t ht
  refine ⟨upd_same, [(.inr k1, .str v1), (.inr k2, .str v2), (.inr k3, .str v3)], rfl, by simp, ?_⟩
  have e2 : upd (upd H t (.dK [])) t (.dK (mergeK [] [(.inr k1, .str v1), (.inr k2, .str v2), (.inr k3, .str v3)])) = upd H t (.dK [(.inr k1, .str v1), (.inr k2, .str v2), (.inr k3, .str v3)]) := by
    have : mergeK [] [((.inr k1 : Key), V.str v1), (.inr k2, .str v2), (.inr k3, .str v3)] = [(.inr k1, .str v1), (.inr k2, .str v2), (.inr k3, .str v3)] := by
      simp [mergeK, putK, h12, h13, h23]
    rw [this]
    funext b; unfold upd; split <;> rfl
  rw [e2]
  exact k.new w ht (.dK upd_same (w.fresh ht) (.cons (.str _) (.cons (.str _) (.cons (.str _) .nil)))) h
def valK (kvs : List (Key × D)) (k : Key) : Option D := (kvs.find? fun kv => decide (kv.1 = k)).map (·.2)
theorem RepK.val {K : PySem.W.Frag} {Z : Zn} {H : Hp} {k : Key} {d : D} : ∀ {vs : List (Key × V)} {ds : List (Key × D)}, RepK K M Z H vs ds → valK ds k = some d → ∃ v, valV vs k = some v ∧ Rep K M Z H v d
  | _, _, .nil, h => by simp [valK] at h
  | _, _, .cons (k := k') (v := v) (d := d') r t, h => by
    unfold valK at h
    unfold valV
    rw [List.find?_cons] at h ⊢
    by_cases hk : k' = k
    · rw [decide_eq_true hk] at h ⊢
      obtain rfl := Option.some.inj h
      exact ⟨v, rfl, r⟩
    · rw [decide_eq_false hk] at h ⊢
      exact RepK.val t h
theorem we_dKget (hu : X.A.units + 1 < cLine) (h : WE X ρ M a fun x M1 => WE X ρ M1 b fun y M2 => ∃ kvs k d, x = .dK kvs ∧ y = .str k ∧ valK kvs (.inr k) = some d ∧ Φ d M2) (hs : NoSl b := by exact fun _ _ => rfl) : WE X ρ M (.Subscript a b pos) Φ := .mk fun {Z} σ H Q en w k =>
  eOf (pe_dget hu pe_sem pe_sem hs) (bind2 h en w fun v u x y H2 M2 e2 w2 r1 r2 hz => by
    obtain ⟨kvs, z, d, rfl, rfl, hv, hz⟩ := hz
    cases r2
    cases r1 with
    | dK hq m rs =>
      obtain ⟨v, h1, rv⟩ := rs.val hv
      exact ⟨_, v, rfl, by rw [← h1]; exact DGet.k (k := .inr z) hq, (k.step e2).now w2 rv hz⟩)
theorem wt_leLt (h : WE X ρ M a fun x M1 => WE X ρ M1 b fun y M2 => ∃ i j, x = .int i ∧ y = .int j ∧ if i ≤ j then WE X ρ M2 c (fun z M3 => ∃ l, z = .int l ∧ Θ (decide (j < l)) M3) else Θ false M2) (hm : lastMarks [CmpOp.LtE, .Lt] [b, c] = false := by with_unfolding_all rfl) : WT X ρ M (.Compare a [.LtE, .Lt] [b, c] pos) Θ := .mk fun {Z} σ H Q en w k =>
  tOf (pt_chain op_le op_lt pe_sem pe_sem pe_sem (hm := hm)) (bind2 h en w fun v u x y H2 M2 e2 w2 r1 r2 hz => by
    obtain ⟨i, j, rfl, rfl, hz⟩ := hz
    cases r1; cases r2
    refine ⟨i, j, rfl, rfl, _, rfl, ?_⟩
    by_cases hij : i ≤ j
    · rw [decide_eq_true hij, if_pos rfl]
      rw [if_pos hij] at hz
      exact hz.run σ H2 _ (en.mono e2) w2 fun v3 d3 H3 M3 e3 w3 r3 hy => by
        obtain ⟨l, rfl, hy⟩ := hy
        cases r3
        exact ⟨j, l, rfl, rfl, _, rfl, (k.step (e2.trans e3)).now w3 hy⟩
    · rw [decide_eq_false hij, if_neg (by simp)]
      rw [if_neg hij] at hz
      exact ⟨_, rfl, (k.step e2).now w2 hz⟩)
end
end DL
/-! E55p: anybody, who knows whom, who is a person. -/
namespace W
open PySem PySem.Spec PyProof.Rows L2 DL SX PL SlX
theorem piece_cnt0 {t : T} (h1 : isOneT t = false) (ok : Ok t) : 0 < PL.cnt t := by
  cases t with
  | one => cases h1
  | name x => exact ok.2.1.elim
  | cop b n v => rw [cnt_cop]; have := ok.1.1; omega
  | row b ts => rw [cnt_row]; have := ok.1.1; omega
theorem not_one' {t : T} {i : Nat} (h : i < PL.cnt t) : isOneT t = false := by
  cases t with
  | one => simp [PL.cnt, kids] at h
  | _ => rfl
section
variable {P : Program} {w : World} {K : PySem.W.Frag} {mg : Str → Option Value} {base : Heap} {C G : Addr}
def cAny : Con := fun ds M Φ => ∃ p a c d t, ds = [.ob p, trD t] ∧ Ok t ∧ ht t ≤ 60 ∧ M p = some (potL a c d) ∧ cOk c ∧ 0 ≤ d ∧ d + 11 * (ht t : Nat) < 100000 ∧ ∀ q a' d', isPers t q = true → d ≤ d' → d' ≤ d + 11 * (ht t : Nat) → Φ (perD q) (mset M p (potL a' c d'))
abbrev nAny : List Str := ["_law_pot_here", "_law_tree", "_law_found", "_law_here", "_law_many", "_law_which"]
theorem ok_anybody (F1 : Fc P w K mg base "_law_parts_of" [] 1 1 cPartsOf) (F2 : Fc P w K mg base "_law_of" [] 2 2 cOf) (F3 : Fc P w K mg base "_law_far" [] 2 2 cFar) (F4 : Fc P w K mg base "_law_part" [] 1 2 cPartT) : BodyOk P w K mg base "_law_anybody" s__law_anybody nAny 2 2 cAny := by
  intro f cdv A outer s H E hr ds M Φ hl hc
  obtain ⟨p, a, c, d, t, rfl, ok, h60, hM, co, d0, d1, hc⟩ := hc
  have nd : nAny.Nodup := by decide +kernel
  refine wss_cons (ws_par 2 3 nd (wa_cons (we_tup (wa_nil ⟨Nat.zero_le _, wa_cons (we_var 1 rfl (wa_nil ⟨_, _, rfl, ?_⟩))⟩))))
  refine wss_cons (ws_while PassesOwn.never (fun n ρ' M' => ∃ (o4 o5 : Option D) (u : T) (fo : List Nat) (a' d' : Int), ρ' = [some (.ob p), some (trD t), some (perD fo), some (trD u), o4, o5] ∧ M' = mset M p (potL a' c d') ∧ n = ht u ∧ Ok u ∧ fo.length + ht u ≤ 60 ∧ d ≤ d' ∧ d' + 11 * (ht u : Nat) ≤ d + 11 * (ht t : Nat) ∧ ∀ r, isPers u r = true → isPers t (fo ++ r) = true) (ht t) ⟨none, none, t, [], a, d, rfl, (mset_self hM).symm, rfl, ok, by simpa using h60, Int.le_refl _, Int.le_refl _, fun r h => h⟩ ?_)
  rintro n ρ' M' ⟨o4, o5, u, fo, a', d', rfl, rfl, rfl, oku, hfo, k1, k2, hin⟩
  refine wt_neS (we_ix (we_var 3 rfl (we_int ⟨0, _, rfl, tr0 u, we_str ⟨_, rfl, ?_⟩⟩)))
  rw [kd_one oku.2.1]
  cases h1 : isOneT u with
  | true =>
    cases u with
    | one =>
      refine wss_cons (ws_ret (we_var 2 rfl (Lets.of ?_)))
      have := hin [] rfl
      rw [List.append_nil] at this
      exact hc fo a' d' this k1 (by omega)
    | _ => cases h1
  | false =>
    have hc0 := piece_cnt0 h1 oku
    have hpu : 1 ≤ ht u := by
      obtain ⟨v, hv⟩ := piece_some (t := u) hc0
      have := piece_ht hv
      omega
    refine wss_cons (ws_set 4 nd (we_call F1 (hr.mono (by decide)) (wa_cons (we_var 3 rfl (wa_nil ⟨rfl, u, rfl, oku, ?_⟩)))))
    refine wss_cons (ws_set 5 nd (we_call F2 (hr.mono (by decide)) (wa_cons (we_var 0 rfl (wa_cons (we_lst (wa_cons (we_int (wa_cons (we_subI (we_var 4 rfl (we_int ⟨_, _, rfl, rfl, wa_cons (we_call F3 (hr.mono (by decide)) (wa_cons (we_var 0 rfl (wa_cons (we_var 4 rfl (wa_nil ⟨rfl, p, _, a', c, d', rfl, by omega, mset_same, co, by omega, by omega, ?_⟩))))))⟩))))))))))))
    intro r1 a1 e1 q0 q1 k3 k4
    rw [mset_mset]
    refine wa_cons (we_call F3 (hr.mono (by decide)) (wa_cons (we_var 0 rfl (wa_cons (we_var 4 rfl (wa_nil ⟨rfl, p, _, a1, c, e1, rfl, by omega, mset_same, co, by omega, by omega, ?_⟩))))))
    intro r2 a2 e2 q2 q3 k5 k6
    rw [mset_mset]
    refine wa_nil ⟨by show 4 ≤ sizeLine; decide, wa_nil ⟨rfl, p, _, a2, c, e2, rfl, by simp, by simp, mset_same, co, by omega, by omega, ?_⟩⟩
    intro x a3 e3 hx k7 k8
    rw [mset_mset]
    obtain ⟨i, rfl, hi⟩ : ∃ i : Nat, x = .int (i : Nat) ∧ i < PL.cnt u := by
      simp only [List.mem_cons, List.not_mem_nil, or_false] at hx
      rcases hx with rfl | rfl | rfl | rfl
      · exact ⟨0, rfl, hc0⟩
      · exact ⟨PL.cnt u - 1, by rw [show ((PL.cnt u - 1 : Nat) : Int) = (PL.cnt u : Nat) - 1 by omega], by omega⟩
      · obtain ⟨i, rfl⟩ := Int.eq_ofNat_of_zero_le q0
        exact ⟨i, rfl, by omega⟩
      · obtain ⟨i, rfl⟩ := Int.eq_ofNat_of_zero_le q2
        exact ⟨i, rfl, by omega⟩
    obtain ⟨v, hv⟩ := piece_some hi
    have okv := piece_Ok hv oku
    have hvt := piece_ht hv
    refine wss_cons (ws_par 2 3 nd (wa_cons (we_addT (we_var 2 rfl (we_tup (wa_cons (we_var 5 rfl (wa_nil ⟨sz1, _, _, rfl, rfl, ?_, wa_cons (we_call F4 (hr.mono (by decide)) (wa_cons (we_var 3 rfl (wa_cons (we_var 5 rfl (wa_nil ⟨rfl, u, i, v, rfl, hv, wa_nil ⟨_, _, rfl, ?_⟩⟩))))))⟩))))))))
    · show (fo.map _).length + 1 ≤ sizeLine
      rw [List.length_map, sizeLine_eq]; omega
    refine wss_nil ⟨ht v, hvt, some (.int (PL.cnt u : Nat)), some (.int (i : Nat)), v, fo ++ [i], a3, e3, ?_, rfl, rfl, okv, ?_, by omega, by omega, fun r hr2 => ?_⟩
    · have e : perD (fo ++ [i]) = .tup (fo.map (fun (i : Nat) => D.int (i : Nat)) ++ [.int (i : Nat)]) := by
        show D.tup ((fo ++ [i]).map fun (i : Nat) => D.int (i : Nat)) = _
        rw [List.map_append]; rfl
      rw [e]; rfl
    · rw [List.length_append, List.length_singleton]; omega
    · rw [List.append_assoc]
      exact hin (i :: r) (pers_mk hi hv hr2)
def cKnown : Con := fun ds M Φ => ∃ t p q, ds = [trD t, perD p, perD q] ∧ isPers t p = true ∧ isPers t q = true ∧ Φ (.bl (knowsB t p q)) M
abbrev nKnown : List Str := ["_law_tree", "_law_one", "_law_other", "_law_here", "_law_mine", "_law_its"]
theorem ok_is_known (F : Fx w K mg) (F1 : Fc P w K mg base "_law_part" [] 1 2 cPartT) : BodyOk P w K mg base "_law_is_known" s__law_is_known nKnown 3 1 cKnown := by
  intro f cdv A outer s H E hr ds M Φ hl hc
  obtain ⟨t, p, q, rfl, hp, hq, hc⟩ := hc
  have nd : nKnown.Nodup := by decide +kernel
  refine wss_cons (ws_set 3 nd (we_var 0 rfl ?_))
  refine wss_cons (ws_for PassesOwn.never (wi_zipT (F.bn _ (by decide +kernel)) (we_var 1 rfl (we_var 2 rfl ⟨_, _, rfl, rfl, ?_⟩))))
  refine ⟨fun i ρ' M' => ∃ (o4 o5 : Option D) (u : T), ρ' = [some (trD t), some (perD p), some (perD q), some (trD u), o4, o5] ∧ M' = M ∧ isPers u (p.drop i) = true ∧ isPers u (q.drop i) = true ∧ knowsB t p q = knowsB u (p.drop i) (q.drop i), ⟨none, none, t, rfl, rfl, by simpa using hp, by simpa using hq, by simp⟩, ?_, ?_⟩
  · rintro i x ρ' M' hx ⟨o4, o5, u, rfl, rfl, hpu, hqu, hk⟩
    obtain ⟨x1, x2, hx1, hx2, rfl⟩ := zipD_get hx
    obtain ⟨m, hm, rfl⟩ := pers_get hx1
    obtain ⟨n, hn, rfl⟩ := pers_get hx2
    obtain ⟨i1, em⟩ := List.getElem?_eq_some_iff.mp hm
    obtain ⟨i2, en⟩ := List.getElem?_eq_some_iff.mp hn
    rw [List.drop_eq_getElem_cons i1, em] at hpu hk
    rw [List.drop_eq_getElem_cons i2, en] at hqu hk
    obtain ⟨v, c1, c2, c3⟩ := pers_cons hpu
    obtain ⟨v', c1', c2', c3'⟩ := pers_cons hqu
    rw [knowsB] at hk
    refine wg_tup ⟨rfl, rfl, wgs_cons (wg_name 4 (wgs_cons (wg_name 5 (wgs_nil ⟨rfl, ?_⟩) nd)) nd)⟩
    refine wss_cons (ws_if (wt_neS (we_var 4 rfl (we_var 5 rfl ⟨_, rfl, ?_⟩))))
    by_cases hmn : m = n
    · subst hmn
      rw [decide_eq_true rfl]
      rw [if_pos rfl, c2] at hk
      rw [c2] at c2'
      obtain rfl := Option.some.inj c2'
      exact wss_nil (wss_cons (ws_set 3 nd (we_call F1 (hr.mono (by decide)) (wa_cons (we_var 3 rfl (wa_cons (we_var 4 rfl (wa_nil ⟨rfl, u, m, v, rfl, c2, wss_nil ⟨_, _, v, rfl, rfl, c3, c3', hk⟩⟩))))))))
    · rw [decide_eq_false (show ¬ ((m : Nat) : Int) = (n : Nat) by omega)]
      rw [if_neg hmn] at hk
      refine wss_cons (ws_ret (we_eqS (we_ix (we_var 3 rfl (we_int ⟨1, _, rfl, tr1 u, we_str ⟨_, rfl, Lets.of ?_⟩⟩)))))
      rw [wd_int, ← hk]; exact hc
  · rintro ρ' M' ⟨o4, o5, u, rfl, rfl, hpu, hqu, hk⟩
    have hz : (zipD (p.map fun (i : Nat) => D.int (i : Nat)) (q.map fun (i : Nat) => D.int (i : Nat))).length = min p.length q.length := by simp [zipD]
    rw [hz] at hpu hqu hk
    have hf : knowsB u (p.drop (min p.length q.length)) (q.drop (min p.length q.length)) = false := by
      rcases Nat.le_total p.length q.length with z | z
      · rw [Nat.min_eq_left z] at hpu ⊢
        rw [List.drop_length] at hpu ⊢
        cases e : q.drop p.length with
        | nil => rfl
        | cons j r => rfl
      · rw [Nat.min_eq_right z, List.drop_length (l := q)]
        cases e : p.drop q.length with
        | nil => rfl
        | cons j r => rfl
    rw [hk, hf] at hc
    exact wss_cons (ws_ret (we_bl (Lets.of hc)))
def cTIsP : Con := fun ds M Φ => ∃ t q, ds = [trD t, perD q] ∧ Ok t ∧ isPers t q = true ∧ Φ (.bl true) M
abbrev nTIsP : List Str := ["_law_tree", "_law_value", "_law_here", "_law_which"]
theorem ok_tis_person (F : Fx w K mg) (F1 : Fc P w K mg base "_law_part" [] 1 2 cPartT) (F2 : Fc P w K mg base "_law_parts_of" [] 1 1 cPartsOf) : BodyOk P w K mg base "_law_is_person" s__law_is_person nTIsP 2 1 cTIsP := by
  intro f cdv A outer s H E hr ds M Φ hl hc
  obtain ⟨t, q, rfl, ok, hq, hc⟩ := hc
  have nd : nTIsP.Nodup := by decide +kernel
  refine wss_cons (ws_set 2 nd (we_var 0 rfl ?_))
  refine wss_cons (ws_if (wt_not (wt_val (we_isi (F.bn _ (by decide +kernel)) (we_var 1 rfl (we_bty (F.bn _ (by decide +kernel)) rfl ⟨_, _, true, rfl, rfl, (by intro C h; cases h), rfl, _, rfl, ?_⟩))))))
  refine wss_nil (wss_cons (ws_for PassesOwn.never (wi_tup (we_var 1 rfl ⟨_, rfl, ?_⟩))))
  refine ⟨fun i ρ' M' => ∃ (o : Option D) (u : T), ρ' = [some (trD t), some (perD q), some (trD u), o] ∧ M' = M ∧ Ok u ∧ isPers u (q.drop i) = true, ⟨none, t, rfl, rfl, ok, by simpa using hq⟩, ?_, ?_⟩
  · rintro i x ρ' M' hx ⟨o, u, rfl, rfl, oku, hu⟩
    obtain ⟨n, hn, rfl⟩ := pers_get hx
    obtain ⟨hi, hn2⟩ := List.getElem?_eq_some_iff.mp hn
    rw [List.drop_eq_getElem_cons hi, hn2] at hu
    obtain ⟨v, h1, h2, h3⟩ := pers_cons hu
    refine wg_name 3 ?_ nd
    refine wss_cons (ws_if (wt_ww (ww_or (wt_eqS (we_ix (we_var 2 rfl (we_int ⟨0, _, rfl, tr0 u, we_str ⟨_, rfl, ?_⟩⟩)))))))
    rw [kd_one oku.2.1, not_one' h1]
    refine ww_or (wt_not (wt_val (we_isi (F.bn _ (by decide +kernel)) (we_var 3 rfl (we_bty (F.bn _ (by decide +kernel)) rfl ⟨_, _, true, rfl, rfl, (by intro C h; cases h), rfl, _, rfl, ?_⟩)))))
    refine ww_or1 (wt_val (we_isi (F.bn _ (by decide +kernel)) (we_var 3 rfl (we_bty (F.bn _ (by decide +kernel)) rfl ⟨_, _, false, rfl, rfl, (by intro C h; cases h), rfl, _, rfl, ?_⟩))))
    refine wss_nil (wss_cons (ws_if (wt_not (wt_leLt (we_int (we_var 3 rfl ⟨_, _, rfl, rfl, ?_⟩))))))
    rw [if_pos (show (0 : Int) ≤ (n : Nat) by omega)]
    refine we_call F2 (hr.mono (by decide)) (wa_cons (we_var 2 rfl (wa_nil ⟨rfl, u, rfl, oku, _, rfl, ?_⟩)))
    rw [decide_eq_true (show ((n : Nat) : Int) < (PL.cnt u : Nat) by omega)]
    exact wss_nil (wss_cons (ws_set 2 nd (we_call F1 (hr.mono (by decide)) (wa_cons (we_var 2 rfl (wa_cons (we_var 3 rfl (wa_nil ⟨rfl, u, n, v, rfl, h2, wss_nil ⟨_, v, rfl, rfl, piece_Ok h2 oku, h3⟩⟩))))))))
  · rintro ρ' M' ⟨o, u, rfl, rfl, oku, hu⟩
    rw [List.length_map, List.drop_length] at hu
    obtain rfl := pers_nil hu
    refine wss_cons (ws_ret (we_eqS (we_ix (we_var 2 rfl (we_int ⟨0, _, rfl, tr0 .one, we_str ⟨_, rfl, Lets.of ?_⟩⟩)))))
    rw [kd_one (t := .one) trivial]; exact hc
end
end W
/-! E92: the law of k36. -/
namespace W
open PySem PySem.Spec PyProof.Rows L2 DL SX PL SlX
theorem sh_per {p : List Nat} (h : p.length ≤ 60 ∧ ∀ i ∈ p, i < 10 ^ 30) : (perP p).showable = true ∧ (perP p).shown.length ≤ sizeLine := by
  have a := sh_tup (b := 30) (n := 60) (xs := p.map fun (i : Nat) => PyData.int (i : Nat)) (fun y hy => by
      obtain ⟨i, hi, rfl⟩ := List.mem_map.mp hy
      exact sh_nat (h.2 i hi)) (by rw [List.length_map]; exact h.1)
  exact ⟨a.ok, Nat.le_trans a.le (by rw [sizeLine_eq]; decide)⟩
theorem sh_pr {q : Nat × Nat} (h : q.1 < 10 ^ 30 ∧ q.2 < 10 ^ 30) : (prM q).showable = true ∧ (prM q).shown.length ≤ sizeLine := by
  have a := sh_tup (b := 30) (n := 2) (xs := [.int (q.1 : Nat), .int (q.2 : Nat)]) (fun y hy => by
      rcases List.mem_cons.mp hy with rfl | hy
      · exact sh_nat h.1
      · rw [List.mem_singleton.mp hy]; exact sh_nat h.2) (Nat.le_refl _)
  exact ⟨a.ok, Nat.le_trans a.le (by rw [sizeLine_eq]; decide)⟩
theorem sh_pers {t : T} {p : List Nat} (ok : Ok t) (h10 : ht t ≤ 10) (h30 : ppl t ≤ 10 ^ 30) (hp : isPers t p = true) : (perP p).showable = true ∧ (perP p).shown.length ≤ sizeLine := sh_per ⟨by have := pers_ht hp; omega, fun i hi => Nat.lt_of_lt_of_le (pers_small hp ok.1 i hi) h30⟩
section
variable {P : Program} {w : World} {K : PySem.W.Frag} {mg : Str → Option Value} {base : Heap} {a : Ad} {S : Addr}
def cSeated (a : Ad) (S : Addr) : Con := fun ds M Φ => ∃ t p, ds = [trD t, seaD a S t, perD p] ∧ Ok t ∧ ht t ≤ 10 ∧ ppl t ≤ 10 ^ 30 ∧ isPers t p = true ∧ Φ (.bl true) M
abbrev nSeated : List Str := ["_law_tree", "_law_seating", "_law_person_here", "_law_row", "_law_seat", "_law_other", "_law_beside"]
theorem ok_seated (F : Fx w K mg) (X : Zx K mg S) (F1 : Mc P w K mg base S "place" [] 17 2 (cZPl a S 10)) (F2 : Pc P w K mg base S "rows" 1 (cZRows a S)) (F3 : Mc P w K mg base S "length" [] 15 2 (cZLen a S 10)) (F4 : Mc P w K mg base S "at" [] 18 3 (cZAt a S 10)) (F5 : Fc P w K mg base "_law_is_person" [] 2 2 cTIsP) (F6 : Fc P w K mg base "_law_is_known" [] 2 3 cKnown) :
    BodyG P w K mg base "_law_is_seated" s__law_is_seated nSeated 3 18 (cSeated a S) := by
  intro f cdv A outer s H E hgd hr ds M Φ hl hc
  obtain ⟨t, p, rfl, ok, h10, h30, hp, hc⟩ := hc
  have nd : nSeated.Nodup := by decide +kernel
  have o := linM_ok _ (Nat.le_refl _) ok
  have hrl := rws_le ok.1
  obtain ⟨hsp, hat⟩ := o.sp p hp
  obtain ⟨r1, r2, r3⟩ := o.ro _ hsp
  obtain ⟨i, hi⟩ : ∃ i, i = (linM t).ro ((linM t).sp p) := ⟨_, rfl⟩
  obtain ⟨k, hk⟩ : ∃ k, k = (linM t).sp p - (linM t).st i := ⟨_, rfl⟩
  obtain ⟨len, hlen⟩ : ∃ len, len = (linM t).st (i + 1) - (linM t).st i := ⟨_, rfl⟩
  rw [← hi] at r1 r2 r3
  rw [o.hr] at r1
  have hks : (linM t).st i + k = (linM t).sp p := by omega
  have hkl : k < len := by omega
  have hle1 := st_le o (i := i + 1) (j := (linM t).r) (by rw [o.hr]; omega) (Nat.le_refl _)
  rw [o.sr, o.hn] at hle1
  have hpa : (linM t).at_ ((linM t).st i + k) = p := by rw [hks]; exact hat
  have shp := sh_pers ok h10 h30 hp
  refine wss_cons (ws_asg (we_meth F1 (hr.mono (by decide)) (we_var 1 rfl ⟨_, insZ, lk_sea, wa_cons (we_var 2 rfl (wa_nil ⟨rfl, t, p, rfl, ok, h10, h30, hp, ?_⟩))⟩)))
  rw [← hi, ← hk]
  refine wg_tup ⟨rfl, rfl, wgs_cons (wg_name 3 (wgs_cons (wg_name 4 (wgs_nil ⟨rfl, ?_⟩) nd)) nd)⟩
  refine wss_cons (ws_if (wt_ww (ww_or (wt_not (wt_leLt (we_int (we_var 3 rfl ⟨_, _, rfl, rfl, ?_⟩)))))))
  rw [if_pos (show (0 : Int) ≤ (i : Nat) by omega)]
  refine we_prop F2 (hr.mono (by decide)) (we_var 1 rfl ⟨_, insZ, t, rfl, ok, _, rfl, ?_⟩)
  rw [decide_eq_true (show ((i : Nat) : Int) < (rws t : Nat) by omega)]
  refine ww_or1 (wt_not (wt_leLt (we_int (we_var 4 rfl ⟨_, _, rfl, rfl, ?_⟩))))
  rw [if_pos (show (0 : Int) ≤ (k : Nat) by omega)]
  refine we_meth F3 (hr.mono (by decide)) (we_var 1 rfl ⟨_, insZ, lk_sea, wa_cons (we_var 3 rfl (wa_nil ⟨rfl, t, i, rfl, ok, h10, h30, r1, _, rfl, ?_⟩))⟩)
  rw [← hlen, decide_eq_true (show ((k : Nat) : Int) < (len : Nat) by omega)]
  refine wss_nil (wss_cons (ws_if (wt_neS (we_reprD (F.bn _ (by decide +kernel)) hgd hr.units (we_meth F4 (hr.mono (by decide)) (we_var 1 rfl ⟨_, insZ, lk_sea, wa_cons (we_var 3 rfl (wa_cons (we_var 4 rfl (wa_nil ⟨rfl, t, i, k, rfl, ok, h10, by omega, h30, r1, by omega, ?_⟩))))⟩))))))
  rw [hpa]
  refine ⟨_, 1, cmp_perE p, by decide, shp.1, shp.2, we_reprD (F.bn _ (by decide +kernel)) hgd hr.units (we_var 2 rfl ⟨_, 1, cmp_perE p, by decide, shp.1, shp.2, _, rfl, ?_⟩)⟩
  rw [decide_eq_true rfl]
  refine wss_nil (wss_cons (ws_for PassesOwn.never (wi_tup (we_tup (wa_cons (we_subI (we_var 4 rfl (we_int ⟨_, _, rfl, rfl, wa_cons (we_addI (we_var 4 rfl (we_int ⟨_, _, rfl, rfl, wa_nil ⟨sz2, _, rfl, ?_⟩⟩)))⟩))))))))
  refine ⟨fun j ρ' M' => ∃ (o5 o6 : Option D), ρ' = [some (trD t), some (seaD a S t), some (perD p), some (.int (i : Nat)), some (.int (k : Nat)), o5, o6] ∧ M' = M, ⟨none, none, rfl, rfl⟩, ?_, ?_⟩
  · rintro j x ρ' M' hx ⟨o5, o6, rfl, hM⟩
    obtain rfl : M = M' := hM.symm
    obtain ⟨y, rfl, hy⟩ : ∃ y : Int, x = .int y ∧ ∀ m : Nat, y = (m : Nat) → m < len → knowsB t ((linM t).at_ ((linM t).st i + m)) p = true := by
      match j, hx with
      | 0, hx =>
        refine ⟨_, (Option.some.inj hx).symm, fun m hm hml => ?_⟩
        have e : k = m + 1 := by omega
        have := seat_kn (s := m) ok r1 (by omega)
        rw [← e, hpa] at this
        exact this
      | 1, hx =>
        refine ⟨_, (Option.some.inj hx).symm, fun m hm hml => ?_⟩
        have e : m = k + 1 := by omega
        have := seat_kn (s := k) ok r1 (by omega)
        rw [hpa, ← e] at this
        rw [knows_symm]; exact this
      | j + 2, hx => simp at hx
    refine wg_name 5 ?_ nd
    refine wss_cons (ws_if (wt_leLt (we_int (we_var 5 rfl ⟨_, _, rfl, rfl, ?_⟩))))
    by_cases y0 : (0 : Int) ≤ y
    case neg =>
      rw [if_neg y0]
      exact wss_nil (wss_nil ⟨_, _, rfl, rfl⟩)
    rw [if_pos y0]
    obtain ⟨m, rfl⟩ := Int.eq_ofNat_of_zero_le y0
    refine we_meth F3 (hr.mono (by decide)) (we_var 1 rfl ⟨_, insZ, lk_sea, wa_cons (we_var 3 rfl (wa_nil ⟨rfl, t, i, rfl, ok, h10, h30, r1, _, rfl, ?_⟩))⟩)
    rw [← hlen]
    by_cases y1 : m < len
    case neg =>
      rw [decide_eq_false (show ¬ ((m : Nat) : Int) < (len : Nat) by omega)]
      exact wss_nil (wss_nil ⟨_, _, rfl, rfl⟩)
    rw [decide_eq_true (show ((m : Nat) : Int) < (len : Nat) by omega)]
    have hkn := hy m rfl y1
    obtain ⟨g1, g2, g3⟩ := seat_ok (s := m) ok r1 (by omega)
    have shq := sh_pr (q := (i, m)) ⟨by show i < _; omega, by show m < _; omega⟩
    refine wss_cons (ws_set 6 nd (we_meth F4 (hr.mono (by decide)) (we_var 1 rfl ⟨_, insZ, lk_sea, wa_cons (we_var 3 rfl (wa_cons (we_var 5 rfl (wa_nil ⟨rfl, t, i, m, rfl, ok, h10, by omega, h30, r1, by omega, ?_⟩))))⟩)))
    refine wss_cons (ws_if (wt_ww (ww_or (wt_not (wt_val (we_call F5 (hr.mono (by decide)) (wa_cons (we_var 0 rfl (wa_cons (we_var 6 rfl (wa_nil ⟨rfl, t, _, rfl, ok, g1, _, rfl, ?_⟩)))))))))))
    refine ww_or1 (wt_not (wt_val (we_call F6 (hr.mono (by decide)) (wa_cons (we_var 0 rfl (wa_cons (we_var 6 rfl (wa_cons (we_var 2 rfl (wa_nil ⟨rfl, t, _, p, rfl, g1, hp, _, rfl, ?_⟩))))))))))
    rw [hkn]
    refine wss_nil (wss_cons (ws_if (wt_neS (we_reprD (F.bn _ (by decide +kernel)) hgd hr.units (we_meth F1 (hr.mono (by decide)) (we_var 1 rfl ⟨_, insZ, lk_sea, wa_cons (we_var 6 rfl (wa_nil ⟨rfl, t, _, rfl, ok, h10, h30, g1, ?_⟩))⟩))))))
    rw [g2, g3, show (linM t).st i + m - (linM t).st i = m by omega]
    refine ⟨_, 1, cmp_prN (i, m), by decide, shq.1, shq.2, we_reprD (F.bn _ (by decide +kernel)) hgd hr.units (we_tup (wa_cons (we_var 3 rfl (wa_cons (we_var 5 rfl (wa_nil ⟨sz2, _, 1, cmp_prN (i, m), by decide, shq.1, shq.2, _, rfl, ?_⟩))))))⟩
    rw [decide_eq_true rfl]
    exact wss_nil (wss_nil (wss_nil ⟨_, _, rfl, rfl⟩))
  · rintro ρ' M' ⟨o5, o6, rfl, hM⟩
    obtain rfl : M = M' := hM.symm
    exact wss_cons (ws_ret (we_bl (Lets.of hc)))
def cRight : Con := fun ds M Φ => ∃ p a c d, ds = [.ob p] ∧ M p = some (potL a c d) ∧ cOk c ∧ 0 ≤ d ∧ d + 1700 < 100000 ∧ ∀ a' d', d ≤ d' → d' ≤ d + 1700 → Φ (.bl true) (mset M p (potL a' c d'))
abbrev nRight : List Str := ["_law_pot_here", "_law_tree", "_law_plan", "_law_seating", "_law_rows", "_law_lap", "_law_row", "_law_length", "_law_seat", "_law_person_here"]
theorem ok_right36 (F : Fx w K mg) (X : Zx K mg S) (F1 : Fc P w K mg base "_law_wide" [] 8 1 cWide) (F2 : Fc P w K mg base "_law_text" [] 11 1 (cTText 10)) (F3 : Kc P w K mg base "Plan" a.c [] 26 2 (cInit a.c 10)) (F4 : Kc P w K mg base "Seating" S [] 43 2 (cZInit a S 10)) (F5 : Fc P w K mg base "_law_numbers" [] 12 1 (cNums 10)) (F6 : Pc P w K mg base S "rows" 1 (cZRows a S)) (F7 : Fc P w K mg base "_law_of" [] 2 2 cOf) (F8 : Fc P w K mg base "_law_far" [] 2 2 cFar)
    (F9 : Mc P w K mg base S "length" [] 15 2 (cZLen a S 10)) (F10 : Fc P w K mg base "_law_size" [] 11 1 (cSize 10)) (F11 : Mc P w K mg base S "at" [] 18 3 (cZAt a S 10)) (F12 : Fc P w K mg base "_law_is_person" [] 2 2 cTIsP) (F13 : Mc P w K mg base S "place" [] 17 2 (cZPl a S 10)) (F14 : Gc P w K mg base "_law_is_seated" 19 3 (cSeated a S)) (F15 : Fc P w K mg base "_law_anybody" [] 3 2 cAny) :
    BodyG P w K mg base "_law_right" s__law_right nRight 1 44 cRight := by
  intro f cdv A outer s H E hgd hr ds M Φ hl hc
  obtain ⟨p, pa, c, d, rfl, hM, co, d0, d1, hc⟩ := hc
  have nd : nRight.Nodup := by decide +kernel
  refine wss_cons (ws_set 1 nd (we_call F1 (hr.mono (by decide)) (wa_cons (we_var 0 rfl (wa_nil ⟨rfl, p, pa, c, d, rfl, hM, co, d0, by omega, ?_⟩)))))
  intro t a1 e1 wi k1 k2
  have ok := wi.ok
  have h10 := wi.deep
  have h30 := wi.many
  have o := linM_ok _ (Nat.le_refl _) ok
  have hrl := rws_le ok.1
  have hr0 := rws_pos ok.1
  refine wss_cons (ws_set 2 nd (we_plan F3 (hr.mono (by decide)) (we_call F2 (hr.mono (by decide)) (wa_cons (we_var 1 rfl (wa_nil ⟨rfl, t, rfl, ok, by omega, t, rfl, ok.1, ok.2.1, ok.2.2, by omega, by omega, ?_⟩))))))
  have sh1 : (PyData.int (rws t : Nat)).showable = true ∧ (PyData.int (rws t : Nat)).shown.length ≤ sizeLine := sh_int (by rw [Int.natAbs_natCast]; exact Nat.lt_of_le_of_lt (Nat.le_trans hrl h30) (by decide))
  refine wss_cons (ws_asg (we_tup (wa_cons (we_seating F4 (hr.mono (by decide)) (we_var 2 rfl ⟨t, rfl, ok, h10, h30, wa_cons (we_ix (we_call F5 (hr.mono (by decide)) (wa_cons (we_var 1 rfl (wa_nil ⟨rfl, t, rfl, ok, h10, fun c2 s2 hl2 => we_int ⟨((3 : Nat) : Int), _, rfl, ixT (atI_nat (j := 3) rfl), wa_nil ⟨sz2, ?_⟩⟩⟩)))))⟩)))))
  refine wg_tup ⟨rfl, rfl, wgs_cons (wg_name 3 (wgs_cons (wg_name 4 (wgs_nil ⟨rfl, ?_⟩) nd)) nd)⟩
  refine wss_cons (ws_if (wt_neS (we_reprD (F.bn _ (by decide +kernel)) hgd hr.units (we_prop F6 (hr.mono (by decide)) (we_var 3 rfl ⟨_, insZ, t, rfl, ok, _, 0, cmp_int _, by decide, sh1.1, sh1.2, we_reprD (F.bn _ (by decide +kernel)) hgd hr.units (we_var 4 rfl ⟨_, 0, cmp_int _, by decide, sh1.1, sh1.2, _, rfl, ?_⟩)⟩)))))
  rw [decide_eq_true rfl]
  refine wss_nil (wss_cons (ws_for PassesOwn.never (wi_range1 (F.bn _ (by decide +kernel)) (wa_cons (we_int (wa_nil ⟨_, rfl, by decide, by decide, ?_⟩))))))
  refine ⟨fun i ρ' M' => i ≤ 8 ∧ ∃ (o5 o6 o7 o8 o9 : Option D) (a' d' : Int), ρ' = [some (.ob p), some (trD t), some (planD a.c t), some (seaD a S t), some (.int (rws t : Nat)), o5, o6, o7, o8, o9] ∧ M' = mset M p (potL a' c d') ∧ d ≤ d' ∧ d' ≤ d + 200 + 16 * (i : Nat), ⟨by omega, none, none, none, none, none, a1, e1, rfl, rfl, k1, by omega⟩, ?_, ?_⟩
  · rintro lap x ρ' M' hx ⟨hi, o5, o6, o7, o8, o9, a2, e2, rfl, rfl, k3, k4⟩
    obtain ⟨hi2, rfl⟩ := rngD_get hx
    have hi3 : lap < 8 := hi2
    refine wg_name 5 ?_ nd
    refine wss_cons (ws_set 6 nd (we_call F7 (hr.mono (by decide)) (wa_cons (we_var 0 rfl (wa_cons (we_lst (wa_cons (we_int (wa_cons (we_subI (we_var 4 rfl (we_int ⟨_, _, rfl, rfl, wa_cons (we_call F8 (hr.mono (by decide)) (wa_cons (we_var 0 rfl (wa_cons (we_var 4 rfl (wa_nil ⟨rfl, p, _, a2, c, e2, rfl, by omega, mset_same, co, by omega, by omega, ?_⟩)))))) ⟩))))))))))))
    intro f1 a3 e3 f10 f11 k5 k6
    rw [mset_mset]
    refine wa_cons (we_call F8 (hr.mono (by decide)) (wa_cons (we_var 0 rfl (wa_cons (we_var 4 rfl (wa_nil ⟨rfl, p, _, a3, c, e3, rfl, by omega, mset_same, co, by omega, by omega, ?_⟩))))))
    intro f2 a4 e4 f20 f21 k7 k8
    rw [mset_mset]
    refine wa_nil ⟨by show 4 ≤ sizeLine; decide, wa_nil ⟨rfl, p, _, a4, c, e4, rfl, by simp, by simp, mset_same, co, by omega, by omega, ?_⟩⟩
    intro xr a5 e5 hxr k9 k10
    rw [mset_mset]
    obtain ⟨i, rfl, hi⟩ : ∃ r : Nat, xr = .int (r : Nat) ∧ r < rws t := by
      simp only [List.mem_cons, List.not_mem_nil, or_false] at hxr
      rcases hxr with rfl | rfl | rfl | rfl
      · exact ⟨0, rfl, by omega⟩
      · exact ⟨rws t - 1, by rw [show ((rws t - 1 : Nat) : Int) = (rws t : Nat) - 1 by omega], by omega⟩
      · obtain ⟨r, rfl⟩ := Int.eq_ofNat_of_zero_le f10
        exact ⟨r, rfl, by omega⟩
      · obtain ⟨r, rfl⟩ := Int.eq_ofNat_of_zero_le f20
        exact ⟨r, rfl, by omega⟩
    obtain ⟨len, hlen⟩ : ∃ len, len = (linM t).st (i + 1) - (linM t).st i := ⟨_, rfl⟩
    have hup := o.up i (by rw [o.hr]; exact hi)
    have hle1 := st_le o (i := i + 1) (j := (linM t).r) (by rw [o.hr]; omega) (Nat.le_refl _)
    rw [o.sr, o.hn] at hle1
    refine wss_cons (ws_set 7 nd (we_meth F9 (hr.mono (by decide)) (we_var 3 rfl ⟨_, insZ, lk_sea, wa_cons (we_var 6 rfl (wa_nil ⟨rfl, t, i, rfl, ok, h10, h30, hi, ?_⟩))⟩)))
    rw [← hlen]
    refine wss_cons (ws_if (wt_not (wt_chainI (we_int (we_var 7 rfl ⟨_, _, rfl, rfl, ?_⟩)))))
    rw [decide_eq_true (show (1 : Int) ≤ (len : Nat) by omega)]
    refine we_call F10 (hr.mono (by decide)) (wa_cons (we_var 1 rfl (wa_nil ⟨rfl, t, rfl, ok, h10, _, rfl, ?_⟩)))
    rw [decide_eq_true (show ((len : Nat) : Int) ≤ (ppl t : Nat) by omega)]
    refine wss_nil (wss_cons (ws_for PassesOwn.never (wi_tup (we_tup (wa_cons (we_int (wa_cons (we_subI (we_var 7 rfl (we_int ⟨_, _, rfl, rfl, wa_cons (we_call F8 (hr.mono (by decide)) (wa_cons (we_var 0 rfl (wa_cons (we_var 7 rfl (wa_nil ⟨rfl, p, _, a5, c, e5, rfl, by omega, mset_same, co, by omega, by omega, ?_⟩)))))) ⟩))))))))))
    intro f3 a6 e6 f30 f31 k11 k12
    rw [mset_mset]
    refine wa_nil ⟨sz3, _, rfl, ?_⟩
    refine ⟨fun j ρ' M' => ∃ (o8 o9 : Option D), ρ' = [some (.ob p), some (trD t), some (planD a.c t), some (seaD a S t), some (.int (rws t : Nat)), some (.int (0 + (lap : Int))), some (.int (i : Nat)), some (.int (len : Nat)), o8, o9] ∧ M' = mset M p (potL a6 c e6), ⟨o8, o9, rfl, rfl⟩, ?_, ?_⟩
    · rintro j x ρ' M' hx ⟨o8, o9, rfl, hM'⟩
      obtain ⟨m, rfl, hm⟩ : ∃ m : Nat, x = .int (m : Nat) ∧ m < len := by
        match j, hx with
        | 0, hx => exact ⟨0, (Option.some.inj hx).symm, by omega⟩
        | 1, hx => exact ⟨len - 1, by rw [show ((len - 1 : Nat) : Int) = (len : Nat) - 1 by omega]; exact (Option.some.inj hx).symm, by omega⟩
        | 2, hx =>
          obtain ⟨r, rfl⟩ := Int.eq_ofNat_of_zero_le f30
          exact ⟨r, (Option.some.inj hx).symm, by omega⟩
        | j + 3, hx => simp at hx
      obtain ⟨M2, hM2⟩ : ∃ M2, M2 = mset M p (potL a6 c e6) := ⟨_, rfl⟩
      rw [← hM2] at hM'
      obtain rfl : M2 = M' := hM'.symm
      obtain ⟨g1, g2, g3⟩ := seat_ok (s := m) ok hi (by omega)
      have shq := sh_pr (q := (i, m)) ⟨by show i < _; omega, by show m < _; omega⟩
      refine wg_name 8 ?_ nd
      refine wss_cons (ws_set 9 nd (we_meth F11 (hr.mono (by decide)) (we_var 3 rfl ⟨_, insZ, lk_sea, wa_cons (we_var 6 rfl (wa_cons (we_var 8 rfl (wa_nil ⟨rfl, t, i, m, rfl, ok, h10, by omega, h30, hi, by omega, ?_⟩))))⟩)))
      refine wss_cons (ws_if (wt_ww (ww_or (wt_not (wt_val (we_call F12 (hr.mono (by decide)) (wa_cons (we_var 1 rfl (wa_cons (we_var 9 rfl (wa_nil ⟨rfl, t, _, rfl, ok, g1, _, rfl, ?_⟩)))))))))))
      refine ww_or1 (wt_neS (we_reprD (F.bn _ (by decide +kernel)) hgd hr.units (we_meth F13 (hr.mono (by decide)) (we_var 3 rfl ⟨_, insZ, lk_sea, wa_cons (we_var 9 rfl (wa_nil ⟨rfl, t, _, rfl, ok, h10, h30, g1, ?_⟩))⟩))))
      rw [g2, g3, show (linM t).st i + m - (linM t).st i = m by omega]
      refine ⟨_, 1, cmp_prN (i, m), by decide, shq.1, shq.2, we_reprD (F.bn _ (by decide +kernel)) hgd hr.units (we_tup (wa_cons (we_var 6 rfl (wa_cons (we_var 8 rfl (wa_nil ⟨sz2, _, 1, cmp_prN (i, m), by decide, shq.1, shq.2, _, rfl, ?_⟩))))))⟩
      rw [decide_eq_true rfl]
      refine wss_nil (wss_cons (ws_if (wt_not (wt_val (we_callG F14 hgd (hr.mono (by decide)) (wa_cons (we_var 1 rfl (wa_cons (we_var 3 rfl (wa_cons (we_var 9 rfl (wa_nil ⟨rfl, t, _, rfl, ok, h10, h30, g1, _, rfl, ?_⟩))))))))))))
      exact wss_nil (wss_nil ⟨_, _, rfl, hM2⟩)
    · rintro ρ' M' ⟨o8, o9, rfl, rfl⟩
      exact wss_nil ⟨by omega, _, _, _, _, _, a6, e6, rfl, rfl, by omega, by omega⟩
  · rintro ρ' M' ⟨hi, o5, o6, o7, o8, o9, a2, e2, rfl, rfl, k3, k4⟩
    have k4 : e2 ≤ d + 200 + 16 * ((8 : Nat) : Int) := k4
    refine wss_cons (ws_ret (we_all (F.bn _ (by decide +kernel)) (we_lc nd (blkOk_by (N := nRight) (sc := defScope s__law_right) (own := [("_law_lap", 5)]) (by decide +kernel)) (fun _ _ _ _ _ => pg_name (i := 5) nd rfl (Or.inl rfl)) (gt_name (by decide)) (fun _ _ _ _ _ => pts_nil) tk_nil (wi_range1 (F.bn _ (by decide +kernel)) (wa_cons (we_int (wa_nil ⟨_, rfl, by decide, by decide, ?_⟩)))))))
    refine ⟨by rw [rngD_len]; decide, fun k acc M2 => k ≤ 12 ∧ acc = (List.replicate k true).map D.bl ∧ ∃ a' d', M2 = mset M p (potL a' c d') ∧ d ≤ d' ∧ d' ≤ d + 328 + 110 * (k : Nat), ⟨by decide, rfl, a2, e2, rfl, k3, by omega⟩, ?_, ?_⟩
    · rintro k x acc M2 hx ⟨k12, rfl, a3, e3, rfl, q0, q1⟩
      obtain ⟨hk, rfl⟩ := rngD_get hx
      have hk : k < 12 := hk
      intro s' H' C' cl' fp'
      refine we_callG F14 hgd (hr.mono (by decide)) (wa_cons (we_var 1 rfl (wa_cons (we_var 3 rfl (wa_cons (we_call F15 (hr.mono (by decide)) (wa_cons (we_var 0 rfl (wa_cons (we_var 1 rfl (wa_nil ⟨rfl, p, a3, c, e3, t, rfl, ok, by omega, mset_same, co, by omega, by omega, ?_⟩)))))))))))
      intro q a4 e4 hq k5 k6
      rw [mset_mset]
      exact wa_nil ⟨rfl, t, q, rfl, ok, h10, h30, hq, hk, by rw [List.replicate_succ', List.map_append]; rfl, a4, e4, rfl, by omega, by omega⟩
    · rintro acc M2 ⟨k12, rfl, a3, e3, rfl, q0, q1⟩
      rw [rngD_len]
      have q1 : e3 ≤ d + 328 + 110 * ((12 : Nat) : Int) := q1
      refine ⟨_, rfl, ?_⟩
      rw [show ∀ n, (List.replicate n true).all id = true from fun n => by simp]
      exact Lets.of (hc a3 e3 (by omega) (by omega))
abbrev nLaw : List Str := ["_law_script", "_law_place", "_law_pot_here", "_law_lap"]
def cLaw : Con := fun ds M Φ => ∃ ns, ds = [scrD ns] ∧ ∀ M', Φ (.bl true) M'
theorem ok_law36 (F : Fx w K mg) (F1 : Fc P w K mg base "_law_cells" [] 1 2 cCells) (F2 : Fc P w K mg base "_law_pot" [] 1 2 cPot) (F3 : Gc P w K mg base "_law_right" 45 1 cRight) : BodyG P w K mg base "law" s_law nLaw 1 45 cLaw := by
  intro f cdv A outer s H E hgd hr ds M Φ hl hc
  obtain ⟨ns, rfl, hc⟩ := hc
  have nd : nLaw.Nodup := by decide +kernel
  refine wss_cons (ws_for PassesOwn.never (wi_list (we_call F1 (hr.mono (by decide)) (wa_cons (we_var 0 rfl (wa_cons (we_int (wa_nil ⟨rfl, ns, 4, rfl, by decide, by decide, fun n hn => ⟨_, .inl rfl, ?_⟩⟩))))))))
  refine ⟨fun i ρ' M' => ∃ o1 o2 o3, ρ' = [some (scrD ns), o1, o2, o3], ⟨none, none, none, rfl⟩, ?_, ?_⟩
  · rintro i x ρ' M' hx ⟨o1, o2, o3, rfl⟩
    obtain ⟨hi, rfl⟩ := rngD_get hx
    refine wg_name 1 ?_ nd
    refine wss_cons (ws_set 2 nd (we_call F2 (hr.mono (by decide)) (wa_cons (we_var 0 rfl (wa_cons (we_var 1 rfl (wa_nil ⟨rfl, ns, i, by rw [Int.zero_add]; rfl, by omega, ?_⟩)))))))
    intro p a c hp co
    refine wss_cons (ws_if (wt_not (wt_val (we_all (F.bn _ (by decide +kernel)) (we_lc nd (blkOk_by (N := nLaw) (sc := defScope s_law) (own := [("_law_lap", 3)]) (by decide +kernel)) (fun _ _ _ _ _ => pg_name (i := 3) nd rfl (Or.inl rfl)) (gt_name (by decide)) (fun _ _ _ _ _ => pts_nil) tk_nil (wi_range1 (F.bn _ (by decide +kernel)) (wa_cons (we_int (wa_nil ⟨_, rfl, by decide, by decide, ?_⟩)))))))))
    refine ⟨by rw [rngD_len]; decide, fun k acc M2 => k ≤ 2 ∧ acc = (List.replicate k true).map D.bl ∧ ∃ a' d', M2 p = some (potL a' c d') ∧ 0 ≤ d' ∧ d' ≤ 1700 * (k : Nat), ⟨by decide, rfl, a, 0, mset_same, by decide, by decide⟩, ?_, ?_⟩
    · rintro k x acc M2 hx ⟨k3, rfl, a', d', hM2, q0, q1⟩
      obtain ⟨hk, rfl⟩ := rngD_get hx
      have hk : k < 2 := hk
      intro s' H' C' cl' fp'
      refine we_callG F3 hgd (hr.mono (by decide)) (wa_cons (we_var 2 rfl (wa_nil ⟨rfl, p, a', c, d', rfl, hM2, co, q0, by omega, ?_⟩)))
      intro a2 d2 j1 j2
      exact ⟨hk, by rw [List.replicate_succ', List.map_append]; rfl, a2, d2, mset_same, by omega, by omega⟩
    · rintro acc M2 ⟨k3, rfl, a', d', hM2, q0, q1⟩
      rw [rngD_len]
      exact ⟨_, rfl, _, rfl, wss_nil (wss_nil ⟨_, _, _, rfl⟩)⟩
  · rintro ρ' M' ⟨o1, o2, o3, rfl⟩
    exact wss_cons (ws_ret (we_bl (Lets.of (hc _))))
end
end W
/-! E91: what lines promise, of all heights. -/
namespace W
open PySem PySem.Spec PyProof.Rows L2 DL SX PL SlX
/-- the methods of the lines' classes -/
structure Lm (K : PySem.W.Frag) (a : Ad) : Prop where
  o_init : ∃ f, Mk K a.o f ∧ Md K a.o "__init__" "OneLine.__init__" s_OneLine___init__ f
  o_start : ∃ f, Meth K a.o "start" f ∧ Md K a.o "start" "OneLine.start" s_OneLine_start f
  o_row_of : ∃ f, Meth K a.o "row_of" f ∧ Md K a.o "row_of" "OneLine.row_of" s_OneLine_row_of f
  o_at : ∃ f, Meth K a.o "at" f ∧ Md K a.o "at" "OneLine.at" s_OneLine_at f
  o_spot_of : ∃ f, Meth K a.o "spot_of" f ∧ Md K a.o "spot_of" "OneLine.spot_of" s_OneLine_spot_of f
  b_init : ∃ f, Mk K a.b f ∧ Md K a.b "__init__" "BesideLine.__init__" s_BesideLine___init__ f
  b_block : ∃ f, Meth K a.b "block" f ∧ Md K a.b "block" "BesideLine.block" s_BesideLine_block f
  b_start : ∃ f, Meth K a.b "start" f ∧ Md K a.b "start" "BesideLine.start" s_BesideLine_start f
  b_row_of : ∃ f, Meth K a.b "row_of" f ∧ Md K a.b "row_of" "BesideLine.row_of" s_BesideLine_row_of f
  b_at : ∃ f, Meth K a.b "at" f ∧ Md K a.b "at" "BesideLine.at" s_BesideLine_at f
  b_spot_of : ∃ f, Meth K a.b "spot_of" f ∧ Md K a.b "spot_of" "BesideLine.spot_of" s_BesideLine_spot_of f
  k_init : ∃ f, Mk K a.k f ∧ Md K a.k "__init__" "CopiesLine.__init__" s_CopiesLine___init__ f
  k_start : ∃ f, Meth K a.k "start" f ∧ Md K a.k "start" "CopiesLine.start" s_CopiesLine_start f
  k_row_of : ∃ f, Meth K a.k "row_of" f ∧ Md K a.k "row_of" "CopiesLine.row_of" s_CopiesLine_row_of f
  k_at : ∃ f, Meth K a.k "at" f ∧ Md K a.k "at" "CopiesLine.at" s_CopiesLine_at f
  k_spot_of : ∃ f, Meth K a.k "spot_of" f ∧ Md K a.k "spot_of" "CopiesLine.spot_of" s_CopiesLine_spot_of f
  h_init : ∃ f, Mk K a.h f ∧ Md K a.h "__init__" "HalvesLine.__init__" s_HalvesLine___init__ f
  h_start : ∃ f, Meth K a.h "start" f ∧ Md K a.h "start" "HalvesLine.start" s_HalvesLine_start f
  h_row_of : ∃ f, Meth K a.h "row_of" f ∧ Md K a.h "row_of" "HalvesLine.row_of" s_HalvesLine_row_of f
  h_half : ∃ f, Meth K a.h "half" f ∧ Md K a.h "half" "HalvesLine.half" s_HalvesLine_half f
  h_at : ∃ f, Meth K a.h "at" f ∧ Md K a.h "at" "HalvesLine.at" s_HalvesLine_at f
  h_spot_of : ∃ f, Meth K a.h "spot_of" f ∧ Md K a.h "spot_of" "HalvesLine.spot_of" s_HalvesLine_spot_of f
  w_init : ∃ f, Mk K a.w f ∧ Md K a.w "__init__" "WovenLine.__init__" s_WovenLine___init__ f
  w_singles : ∃ f, Meth K a.w "singles" f ∧ Md K a.w "singles" "WovenLine.singles" s_WovenLine_singles f
  w_piece_of : ∃ f, Meth K a.w "piece_of" f ∧ Md K a.w "piece_of" "WovenLine.piece_of" s_WovenLine_piece_of f
  w_other_spot : ∃ f, Meth K a.w "other_spot" f ∧ Md K a.w "other_spot" "WovenLine.other_spot" s_WovenLine_other_spot f
  w_ahead : ∃ f, Meth K a.w "ahead" f ∧ Md K a.w "ahead" "WovenLine.ahead" s_WovenLine_ahead f
  w_start : ∃ f, Meth K a.w "start" f ∧ Md K a.w "start" "WovenLine.start" s_WovenLine_start f
  w_row_of : ∃ f, Meth K a.w "row_of" f ∧ Md K a.w "row_of" "WovenLine.row_of" s_WovenLine_row_of f
  w_at : ∃ f, Meth K a.w "at" f ∧ Md K a.w "at" "WovenLine.at" s_WovenLine_at f
  w_spot_of : ∃ f, Meth K a.w "spot_of" f ∧ Md K a.w "spot_of" "WovenLine.spot_of" s_WovenLine_spot_of f
structure Lo (P : Program) (w : World) (K : PySem.W.Frag) (mg : Str → Option Value) (base : Heap) (a : Ad) : Prop where
  st : ∀ h κ, Mc P w K mg base (adK a κ) "start" [] (h + 4) 2 (cSt a h κ)
  ro : ∀ h κ, Mc P w K mg base (adK a κ) "row_of" [] (h + 5) 2 (cRo a h κ)
  at_ : ∀ h κ, Mc P w K mg base (adK a κ) "at" [] (h + 7) 2 (cLAt a h κ)
  sp : ∀ h κ, Mc P w K mg base (adK a κ) "spot_of" [] (h + 6) 2 (cLSp a h κ)
  line : ∀ h, Fc P w K mg base "line_of" [] (3 * h + 11) 1 (cLnOf a h)
section
variable {P : Program} {w : World} {K : PySem.W.Frag} {mg : Str → Option Value} {base : Heap} {a : Ad}
theorem heights {p : Nat → Prop} (s : ∀ h, (∀ j, h = j + 1 → p j) → p h) : ∀ h, p h
  | 0 => s 0 fun j hj => by omega
  | h + 1 => s (h + 1) fun j hj => by obtain rfl : h = j := by omega
                                      exact heights s h
theorem lines_ok (F : Fx w K mg) (X : Px K mg a.c) (L : Lx K mg a) (m : Lm K a) (fPa : Fc P w K mg base "parts_of" [] 1 1 (cParts a.c)) (fNth : Fc P w K mg base "nth_person" [] 3 2 (cNth a.c)) (fPo : Fc P w K mg base "place_of" [] 2 2 (cPlace a.c)) (pPeo : Pc P w K mg base a.c "people" 1 (cGet a.c fun t => .int (ppl t : Nat)))
    (kWi : Kc P w K mg base "Crowd" a.r [] 3 2 (cWInit a.c a.r)) (mWa : Mc P w K mg base a.r "at" [] 4 2 (cWAt a.c a.r)) (mWn : Mc P w K mg base a.r "number_of" [] 4 2 (cWNum a.c a.r)) (fBy : Fc P w K mg base "by_people" [] 3 1 (cByP a.c)) (fMo : Fc P w K mg base "most_and_others" [] 3 1 (cMost a.c)) (fL : Df K mg "line_of" s_line_of []) : Lo P w K mg base a := by
  have mB : Mc P w K mg base a.b "block" [] 2 3 (cBlk a) := (let ⟨_, mm, d⟩ := m.b_block; d.mc (L.cl .b) mm (N := nBlk) (ps := ["self", "column", "value"]) ⟨rfl, rfl, rfl, by decide +kernel, rfl, by decide +kernel, by decide +kernel⟩ (fun _ _ _ _ _ _ us hl => match us, hl with | [_, _, _], _ => rfl) (ok_block L))
  have mH : Mc P w K mg base a.h "half" [] 2 1 (cHalf a) := (let ⟨_, mm, d⟩ := m.h_half; d.mc (L.cl .h) mm (N := ["self"]) (ps := ["self"]) ⟨rfl, rfl, rfl, by decide +kernel, rfl, by decide +kernel, by decide +kernel⟩ (fun _ _ _ _ _ _ us hl => match us, hl with | [_], _ => rfl) (ok_half L))
  have fS : ∀ h κ, Mc P w K mg base (adK a κ) "start" [] (h + 4) 2 (cSt a h κ) := heights fun h ih κ => by
    cases κ with
    | o =>
      have z : Mc P w K mg base a.o "start" [] 2 2 (cSt a h .o) := (let ⟨_, mm, d⟩ := m.o_start; d.mc (L.cl .o) mm (N := ["self", "row"]) (ps := ["self", "row"]) ⟨rfl, rfl, rfl, by decide +kernel, rfl, by decide +kernel, by decide +kernel⟩ (fun _ _ _ _ _ _ us hl => match us, hl with | [_, _], _ => rfl) (ok_ostart L h))
      exact z.up (by omega)
    | b =>
      have z : Mc P w K mg base a.b "start" [] (h + 4) 2 (cSt a h .b) := (let ⟨_, mm, d⟩ := m.b_start; d.mc (L.cl .b) mm (N := nBSt) (ps := ["self", "row"]) ⟨rfl, rfl, rfl, by decide +kernel, rfl, by decide +kernel, by decide +kernel⟩ (fun _ _ _ _ _ _ us hl => match us, hl with | [_, _], _ => rfl) (ok_bstart h L mB ih))
      exact z
    | k =>
      have z : Mc P w K mg base a.k "start" [] 2 2 (cSt a h .k) := (let ⟨_, mm, d⟩ := m.k_start; d.mc (L.cl .k) mm (N := ["self", "row"]) (ps := ["self", "row"]) ⟨rfl, rfl, rfl, by decide +kernel, rfl, by decide +kernel, by decide +kernel⟩ (fun _ _ _ _ _ _ us hl => match us, hl with | [_, _], _ => rfl) (ok_kstart L h))
      exact z.up (by omega)
    | h =>
      have z : Mc P w K mg base a.h "start" [] 2 2 (cSt a h .h) := (let ⟨_, mm, d⟩ := m.h_start; d.mc (L.cl .h) mm (N := ["self", "row"]) (ps := ["self", "row"]) ⟨rfl, rfl, rfl, by decide +kernel, rfl, by decide +kernel, by decide +kernel⟩ (fun _ _ _ _ _ _ us hl => match us, hl with | [_, _], _ => rfl) (ok_hstart L h))
      exact z.up (by omega)
    | w =>
      have z : Mc P w K mg base a.w "start" [] (h + 4) 2 (cSt a h .w) := (let ⟨_, mm, d⟩ := m.w_start; d.mc (L.cl .w) mm (N := ["self", "row"]) (ps := ["self", "row"]) ⟨rfl, rfl, rfl, by decide +kernel, rfl, by decide +kernel, by decide +kernel⟩ (fun _ _ _ _ _ _ us hl => match us, hl with | [_, _], _ => rfl) (ok_wstart h L ih))
      exact z
  have fR : ∀ h κ, Mc P w K mg base (adK a κ) "row_of" [] (h + 5) 2 (cRo a h κ) := heights fun h ih κ => by
    cases κ with
    | o =>
      have z : Mc P w K mg base a.o "row_of" [] 2 2 (cRo a h .o) := (let ⟨_, mm, d⟩ := m.o_row_of; d.mc (L.cl .o) mm (N := ["self", "spot"]) (ps := ["self", "spot"]) ⟨rfl, rfl, rfl, by decide +kernel, rfl, by decide +kernel, by decide +kernel⟩ (fun _ _ _ _ _ _ us hl => match us, hl with | [_, _], _ => rfl) (ok_orow L h))
      exact z.up (by omega)
    | b =>
      have z : Mc P w K mg base a.b "row_of" [] (h + 5) 2 (cRo a h .b) := (let ⟨_, mm, d⟩ := m.b_row_of; d.mc (L.cl .b) mm (N := nBRo) (ps := ["self", "spot"]) ⟨rfl, rfl, rfl, by decide +kernel, rfl, by decide +kernel, by decide +kernel⟩ (fun _ _ _ _ _ _ us hl => match us, hl with | [_, _], _ => rfl) (ok_brow h L mB ih))
      exact z
    | k =>
      have z : Mc P w K mg base a.k "row_of" [] 2 2 (cRo a h .k) := (let ⟨_, mm, d⟩ := m.k_row_of; d.mc (L.cl .k) mm (N := ["self", "spot"]) (ps := ["self", "spot"]) ⟨rfl, rfl, rfl, by decide +kernel, rfl, by decide +kernel, by decide +kernel⟩ (fun _ _ _ _ _ _ us hl => match us, hl with | [_, _], _ => rfl) (ok_krow L h))
      exact z.up (by omega)
    | h =>
      have z : Mc P w K mg base a.h "row_of" [] 2 2 (cRo a h .h) := (let ⟨_, mm, d⟩ := m.h_row_of; d.mc (L.cl .h) mm (N := ["self", "spot"]) (ps := ["self", "spot"]) ⟨rfl, rfl, rfl, by decide +kernel, rfl, by decide +kernel, by decide +kernel⟩ (fun _ _ _ _ _ _ us hl => match us, hl with | [_, _], _ => rfl) (ok_hrow L h))
      exact z.up (by omega)
    | w =>
      have z : Mc P w K mg base a.w "row_of" [] (h + 5) 2 (cRo a h .w) := (let ⟨_, mm, d⟩ := m.w_row_of; d.mc (L.cl .w) mm (N := ["self", "spot"]) (ps := ["self", "spot"]) ⟨rfl, rfl, rfl, by decide +kernel, rfl, by decide +kernel, by decide +kernel⟩ (fun _ _ _ _ _ _ us hl => match us, hl with | [_, _], _ => rfl) (ok_wrow h L (fS h .w) ih))
      exact z
  have wO : ∀ h, Mc P w K mg base a.w "other_spot" [] (h + 5) 2 (cOs a h) := fun h => (let ⟨_, mm, d⟩ := m.w_other_spot; d.mc (L.cl .w) mm (N := ["self", "number", "row"]) (ps := ["self", "number"]) ⟨rfl, rfl, rfl, by decide +kernel, rfl, by decide +kernel, by decide +kernel⟩ (fun _ _ _ _ _ _ us hl => match us, hl with | [_, _], _ => rfl) (ok_wos h L (fun j _ => fR j) (fun j _ => fS j)))
  have wA : ∀ h, Mc P w K mg base a.w "ahead" [] (h + 6) 2 (cAh a h) := fun h => (let ⟨_, mm, d⟩ := m.w_ahead; d.mc (L.cl .w) mm (N := ["self", "spot", "low", "high", "middle"]) (ps := ["self", "spot"]) ⟨rfl, rfl, rfl, by decide +kernel, rfl, by decide +kernel, by decide +kernel⟩ (fun _ _ _ _ _ _ us hl => match us, hl with | [_, _], _ => rfl) (ok_wah h L (wO h)))
  have wP : ∀ h, Mc P w K mg base a.w "piece_of" [] (h + 5) 2 (cPc a h) := fun h => (let ⟨_, mm, d⟩ := m.w_piece_of; d.mc (L.cl .w) mm (N := ["self", "spot"]) (ps := ["self", "spot"]) ⟨rfl, rfl, rfl, by decide +kernel, rfl, by decide +kernel, by decide +kernel⟩ (fun _ _ _ _ _ _ us hl => match us, hl with | [_, _], _ => rfl) (ok_wpc h L (fun j _ => fR j)))
  have wS : ∀ h, Mc P w K mg base a.w "singles" [] (h + 6) 2 (cSing a h) := fun h => (let ⟨_, mm, d⟩ := m.w_singles; d.mc (L.cl .w) mm (N := ["self", "pieces", "line", "low", "high", "middle"]) (ps := ["self", "pieces"]) ⟨rfl, rfl, rfl, by decide +kernel, rfl, by decide +kernel, by decide +kernel⟩ (fun _ _ _ _ _ _ us hl => match us, hl with | [_, _], _ => rfl) (ok_sing h L (fR h)))
  have fA : ∀ h κ, Mc P w K mg base (adK a κ) "at" [] (h + 7) 2 (cLAt a h κ) := heights fun h ih κ => by
    cases κ with
    | o =>
      have z : Mc P w K mg base a.o "at" [] 2 2 (cLAt a h .o) := (let ⟨_, mm, d⟩ := m.o_at; d.mc (L.cl .o) mm (N := ["self", "spot"]) (ps := ["self", "spot"]) ⟨rfl, rfl, rfl, by decide +kernel, rfl, by decide +kernel, by decide +kernel⟩ (fun _ _ _ _ _ _ us hl => match us, hl with | [_, _], _ => rfl) (ok_oat L h))
      exact z.up (by omega)
    | b =>
      have z : Mc P w K mg base a.b "at" [] (h + 7) 2 (cLAt a h .b) := (let ⟨_, mm, d⟩ := m.b_at; d.mc (L.cl .b) mm (N := nBAt) (ps := ["self", "spot"]) ⟨rfl, rfl, rfl, by decide +kernel, rfl, by decide +kernel, by decide +kernel⟩ (fun _ _ _ _ _ _ us hl => match us, hl with | [_, _], _ => rfl) (ok_bat h L mB ih))
      exact z
    | k =>
      have z : Mc P w K mg base a.k "at" [] (h + 7) 2 (cLAt a h .k) := (let ⟨_, mm, d⟩ := m.k_at; d.mc (L.cl .k) mm (N := ["self", "spot"]) (ps := ["self", "spot"]) ⟨rfl, rfl, rfl, by decide +kernel, rfl, by decide +kernel, by decide +kernel⟩ (fun _ _ _ _ _ _ us hl => match us, hl with | [_, _], _ => rfl) (ok_kat L h fNth))
      exact z
    | h =>
      have z : Mc P w K mg base a.h "at" [] (h + 7) 2 (cLAt a h .h) := (let ⟨_, mm, d⟩ := m.h_at; d.mc (L.cl .h) mm (N := ["self", "spot"]) (ps := ["self", "spot"]) ⟨rfl, rfl, rfl, by decide +kernel, rfl, by decide +kernel, by decide +kernel⟩ (fun _ _ _ _ _ _ us hl => match us, hl with | [_, _], _ => rfl) (ok_hat L h mH mWa))
      exact z
    | w =>
      have z : Mc P w K mg base a.w "at" [] (h + 7) 2 (cLAt a h .w) := (let ⟨_, mm, d⟩ := m.w_at; d.mc (L.cl .w) mm (N := ["self", "spot", "ahead"]) (ps := ["self", "spot"]) ⟨rfl, rfl, rfl, by decide +kernel, rfl, by decide +kernel, by decide +kernel⟩ (fun _ _ _ _ _ _ us hl => match us, hl with | [_, _], _ => rfl) (ok_wat' h L (wA h) (wO h) mWa ih))
      exact z
  have fP : ∀ h κ, Mc P w K mg base (adK a κ) "spot_of" [] (h + 6) 2 (cLSp a h κ) := heights fun h ih κ => by
    cases κ with
    | o =>
      have z : Mc P w K mg base a.o "spot_of" [] 2 2 (cLSp a h .o) := (let ⟨_, mm, d⟩ := m.o_spot_of; d.mc (L.cl .o) mm (N := ["self", "person"]) (ps := ["self", "person"]) ⟨rfl, rfl, rfl, by decide +kernel, rfl, by decide +kernel, by decide +kernel⟩ (fun _ _ _ _ _ _ us hl => match us, hl with | [_, _], _ => rfl) (ok_osp L h))
      exact z.up (by omega)
    | b =>
      have z : Mc P w K mg base a.b "spot_of" [] (h + 6) 2 (cLSp a h .b) := (let ⟨_, mm, d⟩ := m.b_spot_of; d.mc (L.cl .b) mm (N := ["self", "person", "people", "rows", "first", "line"]) (ps := ["self", "person"]) ⟨rfl, rfl, rfl, by decide +kernel, rfl, by decide +kernel, by decide +kernel⟩ (fun _ _ _ _ _ _ us hl => match us, hl with | [_, _], _ => rfl) (ok_bsp h L mB ih))
      exact z
    | k =>
      have z : Mc P w K mg base a.k "spot_of" [] (h + 6) 2 (cLSp a h .k) := (let ⟨_, mm, d⟩ := m.k_spot_of; d.mc (L.cl .k) mm (N := ["self", "person"]) (ps := ["self", "person"]) ⟨rfl, rfl, rfl, by decide +kernel, rfl, by decide +kernel, by decide +kernel⟩ (fun _ _ _ _ _ _ us hl => match us, hl with | [_, _], _ => rfl) (ok_ksp L h fPo))
      exact z
    | h =>
      have z : Mc P w K mg base a.h "spot_of" [] (h + 6) 2 (cLSp a h .h) := (let ⟨_, mm, d⟩ := m.h_spot_of; d.mc (L.cl .h) mm (N := ["self", "person", "number"]) (ps := ["self", "person"]) ⟨rfl, rfl, rfl, by decide +kernel, rfl, by decide +kernel, by decide +kernel⟩ (fun _ _ _ _ _ _ us hl => match us, hl with | [_, _], _ => rfl) (ok_hsp L h mH mWn))
      exact z
    | w =>
      have z : Mc P w K mg base a.w "spot_of" [] (h + 6) 2 (cLSp a h .w) := (let ⟨_, mm, d⟩ := m.w_spot_of; d.mc (L.cl .w) mm (N := ["self", "person", "spot"]) (ps := ["self", "person"]) ⟨rfl, rfl, rfl, by decide +kernel, rfl, by decide +kernel, by decide +kernel⟩ (fun _ _ _ _ _ _ us hl => match us, hl with | [_, _], _ => rfl) (ok_wsp h F L (wP h) (wO h) mWn ih))
      exact z
  refine ⟨fS, fR, fA, fP, heights fun h ih => ?_⟩
  have kO : Kc P w K mg base "OneLine" a.o [] 2 1 (cIniO a) := (let ⟨_, mm, d⟩ := m.o_init; d.kc L.ao mm (N := ["self"]) (ps := ["self"]) ⟨rfl, rfl, rfl, by decide +kernel, rfl, by decide +kernel, by decide +kernel⟩ (fun _ _ _ _ _ _ us hl => match us, hl with | [_], _ => rfl) (ok_oini L))
  have kB : Kc P w K mg base "BesideLine" a.b [] (3 * h + 9) 2 (cIniL a .b h) := (let ⟨_, mm, d⟩ := m.b_init; d.kc L.ab mm (N := nBIni) (ps := ["self", "plan"]) ⟨rfl, rfl, rfl, by decide +kernel, rfl, by decide +kernel, by decide +kernel⟩ (fun _ _ _ _ _ _ us hl => match us, hl with | [_, _], _ => rfl) (ok_bini h L fPa ih))
  have kK : Kc P w K mg base "CopiesLine" a.k [] 3 2 (cIniL a .k h) := (let ⟨_, mm, d⟩ := m.k_init; d.kc L.ak mm (N := ["self", "plan"]) (ps := ["self", "plan"]) ⟨rfl, rfl, rfl, by decide +kernel, rfl, by decide +kernel, by decide +kernel⟩ (fun _ _ _ _ _ _ us hl => match us, hl with | [_, _], _ => rfl) (ok_kini h X L pPeo))
  have kH : Kc P w K mg base "HalvesLine" a.h [] 5 2 (cIniL a .h h) := (let ⟨_, mm, d⟩ := m.h_init; d.kc L.ah mm (N := ["self", "plan"]) (ps := ["self", "plan"]) ⟨rfl, rfl, rfl, by decide +kernel, rfl, by decide +kernel, by decide +kernel⟩ (fun _ _ _ _ _ _ us hl => match us, hl with | [_, _], _ => rfl) (ok_hini h X L fBy kWi))
  have kW : Kc P w K mg base "WovenLine" a.w [] (3 * h + 9) 3 (cIniW a h) := (let ⟨_, mm, d⟩ := m.w_init; d.kc L.aw mm (N := nWIni) (ps := ["self", "plan", "is_round"]) ⟨rfl, rfl, rfl, by decide +kernel, rfl, by decide +kernel, by decide +kernel⟩ (fun _ _ _ _ _ _ us hl => match us, hl with | [_, _, _], _ => rfl) (ok_wini h F L fBy ih fPa kWi (fun j _ => wS j)))
  exact fL.fc (N := ["plan", "most", "others"]) (ps := ["plan"]) ⟨rfl, rfl, rfl, by decide +kernel, rfl, by decide +kernel, by decide +kernel⟩ (fun _ _ _ _ _ _ us hl => match us, hl with | [_], _ => rfl) (ok_line h F X L kO kB kK kH kW fMo)
end
end W
/-! DL26: methods of classes with slots, from the text. -/
namespace DL
open PySem PySem.Spec PyProof.Rows L2 SlX
section
variable {P : Program} {w : World} {K : PySem.W.Frag} {mg : Str → Option Value} {base : Heap} {x qual : Str} {st : Stmt} {N ps : List Str} {j k n : Nat} {c : Con} {dd : List D} {C : Addr} {m : Str} {f p : Addr}
theorem Md.sm (D : Md K C m qual st f) (cl : SCls K C) (me : Meth K C m f) (S : FnScope N ps (defScope st))
    (hb : ∀ (kV doc pm : Value) (an : Option Addr) (cdv ct : Value) (us : List Value), us.length = ps.length → bindArgs (PySem.W.fnOf m qual (defArgs st) (defBody st) (defScope st) .none kV doc pm an cdv ct) ⟨us, []⟩ = pure (ps.zip us))
    (h : BodyOk P w K mg base qual st N ps.length k c) : Mg P w K mg base C m (k + 1) ps.length c := by
  obtain ⟨fd, F⟩ := D.ex
  exact ⟨cl, f, fd, ps, fn_ok F S (h f), me, F.bindsN hb⟩
end
end DL
/-! the whole of law_k36_whole_great_seatings. -/
namespace W
open PySem PySem.Spec PyProof.Rows L2 DL He HK
section
variable {P : Program} {w : World} {K : PySem.W.Frag} {mg : Str → Option Value} {base h : Heap}
theorem mkFx (X : K.In h) (G : h.Ns mainGlobals mg) (c : Says spec w K) : Fx w K mg where
  bn := fun x hx => free_ok X G (c.fa (mem_bn hx))
  gONE := str_ok X G (c.fa (f := .str "ONE" "one") (mem_co 0 rfl))
  gNAME := str_ok X G (c.fa (f := .str "NAME" "name") (mem_co 1 rfl))
  gBESIDE := str_ok X G (c.fa (f := .str "BESIDE" "beside") (mem_co 2 rfl))
  gINTRODUCED := str_ok X G (c.fa (f := .str "INTRODUCED" "introduced") (mem_co 3 rfl))
  gBLANK := str_ok X G (c.fa (f := .str "BLANK" " ") (mem_co 4 rfl))
  gLETTERS := str_ok X G (c.fa (f := .str "LETTERS" "abcdefghijklmnopqrstuvwxyz") (mem_co 5 rfl))
  gFIGURES := str_ok X G (c.fa (f := .str "FIGURES" "0123456789") (mem_co 6 rfl))
  gMOST_LETTERS := int_ok X G (c.fa (f := .int "MOST_LETTERS" 8) (mem_co 7 rfl))
  gPERSON := str_ok X G (c.fa (f := .str "PERSON" "1") (mem_co 8 rfl))
  gLEAST_MANY := int_ok X G (c.fa (f := .int "LEAST_MANY" 2) (mem_co 9 rfl))
  gMOST_MANY := int_ok X G (c.fa (f := .int "MOST_MANY" (10 ^ 30)) (mem_co 10 rfl))
  gMOST_NAMES := int_ok X G (c.fa (f := .int "MOST_NAMES" 3) (mem_co 11 rfl))
  gMOST_DEPTH := int_ok X G (c.fa (f := .int "MOST_DEPTH" 60) (mem_co 12 rfl))
  gSIGNS := let ⟨kvs, h1, h2⟩ := c.ta 0 (x := "SIGNS") (qs := tSigns) rfl (by decide +kernel); ⟨_, kvs, glo_ok X G (c.fa (f := .glo "SIGNS") (mem_glo (by decide +kernel))), h1, h2⟩
  gAROUND := let ⟨kvs, h1, h2⟩ := c.ta 1 (x := "AROUND") (qs := tAround) rfl (by decide +kernel); ⟨_, kvs, glo_ok X G (c.fa (f := .glo "AROUND") (mem_glo (by decide +kernel))), h1, h2⟩
  gTURNED := let ⟨kvs, h1, h2⟩ := c.ta 2 (x := "TURNED") (qs := tTurned) rfl (by decide +kernel); ⟨_, kvs, glo_ok X G (c.fa (f := .glo "TURNED") (mem_glo (by decide +kernel))), h1, h2⟩
theorem mkPx (X : K.In h) (G : h.Ns mainGlobals mg) (c : Says spec w K) : Px K mg (ga K "Plan") where
  at_ := glo_ok X G (c.fa (f := .glo "Plan") (mem_glo (by decide +kernel)))
  cl := cls_ok (c.fa (f := .cls "Plan") (mem_co 13 rfl))
  na := fun f hf => noat_ok (c.fa (mem_na hf))
  init := ⟨_, mkr_ok (c.fa (f := .mkr "Plan") (mem_co 15 rfl)), ⟨c.dd 1 rfl⟩⟩
  text := ⟨_, _, propB_ok (c.pr (q := ("Plan", "text")) (by decide +kernel)), ⟨c.dd 2 rfl⟩⟩
  names := ⟨_, _, propB_ok (c.pr (q := ("Plan", "names")) (by decide +kernel)), ⟨c.dd 3 rfl⟩⟩
  word := ⟨_, _, propB_ok (c.pr (q := ("Plan", "word")) (by decide +kernel)), ⟨c.dd 4 rfl⟩⟩
  many := ⟨_, _, propB_ok (c.pr (q := ("Plan", "many")) (by decide +kernel)), ⟨c.dd 5 rfl⟩⟩
  invert := ⟨_, meth_ok (c.fa (f := .meth "Plan" "__invert__") (mem_co 14 rfl)), ⟨c.dd 7 rfl⟩⟩
theorem mkDf (X : K.In h) (G : h.Ns mainGlobals mg) (c : Says spec w K) (i : Nat) {x : Str} {st : Stmt} (hd : dds[i]? = some (gl x st)) (hx : x ∈ globsA) : Df K mg x st [] :=
  let ⟨fd, F⟩ := c.dd i hd
  ⟨_, fd, F, glo_ok X G (c.fa (mem_glo hx))⟩
theorem mkWx (X : K.In h) (G : h.Ns mainGlobals mg) (c : Says spec w K) : Wx K mg (ga K "Crowd") where
  at_ := glo_ok X G (c.fa (f := .glo "Crowd") (mem_glo (by decide +kernel)))
  cl := cls_ok (c.fa (f := .cls "Crowd") (mem_co 16 rfl))
  na := fun f hf => by
    rcases List.mem_cons.mp hf with rfl | hf
    · exact noat_ok (c.fa (f := .noat "Crowd" "own_blocks") (mem_co 17 rfl))
    rw [List.mem_singleton.mp hf]; exact noat_ok (c.fa (f := .noat "Crowd" "own_people") (mem_co 18 rfl))
  init := ⟨_, mkr_ok (c.fa (f := .mkr "Crowd") (mem_co 19 rfl)), ⟨c.dd 40 rfl⟩⟩
  ats := ⟨_, meth_ok (c.fa (f := .meth "Crowd" "at") (mem_co 20 rfl)), ⟨c.dd 8 rfl⟩⟩
  num := ⟨_, meth_ok (c.fa (f := .meth "Crowd" "number_of") (mem_co 21 rfl)), ⟨c.dd 9 rfl⟩⟩
theorem mkZx (X : K.In h) (G : h.Ns mainGlobals mg) (c : Says spec w K) : Zx K mg (ga K "Seating") where
  at_ := glo_ok X G (c.fa (f := .glo "Seating") (mem_glo (by decide +kernel)))
  cl := cls_ok (c.fa (f := .cls "Seating") (mem_co 22 rfl))
  na := fun f hf => by
    rcases List.mem_cons.mp hf with rfl | hf
    · exact noat_ok (c.fa (f := .noat "Seating" "own_plan") (mem_co 23 rfl))
    rw [List.mem_singleton.mp hf]; exact noat_ok (c.fa (f := .noat "Seating" "own_line") (mem_co 24 rfl))
  init := ⟨_, mkr_ok (c.fa (f := .mkr "Seating") (mem_co 25 rfl)), ⟨c.dd 41 rfl⟩⟩
  plan := ⟨_, _, propB_ok (c.pr (q := ("Seating", "plan")) (by decide +kernel)), ⟨c.dd 47 rfl⟩⟩
  rows := ⟨_, _, propB_ok (c.pr (q := ("Seating", "rows")) (by decide +kernel)), ⟨c.dd 48 rfl⟩⟩
  made := ⟨_, meth_ok (c.fa (f := .meth "Seating" "made") (mem_co 26 rfl)), ⟨c.dd 10 rfl⟩⟩
  length := ⟨_, meth_ok (c.fa (f := .meth "Seating" "length") (mem_co 27 rfl)), ⟨c.dd 11 rfl⟩⟩
  ats := ⟨_, meth_ok (c.fa (f := .meth "Seating" "at") (mem_co 28 rfl)), ⟨c.dd 12 rfl⟩⟩
  place := ⟨_, meth_ok (c.fa (f := .meth "Seating" "place") (mem_co 29 rfl)), ⟨c.dd 13 rfl⟩⟩
theorem mkLx (X : K.In h) (G : h.Ns mainGlobals mg) (c : Says spec w K) : Lx K mg ⟨ga K "Plan", ga K "Crowd", ga K "OneLine", ga K "BesideLine", ga K "CopiesLine", ga K "HalvesLine", ga K "WovenLine"⟩ where
  cr := mkWx X G c
  ao := glo_ok X G (c.fa (f := .glo "OneLine") (mem_glo (by decide +kernel)))
  ab := glo_ok X G (c.fa (f := .glo "BesideLine") (mem_glo (by decide +kernel)))
  ak := glo_ok X G (c.fa (f := .glo "CopiesLine") (mem_glo (by decide +kernel)))
  ah := glo_ok X G (c.fa (f := .glo "HalvesLine") (mem_glo (by decide +kernel)))
  aw := glo_ok X G (c.fa (f := .glo "WovenLine") (mem_glo (by decide +kernel)))
  cl := fun κ => by
    cases κ with
    | o => exact cls_ok (c.fa (f := .cls "OneLine") (mem_co 30 rfl))
    | b => exact cls_ok (c.fa (f := .cls "BesideLine") (mem_co 46 rfl))
    | k => exact cls_ok (c.fa (f := .cls "CopiesLine") (mem_co 63 rfl))
    | h => exact cls_ok (c.fa (f := .cls "HalvesLine") (mem_co 79 rfl))
    | w => exact cls_ok (c.fa (f := .cls "WovenLine") (mem_co 96 rfl))
  na := fun κ f hf => by
    cases κ with
    | o =>
      rcases List.mem_cons.mp hf with rfl | hf
      · exact noat_ok (c.fa (f := .noat "OneLine" "own_people") (mem_co 31 rfl))
      rcases List.mem_cons.mp hf with rfl | hf
      · exact noat_ok (c.fa (f := .noat "OneLine" "own_rows") (mem_co 32 rfl))
      rcases List.mem_cons.mp hf with rfl | hf
      · exact noat_ok (c.fa (f := .noat "OneLine" "own_blocks") (mem_co 33 rfl))
      rcases List.mem_cons.mp hf with rfl | hf
      · exact noat_ok (c.fa (f := .noat "OneLine" "own_many") (mem_co 34 rfl))
      rcases List.mem_cons.mp hf with rfl | hf
      · exact noat_ok (c.fa (f := .noat "OneLine" "own_part") (mem_co 35 rfl))
      rcases List.mem_cons.mp hf with rfl | hf
      · exact noat_ok (c.fa (f := .noat "OneLine" "own_crowd") (mem_co 36 rfl))
      rcases List.mem_cons.mp hf with rfl | hf
      · exact noat_ok (c.fa (f := .noat "OneLine" "own_number") (mem_co 37 rfl))
      rcases List.mem_cons.mp hf with rfl | hf
      · exact noat_ok (c.fa (f := .noat "OneLine" "own_line") (mem_co 38 rfl))
      rcases List.mem_cons.mp hf with rfl | hf
      · exact noat_ok (c.fa (f := .noat "OneLine" "own_others") (mem_co 39 rfl))
      rw [List.mem_singleton.mp hf]; exact noat_ok (c.fa (f := .noat "OneLine" "own_single") (mem_co 40 rfl))
    | b =>
      rcases List.mem_cons.mp hf with rfl | hf
      · exact noat_ok (c.fa (f := .noat "BesideLine" "own_people") (mem_co 47 rfl))
      rcases List.mem_cons.mp hf with rfl | hf
      · exact noat_ok (c.fa (f := .noat "BesideLine" "own_rows") (mem_co 48 rfl))
      rcases List.mem_cons.mp hf with rfl | hf
      · exact noat_ok (c.fa (f := .noat "BesideLine" "own_blocks") (mem_co 49 rfl))
      rcases List.mem_cons.mp hf with rfl | hf
      · exact noat_ok (c.fa (f := .noat "BesideLine" "own_many") (mem_co 50 rfl))
      rcases List.mem_cons.mp hf with rfl | hf
      · exact noat_ok (c.fa (f := .noat "BesideLine" "own_part") (mem_co 51 rfl))
      rcases List.mem_cons.mp hf with rfl | hf
      · exact noat_ok (c.fa (f := .noat "BesideLine" "own_crowd") (mem_co 52 rfl))
      rcases List.mem_cons.mp hf with rfl | hf
      · exact noat_ok (c.fa (f := .noat "BesideLine" "own_number") (mem_co 53 rfl))
      rcases List.mem_cons.mp hf with rfl | hf
      · exact noat_ok (c.fa (f := .noat "BesideLine" "own_line") (mem_co 54 rfl))
      rcases List.mem_cons.mp hf with rfl | hf
      · exact noat_ok (c.fa (f := .noat "BesideLine" "own_others") (mem_co 55 rfl))
      rw [List.mem_singleton.mp hf]; exact noat_ok (c.fa (f := .noat "BesideLine" "own_single") (mem_co 56 rfl))
    | k =>
      rcases List.mem_cons.mp hf with rfl | hf
      · exact noat_ok (c.fa (f := .noat "CopiesLine" "own_people") (mem_co 64 rfl))
      rcases List.mem_cons.mp hf with rfl | hf
      · exact noat_ok (c.fa (f := .noat "CopiesLine" "own_rows") (mem_co 65 rfl))
      rcases List.mem_cons.mp hf with rfl | hf
      · exact noat_ok (c.fa (f := .noat "CopiesLine" "own_blocks") (mem_co 66 rfl))
      rcases List.mem_cons.mp hf with rfl | hf
      · exact noat_ok (c.fa (f := .noat "CopiesLine" "own_many") (mem_co 67 rfl))
      rcases List.mem_cons.mp hf with rfl | hf
      · exact noat_ok (c.fa (f := .noat "CopiesLine" "own_part") (mem_co 68 rfl))
      rcases List.mem_cons.mp hf with rfl | hf
      · exact noat_ok (c.fa (f := .noat "CopiesLine" "own_crowd") (mem_co 69 rfl))
      rcases List.mem_cons.mp hf with rfl | hf
      · exact noat_ok (c.fa (f := .noat "CopiesLine" "own_number") (mem_co 70 rfl))
      rcases List.mem_cons.mp hf with rfl | hf
      · exact noat_ok (c.fa (f := .noat "CopiesLine" "own_line") (mem_co 71 rfl))
      rcases List.mem_cons.mp hf with rfl | hf
      · exact noat_ok (c.fa (f := .noat "CopiesLine" "own_others") (mem_co 72 rfl))
      rw [List.mem_singleton.mp hf]; exact noat_ok (c.fa (f := .noat "CopiesLine" "own_single") (mem_co 73 rfl))
    | h =>
      rcases List.mem_cons.mp hf with rfl | hf
      · exact noat_ok (c.fa (f := .noat "HalvesLine" "own_people") (mem_co 80 rfl))
      rcases List.mem_cons.mp hf with rfl | hf
      · exact noat_ok (c.fa (f := .noat "HalvesLine" "own_rows") (mem_co 81 rfl))
      rcases List.mem_cons.mp hf with rfl | hf
      · exact noat_ok (c.fa (f := .noat "HalvesLine" "own_blocks") (mem_co 82 rfl))
      rcases List.mem_cons.mp hf with rfl | hf
      · exact noat_ok (c.fa (f := .noat "HalvesLine" "own_many") (mem_co 83 rfl))
      rcases List.mem_cons.mp hf with rfl | hf
      · exact noat_ok (c.fa (f := .noat "HalvesLine" "own_part") (mem_co 84 rfl))
      rcases List.mem_cons.mp hf with rfl | hf
      · exact noat_ok (c.fa (f := .noat "HalvesLine" "own_crowd") (mem_co 85 rfl))
      rcases List.mem_cons.mp hf with rfl | hf
      · exact noat_ok (c.fa (f := .noat "HalvesLine" "own_number") (mem_co 86 rfl))
      rcases List.mem_cons.mp hf with rfl | hf
      · exact noat_ok (c.fa (f := .noat "HalvesLine" "own_line") (mem_co 87 rfl))
      rcases List.mem_cons.mp hf with rfl | hf
      · exact noat_ok (c.fa (f := .noat "HalvesLine" "own_others") (mem_co 88 rfl))
      rw [List.mem_singleton.mp hf]; exact noat_ok (c.fa (f := .noat "HalvesLine" "own_single") (mem_co 89 rfl))
    | w =>
      rcases List.mem_cons.mp hf with rfl | hf
      · exact noat_ok (c.fa (f := .noat "WovenLine" "own_people") (mem_co 97 rfl))
      rcases List.mem_cons.mp hf with rfl | hf
      · exact noat_ok (c.fa (f := .noat "WovenLine" "own_rows") (mem_co 98 rfl))
      rcases List.mem_cons.mp hf with rfl | hf
      · exact noat_ok (c.fa (f := .noat "WovenLine" "own_blocks") (mem_co 99 rfl))
      rcases List.mem_cons.mp hf with rfl | hf
      · exact noat_ok (c.fa (f := .noat "WovenLine" "own_many") (mem_co 100 rfl))
      rcases List.mem_cons.mp hf with rfl | hf
      · exact noat_ok (c.fa (f := .noat "WovenLine" "own_part") (mem_co 101 rfl))
      rcases List.mem_cons.mp hf with rfl | hf
      · exact noat_ok (c.fa (f := .noat "WovenLine" "own_crowd") (mem_co 102 rfl))
      rcases List.mem_cons.mp hf with rfl | hf
      · exact noat_ok (c.fa (f := .noat "WovenLine" "own_number") (mem_co 103 rfl))
      rcases List.mem_cons.mp hf with rfl | hf
      · exact noat_ok (c.fa (f := .noat "WovenLine" "own_line") (mem_co 104 rfl))
      rcases List.mem_cons.mp hf with rfl | hf
      · exact noat_ok (c.fa (f := .noat "WovenLine" "own_others") (mem_co 105 rfl))
      rw [List.mem_singleton.mp hf]; exact noat_ok (c.fa (f := .noat "WovenLine" "own_single") (mem_co 106 rfl))
theorem mkLm (X : K.In h) (G : h.Ns mainGlobals mg) (c : Says spec w K) : Lm K ⟨ga K "Plan", ga K "Crowd", ga K "OneLine", ga K "BesideLine", ga K "CopiesLine", ga K "HalvesLine", ga K "WovenLine"⟩ where
  o_init := ⟨_, mkr_ok (c.fa (f := .mkr "OneLine") (mem_co 41 rfl)), ⟨c.dd 42 rfl⟩⟩
  o_start := ⟨_, meth_ok (c.fa (f := .meth "OneLine" "start") (mem_co 42 rfl)), ⟨c.dd 14 rfl⟩⟩
  o_row_of := ⟨_, meth_ok (c.fa (f := .meth "OneLine" "row_of") (mem_co 43 rfl)), ⟨c.dd 15 rfl⟩⟩
  o_at := ⟨_, meth_ok (c.fa (f := .meth "OneLine" "at") (mem_co 44 rfl)), ⟨c.dd 16 rfl⟩⟩
  o_spot_of := ⟨_, meth_ok (c.fa (f := .meth "OneLine" "spot_of") (mem_co 45 rfl)), ⟨c.dd 17 rfl⟩⟩
  b_init := ⟨_, mkr_ok (c.fa (f := .mkr "BesideLine") (mem_co 57 rfl)), ⟨c.dd 43 rfl⟩⟩
  b_block := ⟨_, meth_ok (c.fa (f := .meth "BesideLine" "block") (mem_co 58 rfl)), ⟨c.dd 18 rfl⟩⟩
  b_start := ⟨_, meth_ok (c.fa (f := .meth "BesideLine" "start") (mem_co 59 rfl)), ⟨c.dd 19 rfl⟩⟩
  b_row_of := ⟨_, meth_ok (c.fa (f := .meth "BesideLine" "row_of") (mem_co 60 rfl)), ⟨c.dd 20 rfl⟩⟩
  b_at := ⟨_, meth_ok (c.fa (f := .meth "BesideLine" "at") (mem_co 61 rfl)), ⟨c.dd 21 rfl⟩⟩
  b_spot_of := ⟨_, meth_ok (c.fa (f := .meth "BesideLine" "spot_of") (mem_co 62 rfl)), ⟨c.dd 22 rfl⟩⟩
  k_init := ⟨_, mkr_ok (c.fa (f := .mkr "CopiesLine") (mem_co 74 rfl)), ⟨c.dd 44 rfl⟩⟩
  k_start := ⟨_, meth_ok (c.fa (f := .meth "CopiesLine" "start") (mem_co 75 rfl)), ⟨c.dd 23 rfl⟩⟩
  k_row_of := ⟨_, meth_ok (c.fa (f := .meth "CopiesLine" "row_of") (mem_co 76 rfl)), ⟨c.dd 24 rfl⟩⟩
  k_at := ⟨_, meth_ok (c.fa (f := .meth "CopiesLine" "at") (mem_co 77 rfl)), ⟨c.dd 25 rfl⟩⟩
  k_spot_of := ⟨_, meth_ok (c.fa (f := .meth "CopiesLine" "spot_of") (mem_co 78 rfl)), ⟨c.dd 26 rfl⟩⟩
  h_init := ⟨_, mkr_ok (c.fa (f := .mkr "HalvesLine") (mem_co 90 rfl)), ⟨c.dd 45 rfl⟩⟩
  h_start := ⟨_, meth_ok (c.fa (f := .meth "HalvesLine" "start") (mem_co 91 rfl)), ⟨c.dd 27 rfl⟩⟩
  h_row_of := ⟨_, meth_ok (c.fa (f := .meth "HalvesLine" "row_of") (mem_co 92 rfl)), ⟨c.dd 28 rfl⟩⟩
  h_half := ⟨_, meth_ok (c.fa (f := .meth "HalvesLine" "half") (mem_co 93 rfl)), ⟨c.dd 29 rfl⟩⟩
  h_at := ⟨_, meth_ok (c.fa (f := .meth "HalvesLine" "at") (mem_co 94 rfl)), ⟨c.dd 30 rfl⟩⟩
  h_spot_of := ⟨_, meth_ok (c.fa (f := .meth "HalvesLine" "spot_of") (mem_co 95 rfl)), ⟨c.dd 31 rfl⟩⟩
  w_init := ⟨_, mkr_ok (c.fa (f := .mkr "WovenLine") (mem_co 107 rfl)), ⟨c.dd 46 rfl⟩⟩
  w_singles := ⟨_, meth_ok (c.fa (f := .meth "WovenLine" "singles") (mem_co 108 rfl)), ⟨c.dd 32 rfl⟩⟩
  w_piece_of := ⟨_, meth_ok (c.fa (f := .meth "WovenLine" "piece_of") (mem_co 109 rfl)), ⟨c.dd 33 rfl⟩⟩
  w_other_spot := ⟨_, meth_ok (c.fa (f := .meth "WovenLine" "other_spot") (mem_co 110 rfl)), ⟨c.dd 34 rfl⟩⟩
  w_ahead := ⟨_, meth_ok (c.fa (f := .meth "WovenLine" "ahead") (mem_co 111 rfl)), ⟨c.dd 35 rfl⟩⟩
  w_start := ⟨_, meth_ok (c.fa (f := .meth "WovenLine" "start") (mem_co 112 rfl)), ⟨c.dd 36 rfl⟩⟩
  w_row_of := ⟨_, meth_ok (c.fa (f := .meth "WovenLine" "row_of") (mem_co 113 rfl)), ⟨c.dd 37 rfl⟩⟩
  w_at := ⟨_, meth_ok (c.fa (f := .meth "WovenLine" "at") (mem_co 114 rfl)), ⟨c.dd 38 rfl⟩⟩
  w_spot_of := ⟨_, meth_ok (c.fa (f := .meth "WovenLine" "spot_of") (mem_co 115 rfl)), ⟨c.dd 39 rfl⟩⟩
theorem chain {C : Addr} {f : Addr} {fd : FuncData} (F : Fx w K mg) (X : Px K mg C) (X_people : ∃ p f, PropOf K C "people" p f ∧ Md K C "people" "Plan.people" s_Plan_people f) {aR aO aB aK aH aW : Addr} (XL : Lx K mg ⟨C, aR, aO, aB, aK, aH, aW⟩) (XM : Lm K ⟨C, aR, aO, aB, aK, aH, aW⟩) {S : Addr} (XZ : Zx K mg S) (DI : Df K mg "is_integer" s_is_integer [.non, .non]) (D : ∀ (i : Nat) {x : Str} {st : Stmt}, dds[i]? = some (gl x st) → x ∈ globsA → Df K mg x st [])
    (L : FunD K "law" "law" (defArgs s_law) (defBody s_law) (defScope s_law) [] [] f fd) : FnG P w K mg base 46 f fd ["_law_script"] (spD K 1 cLaw) := by
  have FI : Fc P w K mg base "is_integer" [] 1 3 cIsInt := DI.fcD (N := ["value", "low", "high"]) (ps := ["value", "low", "high"]) ⟨rfl, rfl, rfl, by decide +kernel, rfl, by decide +kernel, by decide +kernel⟩ 3 2 (by simp) rfl (fun _ _ _ => .nil) (fun _ _ _ _ _ _ _ us its h1 h2 => match us, its, h1, h2 with | [_, _, _], [_, _], _, _ => ⟨_, rfl, rfl⟩) (ok_is_integer F)
  have fName : Fc P w K mg base "is_name" [] 1 1 cIsName := (D 49 rfl (by decide +kernel)).fc (N := ["value", "letter"]) (ps := ["value"]) ⟨rfl, rfl, rfl, by decide +kernel, rfl, by decide +kernel, by decide +kernel⟩ (fun _ _ _ _ _ _ us hl => match us, hl with | [_], _ => rfl) (ok_is_name F)
  have fNum : Fc P w K mg base "number_in" [] 1 1 cNumberIn := (D 50 rfl (by decide +kernel)).fc (N := ["text", "figure"]) (ps := ["text"]) ⟨rfl, rfl, rfl, by decide +kernel, rfl, by decide +kernel, by decide +kernel⟩ (fun _ _ _ _ _ _ us hl => match us, hl with | [_], _ => rfl) (ok_number_in F)
  have fPar : Fc P w K mg base "parted" [] 1 2 cParted := (D 51 rfl (by decide +kernel)).fc (N := ["text", "sign", "found", "depth", "begin", "at", "letter"]) (ps := ["text", "sign"]) ⟨rfl, rfl, rfl, by decide +kernel, rfl, by decide +kernel, by decide +kernel⟩ (fun _ _ _ _ _ _ us hl => match us, hl with | [_, _], _ => rfl) (ok_parted F)
  have fCop : Fc P w K mg base "copies_in" [] 2 1 cCopiesIn := (D 52 rfl (by decide +kernel)).fc (N := ["text", "word", "head", "end", "number", "blank", "rest", "many"]) (ps := ["text"]) ⟨rfl, rfl, rfl, by decide +kernel, rfl, by decide +kernel, by decide +kernel⟩ (fun _ _ _ _ _ _ us hl => match us, hl with | [_], _ => rfl) (ok_copies_in F fNum)
  have fRow : Fc P w K mg base "row_in" [] 2 1 cRowIn := (D 53 rfl (by decide +kernel)).fc (N := ["text", "word", "sign", "parts", "part"]) (ps := ["text"]) ⟨rfl, rfl, rfl, by decide +kernel, rfl, by decide +kernel, by decide +kernel⟩ (fun _ _ _ _ _ _ us hl => match us, hl with | [_], _ => rfl) (ok_row_in F fPar)
  have fGrp : Fc P w K mg base "groups_in" [] 3 1 cGroupsIn := (D 54 rfl (by decide +kernel)).fc (N := ["text", "found"]) (ps := ["text"]) ⟨rfl, rfl, rfl, by decide +kernel, rfl, by decide +kernel, by decide +kernel⟩ (fun _ _ _ _ _ _ us hl => match us, hl with | [_], _ => rfl) (ok_groups_in F fName fCop fRow)
  have fPt : ∀ h, Fc P w K mg base "is_plan_text" [] (h + 4) 2 (cPlanText h) := by
    intro h
    induction h with
    | zero => exact (D 55 rfl (by decide +kernel)).fc (N := ["text", "depth", "found", "many", "part"]) (ps := ["text", "depth"]) ⟨rfl, rfl, rfl, by decide +kernel, rfl, by decide +kernel, by decide +kernel⟩ (fun _ _ _ _ _ _ us hl => match us, hl with | [_, _], _ => rfl) (ok_is_plan_text 0 F fGrp (fun j hj => by omega))
    | succ h ih => exact (D 55 rfl (by decide +kernel)).fc (N := ["text", "depth", "found", "many", "part"]) (ps := ["text", "depth"]) ⟨rfl, rfl, rfl, by decide +kernel, rfl, by decide +kernel, by decide +kernel⟩ (fun _ _ _ _ _ _ us hl => match us, hl with | [_, _], _ => rfl) (ok_is_plan_text (h + 1) F fGrp (fun j hj => by cases hj; exact ih))
  have fNm : ∀ h, Fc P w K mg base "names_in" [] (h + 4) 1 (cNamesIn h) := by
    intro h
    induction h with
    | zero => exact (D 56 rfl (by decide +kernel)).fc (N := ["text", "word", "groups", "found", "many", "part", "name"]) (ps := ["text"]) ⟨rfl, rfl, rfl, by decide +kernel, rfl, by decide +kernel, by decide +kernel⟩ (fun _ _ _ _ _ _ us hl => match us, hl with | [_], _ => rfl) (ok_names_in 0 F fGrp (fun j hj => by omega))
    | succ h ih => exact (D 56 rfl (by decide +kernel)).fc (N := ["text", "word", "groups", "found", "many", "part", "name"]) (ps := ["text"]) ⟨rfl, rfl, rfl, by decide +kernel, rfl, by decide +kernel, by decide +kernel⟩ (fun _ _ _ _ _ _ us hl => match us, hl with | [_], _ => rfl) (ok_names_in (h + 1) F fGrp (fun j hj => by cases hj; exact ih))
  obtain ⟨fi, mk, mi⟩ := X.init
  have kPlan : ∀ h, Kc P w K mg base "Plan" C [] (2 * h + 6) 2 (cInit C h) := by
    intro h
    induction h with
    | zero => exact mi.kc X.at_ mk (N := nInit) (ps := ["self", "text"]) ⟨rfl, rfl, rfl, by decide +kernel, rfl, by decide +kernel, by decide +kernel⟩ (fun _ _ _ _ _ _ us hl => match us, hl with | [_, _], _ => rfl) (ok_init 0 F X (fPt 0) (fNm 0) fGrp (fun j hj => by omega))
    | succ h ih => exact mi.kc X.at_ mk (N := nInit) (ps := ["self", "text"]) ⟨rfl, rfl, rfl, by decide +kernel, rfl, by decide +kernel, by decide +kernel⟩ (fun _ _ _ _ _ _ us hl => match us, hl with | [_, _], _ => rfl) (ok_init (h + 1) F X (fPt (h + 1)) (fNm (h + 1)) fGrp (fun j hj => by cases hj; exact ih))
  obtain ⟨p1, g1, pr1, m1⟩ := X.text
  obtain ⟨p2, g2, pr2, m2⟩ := X.names
  obtain ⟨p3, g3, pr3, m3⟩ := X.word
  obtain ⟨p4, g4, pr4, m4⟩ := X.many
  have pText : Pc P w K mg base C "text" 1 (cGet C fun t => tS (PL.txt t)) := m1.pc X.cl pr1 (N := ["self"]) ⟨rfl, rfl, rfl, by decide +kernel, rfl, by decide +kernel, by decide +kernel⟩ (fun _ _ _ _ _ _ us hl => match us, hl with | [_], _ => rfl) (ok_text X)
  have pNames : Pc P w K mg base C "names" 1 (cGet C fun t => .tup []) := m2.pc X.cl pr2 (N := ["self"]) ⟨rfl, rfl, rfl, by decide +kernel, rfl, by decide +kernel, by decide +kernel⟩ (fun _ _ _ _ _ _ us hl => match us, hl with | [_], _ => rfl) (ok_names X)
  have pWord : Pc P w K mg base C "word" 1 (cGet C fun t => .str (wordT t)) := m3.pc X.cl pr3 (N := ["self"]) ⟨rfl, rfl, rfl, by decide +kernel, rfl, by decide +kernel, by decide +kernel⟩ (fun _ _ _ _ _ _ us hl => match us, hl with | [_], _ => rfl) (ok_word X)
  have pMany : Pc P w K mg base C "many" 1 (cGet C fun t => .int (PL.cnt t : Nat)) := m4.pc X.cl pr4 (N := ["self", "many", "part"]) ⟨rfl, rfl, rfl, by decide +kernel, rfl, by decide +kernel, by decide +kernel⟩ (fun _ _ _ _ _ _ us hl => match us, hl with | [_], _ => rfl) (ok_many F X)
  have fTold : Fc P w K mg base "check_told" [] 3 1 (cTold C) := (D 57 rfl (by decide +kernel)).fc (N := ["plan"]) (ps := ["plan"]) ⟨rfl, rfl, rfl, by decide +kernel, rfl, by decide +kernel, by decide +kernel⟩ (fun _ _ _ _ _ _ us hl => match us, hl with | [_], _ => rfl) (ok_check_told pNames)
  have fAt : Fc P w K mg base "part_at" [] 1 2 (cPartAt C) := (D 58 rfl (by decide +kernel)).fc (N := ["plan", "number"]) (ps := ["plan", "number"]) ⟨rfl, rfl, rfl, by decide +kernel, rfl, by decide +kernel, by decide +kernel⟩ (fun _ _ _ _ _ _ us hl => match us, hl with | [_, _], _ => rfl) (ok_part_at X)
  have fIs : Fc P w K mg base "is_person" [] 3 2 (cIsPerson C) := (D 59 rfl (by decide +kernel)).fc (N := ["plan", "value", "here", "number"]) (ps := ["plan", "value"]) ⟨rfl, rfl, rfl, by decide +kernel, rfl, by decide +kernel, by decide +kernel⟩ (fun _ _ _ _ _ _ us hl => match us, hl with | [_, _], _ => rfl) (ok_is_person F FI pMany fAt pWord)
  have fChk : Fc P w K mg base "check_person" [] 4 2 (cCheckPerson C) := (D 60 rfl (by decide +kernel)).fc (N := ["plan", "value"]) (ps := ["plan", "value"]) ⟨rfl, rfl, rfl, by decide +kernel, rfl, by decide +kernel, by decide +kernel⟩ (fun _ _ _ _ _ _ us hl => match us, hl with | [_, _], _ => rfl) (ok_check_person fIs)
  have fAh : Fc P w K mg base "ahead_of" [] 1 2 (cAhead C) := (D 61 rfl (by decide +kernel)).fc (N := ["plan", "number", "many", "part"]) (ps := ["plan", "number"]) ⟨rfl, rfl, rfl, by decide +kernel, rfl, by decide +kernel, by decide +kernel⟩ (fun _ _ _ _ _ _ us hl => match us, hl with | [_, _], _ => rfl) (ok_ahead_of F X)
  have fSp : Fc P w K mg base "spot_of" [] 1 2 (cSpot C) := (D 62 rfl (by decide +kernel)).fc (N := ["plan", "number", "size", "spot", "left"]) (ps := ["plan", "number"]) ⟨rfl, rfl, rfl, by decide +kernel, rfl, by decide +kernel, by decide +kernel⟩ (fun _ _ _ _ _ _ us hl => match us, hl with | [_, _], _ => rfl) (ok_spot_of X)
  have fNth : Fc P w K mg base "nth_person" [] 3 2 (cNth C) := (D 63 rfl (by decide +kernel)).fc (N := nNth) (ps := ["plan", "number"]) ⟨rfl, rfl, rfl, by decide +kernel, rfl, by decide +kernel, by decide +kernel⟩ (fun _ _ _ _ _ _ us hl => match us, hl with | [_, _], _ => rfl) (ok_nth_person F pWord fSp fAt)
  have fPo : Fc P w K mg base "place_of" [] 2 2 (cPlace C) := (D 64 rfl (by decide +kernel)).fc (N := ["plan", "person", "found", "here", "spot"]) (ps := ["plan", "person"]) ⟨rfl, rfl, rfl, by decide +kernel, rfl, by decide +kernel, by decide +kernel⟩ (fun _ _ _ _ _ _ us hl => match us, hl with | [_, _], _ => rfl) (ok_place_of fAh fAt)
  obtain ⟨pPeop, pPeog, pPeopr, pPeom⟩ := X_people
  have pPeo : Pc P w K mg base C "people" 1 (cGet C fun t => .int (PL.ppl t : Nat)) := pPeom.pc X.cl pPeopr (N := ["self"]) ⟨rfl, rfl, rfl, by decide +kernel, rfl, by decide +kernel, by decide +kernel⟩ (fun _ _ _ _ _ _ us hl => match us, hl with | [_], _ => rfl) (ok_people X)
  have fPa : Fc P w K mg base "parts_of" [] 1 1 (cParts C) := (D 65 rfl (by decide +kernel)).fc (N := nParts) (ps := ["plan"]) ⟨rfl, rfl, rfl, by decide +kernel, rfl, by decide +kernel, by decide +kernel⟩ (fun _ _ _ _ _ _ us hl => match us, hl with | [_], _ => rfl) (ok_parts_of X)
  obtain ⟨kWif, kWim, kWid⟩ := XL.cr.init
  have kWi : Kc P w K mg base "Crowd" aR [] 3 2 (cWInit C aR) := kWid.kc XL.cr.at_ kWim (N := nWInit) (ps := ["self", "parts"]) ⟨rfl, rfl, rfl, by decide +kernel, rfl, by decide +kernel, by decide +kernel⟩ (fun _ _ _ _ _ _ us hl => match us, hl with | [_, _], _ => rfl) (ok_winit XL.cr pPeo)
  obtain ⟨mWaf, mWam, mWad⟩ := XL.cr.ats
  have mWa : Mc P w K mg base aR "at" [] 4 2 (cWAt C aR) := mWad.mc XL.cr.cl mWam (N := nWAt) (ps := ["self", "number"]) ⟨rfl, rfl, rfl, by decide +kernel, rfl, by decide +kernel, by decide +kernel⟩ (fun _ _ _ _ _ _ us hl => match us, hl with | [_, _], _ => rfl) (ok_wat XL.cr fNth)
  obtain ⟨mWnf, mWnm, mWnd⟩ := XL.cr.num
  have mWn : Mc P w K mg base aR "number_of" [] 4 2 (cWNum C aR) := mWnd.mc XL.cr.cl mWnm (N := nWNum) (ps := ["self", "person"]) ⟨rfl, rfl, rfl, by decide +kernel, rfl, by decide +kernel, by decide +kernel⟩ (fun _ _ _ _ _ _ us hl => match us, hl with | [_, _], _ => rfl) (ok_wnum XL.cr fPo)
  have fBy : Fc P w K mg base "by_people" [] 3 1 (cByP C) := (D 66 rfl (by decide +kernel)).fc (N := nByP) (ps := ["plan"]) ⟨rfl, rfl, rfl, by decide +kernel, rfl, by decide +kernel, by decide +kernel⟩ (fun _ _ _ _ _ _ us hl => match us, hl with | [_], _ => rfl) (ok_by_people F X fPa pPeo)
  have fMo : Fc P w K mg base "most_and_others" [] 3 1 (cMost C) := (D 67 rfl (by decide +kernel)).fc (N := nMost) (ps := ["plan"]) ⟨rfl, rfl, rfl, by decide +kernel, rfl, by decide +kernel, by decide +kernel⟩ (fun _ _ _ _ _ _ us hl => match us, hl with | [_], _ => rfl) (ok_most F X fPa pPeo)
  have LO : Lo P w K mg base ⟨C, aR, aO, aB, aK, aH, aW⟩ := lines_ok F X XL XM fPa fNth fPo pPeo kWi mWa mWn fBy fMo (D 68 rfl (by decide +kernel))
  obtain ⟨mZmf, mZmm, mZmd⟩ := XZ.made
  have mZm : Mc P w K mg base S "made" [] 42 2 (cZMade ⟨C, aR, aO, aB, aK, aH, aW⟩ 10) := mZmd.mc XZ.cl mZmm (N := ["self", "plan"]) (ps := ["self", "plan"]) ⟨rfl, rfl, rfl, by decide +kernel, rfl, by decide +kernel, by decide +kernel⟩ (fun _ _ _ _ _ _ us hl => match us, hl with | [_, _], _ => rfl) (ok_zmade 10 (LO.line 10))
  obtain ⟨kZif, kZim, kZid⟩ := XZ.init
  have kZi : Kc P w K mg base "Seating" S [] 43 2 (cZInit ⟨C, aR, aO, aB, aK, aH, aW⟩ S 10) := kZid.kc XZ.at_ kZim (N := ["self", "plan"]) (ps := ["self", "plan"]) ⟨rfl, rfl, rfl, by decide +kernel, rfl, by decide +kernel, by decide +kernel⟩ (fun _ _ _ _ _ _ us hl => match us, hl with | [_, _], _ => rfl) (ok_zinit 10 XZ fTold mZm)
  obtain ⟨pZpp, pZpg, pZppr, pZpm⟩ := XZ.plan
  have pZp : Pc P w K mg base S "plan" 1 (cZPlan ⟨C, aR, aO, aB, aK, aH, aW⟩ S) := pZpm.pc XZ.cl pZppr (N := ["self"]) ⟨rfl, rfl, rfl, by decide +kernel, rfl, by decide +kernel, by decide +kernel⟩ (fun _ _ _ _ _ _ us hl => match us, hl with | [_], _ => rfl) (ok_zplan XZ)
  obtain ⟨pZrp, pZrg, pZrpr, pZrm⟩ := XZ.rows
  have pZr : Pc P w K mg base S "rows" 1 (cZRows ⟨C, aR, aO, aB, aK, aH, aW⟩ S) := pZrm.pc XZ.cl pZrpr (N := ["self"]) ⟨rfl, rfl, rfl, by decide +kernel, rfl, by decide +kernel, by decide +kernel⟩ (fun _ _ _ _ _ _ us hl => match us, hl with | [_], _ => rfl) (ok_zrows XL XZ)
  obtain ⟨mZlf, mZlm, mZld⟩ := XZ.length
  have mZl : Mc P w K mg base S "length" [] 15 2 (cZLen ⟨C, aR, aO, aB, aK, aH, aW⟩ S 10) := mZld.mc XZ.cl mZlm (N := ["self", "row"]) (ps := ["self", "row"]) ⟨rfl, rfl, rfl, by decide +kernel, rfl, by decide +kernel, by decide +kernel⟩ (fun _ _ _ _ _ _ us hl => match us, hl with | [_, _], _ => rfl) (ok_zlen 10 XL XZ FI (LO.st 10))
  obtain ⟨mZaf, mZam, mZad⟩ := XZ.ats
  have mZa : Mc P w K mg base S "at" [] 18 3 (cZAt ⟨C, aR, aO, aB, aK, aH, aW⟩ S 10) := mZad.mc XZ.cl mZam (N := ["self", "row", "seat"]) (ps := ["self", "row", "seat"]) ⟨rfl, rfl, rfl, by decide +kernel, rfl, by decide +kernel, by decide +kernel⟩ (fun _ _ _ _ _ _ us hl => match us, hl with | [_, _, _], _ => rfl) (ok_zat 10 XL XZ FI mZl (LO.st 10) (LO.at_ 10))
  obtain ⟨mZpf, mZpm, mZpd⟩ := XZ.place
  have mZp : Mc P w K mg base S "place" [] 17 2 (cZPl ⟨C, aR, aO, aB, aK, aH, aW⟩ S 10) := mZpd.mc XZ.cl mZpm (N := ["self", "person", "spot", "row"]) (ps := ["self", "person"]) ⟨rfl, rfl, rfl, by decide +kernel, rfl, by decide +kernel, by decide +kernel⟩ (fun _ _ _ _ _ _ us hl => match us, hl with | [_, _], _ => rfl) (ok_zpl 10 XL XZ fChk (LO.sp 10) (LO.ro 10) (LO.st 10))
  have fTk : Fc P w K mg base "_law_take" [] 1 2 cTake := (D 69 rfl (by decide +kernel)).fc (N := nTake) (ps := ["_law_pot_here", "_law_upto"]) ⟨rfl, rfl, rfl, by decide +kernel, rfl, by decide +kernel, by decide +kernel⟩ (fun _ _ _ _ _ _ us hl => match us, hl with | [_, _], _ => rfl) (ok_take F)
  have fOf : Fc P w K mg base "_law_of" [] 2 2 cOf := (D 70 rfl (by decide +kernel)).fc (N := ["_law_pot_here", "_law_some"]) (ps := ["_law_pot_here", "_law_some"]) ⟨rfl, rfl, rfl, by decide +kernel, rfl, by decide +kernel, by decide +kernel⟩ (fun _ _ _ _ _ _ us hl => match us, hl with | [_, _], _ => rfl) (ok_of F fTk)
  have fCe : Fc P w K mg base "_law_cells" [] 1 2 cCells := (D 71 rfl (by decide +kernel)).fc (N := ["_law_script", "_law_most"]) (ps := ["_law_script", "_law_most"]) ⟨rfl, rfl, rfl, by decide +kernel, rfl, by decide +kernel, by decide +kernel⟩ (fun _ _ _ _ _ _ us hl => match us, hl with | [_, _], _ => rfl) (ok_cells F)
  have fPot : Fc P w K mg base "_law_pot" [] 1 2 cPot := (D 72 rfl (by decide +kernel)).fc (N := nPot) (ps := ["_law_script", "_law_which"]) ⟨rfl, rfl, rfl, by decide +kernel, rfl, by decide +kernel, by decide +kernel⟩ (fun _ _ _ _ _ _ us hl => match us, hl with | [_, _], _ => rfl) (ok_pot F)
  have fFar : Fc P w K mg base "_law_far" [] 2 2 cFar := (D 73 rfl (by decide +kernel)).fc (N := nFar) (ps := ["_law_pot_here", "_law_upto"]) ⟨rfl, rfl, rfl, by decide +kernel, rfl, by decide +kernel, by decide +kernel⟩ (fun _ _ _ _ _ _ us hl => match us, hl with | [_, _], _ => rfl) (ok_far F fTk)
  have fP1 : Fc P w K mg base "_law_person" [] 1 0 cPers1 := (D 74 rfl (by decide +kernel)).fc (N := ([] : List Str)) (ps := []) ⟨rfl, rfl, rfl, by decide +kernel, rfl, by decide +kernel, by decide +kernel⟩ (fun _ _ _ _ _ _ us hl => match us, hl with | [], _ => rfl) (ok_person1)
  have fGt : ∀ h, Fc P w K mg base "_law_great" [] (h + 3) 3 (cGt h) := by
    intro h
    induction h with
    | zero => exact (D 75 rfl (by decide +kernel)).fc (N := nGt) (ps := ["_law_pot_here", "_law_most", "_law_deep_here"]) ⟨rfl, rfl, rfl, by decide +kernel, rfl, by decide +kernel, by decide +kernel⟩ (fun _ _ _ _ _ _ us hl => match us, hl with | [_, _, _], _ => rfl) (ok_great 0 F fTk fOf fP1 (fun j hj => by omega))
    | succ h ih => exact (D 75 rfl (by decide +kernel)).fc (N := nGt) (ps := ["_law_pot_here", "_law_most", "_law_deep_here"]) ⟨rfl, rfl, rfl, by decide +kernel, rfl, by decide +kernel, by decide +kernel⟩ (fun _ _ _ _ _ _ us hl => match us, hl with | [_, _, _], _ => rfl) (ok_great (h + 1) F fTk fOf fP1 (fun j hj => by cases hj; exact ih))
  have fDe : Fc P w K mg base "_law_deep" [] 3 1 cDeep := (D 76 rfl (by decide +kernel)).fc (N := nDeep) (ps := ["_law_pot_here"]) ⟨rfl, rfl, rfl, by decide +kernel, rfl, by decide +kernel, by decide +kernel⟩ (fun _ _ _ _ _ _ us hl => match us, hl with | [_], _ => rfl) (ok_deep F fTk fOf fP1)
  have fWi : Fc P w K mg base "_law_wide" [] 8 1 cWide := (D 77 rfl (by decide +kernel)).fc (N := ["_law_pot_here"]) (ps := ["_law_pot_here"]) ⟨rfl, rfl, rfl, by decide +kernel, rfl, by decide +kernel, by decide +kernel⟩ (fun _ _ _ _ _ _ us hl => match us, hl with | [_], _ => rfl) (ok_wide fTk fDe (fGt 4))
  have fTt : ∀ h, Fc P w K mg base "_law_text" [] (h + 1) 1 (cTText h) := by
    intro h
    induction h with
    | zero => exact (D 78 rfl (by decide +kernel)).fc (N := nTText) (ps := ["_law_tree"]) ⟨rfl, rfl, rfl, by decide +kernel, rfl, by decide +kernel, by decide +kernel⟩ (fun _ _ _ _ _ _ us hl => match us, hl with | [_], _ => rfl) (ok_ttext 0 F (fun j hj => by omega))
    | succ h ih => exact (D 78 rfl (by decide +kernel)).fc (N := nTText) (ps := ["_law_tree"]) ⟨rfl, rfl, rfl, by decide +kernel, rfl, by decide +kernel, by decide +kernel⟩ (fun _ _ _ _ _ _ us hl => match us, hl with | [_], _ => rfl) (ok_ttext (h + 1) F (fun j hj => by cases hj; exact ih))
  have fSz : ∀ h, Fc P w K mg base "_law_size" [] (h + 1) 1 (cSize h) := by
    intro h
    induction h with
    | zero => exact (D 79 rfl (by decide +kernel)).fc (N := nSize) (ps := ["_law_tree"]) ⟨rfl, rfl, rfl, by decide +kernel, rfl, by decide +kernel, by decide +kernel⟩ (fun _ _ _ _ _ _ us hl => match us, hl with | [_], _ => rfl) (ok_size 0 F (fun j hj => by omega))
    | succ h ih => exact (D 79 rfl (by decide +kernel)).fc (N := nSize) (ps := ["_law_tree"]) ⟨rfl, rfl, rfl, by decide +kernel, rfl, by decide +kernel, by decide +kernel⟩ (fun _ _ _ _ _ _ us hl => match us, hl with | [_], _ => rfl) (ok_size (h + 1) F (fun j hj => by cases hj; exact ih))
  have fTp : Fc P w K mg base "_law_parts_of" [] 1 1 cPartsOf := (D 80 rfl (by decide +kernel)).fc (N := ["_law_tree"]) (ps := ["_law_tree"]) ⟨rfl, rfl, rfl, by decide +kernel, rfl, by decide +kernel, by decide +kernel⟩ (fun _ _ _ _ _ _ us hl => match us, hl with | [_], _ => rfl) (ok_tparts_of F)
  have fT1 : Fc P w K mg base "_law_part" [] 1 2 cPartT := (D 81 rfl (by decide +kernel)).fc (N := ["_law_tree", "_law_which"]) (ps := ["_law_tree", "_law_which"]) ⟨rfl, rfl, rfl, by decide +kernel, rfl, by decide +kernel, by decide +kernel⟩ (fun _ _ _ _ _ _ us hl => match us, hl with | [_, _], _ => rfl) (ok_tpart)
  have fBt : Fc P w K mg base "_law_both" [] 1 3 cBoth := (D 82 rfl (by decide +kernel)).fc (N := nBoth) (ps := ["_law_word", "_law_one", "_law_other"]) ⟨rfl, rfl, rfl, by decide +kernel, rfl, by decide +kernel, by decide +kernel⟩ (fun _ _ _ _ _ _ us hl => match us, hl with | [_, _, _], _ => rfl) (ok_both F)
  have fNu : ∀ h, Fc P w K mg base "_law_numbers" [] (h + 2) 1 (cNums h) := by
    intro h
    induction h with
    | zero => exact (D 83 rfl (by decide +kernel)).fc (N := nNums) (ps := ["_law_tree"]) ⟨rfl, rfl, rfl, by decide +kernel, rfl, by decide +kernel, by decide +kernel⟩ (fun _ _ _ _ _ _ us hl => match us, hl with | [_], _ => rfl) (ok_numbers 0 F fBt (fun j hj => by omega))
    | succ h ih => exact (D 83 rfl (by decide +kernel)).fc (N := nNums) (ps := ["_law_tree"]) ⟨rfl, rfl, rfl, by decide +kernel, rfl, by decide +kernel, by decide +kernel⟩ (fun _ _ _ _ _ _ us hl => match us, hl with | [_], _ => rfl) (ok_numbers (h + 1) F fBt (fun j hj => by cases hj; exact ih))
  have fAny : Fc P w K mg base "_law_anybody" [] 3 2 cAny := (D 84 rfl (by decide +kernel)).fc (N := nAny) (ps := ["_law_pot_here", "_law_tree"]) ⟨rfl, rfl, rfl, by decide +kernel, rfl, by decide +kernel, by decide +kernel⟩ (fun _ _ _ _ _ _ us hl => match us, hl with | [_, _], _ => rfl) (ok_anybody fTp fOf fFar fT1)
  have fIk : Fc P w K mg base "_law_is_known" [] 2 3 cKnown := (D 85 rfl (by decide +kernel)).fc (N := nKnown) (ps := ["_law_tree", "_law_one", "_law_other"]) ⟨rfl, rfl, rfl, by decide +kernel, rfl, by decide +kernel, by decide +kernel⟩ (fun _ _ _ _ _ _ us hl => match us, hl with | [_, _, _], _ => rfl) (ok_is_known F fT1)
  have fIp : Fc P w K mg base "_law_is_person" [] 2 2 cTIsP := (D 86 rfl (by decide +kernel)).fc (N := nTIsP) (ps := ["_law_tree", "_law_value"]) ⟨rfl, rfl, rfl, by decide +kernel, rfl, by decide +kernel, by decide +kernel⟩ (fun _ _ _ _ _ _ us hl => match us, hl with | [_, _], _ => rfl) (ok_tis_person F fT1 fTp)
  have fSe : Gc P w K mg base "_law_is_seated" 19 3 (cSeated ⟨C, aR, aO, aB, aK, aH, aW⟩ S) := (D 87 rfl (by decide +kernel)).gc (N := nSeated) (ps := ["_law_tree", "_law_seating", "_law_person_here"]) ⟨rfl, rfl, rfl, by decide +kernel, rfl, by decide +kernel, by decide +kernel⟩ (fun _ _ _ _ _ _ us hl => match us, hl with | [_, _, _], _ => rfl) (ok_seated F XZ mZp pZr mZl mZa fIp fIk)
  have fRi : Gc P w K mg base "_law_right" 45 1 cRight := (D 88 rfl (by decide +kernel)).gc (N := nRight) (ps := ["_law_pot_here"]) ⟨rfl, rfl, rfl, by decide +kernel, rfl, by decide +kernel, by decide +kernel⟩ (fun _ _ _ _ _ _ us hl => match us, hl with | [_], _ => rfl) (ok_right36 F XZ fWi (fTt 10) (kPlan 10) kZi (fNu 10) pZr fOf fFar mZl (fSz 10) mZa fIp mZp fSe fAny)
  exact fnG_ok (N := nLaw) (ps := ["_law_script"]) L ⟨rfl, rfl, rfl, by decide +kernel, rfl, by decide +kernel, by decide +kernel⟩ (ok_law36 F fCe fPot fRi)
theorem spLaw_ok {H : Hp} {a : Addr} {ns : List Int} {E : XK} (hS : SqL K H a (ns.map V.int)) : spD K 1 cLaw [.ref a] H (fun v _ => v = .bl true) E := by
  refine ⟨[scrD ns], fun _ => none, fun _ => False, fun d _ => d = .bl true, rfl, .cons ?_ .nil, ⟨fun b o e => (by cases e), fun b z => z.elim⟩, ⟨ns, rfl, fun _ => rfl⟩, fun v d H' M' x w' r e => ?_⟩
  · rcases hS with h1 | h1
    · exact .rol h1 ⟨rfl, id⟩ (Reps.ofInts ns)
    · exact .rolK h1 (Reps.ofInts ns)
  · subst e; cases r; rfl
theorem facts {f : Addr} (X : K.In h) (G : h.Ns mainGlobals mg) (hfa : mg ("law" : Str) = some (.ref f)) (c : Says spec w K) :
    ∃ fd : FuncData, (∀ (s : Shared) (v : Value), BindsTo s fd ⟨[v], []⟩ [("_law_script", v)]) ∧ ∀ base : Heap, K.In base → base.Ns mainGlobals mg → FnG P w K mg base 46 f fd ["_law_script"] (spD K 1 cLaw) := by
  obtain ⟨fd, L⟩ := c.dd 89 (d := gl "law" s_law) rfl
  have e := hfa.symm.trans (glo_ok X G (c.fa (f := .glo "law") (mem_glo (by decide +kernel))))
  cases e
  have b := FunD.bindsA (ps := ["_law_script"]) L fun _ _ _ _ _ _ us hl => match us, hl with | [_], _ => rfl
  obtain ⟨fi, DI⟩ := c.dd 0 rfl
  exact ⟨fd, fun s v => b s [v] rfl, fun base _ _ => chain (mkFx X G c) (mkPx X G c) ⟨_, _, propB_ok (c.pr (q := ("Plan", "people")) (by decide +kernel)), ⟨c.dd 6 rfl⟩⟩ (mkLx X G c) (mkLm X G c) (mkZx X G c) ⟨_, fi, DI, glo_ok X G (c.fa (f := .glo "is_integer") (mem_glo (by decide +kernel)))⟩ (fun i {x st} hd hx => mkDf X G c i hd hx) L⟩
end
end W

open PySem PySem.W PySem.Calls PyProof.Rows
theorem PySem.Challenge.cw_greetall_k36_whole_great_seatings_holds : PySem.Challenge.rw_greetall_k36_whole_great_seatings.Holds := by
  w_on; o_law
  refine HandSHeadRun.head_any (r := W.R) (q := view W.R.prog [84]) (H := W.hk) (ob := W.ob) (M := 9000) (loose := W.names0 ++ W.names1 ++ W.names2) (d := HandSHeadRun.topDef W.R.prog 84) (kwd := []) W.ob_eq
    (by kernel_rfl) (fun s => by kernel_rfl) W.run (by kernel_rfl) (by kernel_rfl) (by kernel_rfl) (by rfl) (by first | assumption | decide +kernel) (by decide +kernel) ⟨rfl, rfl, rfl, rfl, rfl, by decide +kernel⟩ ?hw ?hc
  case hw => w_witness2
  case hc =>
    refine DL.walk_ofG (l := PySem.Challenge.rw_greetall_k36_whole_great_seatings) (n := 63) (k := 46) (x := "_law_script") rfl (by decide) (by kernel_rfl) ⟨rfl, by decide, by decide⟩ ?F
    intro w mg fa h Y G hmg0
    obtain ⟨K, KX, c⟩ := Y
    have hmg : mg ("law" : PySem.Str) = some (.ref fa) := by
      have e : (HandSHeadRun.topDef W.R.prog 84).name = ("law" : PySem.Str) := by kernel_rfl
      rw [← e]
      exact hmg0
    obtain ⟨fd, hb, hF⟩ := W.facts (P := (PySem.Challenge.rw_greetall_k36_whole_great_seatings).prog) (w := w) KX G hmg c
    exact ⟨K, fd, DL.spD K 1 W.cLaw, KX, hb, fun H a ns hl _ hS => W.spLaw_ok hS, hF⟩
