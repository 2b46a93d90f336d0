import PyProof.Rows.All
import Wide.All
import OpenK.AllK
import Wide.FinOn
import HandS.ForMost
import HandS.ForExc
import HandS.ExcInit
import HandS.IsInst
import KE.KExcSuper
import KE.KSuper
import KE.KSuperObj
import HandS.TryOnly
import KE.KExcIs
import KE.KIsAll
import HandS.Lambda
import HandS.Defaults
import HandS.Wide
import HandS.Flow
import HandS.Zip
import HandS.StrMore
import HandS.FStr
import HandS.Conv
import HandS.More
import HandS.Property
import HandS.OwnEq
import HandS.Slots
import HandS.TupAny
import HandS.Star
import HandS.Strs
import KE.GoesMore
import HandS.Style
import HandS.RaiseMore
import HandS.HeadEnd
import HandS.SortRule
import HandS.TupSets
import PyProof.ReprLen
import HandS.Codes
import KE.KUnpackStar
import HandS.Small
import HandS.Deep
import HandS.List
import HandS.Head0
import HandS.Head1
import HandS.Head2
import HandS.HeadHook1
import HandS.HeadHook2
import HandS.HeadHook3
import HandS.EndOwn
import HandS.SetFor
import PyProof.Rows.SortShellAny
import KE.DataMinMax
import KE.GoesEnum
import HandS.NoneIn
import PyProof.EqAt
import PyProof.NeKinds
import KE.KRevSl
import KE.SortData
import HandS.Iter
import HandS.DictComp
import KE.BitLaws
import PyProof.MaxThree
import HandS.SortInts
import KE.KAssignIn
import HandS.SlotsOwn
import HandS.ListItems
import PyProof.P3In
import PySem.Challenge.RW_greetall_k50_other_plans_and_chains
set_option Elab.async false
set_option linter.all false
set_option maxRecDepth 100000
set_option maxHeartbeats 0
namespace XL
end XL
namespace DL
end DL
namespace HK
end HK
namespace PL
end PL
namespace W
end W
namespace HT
end HT
namespace XL
open PySem PySem.W PySem.Calls PyProof.Rows PySem.HandSPX L2
theorem Mod.keeps {K : Frag} {mg : Str → Option Value} {h h' : Heap} (M : L2.Mod K mg h) (k : ∀ b o, h.get? b = some o → h'.get? b = some o) : L2.Mod K mg h' := by
  obtain ⟨mb, nb, hmb⟩ := M.blt
  exact ⟨M.kin.keeps k, M.glob.keeps k, ⟨mb, nb.keeps k, hmb⟩, M.nolimit.keeps k⟩
end XL
namespace XL
open PySem PySem.W PySem.Calls PyProof.Rows PySem.HandSPX L2
/-- an error object: its class, its own dict -/
def XV (a : Addr) (cls : Value) (d : Option Addr) : HO := .ext fun h => ∃ oe vs, h.get? a = some oe ∧ Zc cls d oe ∧ oe.data = .fields vs
end XL
namespace XL
open PySem PySem.W PySem.Calls PyProof.Rows PySem.HandSPX L2 LamX
/-- a lambda at f, its code object at c' -/
def LamO (f : Addr) (q : Str) (params : Arguments) (body : Expr) (scope : Scope) (cells : List (Str × Addr)) (c' : Addr) : HO := .ext fun h => ∃ pm ctv, h.get? f = some (W.kla_obj "<lambda>" q params body scope cells pm c' ctv)
end XL
namespace DL
open PySem L2
/-- a value as data: immutable things by what they hold, mutable ones by their address -/
inductive D where
  | non | bl (b : Bool) | int (i : Int) | str (x : Str)
  | lst (xs : List D) | rol (xs : List D) | tup (xs : List D)
  | dK (kvs : List (Key × D)) | dT (kvs : List (List Key × D))
  | ins (C : Addr) (fs : List (Str × D))
  | ty (n : String) | fn (a : Addr) | ob (a : Addr)
  | key (ks : List Key)
  | fig (C : Addr) (ns : List Int)
  | exc (C : Addr) (fs : List (Str × D))
  | lam (q : Str) (params : Arguments) (body : Expr) (scope : Scope) (cells : List (Str × Addr))
  | fdK (kvs : List (Key × D))
  | slo (C : Addr) (os : List (Option D))
/-- a mutable object's content -/
inductive MO where
  | lst (xs : List D) | dK (kvs : List (Key × D)) | dT (kvs : List (List Key × D)) | ins (C : Addr) (fs : List (Str × D)) | tbl (q : Str) | fdK (kvs : List (Key × D)) | slo (C : Addr) (os : List (Option D))
abbrev Mp := Addr → Option MO
abbrev Rho := List (Option D)
/-- addresses that stand hidden: nothing that the code reads leads there -/
abbrev Zn := Addr → Prop
/-- neither mutable nor hidden -/
def Im (M : Mp) (Z : Zn) (a : Addr) : Prop := M a = none ∧ ¬ Z a
/-- a list, a tuple of the written part -/
def WrL (K : PySem.W.Frag) (a : Addr) (xs : List V) : Prop := ∃ (o : Obj) (its : Array Value) (n : Nat), K.lookup a = some o ∧ o.cls = .type "list" ∧ o.dict = none ∧ o.data = .seq its n ∧ its.size ≤ sizeLine ∧ Vals xs its.toList
def WrT (K : PySem.W.Frag) (a : Addr) (xs : List V) : Prop := ∃ (o : Obj) (its : Array Value) (n : Nat), K.lookup a = some o ∧ o.cls = .type "tuple" ∧ o.data = .seq its n ∧ its.size ≤ sizeLine ∧ Vals xs its.toList
mutual
/-- the value v stands for the data d -/
inductive Rep (K : PySem.W.Frag) (M : Mp) (Z : Zn) (H : Hp) : V → D → Prop where
  | non : Rep K M Z H .non .non
  | bl (b : Bool) : Rep K M Z H (.bl b) (.bl b)
  | int (i : Int) : Rep K M Z H (.int i) (.int i)
  | str (x : Str) : Rep K M Z H (.str x) (.str x)
  | ty (n : String) : Rep K M Z H (.ty n) (.ty n)
  | fn (a : Addr) : Rep K M Z H (.ref a) (.fn a)
  | ob (a : Addr) : Rep K M Z H (.ref a) (.ob a)
  | lst {a : Addr} {vs : List V} {ds : List D} (h : H a = some (.lst vs)) (m : Im M Z a) (r : Reps K M Z H vs ds) : Rep K M Z H (.ref a) (.lst ds)
  | rol {a : Addr} {vs : List V} {ds : List D} (h : Rd H a (.lst vs)) (m : Im M Z a) (r : Reps K M Z H vs ds) : Rep K M Z H (.ref a) (.rol ds)
  | rolK {a : Addr} {vs : List V} {ds : List D} (h : WrL K a vs) (r : Reps K M Z H vs ds) : Rep K M Z H (.ref a) (.rol ds)
  | tup {a : Addr} {vs : List V} {ds : List D} (h : Rd H a (.tup vs)) (m : Im M Z a) (r : Reps K M Z H vs ds) : Rep K M Z H (.ref a) (.tup ds)
  | tupK {a : Addr} {vs : List V} {ds : List D} (h : WrT K a vs) (r : Reps K M Z H vs ds) : Rep K M Z H (.ref a) (.tup ds)
  | dK {a : Addr} {vs : List (Key × V)} {ds : List (Key × D)} (h : H a = some (.dK vs)) (m : Im M Z a) (r : RepK K M Z H vs ds) : Rep K M Z H (.ref a) (.dK ds)
  | dT {a : Addr} {vs : List (List Key × V)} {ds : List (List Key × D)} (h : H a = some (.dT vs)) (m : Im M Z a) (r : RepT K M Z H vs ds) : Rep K M Z H (.ref a) (.dT ds)
  | ins {a C dx : Addr} {vs : List (Str × V)} {ds : List (Str × D)} (h : H a = some (.ins C dx vs)) (m : Im M Z a) (r : RepF K M Z H vs ds) : Rep K M Z H (.ref a) (.ins C ds)
  | key {a : Addr} {ks : List Key} (h : H a = some (.tup (ks.map kV))) (m : Im M Z a) : Rep K M Z H (.ref a) (.key ks)
  | fig {a C dx : Addr} {ns : List Int} (h : H a = some (SlX.SlO a C dx (ns.map fun i => some (V.int i)))) (hd : H dx = some (.xd [])) (m : Im M Z a) (md : Im M Z dx) : Rep K M Z H (.ref a) (.fig C ns)
  | exc {a C dd : Addr} {vs : List (Str × V)} {ds : List (Str × D)} (h : H a = some (XL.XV a (.ref C) (some dd))) (hd : H dd = some (.xd vs)) (m : Im M Z a) (md : Im M Z dd) (r : RepF K M Z H vs ds) : Rep K M Z H (.ref a) (.exc C ds)
  | lam {a c : Addr} {q : Str} {ps : Arguments} {b : Expr} {sc : Scope} {cl : List (Str × Addr)} (h : H a = some (XL.LamO a q ps b sc cl c)) (hc : H c = some (LamX.CodeO c q)) (m : Im M Z a) (mc : Im M Z c) : Rep K M Z H (.ref a) (.lam q ps b sc cl)
  | fdK {a : Addr} {o : Obj} {vs : List (Key × V)} {ds : List (Key × D)} (h : H a = some (.frz o (.dK vs))) (m : Im M Z a) (r : RepK K M Z H vs ds) : Rep K M Z H (.ref a) (.fdK ds)
  | slo {a C dx : Addr} {vs : List (Option V)} {os : List (Option D)} (h : H a = some (SlX.SlO a C dx vs)) (hd : H dx = some (.xd [])) (m : Im M Z a) (md : Im M Z dx) (r : RepO K M Z H vs os) : Rep K M Z H (.ref a) (.slo C os)
inductive RepO (K : PySem.W.Frag) (M : Mp) (Z : Zn) (H : Hp) : List (Option V) → List (Option D) → Prop where
  | nil : RepO K M Z H [] []
  | val {v : V} {d : D} {vs : List (Option V)} {os : List (Option D)} (r : Rep K M Z H v d) (t : RepO K M Z H vs os) : RepO K M Z H (some v :: vs) (some d :: os)
  | any {o : Option V} {vs : List (Option V)} {os : List (Option D)} (t : RepO K M Z H vs os) : RepO K M Z H (o :: vs) (none :: os)
inductive Reps (K : PySem.W.Frag) (M : Mp) (Z : Zn) (H : Hp) : List V → List D → Prop where
  | nil : Reps K M Z H [] []
  | cons {v : V} {d : D} {vs : List V} {ds : List D} (r : Rep K M Z H v d) (t : Reps K M Z H vs ds) : Reps K M Z H (v :: vs) (d :: ds)
inductive RepK (K : PySem.W.Frag) (M : Mp) (Z : Zn) (H : Hp) : List (Key × V) → List (Key × D) → Prop where
  | nil : RepK K M Z H [] []
  | cons {k : Key} {v : V} {d : D} {vs : List (Key × V)} {ds : List (Key × D)} (r : Rep K M Z H v d) (t : RepK K M Z H vs ds) : RepK K M Z H ((k, v) :: vs) ((k, d) :: ds)
inductive RepT (K : PySem.W.Frag) (M : Mp) (Z : Zn) (H : Hp) : List (List Key × V) → List (List Key × D) → Prop where
  | nil : RepT K M Z H [] []
  | cons {k : List Key} {v : V} {d : D} {vs : List (List Key × V)} {ds : List (List Key × D)} (r : Rep K M Z H v d) (t : RepT K M Z H vs ds) : RepT K M Z H ((k, v) :: vs) ((k, d) :: ds)
inductive RepF (K : PySem.W.Frag) (M : Mp) (Z : Zn) (H : Hp) : List (Str × V) → List (Str × D) → Prop where
  | nil : RepF K M Z H [] []
  | cons {k : Str} {v : V} {d : D} {vs : List (Str × V)} {ds : List (Str × D)} (r : Rep K M Z H v d) (t : RepF K M Z H vs ds) : RepF K M Z H ((k, v) :: vs) ((k, d) :: ds)
end
/-- what is immutable stays, what is hidden stays -/
def Ext (M : Mp) (Z : Zn) (H : Hp) (M' : Mp) (H' : Hp) : Prop := (∀ b o, H b = some o → Im M Z b → H' b = some o ∧ Im M' Z b) ∧ ∀ b, Z b → H' b = H b ∧ M' b = M b
theorem Ext.refl {M : Mp} {Z : Zn} {H : Hp} : Ext M Z H M H := ⟨fun _ _ h m => ⟨h, m⟩, fun _ _ => ⟨rfl, rfl⟩⟩
theorem Ext.trans {M M1 M2 : Mp} {Z : Zn} {H H1 H2 : Hp} (a : Ext M Z H M1 H1) (b : Ext M1 Z H1 M2 H2) : Ext M Z H M2 H2 := ⟨fun c o h m =>
  b.1 c o (a.1 c o h m).1 (a.1 c o h m).2, fun c z => ⟨(b.2 c z).1.trans (a.2 c z).1, (b.2 c z).2.trans (a.2 c z).2⟩⟩
theorem Ext.rd {M M' : Mp} {Z : Zn} {H H' : Hp} {a : Addr} {u : HO} (e : Ext M Z H M' H') (h : Rd H a u) (m : Im M Z a) : Rd H' a u := by
  rcases h with h | ⟨o, h⟩
  · exact .inl (e.1 _ _ h m).1
  · exact .inr ⟨o, (e.1 _ _ h m).1⟩
theorem Ext.md {M M' : Mp} {Z : Zn} {H H' : Hp} {a : Addr} {u : HO} (e : Ext M Z H M' H') (h : Rd H a u) (m : Im M Z a) : Im M' Z a := by
  rcases h with h | ⟨o, h⟩
  · exact (e.1 _ _ h m).2
  · exact (e.1 _ _ h m).2
/-- .. among other hidden ones -/
def ExI (M : Mp) (Z : Zn) (H : Hp) (M' : Mp) (Z' : Zn) (H' : Hp) : Prop := ∀ b o, H b = some o → Im M Z b → H' b = some o ∧ Im M' Z' b
theorem Ext.i {M M' : Mp} {Z : Zn} {H H' : Hp} (e : Ext M Z H M' H') : ExI M Z H M' Z H' := e.1
theorem ExI.refl {M : Mp} {Z : Zn} {H : Hp} : ExI M Z H M Z H := fun _ _ h m => ⟨h, m⟩
theorem ExI.trans {M M1 M2 : Mp} {Z Z1 Z2 : Zn} {H H1 H2 : Hp} (a : ExI M Z H M1 Z1 H1) (b : ExI M1 Z1 H1 M2 Z2 H2) : ExI M Z H M2 Z2 H2 := fun c o h m => b c o (a c o h m).1 (a c o h m).2
theorem ExI.rd {M M' : Mp} {Z Z' : Zn} {H H' : Hp} {a : Addr} {u : HO} (e : ExI M Z H M' Z' H') (h : Rd H a u) (m : Im M Z a) : Rd H' a u := by
  rcases h with h | ⟨o, h⟩
  · exact .inl (e _ _ h m).1
  · exact .inr ⟨o, (e _ _ h m).1⟩
theorem ExI.md {M M' : Mp} {Z Z' : Zn} {H H' : Hp} {a : Addr} {u : HO} (e : ExI M Z H M' Z' H') (h : Rd H a u) (m : Im M Z a) : Im M' Z' a := by
  rcases h with h | ⟨o, h⟩
  · exact (e _ _ h m).2
  · exact (e _ _ h m).2
section
variable {K : PySem.W.Frag} {M M' : Mp} {Z Z' : Zn} {H H' : Hp}
mutual
theorem Rep.monoI (e : ExI M Z H M' Z' H') : ∀ {v : V} {d : D}, Rep K M Z H v d → Rep K M' Z' H' v d
  | _, _, .non => .non
  | _, _, .bl b => .bl b
  | _, _, .int i => .int i
  | _, _, .str x => .str x
  | _, _, .ty n => .ty n
  | _, _, .fn a => .fn a
  | _, _, .ob a => .ob a
  | _, _, .lst h m r => .lst (e _ _ h m).1 (e _ _ h m).2 (Reps.monoI e r)
  | _, _, .rol h m r => .rol (e.rd h m) (e.md h m) (Reps.monoI e r)
  | _, _, .rolK h r => .rolK h (Reps.monoI e r)
  | _, _, .tup h m r => .tup (e.rd h m) (e.md h m) (Reps.monoI e r)
  | _, _, .tupK h r => .tupK h (Reps.monoI e r)
  | _, _, .dK h m r => .dK (e _ _ h m).1 (e _ _ h m).2 (RepK.monoI e r)
  | _, _, .dT h m r => .dT (e _ _ h m).1 (e _ _ h m).2 (RepT.monoI e r)
  | _, _, .ins h m r => .ins (e _ _ h m).1 (e _ _ h m).2 (RepF.monoI e r)
  | _, _, .key h m => .key (e _ _ h m).1 (e _ _ h m).2
  | _, _, .fig h hd m md => .fig (e _ _ h m).1 (e _ _ hd md).1 (e _ _ h m).2 (e _ _ hd md).2
  | _, _, .exc h hd m md r => .exc (e _ _ h m).1 (e _ _ hd md).1 (e _ _ h m).2 (e _ _ hd md).2 (RepF.monoI e r)
  | _, _, .lam h hc m mc => .lam (e _ _ h m).1 (e _ _ hc mc).1 (e _ _ h m).2 (e _ _ hc mc).2
  | _, _, .fdK h m r => .fdK (e _ _ h m).1 (e _ _ h m).2 (RepK.monoI e r)
  | _, _, .slo h hd m md r => .slo (e _ _ h m).1 (e _ _ hd md).1 (e _ _ h m).2 (e _ _ hd md).2 (RepO.monoI e r)
theorem RepO.monoI (e : ExI M Z H M' Z' H') : ∀ {v : List (Option V)} {d : List (Option D)}, RepO K M Z H v d → RepO K M' Z' H' v d
  | _, _, .nil => .nil
  | _, _, .val r t => .val (Rep.monoI e r) (RepO.monoI e t)
  | _, _, .any t => .any (RepO.monoI e t)
theorem Reps.monoI (e : ExI M Z H M' Z' H') : ∀ {v : List V} {d : List D}, Reps K M Z H v d → Reps K M' Z' H' v d
  | _, _, .nil => .nil
  | _, _, .cons r t => .cons (Rep.monoI e r) (Reps.monoI e t)
theorem RepK.monoI (e : ExI M Z H M' Z' H') : ∀ {v : List (Key × V)} {d : List (Key × D)}, RepK K M Z H v d → RepK K M' Z' H' v d
  | _, _, .nil => .nil
  | _, _, .cons r t => .cons (Rep.monoI e r) (RepK.monoI e t)
theorem RepT.monoI (e : ExI M Z H M' Z' H') : ∀ {v : List (List Key × V)} {d : List (List Key × D)}, RepT K M Z H v d → RepT K M' Z' H' v d
  | _, _, .nil => .nil
  | _, _, .cons r t => .cons (Rep.monoI e r) (RepT.monoI e t)
theorem RepF.monoI (e : ExI M Z H M' Z' H') : ∀ {v : List (Str × V)} {d : List (Str × D)}, RepF K M Z H v d → RepF K M' Z' H' v d
  | _, _, .nil => .nil
  | _, _, .cons r t => .cons (Rep.monoI e r) (RepF.monoI e t)
end
end
theorem Reps.length {K : PySem.W.Frag} {M : Mp} {Z : Zn} {H : Hp} : ∀ {vs : List V} {ds : List D}, Reps K M Z H vs ds → vs.length = ds.length
  | _, _, .nil => rfl
  | _, _, .cons _ t => by rw [List.length_cons, List.length_cons, t.length]
theorem Reps.get {K : PySem.W.Frag} {M : Mp} {Z : Zn} {H : Hp} : ∀ {vs : List V} {ds : List D} {i : Nat} {d : D}, Reps K M Z H vs ds → ds[i]? = some d → ∃ v, vs[i]? = some v ∧ Rep K M Z H v d
  | _, _, _, _, .nil, e => by simp at e
  | _, _, 0, _, .cons r _, e => by simp at e; subst e; exact ⟨_, rfl, r⟩
  | _, _, i + 1, d, .cons _ t, e => by
    obtain ⟨u, h1, h2⟩ := Reps.get (i := i) (d := d) t (by simpa using e)
    exact ⟨u, by simpa using h1, h2⟩
theorem Reps.drop {K : PySem.W.Frag} {M : Mp} {Z : Zn} {H : Hp} : ∀ {vs : List V} {ds : List D} (n : Nat), Reps K M Z H vs ds → Reps K M Z H (vs.drop n) (ds.drop n)
  | _, _, 0, r => r
  | _, _, _ + 1, .nil => .nil
  | _, _, n + 1, .cons _ t => Reps.drop n t
theorem Reps.take {K : PySem.W.Frag} {M : Mp} {Z : Zn} {H : Hp} : ∀ {vs : List V} {ds : List D} (n : Nat), Reps K M Z H vs ds → Reps K M Z H (vs.take n) (ds.take n)
  | _, _, 0, _ => .nil
  | _, _, _ + 1, .nil => .nil
  | _, _, n + 1, .cons r t => .cons r (Reps.take n t)
theorem Reps.ofStrs {K : PySem.W.Frag} {M : Mp} {Z : Zn} {H : Hp} : ∀ (ns : List Str), Reps K M Z H (ns.map V.str) (ns.map D.str)
  | [] => .nil
  | _ :: r => .cons (.str _) (Reps.ofStrs r)
/-- a mutable object is held -/
def RepM (K : PySem.W.Frag) (M : Mp) (Z : Zn) (H : Hp) (a : Addr) : MO → Prop
  | .lst ds => ∃ vs, H a = some (.lst vs) ∧ Reps K M Z H vs ds
  | .dK ds => ∃ vs, H a = some (.dK vs) ∧ RepK K M Z H vs ds
  | .dT ds => ∃ vs, H a = some (.dT vs) ∧ RepT K M Z H vs ds
  | .ins C ds => ∃ dx vs, H a = some (.ins C dx vs) ∧ RepF K M Z H vs ds
  | .fdK ds => ∃ o vs, H a = some (.frz o (.dK vs)) ∧ RepK K M Z H vs ds
  | .slo C os => ∃ dx vs, H a = some (SlX.SlO a C dx vs) ∧ H dx = some (.xd []) ∧ Im M Z dx ∧ RepO K M Z H vs os
  | .tbl q => ∃ ps, H a = some (.tbl ps) ∧ TriplesOk ps.toList ∧ ∀ (pos : Pos) (cv : Value), codeAmong pos ps.toList = some cv → ∃ c, cv = .ref c ∧ H c = some (LamX.CodeO c q) ∧ Im M Z c
/-- the mutable objects are held, the hidden ones stand -/
def Wd (K : PySem.W.Frag) (M : Mp) (Z : Zn) (H : Hp) : Prop := (∀ a o, M a = some o → RepM K M Z H a o) ∧ ∀ a, Z a → M a = none ∧ ∃ u, H a = some u
theorem RepM.there {K : PySem.W.Frag} {M : Mp} {Z : Zn} {H : Hp} {a : Addr} {o : MO} (h : RepM K M Z H a o) : ∃ u, H a = some u := by
  cases o with
  | lst ds => obtain ⟨vs, e, _⟩ := h; exact ⟨_, e⟩
  | dK ds => obtain ⟨vs, e, _⟩ := h; exact ⟨_, e⟩
  | dT ds => obtain ⟨vs, e, _⟩ := h; exact ⟨_, e⟩
  | ins C ds => obtain ⟨dx, vs, e, _⟩ := h; exact ⟨_, e⟩
  | tbl q => obtain ⟨ps, e, _⟩ := h; exact ⟨_, e⟩
  | fdK ds => obtain ⟨o, vs, e, _⟩ := h; exact ⟨_, e⟩
  | slo C os => obtain ⟨dx, vs, e, _⟩ := h; exact ⟨_, e⟩
theorem RepM.stepI {K : PySem.W.Frag} {M M' : Mp} {Z Z' : Zn} {H H' : Hp} {a : Addr} {o : MO} (h : RepM K M Z H a o) (e : ExI M Z H M' Z' H') (k : H' a = H a) : RepM K M' Z' H' a o := by
  cases o with
  | lst ds => obtain ⟨vs, q, r⟩ := h; exact ⟨vs, k.trans q, r.monoI e⟩
  | dK ds => obtain ⟨vs, q, r⟩ := h; exact ⟨vs, k.trans q, r.monoI e⟩
  | dT ds => obtain ⟨vs, q, r⟩ := h; exact ⟨vs, k.trans q, r.monoI e⟩
  | ins C ds => obtain ⟨dx, vs, q, r⟩ := h; exact ⟨dx, vs, k.trans q, r.monoI e⟩
  | fdK ds => obtain ⟨o, vs, q, r⟩ := h; exact ⟨o, vs, k.trans q, r.monoI e⟩
  | slo C os => obtain ⟨dx, vs, q, hd, md, r⟩ := h; exact ⟨dx, vs, k.trans q, (e _ _ hd md).1, (e _ _ hd md).2, r.monoI e⟩
  | tbl q => obtain ⟨ps, y, ht, ha⟩ := h; exact ⟨ps, k.trans y, ht, fun pos cv z => let ⟨c, e1, e2, e3⟩ := ha pos cv z; ⟨c, e1, (e c _ e2 e3).1, (e c _ e2 e3).2⟩⟩
theorem RepM.step {K : PySem.W.Frag} {M M' : Mp} {Z : Zn} {H H' : Hp} {a : Addr} {o : MO} (h : RepM K M Z H a o) (e : Ext M Z H M' H') (k : H' a = H a) : RepM K M' Z H' a o := h.stepI e.i k
/-- the slots -/
inductive EnvR (K : PySem.W.Frag) (M : Mp) (Z : Zn) (H : Hp) : St → Rho → Prop where
  | nil : EnvR K M Z H [] []
  | val {v : V} {d : D} {σ : St} {ρ : Rho} (r : Rep K M Z H v d) (t : EnvR K M Z H σ ρ) : EnvR K M Z H (some v :: σ) (some d :: ρ)
  | any {o : Option V} {σ : St} {ρ : Rho} (t : EnvR K M Z H σ ρ) : EnvR K M Z H (o :: σ) (none :: ρ)
theorem EnvR.monoI {K : PySem.W.Frag} {M M' : Mp} {Z Z' : Zn} {H H' : Hp} (e : ExI M Z H M' Z' H') : ∀ {σ : St} {ρ : Rho}, EnvR K M Z H σ ρ → EnvR K M' Z' H' σ ρ
  | _, _, .nil => .nil
  | _, _, .val r t => .val (r.monoI e) (EnvR.monoI e t)
  | _, _, .any t => .any (EnvR.monoI e t)
theorem EnvR.get {K : PySem.W.Frag} {M : Mp} {Z : Zn} {H : Hp} : ∀ {σ : St} {ρ : Rho} {i : Nat} {d : D}, EnvR K M Z H σ ρ → ρ[i]? = some (some d) → ∃ v, σ[i]? = some (some v) ∧ Rep K M Z H v d
  | _, _, _, _, .nil, e => by simp at e
  | _, _, 0, _, .val r _, e => by simp at e; subst e; exact ⟨_, rfl, r⟩
  | _, _, 0, _, .any _, e => by simp at e
  | _, _, i + 1, d, .val _ t, e => EnvR.get (i := i) t (by simpa using e)
  | _, _, i + 1, d, .any t, e => EnvR.get (i := i) t (by simpa using e)
theorem EnvR.set {K : PySem.W.Frag} {M : Mp} {Z : Zn} {H : Hp} {v : V} {d : D} (r : Rep K M Z H v d) : ∀ {σ : St} {ρ : Rho} (i : Nat), EnvR K M Z H σ ρ → EnvR K M Z H (σ.set i (.some v)) (ρ.set i (.some d))
  | _, _, _, .nil => .nil
  | _, _, 0, .val _ t => .val r t
  | _, _, 0, .any t => .val r t
  | _, _, i + 1, .val q t => .val q (EnvR.set r i t)
  | _, _, i + 1, .any t => .any (EnvR.set r i t)
theorem EnvR.empty {K : PySem.W.Frag} {M : Mp} {Z : Zn} {H : Hp} : ∀ (n : Nat), EnvR K M Z H (List.replicate n .none) (List.replicate n .none)
  | 0 => .nil
  | n + 1 => .any (EnvR.empty n)
theorem EnvR.start {K : PySem.W.Frag} {M : Mp} {Z : Zn} {H : Hp} {σ : St} {ρ : Rho} (t : EnvR K M Z H σ ρ) : ∀ {vs : List V} {ds : List D}, Reps K M Z H vs ds → EnvR K M Z H (vs.map Option.some ++ σ) (ds.map Option.some ++ ρ)
  | _, _, .nil => t
  | _, _, .cons r q => .val r (EnvR.start t q)
/-- the slots at a def's entry -/
def start (N : List Str) (ds : List D) : Rho := ds.map some ++ List.replicate (N.length - ds.length) none
theorem env_start {K : PySem.W.Frag} {M : Mp} {Z : Zn} {H : Hp} {N : List Str} {vs : List V} {ds : List D} (r : Reps K M Z H vs ds) : EnvR K M Z H (L2.start N vs) (start N ds) := by
  unfold L2.start start
  rw [r.length]
  exact EnvR.start (EnvR.empty _) r
end DL
namespace DL
open PySem L2
section
variable (X : Cx)
def ssSem (st : List Stmt) : TS := fun D σ H => ∀ pins s, Inv X pins σ H s → wpAny (model X.prog X.w) X.A (execs st X.env) (SP X pins D) X.xe s
end
section
variable {X : Cx} {e tg : Expr} {es : List Expr} {st : Stmt} {sts : List Stmt} {σ : L2.St} {H : Hp}
theorem pss_sem : PSs X sts (ssSem X sts) := ⟨fun pins s σ H D I h => h pins s I⟩
end
def KE (K : PySem.W.Frag) (M : Mp) (Z : Zn) (H : Hp) (Φ : D → Mp → Prop) (Q : VK) : Prop := ∀ v d H' M', Ext M Z H M' H' → Wd K M' Z H' → Rep K M' Z H' v d → Φ d M' → Q v H'
def KT (K : PySem.W.Frag) (M : Mp) (Z : Zn) (H : Hp) (Φ : Bool → Mp → Prop) (Q : Bool → Hp → Prop) : Prop := ∀ b H' M', Ext M Z H M' H' → Wd K M' Z H' → Φ b M' → Q b H'
def KA (K : PySem.W.Frag) (M : Mp) (Z : Zn) (H : Hp) (Φ : List D → Mp → Prop) (Q : List V → Hp → Prop) : Prop := ∀ vs ds H' M', Ext M Z H M' H' → Wd K M' Z H' → Reps K M' Z H' vs ds → Φ ds M' → Q vs H'
def KG (K : PySem.W.Frag) (M : Mp) (Z : Zn) (H : Hp) (Φ : Rho → Mp → Prop) (Q : L2.St → Hp → Prop) : Prop := ∀ σ' ρ' H' M', Ext M Z H M' H' → Wd K M' Z H' → EnvR K M' Z H' σ' ρ' → Φ ρ' M' → Q σ' H'
/-- what is wanted behind a statement -/
structure DE where
  nx : Rho → Mp → Prop
  rt : D → Mp → Prop
  bk : Rho → Mp → Prop := fun _ _ => False
  ct : Rho → Mp → Prop := fun _ _ => False
structure KS (K : PySem.W.Frag) (M : Mp) (Z : Zn) (H : Hp) (Ψ : DE) (E : Ends) : Prop where
  nx : KG K M Z H Ψ.nx E.nx
  rt : KE K M Z H Ψ.rt E.rt
  bk : KG K M Z H Ψ.bk E.bk
  ct : KG K M Z H Ψ.ct E.ct
section
variable {K : PySem.W.Frag} {M M1 : Mp} {Z : Zn} {H H1 : Hp}
theorem KE.step {Φ : D → Mp → Prop} {Q : VK} (k : KE K M Z H Φ Q) (e : Ext M Z H M1 H1) : KE K M1 Z H1 Φ Q := fun v d H' M' x w r h => k v d H' M' (e.trans x) w r h
theorem KT.step {Φ : Bool → Mp → Prop} {Q : Bool → Hp → Prop} (k : KT K M Z H Φ Q) (e : Ext M Z H M1 H1) : KT K M1 Z H1 Φ Q := fun b H' M' x w h => k b H' M' (e.trans x) w h
theorem KA.step {Φ : List D → Mp → Prop} {Q : List V → Hp → Prop} (k : KA K M Z H Φ Q) (e : Ext M Z H M1 H1) : KA K M1 Z H1 Φ Q := fun v d H' M' x w r h => k v d H' M' (e.trans x) w r h
theorem KG.step {Φ : Rho → Mp → Prop} {Q : L2.St → Hp → Prop} (k : KG K M Z H Φ Q) (e : Ext M Z H M1 H1) : KG K M1 Z H1 Φ Q := fun v d H' M' x w r h => k v d H' M' (e.trans x) w r h
theorem KS.step {Ψ : DE} {E : Ends} (k : KS K M Z H Ψ E) (e : Ext M Z H M1 H1) : KS K M1 Z H1 Ψ E := ⟨k.nx.step e, k.rt.step e, k.bk.step e, k.ct.step e⟩
end
structure WSs (X : Cx) (ρ : Rho) (M : Mp) (st : List Stmt) (Ψ : DE) : Prop where
  run : ∀ {Z : Zn} σ H (E : Ends), EnvR X.K M Z H σ ρ → Wd X.K M Z H → KS X.K M Z H Ψ E → ssSem X st E σ H
end DL
namespace DL
open PySem PySem.Spec PyProof.Rows L2
/-- a def's contract: arguments, mutable objects, what is wanted behind -/
abbrev Con := List D → Mp → (D → Mp → Prop) → Prop
/-- its promise in the hand layer -/
def spD (K : PySem.W.Frag) (n : Nat) (c : Con) : Sp := fun vs H Q _ => ∃ ds M Z Φ, ds.length = n ∧ Reps K M Z H vs ds ∧ Wd K M Z H ∧ c ds M Φ ∧ KE K M Z H Φ Q
/-- M' has no more than M -/
def Les (M' M : Mp) : Prop := ∀ b, M' b = M b ∨ M' b = none
theorem Les.refl {M : Mp} : Les M M := fun _ => .inl rfl
theorem Les.x {M M' : Mp} {Z : Zn} {H : Hp} (l : Les M' M) : ExI M Z H M' Z H := fun b o q m => by
  refine ⟨q, ?_, m.2⟩
  rcases l b with e | e
  · rw [e]; exact m.1
  · exact e
theorem Les.w {K : PySem.W.Frag} {M M' : Mp} {Z : Zn} {H : Hp} (l : Les M' M) (w : Wd K M Z H) : Wd K M' Z H := by
  refine ⟨fun a o e => ?_, fun b z => ?_⟩
  · rcases l a with q | q
    · rw [q] at e; exact (w.1 a o e).stepI l.x rfl
    · rw [q] at e; cases e
  · obtain ⟨m, u⟩ := w.2 b z
    rcases l b with q | q
    · exact ⟨q.trans m, u⟩
    · exact ⟨q, u⟩
theorem Les.ext {K : PySem.W.Frag} {M M' : Mp} {Z : Zn} {H : Hp} (l : Les M' M) (w : Wd K M Z H) : Ext M Z H M' H := by
  refine ⟨l.x, fun b z => ⟨rfl, ?_⟩⟩
  have m := (w.2 b z).1
  rcases l b with q | q
  · exact q
  · rw [q, m]
/-- d, read while M stands, is d' where only M' is left -/
inductive Fz (M M' : Mp) : D → D → Prop where
  | same (d : D) : Fz M M' d d
  | lst {a : Addr} {ds : List D} : M a = some (.lst ds) → M' a = none → Fz M M' (.ob a) (.lst ds)
  | dK {a : Addr} {ds : List (Key × D)} : M a = some (.dK ds) → M' a = none → Fz M M' (.ob a) (.dK ds)
  | dT {a : Addr} {ds : List (List Key × D)} : M a = some (.dT ds) → M' a = none → Fz M M' (.ob a) (.dT ds)
  | ins {a C : Addr} {fs : List (Str × D)} : M a = some (.ins C fs) → M' a = none → Fz M M' (.ob a) (.ins C fs)
  | fdK {a : Addr} {ds : List (Key × D)} : M a = some (.fdK ds) → M' a = none → Fz M M' (.ob a) (.fdK ds)
  | slo {a C : Addr} {os : List (Option D)} : M a = some (.slo C os) → M' a = none → Fz M M' (.ob a) (.slo C os)
theorem Fz.rep {K : PySem.W.Frag} {M M' : Mp} {Z : Zn} {H : Hp} {v : V} {d d' : D} (f : Fz M M' d d') (l : Les M' M) (w : Wd K M Z H) (r : Rep K M Z H v d) : Rep K M' Z H v d' := by
  cases f with
  | same d => exact r.monoI l.x
  | lst h h' =>
    cases r
    obtain ⟨vs, e, r⟩ := w.1 _ _ h
    exact .lst e ⟨h', fun z => by have := (w.2 _ z).1; rw [h] at this; cases this⟩ (r.monoI l.x)
  | dK h h' =>
    cases r
    obtain ⟨vs, e, r⟩ := w.1 _ _ h
    exact .dK e ⟨h', fun z => by have := (w.2 _ z).1; rw [h] at this; cases this⟩ (r.monoI l.x)
  | dT h h' =>
    cases r
    obtain ⟨vs, e, r⟩ := w.1 _ _ h
    exact .dT e ⟨h', fun z => by have := (w.2 _ z).1; rw [h] at this; cases this⟩ (r.monoI l.x)
  | ins h h' =>
    cases r
    obtain ⟨dx, vs, e, r⟩ := w.1 _ _ h
    exact .ins e ⟨h', fun z => by have := (w.2 _ z).1; rw [h] at this; cases this⟩ (r.monoI l.x)
  | fdK h h' =>
    cases r
    obtain ⟨o, vs, e, r⟩ := w.1 _ _ h
    exact .fdK e ⟨h', fun z => by have := (w.2 _ z).1; rw [h] at this; cases this⟩ (r.monoI l.x)
  | slo h h' =>
    cases r
    obtain ⟨dx, vs, e, hd, md, r⟩ := w.1 _ _ h
    exact .slo e hd ⟨h', fun z => by have := (w.2 _ z).1; rw [h] at this; cases this⟩ (l.x _ _ hd md).2 (r.monoI l.x)
/-- the end, some objects let go -/
def Lets (Φ : D → Mp → Prop) : D → Mp → Prop := fun d M => ∃ d' M', Les M' M ∧ Fz M M' d d' ∧ Φ d' M'
theorem Lets.of {Φ : D → Mp → Prop} {d : D} {M : Mp} (h : Φ d M) : Lets Φ d M := ⟨d, M, Les.refl, .same d, h⟩
theorem lets_k {K : PySem.W.Frag} {M : Mp} {Z : Zn} {H : Hp} {Φ : D → Mp → Prop} {Q : VK} (k : KE K M Z H Φ Q) : KE K M Z H (Lets Φ) Q := fun v d H' M' x w r z => by
  obtain ⟨d', M2, l, f, z⟩ := z
  exact k v d' H' M2 (x.trans (l.ext w)) (l.w w) (f.rep l w r) z
/-- slots, some objects let go -/
inductive FzE (M M' : Mp) : Rho → Rho → Prop where
  | nil : FzE M M' [] []
  | val {d d' : D} {ρ ρ' : Rho} : Fz M M' d d' → FzE M M' ρ ρ' → FzE M M' (some d :: ρ) (some d' :: ρ')
  | drop {o : Option D} {ρ ρ' : Rho} : FzE M M' ρ ρ' → FzE M M' (o :: ρ) (none :: ρ')
theorem FzE.env {K : PySem.W.Frag} {M M' : Mp} {Z : Zn} {H : Hp} (l : Les M' M) (w : Wd K M Z H) : ∀ {σ : L2.St} {ρ ρ' : Rho}, FzE M M' ρ ρ' → EnvR K M Z H σ ρ → EnvR K M' Z H σ ρ'
  | _, _, _, .nil, .nil => .nil
  | _, _, _, .val f t, .val r u => .val (f.rep l w r) (FzE.env l w t u)
  | _, _, _, .drop t, .val r u => .any (FzE.env l w t u)
  | _, _, _, .drop t, .any u => .any (FzE.env l w t u)
theorem FzE.refl {M M' : Mp} : ∀ (ρ : Rho), FzE M M' ρ ρ
  | [] => .nil
  | some d :: ρ => .val (.same d) (FzE.refl ρ)
  | none :: ρ => .drop (FzE.refl ρ)
section
variable {P : Program} {w : World} {K : PySem.W.Frag} {mg : Str → Option Value} {base : Heap} {x qual : Str} {params : Arguments} {body : List Stmt} {scope : Scope} {dvs : List V} {kws : List (Str × V)} {f : Addr} {fd : FuncData}
/-- the context of a body -/
abbrev bx (P : Program) (w : World) (K : PySem.W.Frag) (mg : Str → Option Value) (base : Heap) (N : List Str) (qual : Str) (scope : Scope) (f : Addr) (cdv : Value) (A : Around) (outer : List Env) (s : Shared) (H : Hp) (E : XK) : Cx :=
  (cxOf CX0 P w K mg base N qual scope f cdv A outer s H E).nox
theorem fn_ok {N ps : List Str} {k : Nat} {c : Con} (F : FunD K x qual params body scope dvs kws f fd) (S : FnScope N ps scope)
    (h : ∀ (cdv : Value) (A : Around) (outer : List Env) (s : Shared) (H : Hp) (E : XK), Room k (A.deeper (envOfC qual scope s.heap.objs.size f cdv)) → ∀ ds M Φ, ds.length = ps.length → c ds M Φ →
      WSs (bx P w K mg base N qual scope f cdv A outer s H E) (start N ds) M body { nx := fun _ M' => Φ .non M', rt := Lets Φ }) : FnOk P w K mg base CX0 (k + 1) f fd ps (spD K ps.length c) := by
  refine F.ok S (fun vs H Q E q => ?_) (fun cdv A outer s H vs Q E hr q => ?_)
  · obtain ⟨ds, M, Z, Φ, hl, r, _⟩ := q
    rw [r.length, hl]
  · obtain ⟨ds, M, Z, Φ, hl, r, wd, hc, k⟩ := q
    refine ⟨_, PSs.nox (pss_sem (X := bx P w K mg base N qual scope f cdv A outer s H E)), ?_⟩
    exact (h cdv A outer s H E hr ds M Φ hl hc).run (L2.start N vs) H _ (env_start r) wd ⟨fun σ' ρ' H' M' x w' en z => k _ .non H' M' x w' .non z, lets_k k, fun _ _ _ _ _ _ _ z => z.elim, fun _ _ _ _ _ _ _ z => z.elim⟩
end
section
variable {X : Cx} {ρ : Rho} {M : Mp} {Φ : D → Mp → Prop} {e o : Expr} {es : List Expr} {pos p apos : Pos} {x m : Str} {dd : List D} {k n : Nat} {c : Con}
theorem RepF.lookup {K : PySem.W.Frag} {M : Mp} {Z : Zn} {H : Hp} (f : Str) : ∀ {vs : List (Str × V)} {ds : List (Str × D)}, RepF K M Z H vs ds → (ds.lookup f = none → vs.lookup f = none) ∧ ∀ d, ds.lookup f = some d → ∃ v, vs.lookup f = some v ∧ Rep K M Z H v d
  | _, _, .nil => ⟨fun _ => rfl, fun d e => by cases e⟩
  | _, _, .cons (k := g) (v := v) (d := d) (vs := vs) (ds := ds) r t => by
    rw [List.lookup_cons, List.lookup_cons]
    cases hg : f == g with
    | true =>
      refine ⟨fun e => ?_, fun d e => ?_⟩
      · cases e
      · cases e; exact ⟨_, rfl, r⟩
    | false => exact RepF.lookup f t
theorem RepF.length {K : PySem.W.Frag} {M : Mp} {Z : Zn} {H : Hp} : ∀ {vs : List (Str × V)} {ds : List (Str × D)}, RepF K M Z H vs ds → vs.length = ds.length
  | _, _, .nil => rfl
  | _, _, .cons _ t => by rw [List.length_cons, List.length_cons, t.length]
/-- the method m of the class at C has this contract (self among the arguments) -/
structure Mc (P : Program) (w : World) (K : PySem.W.Frag) (mg : Str → Option Value) (base : Heap) (C : Addr) (m : Str) (dd : List D) (k n : Nat) (c : Con) : Prop where
  cl : Cls K C
  ex : ∃ (f : Addr) (fd : FuncData) (ps : List Str) (dvs : List V) (ds : List Value), FnOk P w K mg base CX0 k f fd ps (spD K n c) ∧ Meth K C m f ∧ Binds K fd ps ds ∧ Vals dvs ds ∧ ∀ M Z H, Reps K M Z H dvs dd
end
end DL
namespace DL
open PySem PySem.Spec PyProof.Rows L2
section
variable {X : Cx} {ρ : Rho} {M : Mp} {Φ : D → Mp → Prop} {Θ : Bool → Mp → Prop} {a b e : Expr} {pos : Pos} {K : PySem.W.Frag}
/-- the answer of == between scalars -/
def EqS : D → D → Bool → Prop
  | .int i, .int j, c => c = decide (i = j)
  | .str i, .str j, c => c = decide (i = j)
  | .bl i, .bl j, c => c = decide (i = j)
  | .non, .non, c => c = true
  | .non, .int _, c => c = false
  | .int _, .non, c => c = false
  | .non, .str _, c => c = false
  | .str _, .non, c => c = false
  | .int _, .str _, c => c = false
  | .str _, .int _, c => c = false
  | _, _, _ => False
theorem EqS.rep {x y : D} {c : Bool} {M : Mp} {Z : Zn} {H : Hp} {v u : V} (h : EqS x y c) (r1 : Rep K M Z H v x) (r2 : Rep K M Z H u y) : scal v u = true ∧ decide (v = u) = c := by
  cases r1 <;> cases r2 <;> first
    | (cases h; exact ⟨rfl, by simp⟩)
    | (exact False.elim h)
    | (cases h; exact ⟨rfl, rfl⟩)
mutual
def toPy : D → Option PyData
  | .non => some .none
  | .bl b => some (.bool b)
  | .int i => some (.int i)
  | .str x => some (.str x)
  | .lst xs => (toPys xs).map .list
  | .rol xs => (toPys xs).map .list
  | .tup xs => (toPys xs).map .tuple
  | _ => none
def toPys : List D → Option (List PyData)
  | [] => some []
  | x :: xs => (toPy x).bind fun d => (toPys xs).map fun ds => d :: ds
end
/-- the items of a slice -/
def cutD {α : Type} (xs : List α) (lo hi : Option Int) : List α := (xs.drop (HT.sIx xs.length 0 lo)).take (HT.sIx xs.length xs.length hi - HT.sIx xs.length 0 lo)
theorem Reps.cut {M : Mp} {Z : Zn} {H : Hp} {vs : List V} {ds : List D} (r : Reps K M Z H vs ds) (lo hi : Option Int) : Reps K M Z H (cutV vs lo hi) (cutD ds lo hi) := by
  unfold cutV cutD
  rw [r.length]
  exact (r.drop _).take _
end
end DL
namespace DL
open PySem PySem.Spec PyProof.Rows L2
section
variable {K : PySem.W.Frag} {M : Mp} {Z : Zn} {H : Hp}
theorem Reps.set {v : V} {d : D} (r : Rep K M Z H v d) : ∀ {vs : List V} {ds : List D} (j : Nat), Reps K M Z H vs ds → Reps K M Z H (vs.set j v) (ds.set j d)
  | _, _, _, .nil => .nil
  | _, _, 0, .cons _ t => .cons r t
  | _, _, j + 1, .cons q t => .cons q (Reps.set r j t)
theorem Reps.one {vs : List V} {d : D} (r : Reps K M Z H vs [d]) : ∃ v, vs = [v] ∧ Rep K M Z H v d := by
  cases r with
  | cons r t => cases t; exact ⟨_, rfl, r⟩
end
section
variable {X : Cx} {ρ : Rho} {M : Mp} {Φ : D → Mp → Prop} {Θ : Bool → Mp → Prop} {a b e o : Expr} {es : List Expr} {pos p apos : Pos} {x : Str}
/-- the class of data, as the fragment's deciders take it -/
def TyD (M : Mp) : D → Value → Prop
  | .non, t => t = .type "NoneType"
  | .bl _, t => t = .type "bool"
  | .int _, t => t = .type "int"
  | .str _, t => t = .type "str"
  | .lst _, t => t = .type "list"
  | .tup _, t => t = .type "tuple"
  | .dK _, t => t = .type "dict"
  | .dT _, t => t = .type "dict"
  | .ins C _, t => t = .ref C
  | _, _ => False
/-- what isinstance asks of an own class -/
structure OwnC (K : PySem.W.Frag) (C : Addr) : Prop where
  cl : Cls K C
  ha : PySem.W.findIn K (.ref C) "__class__" = some (some (.builtin "object.__class__"))
  hn : PySem.W.specialIn K (.builtin "object.__class__") "__get__" = some (some (.builtin "getset_descriptor.__get__"))
  htk : PySem.W.takesIn K (.builtin "object.__class__") = some true
  hm : PySem.W.mroIn K C (.type "object") = some true
theorem TyD.rep {K : PySem.W.Frag} {M : Mp} {Z : Zn} {H : Hp} {v : V} {d : D} {t : Value} (r : Rep K M Z H v d) (h : TyD M d t) (own : ∀ C, t = .ref C → OwnC K C) : TyX K H v t := by
  cases r with
  | non => cases h; exact .base .non
  | bl b => cases h; exact .base (.bl b)
  | int i => cases h; exact .base (.int i)
  | str x => cases h; exact .base (.str x)
  | lst h1 m r => cases h; exact .base (.lst h1)
  | tup h1 m r =>
    cases h
    rcases h1 with h1 | ⟨o, h1⟩
    · exact .base (.tup h1)
    · exact .fTuple h1
  | tupK h1 r =>
    cases h
    obtain ⟨o, its, n, hk, hc, _⟩ := h1
    exact .kTuple hk hc
  | dK h1 m r => cases h; exact .base (.dK h1)
  | dT h1 m r => cases h; exact .base (.dT h1)
  | ins h1 m r =>
    cases h
    obtain ⟨cl, ha, hn, htk, hm⟩ := own _ rfl
    exact .base (.ins h1 cl ha hn htk hm)
  | _ => cases h
end
end DL
namespace DL
open PySem PySem.Spec PyProof.Rows L2
/-- at a a dict of the top: these texts with these values, in this order -/
def WrD (K : PySem.W.Frag) (w : World) (a : Addr) (kvs : List (Str × V)) : Prop := ∃ es n, K.lookup a = some ⟨.type "dict", none, .dict es n, #[]⟩ ∧ (a == sysModules) = false ∧ PySem.W.KeysLit w.params es.toList ∧
  Paired (fun (p : Str × V) (e : DictEntry) => (∃ t, e.key = .str p.1 t) ∧ RelV p.2 e.val) kvs es.toList ∧ (kvs.map (·.1)).Nodup
section
variable {X : Cx} {ρ : Rho} {M : Mp} {a : Addr} {e f : Expr} {pos p apos : Pos} {x : Str} {kvs : List (Str × V)}
theorem RepF.get {K : PySem.W.Frag} {M : Mp} {Z : Zn} {H : Hp} : ∀ {vs : List (Str × V)} {ds : List (Str × D)} {i : Nat} {k : Str} {d : D}, RepF K M Z H vs ds → ds[i]? = some (k, d) → ∃ v, vs[i]? = some (k, v) ∧ Rep K M Z H v d
  | _, _, _, _, _, .nil, e => by simp at e
  | _, _, 0, _, _, .cons r _, e => by simp at e; obtain ⟨rfl, rfl⟩ := e; exact ⟨_, rfl, r⟩
  | _, _, i + 1, k, d, .cons _ t, e => by
    obtain ⟨u, h1, h2⟩ := RepF.get (i := i) (d := d) t (by simpa using e)
    exact ⟨u, by simpa using h1, h2⟩
end
end DL
namespace DL
open PySem PySem.Spec PyProof.Rows L2
section
variable {P : Program} {w : World} {K : PySem.W.Frag} {mg : Str → Option Value} {base : Heap} {x : Str} {st : Stmt} {N ps : List Str} {j k n : Nat} {c : Con} {dd : List D} {C : Addr} {m : Str}
/-- a body keeps a contract -/
def BodyOk (P : Program) (w : World) (K : PySem.W.Frag) (mg : Str → Option Value) (base : Heap) (qual : Str) (st : Stmt) (N : List Str) (n k : Nat) (c : Con) : Prop :=
  ∀ (f : Addr) (cdv : Value) (A : Around) (outer : List Env) (s : Shared) (H : Hp) (E : XK), Room k (A.deeper (envOfC qual (defScope st) s.heap.objs.size f cdv)) → ∀ ds M Φ, ds.length = n → c ds M Φ →
      WSs (bx P w K mg base N qual (defScope st) f cdv A outer s H E) (start N ds) M (defBody st) { nx := fun _ M' => Φ .non M', rt := Lets Φ }
end
/-- the method m of the class C of the name x is the statement st -/
structure Md (K : PySem.W.Frag) (C : Addr) (m qual : Str) (st : Stmt) (f : Addr) : Prop where
  ex : ∃ fd : FuncData, FunD K m qual (defArgs st) (defBody st) (defScope st) [] [] f fd
section
variable {P : Program} {w : World} {K : PySem.W.Frag} {mg : Str → Option Value} {base : Heap} {x qual : Str} {st : Stmt} {N ps : List Str} {j k n : Nat} {c : Con} {dd : List D} {C : Addr} {m : Str} {f p : Addr}
theorem Md.mc (D : Md K C m qual st f) (cl : Cls K C) (me : Meth K C m f) (S : FnScope N ps (defScope st))
    (hb : ∀ (kV doc pm : Value) (an : Option Addr) (cdv ct : Value) (us : List Value), us.length = ps.length → bindArgs (PySem.W.fnOf m qual (defArgs st) (defBody st) (defScope st) .none kV doc pm an cdv ct) ⟨us, []⟩ = pure (ps.zip us))
    (h : BodyOk P w K mg base qual st N ps.length k c) : Mc P w K mg base C m [] (k + 1) ps.length c := by
  obtain ⟨fd, F⟩ := D.ex
  exact ⟨cl, f, fd, ps, [], [], fn_ok F S (h f), me, F.bindsN hb, .nil, fun _ _ _ => .nil⟩
end
end DL
namespace DL
open PySem PySem.Spec PyProof.Rows L2
/-- lists of such -/
structure CmpDs (ds : List D) (ps : List PyData) (k : Nat) : Prop where
  eq : toPys ds = some ps
  lay : PyData.canLayAll0 ps = true
  dep : PyData.depthAll ps ≤ k
theorem CmpDs.length {k : Nat} : ∀ {ds : List D} {ps : List PyData}, CmpDs ds ps k → ps.length = ds.length
  | [], ps, h => by
    have := h.eq
    simp only [toPys, Option.some.injEq] at this
    rw [← this]; rfl
  | d :: ds, ps, h => by
    have := h.eq
    simp only [toPys] at this
    obtain ⟨p, e1, e2⟩ := Option.bind_eq_some_iff.mp this
    obtain ⟨qs, e3, rfl⟩ := Option.map_eq_some_iff.mp e2
    have l := h.lay
    have dd := h.dep
    simp only [PyData.canLayAll0, Bool.and_eq_true, PyData.depthAll] at l dd
    rw [List.length_cons, List.length_cons, CmpDs.length (k := k) ⟨e3, l.2, by omega⟩]
end DL
namespace DL
open PySem PySem.Spec PyProof.Rows L2
/-- as FnOk, where nothing is being shown -/
structure FnG (P : Program) (w : World) (K : PySem.W.Frag) (mg : Str → Option Value) (base : Heap) (k : Nat) (f : Addr) (fd : FuncData) (ps : List Str) (sp : Sp) : Prop where
  len : ∀ vs H Q E, sp vs H Q E → vs.length = ps.length
  run : ∀ (A : Around) (outer : List Env) (s : Shared) (H : Hp) (args : Args) (us : List Value) (vs : List V) (Q : VK) (E : XK), A.guards = some [] → Room k A → Env0 P w K mg base A outer s H → BindsTo s fd args (ps.zip us) → Vals vs us → sp vs H Q E →
    codeAny (model P w) A (.call (.ref f) args) (CR CX0 outer P w H s Q E) s
section
variable {P : Program} {w : World} {K : PySem.W.Frag} {mg : Str → Option Value} {base : Heap} {x qual : Str} {st : Stmt} {kws : List (Str × V)} {f : Addr} {fd : FuncData} {N ps : List Str} {k n : Nat} {c : Con}
theorem FnOk.g {sp : Sp} (F : FnOk P w K mg base CX0 k f fd ps sp) : FnG P w K mg base k f fd ps sp := ⟨F.len, fun A outer s H args us vs Q E _ => F.run A outer s H args us vs Q E⟩
end
end DL
namespace DL
open PySem PySem.Spec PyProof.Rows L2
section
variable {X : Cx} {ρ : Rho} {M : Mp} {Φ : D → Mp → Prop} {Θ : Bool → Mp → Prop} {a b e o i : Expr} {es : List Expr} {pos p : Pos}
def valD (kvs : List (List Key × D)) (k : List Key) : Option D := (kvs.find? fun kv => decide (kv.1 = k)).map (·.2)
theorem RepT.length {K : PySem.W.Frag} {M : Mp} {Z : Zn} {H : Hp} : ∀ {vs : List (List Key × V)} {ds : List (List Key × D)}, RepT K M Z H vs ds → vs.length = ds.length
  | _, _, .nil => rfl
  | _, _, .cons _ t => by rw [List.length_cons, List.length_cons, RepT.length t]
theorem RepT.val {K : PySem.W.Frag} {M : Mp} {Z : Zn} {H : Hp} {k : List Key} {d : D} : ∀ {vs : List (List Key × V)} {ds : List (List Key × D)}, RepT K M Z H vs ds → valD ds k = some d → ∃ v, valV vs k = some v ∧ Rep K M Z H v d
  | _, _, .nil, h => by cases h
  | _, _, .cons (k := j) (v := v) (d := d0) (vs := vs) (ds := ds) r t, h => by
    by_cases e : j = k
    · have h2 : some d0 = some d := by rw [← h]; unfold valD; rw [List.find?_cons_of_pos (by simpa using e)]; rfl
      cases h2
      exact ⟨v, valV_pos (p := (j, v)) e, r⟩
    · have h2 : valD ds k = some d := by rw [← h]; unfold valD; rw [List.find?_cons_of_neg (by simpa using e)]
      obtain ⟨u, hu, ru⟩ := RepT.val t h2
      exact ⟨u, by rw [valV_neg (p := (j, v)) e]; exact hu, ru⟩
theorem RepT.any {K : PySem.W.Frag} {M : Mp} {Z : Zn} {H : Hp} {k : List Key} : ∀ {vs : List (List Key × V)} {ds : List (List Key × D)}, RepT K M Z H vs ds → (vs.any fun kv => decide (kv.1 = k)) = ds.any fun kv => decide (kv.1 = k)
  | _, _, .nil => rfl
  | _, _, .cons r t => by rw [List.any_cons, List.any_cons, RepT.any t]
end
end DL
namespace DL
open PySem PySem.Spec PyProof.Rows L2 SlX
/-- a class with these slots -/
structure SlC (K : PySem.W.Frag) (C : Addr) (fs : List Str) : Prop where
  sc : SCls K C
  sl : ∀ (i : Nat) (f : Str), fs[i]? = some f → ∃ p, Slot1 K C f p i
end DL
namespace HK
open PySem PySem.Spec PyProof.Rows L2 DL He
/-- a def of the text: where it stands -/
structure Dd where
  adr : PySem.W.Frag → Addr
  name : Str
  qual : Str
  st : Stmt
  dfl : List V := []
def fnA (K : PySem.W.Frag) (a : Addr) : FnW := match K.lookup a with
  | some ⟨_, _, .func fd, _⟩ => some (fd.name, fd.qualname, fd.params, fd.body, fd.scope, fd.globals, fd.closure, fd.builtins)
  | _ => none
def Dd.val (d : Dd) : FnW := some (d.name, d.qual, defArgs d.st, .stmts (defBody d.st), defScope d.st, mainGlobals, [], builtinsNs)
def Dd.ok (K : PySem.W.Frag) (d : Dd) : Bool := PySem.W.keepIn K (.ref (d.adr K)) && (match K.lookup (d.adr K) with
  | some ⟨_, _, .func fd, _⟩ => PySem.W.codeIn K fd.code d.qual && dflB K fd.defaults d.dfl
  | _ => false)
theorem Dd.funD {K : PySem.W.Frag} {d : Dd} (e : fnA K (d.adr K) = d.val) (c : d.ok K = true) : ∃ fd, FunD K d.name d.qual (defArgs d.st) (defBody d.st) (defScope d.st) d.dfl [] (d.adr K) fd := by
  obtain ⟨kp, c2⟩ := Bool.and_eq_true_iff.mp c
  unfold fnA at e
  cases q : K.lookup (d.adr K) with
  | none => rw [q] at c2; cases c2
  | some o =>
    obtain ⟨oc, od, dt, osl⟩ := o
    rw [q] at c2 e
    cases dt with
    | func fd =>
      obtain ⟨x1, x2, x3, x4, x5, x6, x7, x8, x9, x10, x11, x12, x13, x14, x15⟩ := fd
      have e2 : (some (x1, x2, x3, x4, x5, x6, x7, x15) : FnW) = some (d.name, d.qual, defArgs d.st, .stmts (defBody d.st), defScope d.st, mainGlobals, [], builtinsNs) := e
      simp only [Option.some.injEq, Prod.mk.injEq] at e2
      obtain ⟨h1, h2, h3, h4, h5, h6, h7, h8⟩ := e2
      subst h1 h2 h3 h4 h5 h6 h7 h8
      obtain ⟨y1, y2⟩ := Bool.and_eq_true_iff.mp (show (PySem.W.codeIn K x13 d.qual && dflB K x8 d.dfl) = true from c2)
      exact ⟨_, ⟨oc, od, x8, x9, x10, x11, x12, x13, x14, osl, rfl, q, y1, dflB_ok y2, .inl rfl⟩, kp⟩
    | _ => cases c2
/-- the getter of a property -/
def pgA (C m : Str) (K : PySem.W.Frag) : Addr := match PySem.W.recIn K (ma K (ga K C) m) "property" with
  | some (.ref g :: _) => g
  | _ => 0
def propB (K : PySem.W.Frag) (q : Str × Str) : Bool := eqO (PySem.W.findIn K (.ref (ga K q.1)) q.2) (some (some (.ref (ma K (ga K q.1) q.2)))) && (eqO (PySem.W.specialIn K (.ref (ma K (ga K q.1) q.2)) "__get__") (some (some (.builtin "property.__get__"))) &&
  (decide (PySem.W.takesIn K (.ref (ma K (ga K q.1) q.2)) = some true) && (match PySem.W.recIn K (ma K (ga K q.1) q.2) "property" with
  | some (.ref _ :: _) => true
  | _ => false)))
/-- a value: a text, a tuple of texts, an int -/
inductive Dt where
  | s (z : Str) | t (zs : List Str) | i (n : Int)
def Dt.d : Dt → D
  | .s z => .str z
  | .t zs => .tup (zs.map D.str)
  | .i n => .int n
def Dt.ok (K : PySem.W.Frag) : Dt → Value → Bool
  | .s z, .str y _ => decide (y = z)
  | .i n, .int m _ => decide (m = n)
  | .t zs, .ref b => (match K.lookup b with
    | some ⟨.type c, _, .seq its _, _⟩ => decide (c = "tuple") && (decide (its.size ≤ sizeLine) && relAll (zs.map V.str) its.toList)
    | _ => false)
  | _, _ => false
theorem Dt.rep {K : PySem.W.Frag} {x : Dt} {u : Value} (h : x.ok K u = true) : ∃ v, RelV v u ∧ ∀ M Z H, Rep K M Z H v x.d := by
  cases x with
  | s z =>
    cases u with
    | str y t =>
      obtain rfl : y = z := of_decide_eq_true h
      exact ⟨.str y, ⟨t, rfl⟩, fun _ _ _ => .str y⟩
    | _ => cases h
  | i n =>
    cases u with
    | int y t =>
      obtain rfl : y = n := of_decide_eq_true h
      exact ⟨.int y, ⟨t, rfl⟩, fun _ _ _ => .int y⟩
    | _ => cases h
  | t zs =>
    cases u with
    | ref b =>
      refine ⟨.ref b, rfl, fun M Z H => ?_⟩
      cases q : K.lookup b with
      | none => simp only [Dt.ok, q] at h; cases h
      | some o =>
        obtain ⟨oc, od, dt, osl⟩ := o
        simp only [Dt.ok, q] at h
        cases oc with
        | type c =>
          cases dt with
          | seq its n =>
            obtain ⟨h1, h2⟩ := Bool.and_eq_true_iff.mp (show (decide (c = "tuple") && (decide (its.size ≤ sizeLine) && relAll (zs.map V.str) its.toList)) = true from h)
            obtain ⟨h3, h4⟩ := Bool.and_eq_true_iff.mp h2
            exact .tupK ⟨_, its, n, q, congrArg Value.type (of_decide_eq_true h1), rfl, of_decide_eq_true h3, relAll_ok h4⟩ (Reps.ofStrs zs)
          | _ => cases h
        | _ => cases dt <;> cases h
    | _ => cases h
def entsB (K : PySem.W.Frag) : List (Str × Dt) → List DictEntry → Bool
  | [], [] => true
  | q :: qs, e :: es => (match e.key with
    | .str x _ => decide (x = q.1)
    | _ => false) && (q.2.ok K e.val && entsB K qs es)
  | _, _ => false
theorem entsB_ok {K : PySem.W.Frag} : ∀ {qs : List (Str × Dt)} {es : List DictEntry}, entsB K qs es = true → ∃ kvs : List (Str × V), Paired (fun (p : Str × V) (e : DictEntry) => (∃ t, e.key = .str p.1 t) ∧ RelV p.2 e.val) kvs es ∧ kvs.map (·.1) = qs.map (·.1) ∧ ∀ M Z H, RepF K M Z H kvs (qs.map fun q => (q.1, q.2.d))
  | [], [], _ => ⟨[], .nil, rfl, fun _ _ _ => .nil⟩
  | [], _ :: _, h => by cases h
  | _ :: _, [], h => by cases h
  | q :: qs, e :: es, h => by
    obtain ⟨h1, h2⟩ := Bool.and_eq_true_iff.mp (show ((match e.key with | .str x _ => decide (x = q.1) | _ => false) && (q.2.ok K e.val && entsB K qs es)) = true from h)
    obtain ⟨h3, h4⟩ := Bool.and_eq_true_iff.mp h2
    obtain ⟨kvs, a1, a2, a3⟩ := entsB_ok h4
    obtain ⟨v, b1, b2⟩ := Dt.rep h3
    refine ⟨(q.1, v) :: kvs, .cons ⟨?_, b1⟩ a1, by rw [List.map_cons, List.map_cons, a2], fun M Z H => .cons (b2 M Z H) (a3 M Z H)⟩
    cases hk : e.key with
    | str x t =>
      rw [hk] at h1
      exact ⟨t, by rw [of_decide_eq_true h1]⟩
    | _ => rw [hk] at h1; cases h1
def dicB (K : PySem.W.Frag) (q : Str × List (Str × Dt)) : Bool := match K.lookup (ga K q.1) with
  | some ⟨_, _, .dict es _, _⟩ => entsB K q.2 es.toList
  | _ => false
theorem dicB_ok {K : PySem.W.Frag} {w : World} {x : Str} {qs : List (Str × Dt)} (h : dicB K (x, qs) = true) (hk : dicW K (ga K x) = some (keysIn w.params (qs.map (·.1)))) (nd : (qs.map (·.1)).Nodup) :
    ∃ kvs, WrD K w (ga K x) kvs ∧ ∀ M Z H, RepF K M Z H kvs (qs.map fun q => (q.1, q.2.d)) := by
  obtain ⟨es, n, h1, h2, h3⟩ := dicW_ok hk
  unfold dicB at h
  rw [h1] at h
  obtain ⟨kvs, a1, a2, a3⟩ := entsB_ok (show entsB K qs es.toList = true from h)
  exact ⟨kvs, ⟨es, n, h1, h3, h2, a1, by rw [a2]; exact nd⟩, a3⟩
def slAll (K : PySem.W.Frag) (G : Addr) : Nat → List Str → Bool
  | _, [] => true
  | i, f :: fs => eqO (PySem.W.findIn K (.ref G) f) (some (some (.ref (ma K G f)))) && (eqO (PySem.W.specialIn K (.ref (ma K G f)) "__get__") (some (some (.builtin "member_descriptor.__get__"))) && (decide (PySem.W.takesIn K (.ref (ma K G f)) = some true) && (decide (PySem.W.typeIn K (.ref (ma K G f)) = some (.type "member_descriptor")) && (decide (PySem.W.slotIn K (ma K G f) G = some i) && (decide (i < 1000) && slAll K G (i + 1) fs)))))
theorem slAll_ok {K : PySem.W.Frag} {G : Addr} : ∀ {fs : List Str} {k : Nat}, slAll K G k fs = true → ∀ (i : Nat) (f : Str), fs[i]? = some f → ∃ p, SlX.Slot1 K G f p (k + i)
  | [], _, _, i, f, h => by simp at h
  | f0 :: fs, k, hb, i, f, h => by
    obtain ⟨h1, hb⟩ := Bool.and_eq_true_iff.mp (show (eqO (PySem.W.findIn K (.ref G) f0) (some (some (.ref (ma K G f0)))) && (eqO (PySem.W.specialIn K (.ref (ma K G f0)) "__get__") (some (some (.builtin "member_descriptor.__get__"))) && (decide (PySem.W.takesIn K (.ref (ma K G f0)) = some true) && (decide (PySem.W.typeIn K (.ref (ma K G f0)) = some (.type "member_descriptor")) && (decide (PySem.W.slotIn K (ma K G f0) G = some k) && (decide (k < 1000) && slAll K G (k + 1) fs)))))) = true from hb)
    obtain ⟨h2, hb⟩ := Bool.and_eq_true_iff.mp hb
    obtain ⟨h3, hb⟩ := Bool.and_eq_true_iff.mp hb
    obtain ⟨h4, hb⟩ := Bool.and_eq_true_iff.mp hb
    obtain ⟨h5, hb⟩ := Bool.and_eq_true_iff.mp hb
    obtain ⟨h6, hb⟩ := Bool.and_eq_true_iff.mp hb
    cases i with
    | zero =>
      obtain rfl := Option.some.inj h
      exact ⟨_, eqO_ok h1, eqO_ok h2, of_decide_eq_true h3, of_decide_eq_true h4, of_decide_eq_true h5, of_decide_eq_true h6⟩
    | succ i =>
      obtain ⟨p, q⟩ := slAll_ok hb i f h
      exact ⟨p, by rw [show k + (i + 1) = k + 1 + i by omega]; exact q⟩
def slB (K : PySem.W.Frag) (q : Str × List Str) : Bool := PySem.W.plainGet K (ga K q.1) Str.empty && (PySem.W.isClsIn K (ga K q.1) && (PySem.W.plainOver K (ga K q.1) && (eqO (PySem.W.findIn K (.ref (ga K q.1)) "__setattr__") (some (some (.builtin "object.__setattr__"))) && slAll K (ga K q.1) 0 q.2)))
theorem slB_ok {K : PySem.W.Frag} {x : Str} {fs : List Str} (h : slB K (x, fs) = true) : SlC K (ga K x) fs := by
  obtain ⟨h1, h⟩ := Bool.and_eq_true_iff.mp h
  obtain ⟨h2, h⟩ := Bool.and_eq_true_iff.mp h
  obtain ⟨h3, h⟩ := Bool.and_eq_true_iff.mp h
  obtain ⟨h4, h⟩ := Bool.and_eq_true_iff.mp h
  refine ⟨⟨h1, h2, h3, eqO_ok h4⟩, fun i f hf => ?_⟩
  obtain ⟨p, q⟩ := slAll_ok h i f hf
  exact ⟨p, by rw [Nat.zero_add] at q; exact q⟩
def kiT (K : PySem.W.Frag) (x : Str) : Bool := decide (PySem.W.kitOne K (.ref (ga K x)) (.type "tuple") = some false) && (decide (PySem.W.kitOne K (.ref (ga K x)) (.type "int") = some false) && (decide (PySem.W.kitOne K (.ref (ga K x)) (.type "str") = some false) && decide (PySem.W.kitOne K (.type "NoneType") (.ref (ga K x)) = some false)))
def eqB (K : PySem.W.Frag) (x : Str) : Bool := kiT K x && ((Fa.cls x).ok K && (eqO (PySem.W.findIn K (.ref (ga K x)) "__class__") (some (some (.builtin "object.__class__"))) && (eqO (PySem.W.specialIn K (.builtin "object.__class__") "__get__") (some (some (.builtin "getset_descriptor.__get__"))) &&
  (decide (PySem.W.takesIn K (.builtin "object.__class__") = some true) && (decide (PySem.W.mroIn K (ga K x) (.type "object") = some true) && eqO (PySem.W.findIn K (.ref (ga K x)) "__ne__") (some (some (.builtin "object.__ne__"))))))))
structure Sp where
  fa : List Fa
  dd : List Dd
  pr : List (Str × Str)
  ta : List (Str × List (Str × Dt))
  sl : List (Str × List Str)
  eq : List Str
abbrev Al : Type := Bool × List FnW × List (Option (List (Option (Str × Int))))
def obsK (S : Sp) (K : PySem.W.Frag) : Al := ((S.fa.all fun f => f.ok K) && ((S.dd.all fun d => d.ok K) && ((S.pr.all fun q => propB K q) && ((S.ta.all fun q => dicB K q) && ((S.sl.all fun q => slB K q) && S.eq.all fun x => eqB K x)))), S.dd.map (fun d => fnA K (d.adr K)), S.ta.map fun q => dicW K (ga K q.1))
def valK (S : Sp) (w : World) : Al := (true, S.dd.map Dd.val, S.ta.map fun q => some (keysIn w.params (q.2.map (·.1))))
def Says (S : Sp) (w : World) (K : PySem.W.Frag) : Prop := obsK S K = valK S w
/-- what these names of the module reach, step by step -/
def lv0 (ns : List Str) (g : Addr → Option Obj) : List Addr := match g mainGlobals with
  | some ⟨_, _, .dict es _, _⟩ => es.toList.flatMap fun e => match e.key with
    | .str y _ => if ns.contains y then refV e.val else []
    | _ => []
  | _ => []
def lvs (g : Addr → Option Obj) : Nat → List Addr → List Addr
  | 0, l => l
  | n + 1, l => l ++ lvs g n (l.flatMap fun a => match g a with
    | some o => refsD o
    | none => [])
def asN (n : Nat) (ns : List Str) (g : Addr → Option Obj) : List Addr := mainGlobals :: lvs g n (lv0 ns g)
def obsG (n : Nat) (ns : List Str) (S : Sp) (g : Addr → Option Obj) : Al := obsK S (frG g (asN n ns g))
def hook (n : Nat) (ns : List Str) (S : Sp) : PySem.W.Hook where
  α := Al
  obs := fun s => obsG n ns S s.heap.get?
  val := fun w => valK S w
  says := fun w h => ∃ K : PySem.W.Frag, K.In h ∧ Says S w K
  of := fun _ _ e => ⟨_, frG_in, e⟩
  keeps := fun _ _ _ ⟨K, hK, c⟩ k => ⟨K, PySem.W.Frag.In.keeps hK k, c⟩
section
variable {S : Sp} {w : World} {K : PySem.W.Frag}
theorem Says.fa (c : Says S w K) {f : Fa} (h : f ∈ S.fa) : f.ok K = true := by
  have b := Bool.and_eq_true_iff.mp (congrArg (fun z : Al => z.1) c)
  exact List.all_eq_true.mp b.1 f h
theorem Says.pr (c : Says S w K) {q : Str × Str} (h : q ∈ S.pr) : propB K q = true := by
  have b := Bool.and_eq_true_iff.mp (Bool.and_eq_true_iff.mp (Bool.and_eq_true_iff.mp (congrArg (fun z : Al => z.1) c)).2).2
  exact List.all_eq_true.mp b.1 q h
theorem Says.dd (c : Says S w K) (i : Nat) {d : Dd} (h : S.dd[i]? = some d) : ∃ fd, FunD K d.name d.qual (defArgs d.st) (defBody d.st) (defScope d.st) d.dfl [] (d.adr K) fd := by
  have b := Bool.and_eq_true_iff.mp (Bool.and_eq_true_iff.mp (congrArg (fun z : Al => z.1) c)).2
  have e : S.dd.map (fun d => fnA K (d.adr K)) = S.dd.map Dd.val := congrArg (fun z : Al => z.2.1) c
  have e2 : (S.dd.map fun d => fnA K (d.adr K))[i]? = (S.dd.map Dd.val)[i]? := by rw [e]
  rw [List.getElem?_map, List.getElem?_map, h] at e2
  exact Dd.funD (Option.some.inj e2) (List.all_eq_true.mp b.1 d (List.mem_of_getElem? h))
theorem Says.ta (c : Says S w K) (i : Nat) {x : Str} {qs : List (Str × Dt)} (h : S.ta[i]? = some (x, qs)) (nd : (qs.map (·.1)).Nodup) : ∃ kvs, WrD K w (ga K x) kvs ∧ ∀ M Z H, RepF K M Z H kvs (qs.map fun q => (q.1, q.2.d)) := by
  have b := Bool.and_eq_true_iff.mp (Bool.and_eq_true_iff.mp (Bool.and_eq_true_iff.mp (congrArg (fun z : Al => z.1) c)).2).2
  have e : S.ta.map (fun q => dicW K (ga K q.1)) = S.ta.map fun q => some (keysIn w.params (q.2.map (·.1))) := congrArg (fun z : Al => z.2.2) c
  have e2 : (S.ta.map fun q => dicW K (ga K q.1))[i]? = (S.ta.map fun q => some (keysIn w.params (q.2.map (·.1))))[i]? := by rw [e]
  rw [List.getElem?_map, List.getElem?_map, h] at e2
  exact dicB_ok (List.all_eq_true.mp (Bool.and_eq_true_iff.mp b.2).1 _ (List.mem_of_getElem? h)) (Option.some.inj e2) nd
theorem Says.sl (c : Says S w K) {x : Str} {fs : List Str} (h : (x, fs) ∈ S.sl) : SlC K (ga K x) fs := by
  have b := Bool.and_eq_true_iff.mp (Bool.and_eq_true_iff.mp (Bool.and_eq_true_iff.mp (congrArg (fun z : Al => z.1) c)).2).2
  exact slB_ok (List.all_eq_true.mp (Bool.and_eq_true_iff.mp (Bool.and_eq_true_iff.mp b.2).2).1 _ h)
end
def Sp.app (S T : Sp) : Sp := ⟨S.fa ++ T.fa, S.dd ++ T.dd, S.pr ++ T.pr, S.ta ++ T.ta, S.sl ++ T.sl, S.eq ++ T.eq⟩
def Sp.lo (S : Sp) (a b : Nat) : Sp := ⟨S.fa.take a, S.dd.take b, S.pr, S.ta, S.sl, S.eq⟩
def Sp.hi (S : Sp) (a b : Nat) : Sp := ⟨S.fa.drop a, S.dd.drop b, [], [], [], []⟩
theorem Sp.cut (S : Sp) (a b : Nat) : (S.lo a b).app (S.hi a b) = S := by
  obtain ⟨fa, dd, pr, ta, sl, eq⟩ := S
  unfold Sp.app Sp.lo Sp.hi
  simp only [List.take_append_drop, List.append_nil]
theorem obsK_app {S T : Sp} {w : World} {K : PySem.W.Frag} (h1 : obsK S K = valK S w) (h2 : obsK T K = valK T w) : obsK (S.app T) K = valK (S.app T) w := by
  have a1 : ((S.fa.all fun f => f.ok K) && ((S.dd.all fun d => d.ok K) && ((S.pr.all fun q => propB K q) && ((S.ta.all fun q => dicB K q) && ((S.sl.all fun q => slB K q) && S.eq.all fun x => eqB K x))))) = true := congrArg (fun z : Al => z.1) h1
  have a2 : ((T.fa.all fun f => f.ok K) && ((T.dd.all fun d => d.ok K) && ((T.pr.all fun q => propB K q) && ((T.ta.all fun q => dicB K q) && ((T.sl.all fun q => slB K q) && T.eq.all fun x => eqB K x))))) = true := congrArg (fun z : Al => z.1) h2
  have b1 : S.dd.map (fun d => fnA K (d.adr K)) = S.dd.map Dd.val := congrArg (fun z : Al => z.2.1) h1
  have b2 : T.dd.map (fun d => fnA K (d.adr K)) = T.dd.map Dd.val := congrArg (fun z : Al => z.2.1) h2
  have c1 : S.ta.map (fun q => dicW K (ga K q.1)) = S.ta.map fun q => some (keysIn w.params (q.2.map (·.1))) := congrArg (fun z : Al => z.2.2) h1
  have c2 : T.ta.map (fun q => dicW K (ga K q.1)) = T.ta.map fun q => some (keysIn w.params (q.2.map (·.1))) := congrArg (fun z : Al => z.2.2) h2
  simp only [Bool.and_eq_true] at a1 a2
  unfold obsK valK Sp.app
  simp only [List.all_append, List.map_append, a1, a2, b1, b2, c1, c2, Bool.and_self, Bool.and_true, Bool.true_and]
theorem map_pair {α β γ δ ε ζ : Type} {X : Option α} {p : α → β} {q : α → γ} {o1 : α → δ} {o2 : α → ε} {o : α → ζ} {u : β} {v : γ} {w1 : δ} {w2 : ε} {w : ζ} (h1 : X.map (fun s => (p s, q s, o1 s)) = some (u, v, w1)) (h2 : X.map (fun s => (p s, q s, o2 s)) = some (u, v, w2)) (k : ∀ s, o1 s = w1 → o2 s = w2 → o s = w) : X.map (fun s => (p s, q s, o s)) = some (u, v, w) := by
  cases X with
  | none => cases h1
  | some s =>
    have e1 := Option.some.inj h1
    have e2 := Option.some.inj h2
    show some (p s, q s, o s) = _
    rw [show p s = u from congrArg (fun z => z.1) e1, show q s = v from congrArg (fun z => z.2.1) e1, k s (congrArg (fun z => z.2.2) e1) (congrArg (fun z => z.2.2) e2)]
abbrev obT (n : Nat) (ns : List Str) (S : Sp) (s : PySem.W.SharedT) : Al := obsG n ns S (HandSHeadRun.getT s)
theorem run_cut {r : PySem.W.OpenRow} {q : Program} {n M : Nat} {ns loose : List Str} {S : Sp} {w : World} (a b : Nat) (h1 : HandSHeadRun.RunEq r q (hook n ns (S.lo a b)) (obT n ns (S.lo a b)) M loose w) (h2 : HandSHeadRun.RunEq r q (hook n ns (S.hi a b)) (obT n ns (S.hi a b)) M loose w) : HandSHeadRun.RunEq r q (hook n ns S) (obT n ns S) M loose w := fun os => by
  refine map_pair (h1 os) (h2 os) fun s e1 e2 => ?_
  have := obsK_app (S := S.lo a b) (T := S.hi a b) (w := w) e1 e2
  rw [Sp.cut] at this
  exact this
end HK
namespace PL
open PySem SX TL
/-- a plan: a person, an unknown crowd, so many copies, a row; false: beside, true: introduced -/
inductive T where
  | one | name (x : List Nat) | cop (s : Bool) (n : Nat) (t : T) | row (s : Bool) (ts : List T)
def cls (s : Bool) : Nat := if s then 125 else 93
mutual
def ht : T → Nat
  | .one => 0
  | .name _ => 0
  | .cop _ _ t => ht t + 1
  | .row _ ts => hts ts + 1
def hts : List T → Nat
  | [] => 0
  | t :: ts => max (ht t) (hts ts)
end
def wgt (c : Nat) : Int := (if c = 40 ∨ c = 91 ∨ c = 123 then 1 else 0) - (if c = 41 ∨ c = 93 ∨ c = 125 then 1 else 0)
def dep : List Nat → Int
  | [] => 0
  | c :: r => wgt c + dep r
/-- the rest of the walk through L: at place i, depth d, begin b, found f -/
def G (L S : List Nat) : List Nat → Nat → Int → Nat → List (List Nat) → List (List Nat)
  | [], _, _, b, f => f ++ [L.drop b]
  | c :: r, i, d, b, f => if d + wgt c = 0 ∧ pre S (c :: r) = true then G L S r (i + 1) (d + wgt c) (i + S.length) (f ++ [(L.take i).drop b]) else G L S r (i + 1) (d + wgt c) b f
end PL
namespace W
open PySem PySem.Spec PyProof.Rows L2 DL
abbrev pw : Program := PySem.Challenge.pw_greetall_k50_other_plans_and_chains
def top (i : Nat) : Stmt := pw.main.body.getD i (.Pass ⟨0, 0, 0, 0⟩)
abbrev s_is_integer : Stmt := top 21
abbrev s_is_name : Stmt := top 22
abbrev s_is_tuple : Stmt := top 23
abbrev s_do_ascend : Stmt := top 24
abbrev s_number_in : Stmt := top 25
abbrev s_parted : Stmt := top 35
abbrev s_copies_in : Stmt := top 36
abbrev s_row_in : Stmt := top 37
abbrev s_groups_in : Stmt := top 38
abbrev s_is_plan_text : Stmt := top 39
abbrev s_names_in : Stmt := top 40
abbrev s_Plan___init__ : Stmt := inClass (top 41) 0
abbrev s_Plan_text : Stmt := inClass (top 41) 1
abbrev s_Plan_names : Stmt := inClass (top 41) 2
abbrev s_Plan_word : Stmt := inClass (top 41) 3
abbrev s_Plan_many : Stmt := inClass (top 41) 4
abbrev s_Plan_people : Stmt := inClass (top 41) 5
abbrev s_Plan___invert__ : Stmt := inClass (top 41) 11
abbrev s_check_told : Stmt := top 42
abbrev s_part_at : Stmt := top 47
abbrev s_spot_of : Stmt := top 48
abbrev s_is_person : Stmt := top 49
abbrev s_check_person : Stmt := top 50
abbrev s_nth_person : Stmt := top 51
abbrev s_do_know : Stmt := top 52
abbrev s_knows : Stmt := top 53
abbrev s_person_at : Stmt := top 54
abbrev s_is_pair : Stmt := top 62
abbrev s_Web___init__ : Stmt := inClass (top 63) 0
abbrev s_Web_many : Stmt := inClass (top 63) 1
abbrev s_Web_pairs : Stmt := inClass (top 63) 2
abbrev s_pieces : Stmt := top 64
abbrev s_parts_of : Stmt := top 65
abbrev s_is_chain : Stmt := top 66
abbrev s_chain_in : Stmt := top 67
abbrev s_Reading___init__ : Stmt := inClass (top 68) 0
abbrev s_Reading_read : Stmt := inClass (top 68) 1
abbrev s_told_back : Stmt := top 69
abbrev s_is_told : Stmt := top 70
abbrev s_shows_told_back : Stmt := top 71
abbrev s__law_pot : Stmt := top 73
abbrev s__law_take : Stmt := top 74
abbrev s__law_of : Stmt := top 75
abbrev s__law_some : Stmt := top 76
abbrev s__law_cells : Stmt := top 77
abbrev s__law_odd : Stmt := top 78
abbrev s__law_person : Stmt := top 79
abbrev s__law_small : Stmt := top 80
abbrev s__law_size : Stmt := top 81
abbrev s__law_parts_of : Stmt := top 82
abbrev s__law_part : Stmt := top 83
abbrev s__law_people : Stmt := top 84
abbrev s__law_is_known : Stmt := top 85
abbrev s__law_friends : Stmt := top 86
abbrev s__law_pairs_of : Stmt := top 87
abbrev s__law_web : Stmt := top 88
abbrev s__law_chains : Stmt := top 89
abbrev s__law_is_due : Stmt := top 90
abbrev s__law_bent : Stmt := top 91
abbrev s__law_values : Stmt := top 92
abbrev s__law_right : Stmt := top 93
abbrev s_law : Stmt := top 94
end W
namespace W
open PySem PySem.Spec PyProof.Rows L2 DL SX PL
def bns : List Str := ["isinstance", "int", "bool", "str", "len", "all", "sum", "range", "enumerate", "sorted", "set", "tuple", "list", "zip", "repr", "abs", "max", "min"]
end W
namespace W
open PySem PySem.Spec PyProof.Rows L2 DL SX PL
def fNames : List Str := ["own_text", "own_names", "own_word", "own_groups", "own_copies", "own_people"]
end W
namespace W
open PySem PySem.Spec PyProof.Rows L2 DL He HK
def gl (x : Str) (st : Stmt) : Dd := ⟨fun K => ga K x, x, x, st, []⟩
def me (m qual : Str) (st : Stmt) : Dd := ⟨fun K => ma K (ga K "Plan") m, m, qual, st, []⟩
def pg (m qual : Str) (st : Stmt) : Dd := ⟨pgA "Plan" m, m, qual, st, []⟩
def dds : List Dd := [
  ⟨fun K => ga K "is_integer", "is_integer", "is_integer", s_is_integer, [.non, .non]⟩, me "__init__" "Plan.__init__" s_Plan___init__, pg "text" "Plan.text" s_Plan_text, pg "names" "Plan.names" s_Plan_names, pg "word" "Plan.word" s_Plan_word, pg "many" "Plan.many" s_Plan_many, pg "people" "Plan.people" s_Plan_people, me "__invert__" "Plan.__invert__" s_Plan___invert__,
  ⟨fun K => ma K (ga K "Reading") "read", "read", "Reading.read", s_Reading_read, []⟩, ⟨fun K => ma K (ga K "Web") "__init__", "__init__", "Web.__init__", s_Web___init__, []⟩, ⟨fun K => ma K (ga K "Reading") "__init__", "__init__", "Reading.__init__", s_Reading___init__, []⟩, ⟨pgA "Web" "many", "many", "Web.many", s_Web_many, []⟩, ⟨pgA "Web" "pairs", "pairs", "Web.pairs", s_Web_pairs, []⟩, gl "is_name" s_is_name, gl "number_in" s_number_in, gl "parted" s_parted,
  gl "copies_in" s_copies_in, gl "row_in" s_row_in, gl "groups_in" s_groups_in, gl "is_plan_text" s_is_plan_text, gl "names_in" s_names_in, gl "check_told" s_check_told, gl "part_at" s_part_at, gl "is_person" s_is_person,
  gl "check_person" s_check_person, gl "do_know" s_do_know, gl "knows" s_knows, gl "spot_of" s_spot_of, gl "nth_person" s_nth_person, gl "person_at" s_person_at, gl "is_tuple" s_is_tuple, gl "is_pair" s_is_pair,
  gl "do_ascend" s_do_ascend, gl "pieces" s_pieces, gl "parts_of" s_parts_of, gl "chain_in" s_chain_in, gl "told_back" s_told_back, gl "is_chain" s_is_chain, gl "is_told" s_is_told, gl "shows_told_back" s_shows_told_back,
  gl "_law_take" s__law_take, gl "_law_of" s__law_of, gl "_law_cells" s__law_cells, gl "_law_pot" s__law_pot, gl "_law_person" s__law_person, gl "_law_size" s__law_size, gl "_law_small" s__law_small, gl "_law_parts_of" s__law_parts_of,
  gl "_law_part" s__law_part, gl "_law_people" s__law_people, gl "_law_is_known" s__law_is_known, gl "_law_friends" s__law_friends, gl "_law_pairs_of" s__law_pairs_of, gl "_law_some" s__law_some, gl "_law_web" s__law_web, gl "_law_odd" s__law_odd,
  gl "_law_chains" s__law_chains, gl "_law_is_due" s__law_is_due, gl "_law_bent" s__law_bent, gl "_law_values" s__law_values, gl "_law_right" s__law_right, gl "law" s_law]
def globs0 : List Str := ["is_integer", "is_name", "number_in", "parted", "copies_in", "row_in", "groups_in", "is_plan_text", "names_in", "check_told", "part_at", "is_person", "check_person", "do_know", "knows", "spot_of", "nth_person", "person_at"]
def globs1 : List Str := ["is_tuple", "is_pair", "do_ascend", "pieces", "parts_of", "chain_in", "told_back", "is_chain", "is_told", "shows_told_back", "_law_take", "_law_of", "_law_cells", "_law_pot", "_law_person", "_law_size", "_law_small", "_law_parts_of"]
def globs2 : List Str := ["_law_part", "_law_people", "_law_is_known", "_law_friends", "_law_pairs_of", "_law_some", "_law_web", "_law_odd", "_law_chains", "_law_is_due", "_law_bent", "_law_values", "_law_right", "law", "Plan", "SIGNS", "AROUND", "TURNED"]
def globs3 : List Str := ["Web", "Reading"]
def globsA : List Str := globs0 ++ globs1 ++ globs2 ++ globs3
def consts : List Fa := [
  .str "ONE" "one", .str "NAME" "name", .str "BESIDE" "beside", .str "INTRODUCED" "introduced", .str "BLANK" " ", .str "LETTERS" "abcdefghijklmnopqrstuvwxyz", .str "FIGURES" "0123456789", .int "MOST_LETTERS" 8, .str "PERSON" "1", .int "LEAST_MANY" 2, .int "MOST_MANY" (10 ^ 30), .int "MOST_NAMES" 3, .int "MOST_DEPTH" 60,
  .cls "Plan", .meth "Plan" "__invert__", .mkr "Plan", .int "PAIR" 2, .int "TRIPLE" 3, .int "QUARTET" 4, .int "MOST_WEB" 30, .str "PLAN" "plan", .str "CHAIN" "chain", .cls "Web", .noat "Web" "own_many", .noat "Web" "own_pairs", .noat "Web" "own_friends", .mkr "Web", .cls "Reading", .noat "Reading" "own_reading", .noat "Reading" "own_persons", .noat "Reading" "own_chain", .mkr "Reading", .meth "Reading" "read"]
def fas : List Fa := bns.map Fa.free ++ (globsA.map Fa.glo ++ (fNames.map (Fa.noat "Plan") ++ consts))
def tSigns : List (Str × Dt) := [("beside", .s " + "), ("introduced", .s " * ")]
def tAround : List (Str × Dt) := [("beside", .t ["[", "]"]), ("introduced", .t ["{", "}"])]
def tTurned : List (Str × Dt) := [("+", .s "*"), ("*", .s "+"), ("[", .s "{"), ("{", .s "["), ("]", .s "}"), ("}", .s "]")]
def spec : HK.Sp := ⟨fas, dds, [("Plan", "text"), ("Plan", "names"), ("Plan", "word"), ("Plan", "many"), ("Plan", "people"), ("Web", "many"), ("Web", "pairs")], [("SIGNS", tSigns), ("AROUND", tAround), ("TURNED", tTurned)], [], ["Plan"]⟩
abbrev hk : PySem.W.Hook := hook 4 globsA spec
def ob (s : PySem.W.SharedT) : HK.Al := obsG 4 globsA spec (HandSHeadRun.getT s)
def names0 : List PySem.Str := ["_wall", "__name__", "CrowdError", "Unknown", "BadPlan", "NoPart", "BadMany", "NoName", "NoPlan", "NoPerson", "BadNumber", "BadPairs", "ONE", "NAME", "BESIDE", "INTRODUCED", "BLANK", "LETTERS", "FIGURES", "MOST_LETTERS", "is_integer", "is_name", "is_tuple", "do_ascend", "number_in", "PERSON", "LEAST_MANY", "MOST_MANY"]
def names1 : List PySem.Str := ["MOST_NAMES", "MOST_DEPTH", "SIGNS", "AROUND", "TURNED", "parted", "copies_in", "row_in", "groups_in", "is_plan_text", "names_in", "Plan", "check_told", "row_text", "copies_text", "text_put", "part_at", "spot_of", "is_person", "check_person", "nth_person", "do_know", "knows", "person_at", "MOST_WEB", "PAIR", "TRIPLE", "QUARTET"]
def names2 : List PySem.Str := ["PLAN", "CHAIN", "is_pair", "Web", "pieces", "parts_of", "is_chain", "chain_in", "Reading", "told_back", "is_told", "shows_told_back", "_law_pot", "_law_take", "_law_of", "_law_some", "_law_cells", "_law_odd", "_law_person", "_law_small", "_law_size", "_law_parts_of", "_law_part", "_law_people", "_law_is_known", "_law_friends", "_law_pairs_of", "_law_web"]
def names3 : List PySem.Str := ["_law_chains", "_law_is_due", "_law_bent", "_law_values", "_law_right"]
abbrev R : PySem.W.OpenRow := PySem.W.OpenLaw.row PySem.Challenge.rw_greetall_k50_other_plans_and_chains
theorem run0a (w : World) : HandSHeadRun.RunEq R (PySem.W.view R.prog [94]) (hook 4 globsA (Sp.lo spec 60 0)) (obT 4 globsA (Sp.lo spec 60 0)) 9000 (names0 ++ names1 ++ names2 ++ names3) (w.withFollow "special-get-raises" false) := by
  intro os
  kernel_rfl
theorem run0b (w : World) : HandSHeadRun.RunEq R (PySem.W.view R.prog [94]) (hook 4 globsA (Sp.lo spec 60 0)) (obT 4 globsA (Sp.lo spec 60 0)) 9000 (names0 ++ names1 ++ names2 ++ names3) (w.withFollow "special-get-raises" true) := by
  intro os
  kernel_rfl
theorem run0 (w : World) : HandSHeadRun.RunEq R (PySem.W.view R.prog [94]) (hook 4 globsA (Sp.lo spec 60 0)) (obT 4 globsA (Sp.lo spec 60 0)) 9000 (names0 ++ names1 ++ names2 ++ names3) w :=
  PySem.W.byRow2 "special-get-raises" (P := fun w => HandSHeadRun.RunEq R (PySem.W.view R.prog [94]) (hook 4 globsA (Sp.lo spec 60 0)) (obT 4 globsA (Sp.lo spec 60 0)) 9000 (names0 ++ names1 ++ names2 ++ names3) w) run0a run0b w
theorem run1a (w : World) : HandSHeadRun.RunEq R (PySem.W.view R.prog [94]) (hook 4 globsA (Sp.hi spec 60 0)) (obT 4 globsA (Sp.hi spec 60 0)) 9000 (names0 ++ names1 ++ names2 ++ names3) (w.withFollow "special-get-raises" false) := by
  intro os
  kernel_rfl
theorem run1b (w : World) : HandSHeadRun.RunEq R (PySem.W.view R.prog [94]) (hook 4 globsA (Sp.hi spec 60 0)) (obT 4 globsA (Sp.hi spec 60 0)) 9000 (names0 ++ names1 ++ names2 ++ names3) (w.withFollow "special-get-raises" true) := by
  intro os
  kernel_rfl
theorem run1 (w : World) : HandSHeadRun.RunEq R (PySem.W.view R.prog [94]) (hook 4 globsA (Sp.hi spec 60 0)) (obT 4 globsA (Sp.hi spec 60 0)) 9000 (names0 ++ names1 ++ names2 ++ names3) w :=
  PySem.W.byRow2 "special-get-raises" (P := fun w => HandSHeadRun.RunEq R (PySem.W.view R.prog [94]) (hook 4 globsA (Sp.hi spec 60 0)) (obT 4 globsA (Sp.hi spec 60 0)) 9000 (names0 ++ names1 ++ names2 ++ names3) w) run1a run1b w
theorem run (w : World) : HandSHeadRun.RunEq R (PySem.W.view R.prog [94]) hk ob 9000 (names0 ++ names1 ++ names2 ++ names3) w := run_cut 60 0 (run0 w) (run1 w)
end W
namespace DL
open PySem L2
def mset (M : Mp) (a : Addr) (o : MO) : Mp := fun b => if b = a then some o else M b
theorem mset_same {M : Mp} {a : Addr} {o : MO} : mset M a o a = some o := if_pos rfl
theorem mset_ne {M : Mp} {a b : Addr} {o : MO} (h : b ≠ a) : mset M a o b = M b := if_neg h
theorem mset_mset {M : Mp} {a : Addr} {o u : MO} : mset (mset M a o) a u = mset M a u := by
  funext b; unfold mset; split <;> rfl
section
variable {K : PySem.W.Frag} {M M' : Mp} {Z : Zn} {H H' : Hp}
theorem Rep.mono (e : Ext M Z H M' H') {v : V} {d : D} (r : Rep K M Z H v d) : Rep K M' Z H' v d := r.monoI e.i
theorem RepO.mono (e : Ext M Z H M' H') {v : List (Option V)} {d : List (Option D)} (r : RepO K M Z H v d) : RepO K M' Z H' v d := r.monoI e.i
theorem Reps.mono (e : Ext M Z H M' H') {v : List V} {d : List D} (r : Reps K M Z H v d) : Reps K M' Z H' v d := r.monoI e.i
theorem RepK.mono (e : Ext M Z H M' H') {v : List (Key × V)} {d : List (Key × D)} (r : RepK K M Z H v d) : RepK K M' Z H' v d := r.monoI e.i
theorem RepT.mono (e : Ext M Z H M' H') {v : List (List Key × V)} {d : List (List Key × D)} (r : RepT K M Z H v d) : RepT K M' Z H' v d := r.monoI e.i
theorem RepF.mono (e : Ext M Z H M' H') {v : List (Str × V)} {d : List (Str × D)} (r : RepF K M Z H v d) : RepF K M' Z H' v d := r.monoI e.i
end
theorem Reps.append {K : PySem.W.Frag} {M : Mp} {Z : Zn} {H : Hp} : ∀ {vs ws : List V} {ds es : List D}, Reps K M Z H vs ds → Reps K M Z H ws es → Reps K M Z H (vs ++ ws) (ds ++ es)
  | _, _, _, _, .nil, s => s
  | _, _, _, _, .cons r t, s => .cons r (Reps.append t s)
theorem Reps.ints {K : PySem.W.Frag} {M : Mp} {Z : Zn} {H : Hp} : ∀ {vs : List V} {ns : List Int}, Reps K M Z H vs (ns.map D.int) → vs = ns.map V.int
  | _, [], .nil => rfl
  | _, _ :: _, .cons (.int _) t => by rw [List.map_cons, Reps.ints t]
theorem Reps.ofInts {K : PySem.W.Frag} {M : Mp} {Z : Zn} {H : Hp} : ∀ (ns : List Int), Reps K M Z H (ns.map V.int) (ns.map D.int)
  | [] => .nil
  | _ :: r => .cons (.int _) (Reps.ofInts r)
theorem Reps.bls {K : PySem.W.Frag} {M : Mp} {Z : Zn} {H : Hp} : ∀ {vs : List V} {ns : List Bool}, Reps K M Z H vs (ns.map D.bl) → vs = ns.map V.bl
  | _, [], .nil => rfl
  | _, _ :: _, .cons (.bl _) t => by rw [List.map_cons, Reps.bls t]
theorem Reps.strs {K : PySem.W.Frag} {M : Mp} {Z : Zn} {H : Hp} : ∀ {vs : List V} {ns : List Str}, Reps K M Z H vs (ns.map D.str) → vs = ns.map V.str
  | _, [], .nil => rfl
  | _, _ :: _, .cons (.str _) t => by rw [List.map_cons, Reps.strs t]
theorem Wd.fresh {K : PySem.W.Frag} {M : Mp} {Z : Zn} {H : Hp} (w : Wd K M Z H) {a : Addr} (h : H a = none) : Im M Z a := by
  refine ⟨?_, fun z => ?_⟩
  · cases e : M a with
    | none => rfl
    | some o =>
      obtain ⟨u, q⟩ := (w.1 a o e).there
      rw [h] at q; cases q
  · obtain ⟨_, u, q⟩ := w.2 a z
    rw [h] at q; cases q
section
variable {K : PySem.W.Frag} {M : Mp} {Z : Zn} {H : Hp} {p : Addr} {o : HO} {u v : MO}
theorem Wd.zne (w : Wd K M Z H) (h : H p = none) : ∀ b, Z b → b ≠ p := fun b z e => by
  obtain ⟨_, u, q⟩ := w.2 b z
  rw [e, h] at q; cases q
theorem Wd.zneM (w : Wd K M Z H) (h : M p = some v) : ∀ b, Z b → b ≠ p := fun b z e => by
  have q := (w.2 b z).1
  rw [e, h] at q; cases q
/-- a new immutable object -/
theorem Ext.new (w : Wd K M Z H) (h : H p = none) : Ext M Z H M (upd H p o) := ⟨fun b u q m => ⟨by rw [upd_ne (ne_of_none q h)]; exact q, m⟩, fun b z => ⟨upd_ne (w.zne h b z), rfl⟩⟩
theorem Wd.new (w : Wd K M Z H) (h : H p = none) : Wd K M Z (upd H p o) := ⟨fun a u e => by
  obtain ⟨z, q⟩ := (w.1 a u e).there
  exact (w.1 a u e).step (Ext.new w h) (upd_ne (ne_of_none q h)), fun b z => by
  obtain ⟨m, u, q⟩ := w.2 b z
  exact ⟨m, u, by rw [upd_ne (w.zne h b z)]; exact q⟩⟩
/-- a new mutable object -/
theorem Ext.newM (w : Wd K M Z H) (h : H p = none) : Ext M Z H (mset M p u) (upd H p o) := ⟨fun b z q m => ⟨by rw [upd_ne (ne_of_none q h)]; exact q, by rw [mset_ne (ne_of_none q h)]; exact m.1, m.2⟩, fun b z => ⟨upd_ne (w.zne h b z), mset_ne (w.zne h b z)⟩⟩
theorem Wd.newM (w : Wd K M Z H) (h : H p = none) (r : RepM K (mset M p u) Z (upd H p o) p u) : Wd K (mset M p u) Z (upd H p o) := ⟨fun a z e => by
  by_cases ha : a = p
  · subst ha; rw [mset_same] at e; cases e; exact r
  · rw [mset_ne ha] at e
    exact (w.1 a z e).step (Ext.newM w h) (upd_ne ha), fun b z => by
  obtain ⟨m, u, q⟩ := w.2 b z
  exact ⟨by rw [mset_ne (w.zne h b z)]; exact m, u, by rw [upd_ne (w.zne h b z)]; exact q⟩⟩
/-- a mutable object changed -/
theorem Ext.put (w : Wd K M Z H) (h : M p = some v) : Ext M Z H (mset M p u) (upd H p o) := ⟨fun b z q m => by
  have n : b ≠ p := fun e => by have m := m.1; rw [e, h] at m; cases m
  exact ⟨by rw [upd_ne n]; exact q, by rw [mset_ne n]; exact m.1, m.2⟩, fun b z => ⟨upd_ne (w.zneM h b z), mset_ne (w.zneM h b z)⟩⟩
theorem Wd.put (w : Wd K M Z H) (h : M p = some v) (r : RepM K (mset M p u) Z (upd H p o) p u) : Wd K (mset M p u) Z (upd H p o) := ⟨fun a z e => by
  by_cases ha : a = p
  · subst ha; rw [mset_same] at e; cases e; exact r
  · rw [mset_ne ha] at e
    exact (w.1 a z e).step (Ext.put w h) (upd_ne ha), fun b z => by
  obtain ⟨m, u, q⟩ := w.2 b z
  exact ⟨by rw [mset_ne (w.zneM h b z)]; exact m, u, by rw [upd_ne (w.zneM h b z)]; exact q⟩⟩
end
theorem EnvR.mono {K : PySem.W.Frag} {M M' : Mp} {Z : Zn} {H H' : Hp} (e : Ext M Z H M' H') {σ : St} {ρ : Rho} (r : EnvR K M Z H σ ρ) : EnvR K M' Z H' σ ρ := r.monoI e.i
theorem EnvR.unset {K : PySem.W.Frag} {M : Mp} {Z : Zn} {H : Hp} {o : Option V} : ∀ {σ : St} {ρ : Rho} (i : Nat), EnvR K M Z H σ ρ → EnvR K M Z H (σ.set i o) (ρ.set i .none)
  | _, _, _, .nil => .nil
  | _, _, 0, .val _ t => .any t
  | _, _, 0, .any t => .any t
  | _, _, i + 1, .val q t => .val q (EnvR.unset i t)
  | _, _, i + 1, .any t => .any (EnvR.unset i t)
end DL
namespace DL
open PySem L2
section
variable (X : Cx)
def eSem (e : Expr) : TE := fun σ H Q => ∀ pins s, Inv X pins σ H s → wpAny (model X.prog X.w) X.A (eval e X.env) (EP X pins σ Q) X.xe s
def tSem (e : Expr) : TT := fun σ H Q => ∀ pins s, Inv X pins σ H s → wpAny (model X.prog X.w) X.A (isTrue e X.env (eval e X.env)) (TP X pins σ Q) X.xe s
def wSem (e : Expr) : TT := fun σ H Q => ∀ (whole : Sem Value) pins s, Inv X pins σ H s → wpAny (model X.prog X.w) X.A (isTrue e X.env whole) (TP X pins σ Q) X.xe s
def aSem (es : List Expr) : TA := fun σ H Q => ∀ pos pins s, Inv X pins σ H s → wpAny (model X.prog X.w) X.A (spliced (backTo pos (starEach es X.env))) (AP X pins σ Q) X.xe s
def sSem (st : Stmt) : TS := fun D σ H => ∀ pins s, Inv X pins σ H s → wpAny (model X.prog X.w) X.A (exec st X.env) (SP X pins D) X.xe s
def gSem (tg : Expr) : TG := fun v σ H Q => ∀ pins s u, Inv X pins σ H s → RelV v u → wpAny (model X.prog X.w) X.A (assign tg X.env u) (fun _ s' => ∃ σ' H', Inv X pins σ' H' s' ∧ Q σ' H') X.xe s
def gsSem (ts : List Expr) : TGs := fun vs σ H Q => ∀ pins s us, Inv X pins σ H s → Vals vs us → wpAny (model X.prog X.w) X.A (assignInOrder ((assignEach ts X.env).map (·.2)) us) (fun _ s' => ∃ σ' H', Inv X pins σ' H' s' ∧ Q σ' H') X.xe s
def iSem (tg iter : Expr) : TI := fun σ H R => ∀ pins s, Inv X pins σ H s → wpAny (model X.prog X.w) X.A (eval iter X.env) (fun v s1 => wpAny (model X.prog X.w) X.A (pyIter v) (PIE X pins σ tg R) X.xe s1) X.xe s
end
section
variable {X : Cx} {e tg : Expr} {es : List Expr} {st : Stmt} {sts : List Stmt} {σ : L2.St} {H : Hp}
theorem pe_sem : PE X e (eSem X e) := ⟨fun pins s σ H Q I h => h pins s I⟩
theorem pt_sem : PT X e (tSem X e) := ⟨fun pins s σ H Q I h => h pins s I⟩
theorem pw_sem : PW X e (wSem X e) := ⟨fun wh pins s σ H Q I h => h wh pins s I⟩
theorem pa_sem : PA X es (aSem X es) := ⟨fun pos pins s σ H Q I h => h pos pins s I⟩
theorem ps_sem : PS X st (sSem X st) := ⟨fun pins s σ H D I h => h pins s I⟩
theorem pg_sem : PG X tg (gSem X tg) := ⟨fun pins s σ H v u Q I r h => h pins s u I r⟩
theorem pgs_sem : PGs X es (gsSem X es) := ⟨fun pins s σ H v u Q I r h => h pins s u I r⟩
theorem pi_sem : PI X tg e (iSem X tg e) := ⟨fun pins s σ H R I h => h pins s I⟩
theorem eOf {t : TE} {Q : VK} (h : PE X e t) (q : t σ H Q) : eSem X e σ H Q := fun pins s I => h.run pins s σ H Q I q
theorem tOf {t : TT} {Q : Bool → Hp → Prop} (h : PT X e t) (q : t σ H Q) : tSem X e σ H Q := fun pins s I => h.run pins s σ H Q I q
theorem wOf {t : TT} {Q : Bool → Hp → Prop} (h : PW X e t) (q : t σ H Q) : wSem X e σ H Q := fun wh pins s I => h.run wh pins s σ H Q I q
theorem aOf {t : TA} {Q : List V → Hp → Prop} (h : PA X es t) (q : t σ H Q) : aSem X es σ H Q := fun pos pins s I => h.run pos pins s σ H Q I q
theorem sOf {t : TS} {D : Ends} (h : PS X st t) (q : t D σ H) : sSem X st D σ H := fun pins s I => h.run pins s σ H D I q
theorem ssOf {t : TS} {D : Ends} (h : PSs X sts t) (q : t D σ H) : ssSem X sts D σ H := fun pins s I => h.run pins s σ H D I q
theorem gOf {t : TG} {v : V} {Q : L2.St → Hp → Prop} (h : PG X tg t) (q : t v σ H Q) : gSem X tg v σ H Q := fun pins s u I r => h.run pins s σ H v u Q I r q
theorem gsOf {t : TGs} {vs : List V} {Q : L2.St → Hp → Prop} (h : PGs X es t) (q : t vs σ H Q) : gsSem X es vs σ H Q := fun pins s u I r => h.run pins s σ H vs u Q I r q
end
section
variable {K : PySem.W.Frag} {M M1 : Mp} {Z : Zn} {H H1 : Hp}
theorem KE.now {Φ : D → Mp → Prop} {Q : VK} {v : V} {d : D} (k : KE K M Z H Φ Q) (w : Wd K M Z H) (r : Rep K M Z H v d) (h : Φ d M) : Q v H := k v d H M Ext.refl w r h
theorem KE.new {Φ : D → Mp → Prop} {Q : VK} {p : Addr} {o : HO} {d : D} (k : KE K M Z H Φ Q) (w : Wd K M Z H) (hp : H p = none) (r : Rep K M Z (upd H p o) (.ref p) d) (h : Φ d M) : Q (.ref p) (upd H p o) :=
  k _ d _ M (Ext.new w hp) (w.new hp) r h
theorem KT.now {Φ : Bool → Mp → Prop} {Q : Bool → Hp → Prop} {b : Bool} (k : KT K M Z H Φ Q) (w : Wd K M Z H) (h : Φ b M) : Q b H := k b H M Ext.refl w h
end
structure WE (X : Cx) (ρ : Rho) (M : Mp) (e : Expr) (Φ : D → Mp → Prop) : Prop where
  run : ∀ {Z : Zn} σ H (Q : VK), EnvR X.K M Z H σ ρ → Wd X.K M Z H → KE X.K M Z H Φ Q → eSem X e σ H Q
structure WT (X : Cx) (ρ : Rho) (M : Mp) (e : Expr) (Φ : Bool → Mp → Prop) : Prop where
  run : ∀ {Z : Zn} σ H (Q : Bool → Hp → Prop), EnvR X.K M Z H σ ρ → Wd X.K M Z H → KT X.K M Z H Φ Q → tSem X e σ H Q
structure WW (X : Cx) (ρ : Rho) (M : Mp) (e : Expr) (Φ : Bool → Mp → Prop) : Prop where
  run : ∀ {Z : Zn} σ H (Q : Bool → Hp → Prop), EnvR X.K M Z H σ ρ → Wd X.K M Z H → KT X.K M Z H Φ Q → wSem X e σ H Q
structure WA (X : Cx) (ρ : Rho) (M : Mp) (es : List Expr) (Φ : List D → Mp → Prop) : Prop where
  run : ∀ {Z : Zn} σ H (Q : List V → Hp → Prop), EnvR X.K M Z H σ ρ → Wd X.K M Z H → KA X.K M Z H Φ Q → aSem X es σ H Q
structure WS (X : Cx) (ρ : Rho) (M : Mp) (st : Stmt) (Ψ : DE) : Prop where
  run : ∀ {Z : Zn} σ H (E : Ends), EnvR X.K M Z H σ ρ → Wd X.K M Z H → KS X.K M Z H Ψ E → sSem X st E σ H
structure WG (X : Cx) (tg : Expr) (d : D) (ρ : Rho) (M : Mp) (Φ : Rho → Mp → Prop) : Prop where
  run : ∀ {Z : Zn} σ H v (Q : L2.St → Hp → Prop), EnvR X.K M Z H σ ρ → Wd X.K M Z H → Rep X.K M Z H v d → KG X.K M Z H Φ Q → gSem X tg v σ H Q
structure WGs (X : Cx) (tg : List Expr) (ds : List D) (ρ : Rho) (M : Mp) (Φ : Rho → Mp → Prop) : Prop where
  run : ∀ {Z : Zn} σ H vs (Q : L2.St → Hp → Prop), EnvR X.K M Z H σ ρ → Wd X.K M Z H → Reps X.K M Z H vs ds → KG X.K M Z H Φ Q → gsSem X tg vs σ H Q
section
variable {X : Cx} {ρ : Rho} {M : Mp} {Φ : D → Mp → Prop} {e a b : Expr} {pos : Pos}
/-- weaken the end -/
theorem WE.imp {Φ' : D → Mp → Prop} (h : WE X ρ M e Φ') (k : ∀ d M', Φ' d M' → Φ d M') : WE X ρ M e Φ := .mk fun σ H Q en w q => h.run σ H Q en w fun v d H' M' x w' r z => q v d H' M' x w' r (k d M' z)
theorem WA.imp {es : List Expr} {Φ Φ' : List D → Mp → Prop} (h : WA X ρ M es Φ') (k : ∀ d M', Φ' d M' → Φ d M') : WA X ρ M es Φ := .mk fun σ H Q en w q => h.run σ H Q en w fun v d H' M' x w' r z => q v d H' M' x w' r (k d M' z)
theorem WT.imp {Φ Φ' : Bool → Mp → Prop} (h : WT X ρ M e Φ') (k : ∀ d M', Φ' d M' → Φ d M') : WT X ρ M e Φ := .mk fun σ H Q en w q => h.run σ H Q en w fun b H' M' x w' z => q b H' M' x w' (k b M' z)
theorem we_var (i : Nat) {x : Str} {d : D} (hr : ρ[i]? = some (some d)) (h : Φ d M) (hN : X.N[i]? = some x := by rfl) (hv : Vis X.env.scope x := by first | exact Or.inl rfl | exact Or.inr (Or.inl rfl) | exact Or.inr (Or.inr rfl))
    (hd : (x == ("__debug__" : Str)) = false := by decide) (hcd : (x == ("__classdict__" : Str)) = false := by decide) : WE X ρ M (.Name x pos) Φ := .mk fun σ H Q en w k => by
  obtain ⟨v, e1, r⟩ := en.get hr
  exact eOf (pe_var hN hv hd hcd) ⟨v, e1, k.now w r h⟩
theorem we_int {i : Int} {j : Nat} (h : Φ (.int i) M) : WE X ρ M (.Constant (.int i) j pos) Φ := .mk fun σ H Q en w k => eOf pe_int (k.now w (.int i) h)
theorem we_bl {i : Bool} {j : Nat} (h : Φ (.bl i) M) : WE X ρ M (.Constant (.bool i) j pos) Φ := .mk fun σ H Q en w k => eOf pe_bl (k.now w (.bl i) h)
theorem we_non {j : Nat} (h : Φ .non M) : WE X ρ M (.Constant .none j pos) Φ := .mk fun σ H Q en w k => eOf pe_non (k.now w .non h)
theorem we_str {i : Str} {j : Nat} (h : Φ (.str i) M) : WE X ρ M (.Constant (.str i) j pos) Φ := .mk fun σ H Q en w k => eOf pe_str (k.now w (.str i) h)
/-- a module's constant -/
theorem we_gint {x : Str} {i : Int} (hm : ∃ t, X.mg x = some (.int i t)) (h : Φ (.int i) M) (hg : Gl X x := by rfl) (hd : (x == ("__debug__" : Str)) = false := by decide) : WE X ρ M (.Name x pos) Φ := .mk fun σ H Q en w k => by
  obtain ⟨t, hm⟩ := hm
  exact eOf (pe_glob (v := .int i) hg hm ⟨t, rfl⟩ hd) (k.now w (.int i) h)
theorem we_gstr {x : Str} {i : Str} (hm : ∃ t, X.mg x = some (.str i t)) (h : Φ (.str i) M) (hg : Gl X x := by rfl) (hd : (x == ("__debug__" : Str)) = false := by decide) : WE X ρ M (.Name x pos) Φ := .mk fun σ H Q en w k => by
  obtain ⟨t, hm⟩ := hm
  exact eOf (pe_glob (v := .str i) hg hm ⟨t, rfl⟩ hd) (k.now w (.str i) h)
theorem we_gref {x : Str} {a : Addr} {d : D} (hm : X.mg x = some (.ref a)) (hr : ∀ M Z H, Rep X.K M Z H (.ref a) d) (h : Φ d M) (hg : Gl X x := by rfl) (hd : (x == ("__debug__" : Str)) = false := by decide) : WE X ρ M (.Name x pos) Φ := .mk fun σ H Q en w k =>
  eOf (pe_glob (v := .ref a) hg hm rfl hd) (k.now w (hr _ _ _) h)
/-- a built-in class as a value -/
theorem we_bty {x : Str} {n : String} (hm : X.mg x = none) (hv : bootBuiltins x = some (.type n)) (h : Φ (.ty n) M) (hg : Gl X x := by rfl) (hn : x ≠ "__name__" := by decide) (hd : (x == ("__debug__" : Str)) = false := by decide) : WE X ρ M (.Name x pos) Φ := .mk fun σ H Q en w k =>
  eOf (pe_bltn (v := .ty n) hg hm hv rfl hn hd) (k.now w (.ty n) h)
def RD (K : PySem.W.Frag) (r : R2) (x y : D) (M : Mp) (Φ : D → Mp → Prop) : Prop := ∀ (Z : Zn) v u H Q, Wd K M Z H → Rep K M Z H v x → Rep K M Z H u y → KE K M Z H Φ Q → r v u H Q
def RU (K : PySem.W.Frag) (r : V → Hp → VK → Prop) (x : D) (M : Mp) (Φ : D → Mp → Prop) : Prop := ∀ (Z : Zn) v H Q, Wd K M Z H → Rep K M Z H v x → KE K M Z H Φ Q → r v H Q
def RC (K : PySem.W.Frag) (r : List V → Hp → VK → Prop) (xs : List D) (M : Mp) (Φ : D → Mp → Prop) : Prop := ∀ (Z : Zn) vs H Q, Wd K M Z H → Reps K M Z H vs xs → KE K M Z H Φ Q → r vs H Q
theorem bind2 {Ψ : D → D → Mp → Prop} (h : WE X ρ M a fun x M1 => WE X ρ M1 b fun y M2 => Ψ x y M2) {Z : Zn} {σ : L2.St} {H : Hp} {R : V → V → Hp → Prop} (en : EnvR X.K M Z H σ ρ) (w : Wd X.K M Z H)
    (k : ∀ v u x y H2 M2, Ext M Z H M2 H2 → Wd X.K M2 Z H2 → Rep X.K M2 Z H2 v x → Rep X.K M2 Z H2 u y → Ψ x y M2 → R v u H2) : eSem X a σ H fun x H1 => eSem X b σ H1 fun y H2 => R x y H2 :=
  h.run σ H _ en w fun v x H1 M1 e1 w1 r1 hb => hb.run σ H1 _ (en.mono e1) w1 fun u y H2 M2 e2 w2 r2 hr => k v u x y H2 M2 (e1.trans e2) w2 (r1.mono e2) r2 hr
theorem we_op {op : Operator} {r : R2} (ho : OpR X (binaryOp op) r) (h : WE X ρ M a fun x M1 => WE X ρ M1 b fun y M2 => RD X.K r x y M2 Φ) : WE X ρ M (.BinOp a op b pos) Φ := .mk fun σ H Q en w k =>
  eOf (pe_op ho pe_sem pe_sem) (bind2 h en w fun v u x y H2 M2 e w2 r1 r2 hr => hr _ v u H2 Q w2 r1 r2 (k.step e))
theorem we_cmp {op : CmpOp} {r : R2} (ho : OpR X (compareOp op) r) (hm : behindInMarks op b = false) (h : WE X ρ M a fun x M1 => WE X ρ M1 b fun y M2 => RD X.K r x y M2 Φ) : WE X ρ M (.Compare a [op] [b] pos) Φ := .mk fun σ H Q en w k =>
  eOf (pe_cmpR ho pe_sem pe_sem hm) (bind2 h en w fun v u x y H2 M2 e w2 r1 r2 hr => hr _ v u H2 Q w2 r1 r2 (k.step e))
theorem we_un {op : UnaryOp} {r : V → Hp → VK → Prop} (ho : UnR X (unaryOp op) r) (h : WE X ρ M a fun x M1 => RU X.K r x M1 Φ) : WE X ρ M (.UnaryOp op a pos) Φ := .mk fun σ H Q en w k =>
  eOf (pe_un ho pe_sem) (h.run σ H _ en w fun v x H1 M1 e1 w1 r1 hr => hr _ v H1 Q w1 r1 (k.step e1))
/-- one comparison as a test -/
theorem wt_cmp {op : CmpOp} {r : R2} {Φ : Bool → Mp → Prop} (ho : OpR X (compareOp op) r) (hm : behindInMarks op b = false) (h : WE X ρ M a fun x M1 => WE X ρ M1 b fun y M2 => RD X.K r x y M2 fun d M3 => ∃ c, d = .bl c ∧ Φ c M3) : WT X ρ M (.Compare a [op] [b] pos) Φ := .mk fun σ H Q en w k =>
  tOf (pt_cmpR ho pe_sem pe_sem hm) (bind2 h en w fun v u x y H2 M2 e w2 r1 r2 hr => hr _ v u H2 _ w2 r1 r2 fun z d H3 M3 e3 w3 r3 hz => by
    obtain ⟨c, rfl, hz⟩ := hz
    cases r3
    exact ⟨c, rfl, k c H3 M3 (e.trans e3) w3 hz⟩)
/-- a value that is a bool, as a test -/
theorem wt_val {Φ : Bool → Mp → Prop} (h : WE X ρ M e fun d M1 => ∃ c, d = .bl c ∧ Φ c M1) (he : ∀ whole, isTrue e X.env whole = (do let v ← whole; standAt e.pos; holding [v] (truthy v)) := by intro _; rfl) : WT X ρ M e Φ := .mk fun σ H Q en w k =>
  tOf (pt_val pe_sem he) (h.run σ H _ en w fun v x H1 M1 e1 w1 r1 hz => by
    obtain ⟨c, rfl, hz⟩ := hz
    cases r1
    exact ⟨c, rfl, k c H1 M1 e1 w1 hz⟩)
theorem wt_not {Φ : Bool → Mp → Prop} (h : WT X ρ M a fun c M1 => Φ (!c) M1) : WT X ρ M (.UnaryOp .Not a pos) Φ := .mk fun σ H Q en w k =>
  tOf (pt_not pt_sem) (h.run σ H _ en w fun c H1 M1 e1 w1 hz => k _ H1 M1 e1 w1 hz)
theorem ww_and1 {Φ : Bool → Mp → Prop} (h : WT X ρ M a Φ) : WW X ρ M (.BoolOp .And [a] pos) Φ := .mk fun σ H Q en w k => wOf (pw_and1 pt_sem) (h.run σ H Q en w k)
theorem ww_or1 {Φ : Bool → Mp → Prop} (h : WT X ρ M a Φ) : WW X ρ M (.BoolOp .Or [a] pos) Φ := .mk fun σ H Q en w k => wOf (pw_or1 pt_sem) (h.run σ H Q en w k)
theorem ww_and {Φ : Bool → Mp → Prop} {rest : List Expr} (h : WT X ρ M a fun c M1 => if c = true then WW X ρ M1 (.BoolOp .And (b :: rest) pos) Φ else Φ false M1) : WW X ρ M (.BoolOp .And (a :: b :: rest) pos) Φ := .mk fun σ H Q en w k =>
  wOf (pw_and pt_sem pw_sem) (h.run σ H _ en w fun c H1 M1 e1 w1 hz => by
    cases c with
    | true => exact hz.run σ H1 Q (en.mono e1) w1 (k.step e1)
    | false => exact k false H1 M1 e1 w1 hz)
theorem ww_or {Φ : Bool → Mp → Prop} {rest : List Expr} (h : WT X ρ M a fun c M1 => if c = true then Φ true M1 else WW X ρ M1 (.BoolOp .Or (b :: rest) pos) Φ) : WW X ρ M (.BoolOp .Or (a :: b :: rest) pos) Φ := .mk fun σ H Q en w k =>
  wOf (pw_or pt_sem pw_sem) (h.run σ H _ en w fun c H1 M1 e1 w1 hz => by
    cases c with
    | true => exact k true H1 M1 e1 w1 hz
    | false => exact hz.run σ H1 Q (en.mono e1) w1 (k.step e1))
theorem wt_ww {Φ : Bool → Mp → Prop} (h : WW X ρ M e Φ) : WT X ρ M e Φ := .mk fun σ H Q en w k => tOf pw_sem.pt (h.run σ H Q en w k)
/-- as values (all but the last are bools) -/
theorem we_one {op : BoolOp} (h : WE X ρ M a Φ) : WE X ρ M (.BoolOp op [a] pos) Φ := .mk fun σ H Q en w k => eOf (pe_one pe_sem) (h.run σ H Q en w k)
theorem we_and {rest : List Expr} (h : WE X ρ M a fun d M1 => ∃ c, d = .bl c ∧ if c = true then WE X ρ M1 (.BoolOp .And (b :: rest) pos) Φ else Φ (.bl false) M1) : WE X ρ M (.BoolOp .And (a :: b :: rest) pos) Φ := .mk fun σ H Q en w k =>
  eOf (pe_and pe_sem pe_sem) (h.run σ H _ en w fun v x H1 M1 e1 w1 r1 hz => by
    obtain ⟨c, rfl, hz⟩ := hz
    cases r1
    refine ⟨c, rfl, ?_⟩
    cases c with
    | true => exact hz.run σ H1 Q (en.mono e1) w1 (k.step e1)
    | false => exact k.step e1 |>.now w1 (.bl false) hz)
theorem we_or {rest : List Expr} (h : WE X ρ M a fun d M1 => ∃ c, d = .bl c ∧ if c = true then Φ (.bl true) M1 else WE X ρ M1 (.BoolOp .Or (b :: rest) pos) Φ) : WE X ρ M (.BoolOp .Or (a :: b :: rest) pos) Φ := .mk fun σ H Q en w k =>
  eOf (pe_or pe_sem pe_sem) (h.run σ H _ en w fun v x H1 M1 e1 w1 r1 hz => by
    obtain ⟨c, rfl, hz⟩ := hz
    cases r1
    refine ⟨c, rfl, ?_⟩
    cases c with
    | true => exact k.step e1 |>.now w1 (.bl true) hz
    | false => exact hz.run σ H1 Q (en.mono e1) w1 (k.step e1))
theorem we_not (h : WE X ρ M a fun d M1 => ∃ c, d = .bl c ∧ Φ (.bl (!c)) M1) : WE X ρ M (.UnaryOp .Not a pos) Φ := .mk fun σ H Q en w k =>
  eOf (pe_not pe_sem) (h.run σ H _ en w fun v x H1 M1 e1 w1 r1 hz => by
    obtain ⟨c, rfl, hz⟩ := hz
    cases r1
    exact ⟨c, rfl, k.step e1 |>.now w1 (.bl _) hz⟩)
theorem we_if {c : Expr} (h : WT X ρ M c fun b' M1 => if b' = true then WE X ρ M1 a Φ else WE X ρ M1 b Φ) : WE X ρ M (.IfExp c a b pos) Φ := .mk fun σ H Q en w k =>
  eOf (pe_ifExp pt_sem pe_sem pe_sem) (h.run σ H _ en w fun c H1 M1 e1 w1 hz => by
    cases c with
    | true => exact hz.run σ H1 Q (en.mono e1) w1 (k.step e1)
    | false => exact hz.run σ H1 Q (en.mono e1) w1 (k.step e1))
variable {es : List Expr} {ΦA : List D → Mp → Prop}
theorem wa_nil (h : ΦA [] M) : WA X ρ M [] ΦA := .mk fun σ H Q en w k => aOf pa_nil (k [] [] H M Ext.refl w .nil h)
theorem wa_cons (h : WE X ρ M e fun d M1 => WA X ρ M1 es fun ds M2 => ΦA (d :: ds) M2) (hs : starEach (e :: es) X.env = (false, eval e X.env) :: starEach es X.env := by rfl) : WA X ρ M (e :: es) ΦA := .mk fun σ H Q en w k =>
  aOf (pa_cons pe_sem pa_sem hs) (h.run σ H _ en w fun v d H1 M1 e1 w1 r1 hz => hz.run σ H1 _ (en.mono e1) w1 fun vs ds H2 M2 e2 w2 r2 hy => k (v :: vs) (d :: ds) H2 M2 (e1.trans e2) w2 (.cons (r1.mono e2) r2) hy)
theorem we_tup {k1 : Nat} (h : WA X ρ M es fun ds M1 => ds.length ≤ sizeLine ∧ Φ (.tup ds) M1) : WE X ρ M (.Tuple es k1 pos) Φ := .mk fun σ H Q en w k =>
  eOf (pe_tup pa_sem) (h.run σ H _ en w fun vs ds H1 M1 e1 w1 r1 hz => ⟨by rw [r1.length]; exact hz.1, fun p hp => (k.step e1).new w1 hp (.tup (.inl upd_same) (w1.fresh hp) (r1.mono (Ext.new w1 hp))) hz.2⟩)
theorem we_lst (h : WA X ρ M es fun ds M1 => ds.length ≤ sizeLine ∧ Φ (.lst ds) M1) : WE X ρ M (.List es pos) Φ := .mk fun σ H Q en w k =>
  eOf (pe_lst pa_sem) (h.run σ H _ en w fun vs ds H1 M1 e1 w1 r1 hz => ⟨by rw [r1.length]; exact hz.1, fun p hp => (k.step e1).new w1 hp (.lst upd_same (w1.fresh hp) (r1.mono (Ext.new w1 hp))) hz.2⟩)
/-- a list that will be changed -/
theorem we_lstM (h : WA X ρ M es fun ds M1 => ds.length ≤ sizeLine ∧ ∀ p, M1 p = none → Φ (.ob p) (mset M1 p (.lst ds))) : WE X ρ M (.List es pos) Φ := .mk fun σ H Q en w k =>
  eOf (pe_lst pa_sem) (h.run σ H _ en w fun vs ds H1 M1 e1 w1 r1 hz => ⟨by rw [r1.length]; exact hz.1, fun p hp =>
    (k.step e1) _ (.ob p) _ (mset M1 p (.lst ds)) (Ext.newM w1 hp) (w1.newM hp ⟨vs, upd_same, r1.mono (Ext.newM w1 hp)⟩) (.ob p) (hz.2 p (w1.fresh hp).1)⟩)
end
end DL
namespace DL
open PySem L2
section
variable {X : Cx} {ρ : Rho} {M : Mp} {Ψ : DE} {e a b tg : Expr} {st : Stmt} {rest : List Stmt} {pos : Pos}
theorem wss_nil (h : Ψ.nx ρ M) : WSs X ρ M [] Ψ := .mk fun σ H E en w k => ssOf pss_nil (k.nx σ ρ H M Ext.refl w en h)
theorem wss_cons (h : WS X ρ M st { Ψ with nx := fun ρ' M' => WSs X ρ' M' rest Ψ }) : WSs X ρ M (st :: rest) Ψ := .mk fun σ H E en w k =>
  ssOf (pss_cons ps_sem pss_sem) (h.run σ H _ en w ⟨fun σ1 ρ1 H1 M1 e1 w1 en1 hz => hz.run σ1 H1 E en1 w1 (k.step e1), k.rt, k.bk, k.ct⟩)
theorem ws_expr (h : WE X ρ M e fun _ M1 => Ψ.nx ρ M1) (hs : swapsWith e none pos.line X.env = pure false := by rfl) : WS X ρ M (.Expr e pos) Ψ := .mk fun σ H E en w k =>
  sOf (ps_expr pe_sem hs) (h.run σ H _ en w fun v d H1 M1 e1 w1 r1 hz => k.nx σ ρ H1 M1 e1 w1 (en.mono e1) hz)
theorem ws_ret (h : WE X ρ M e Ψ.rt) : WS X ρ M (.Return (some e) pos) Ψ := .mk fun σ H E en w k => sOf (ps_ret pe_sem) (h.run σ H _ en w k.rt)
theorem ws_retN (h : Ψ.rt .non M) : WS X ρ M (.Return none pos) Ψ := .mk fun σ H E en w k => sOf ps_retN (k.rt.now w .non h)
theorem ws_if {c : Expr} {sa sb : List Stmt} (h : WT X ρ M c fun b' M1 => if b' = true then WSs X ρ M1 sa Ψ else WSs X ρ M1 sb Ψ) : WS X ρ M (.If c sa sb pos) Ψ := .mk fun σ H E en w k =>
  sOf (ps_if pt_sem pss_sem pss_sem) (h.run σ H _ en w fun c H1 M1 e1 w1 hz => by
    cases c with
    | true => exact hz.run σ H1 E (en.mono e1) w1 (k.step e1)
    | false => exact hz.run σ H1 E (en.mono e1) w1 (k.step e1))
/-- other slots' data, less known -/
theorem WS.imp {Ψ' : DE} (h : WS X ρ M st Ψ') (n : ∀ ρ' M', Ψ'.nx ρ' M' → Ψ.nx ρ' M') (r : ∀ d M', Ψ'.rt d M' → Ψ.rt d M') (bk : ∀ ρ' M', Ψ'.bk ρ' M' → Ψ.bk ρ' M') (ct : ∀ ρ' M', Ψ'.ct ρ' M' → Ψ.ct ρ' M') : WS X ρ M st Ψ := .mk fun σ H E en w k =>
  h.run σ H E en w ⟨fun σ' ρ' H' M' x w' en' z => k.nx σ' ρ' H' M' x w' en' (n _ _ z), fun v d H' M' x w' r' z => k.rt v d H' M' x w' r' (r _ _ z), fun σ' ρ' H' M' x w' en' z => k.bk σ' ρ' H' M' x w' en' (bk _ _ z), fun σ' ρ' H' M' x w' en' z => k.ct σ' ρ' H' M' x w' en' (ct _ _ z)⟩
variable {Φ : Rho → Mp → Prop} {d : D} {ds : List D} {es : List Expr}
theorem wg_name (i : Nat) {x : Str} (h : Φ (ρ.set i (some d)) M) (hN : X.N.Nodup) (hi : X.N[i]? = some x := by rfl) (hx : Loc X.env.scope x := by first | exact Or.inl rfl | exact Or.inr rfl)
    (hf : X.fn x = true ∨ X.env.scope.names.lookup x = some .local := by first | exact .inl rfl | exact .inr rfl) : WG X (.Name x pos) d ρ M Φ := .mk fun σ H v Q en w r k =>
  gOf (pg_name hN hi hx hf) (k _ _ H M Ext.refl w (en.set r i) h)
theorem wgs_nil (h : ds = [] ∧ Φ ρ M) : WGs X [] ds ρ M Φ := .mk fun σ H vs Q en w r k => by
  obtain ⟨rfl, h⟩ := h
  cases r
  exact gsOf pgs_nil ⟨rfl, k _ _ H M Ext.refl w en h⟩
theorem wgs_cons {t : Expr} (h : WG X t d ρ M fun ρ1 M1 => WGs X es ds ρ1 M1 Φ) (hs : (assignEach (t :: es) X.env).map (·.2) = assign t X.env :: (assignEach es X.env).map (·.2) := by rfl) : WGs X (t :: es) (d :: ds) ρ M Φ := .mk fun σ H vs Q en w r k => by
  cases r with
  | cons r1 r2 =>
    exact gsOf (pgs_cons pg_sem pgs_sem hs) ⟨_, _, rfl, h.run σ H _ _ en w r1 fun σ1 ρ1 H1 M1 e1 w1 en1 hz => hz.run σ1 H1 _ Q en1 w1 (r2.mono e1) (k.step e1)⟩
theorem Rep.asTup {K : PySem.W.Frag} {M : Mp} {Z : Zn} {H : Hp} {v : V} {ds : List D} (r : Rep K M Z H v (.tup ds)) : ∃ a vs, v = .ref a ∧ SqT K H a vs ∧ Reps K M Z H vs ds := by
  cases r with
  | tup h m r => exact ⟨_, _, rfl, .inl h, r⟩
  | tupK h r => exact ⟨_, _, rfl, .inr h, r⟩
/-- what can be read as a list -/
def LstOf (M : Mp) : D → List D → Prop
  | .lst xs, ds => ds = xs
  | .rol xs, ds => ds = xs
  | .ob a, ds => M a = some (.lst ds)
  | _, _ => False
theorem Rep.asLst {K : PySem.W.Frag} {M : Mp} {Z : Zn} {H : Hp} {v : V} {d : D} {ds : List D} (w : Wd K M Z H) (r : Rep K M Z H v d) (l : LstOf M d ds) : ∃ a vs, v = .ref a ∧ SqL K H a vs ∧ Reps K M Z H vs ds := by
  cases r with
  | lst h m r => cases l; exact ⟨_, _, rfl, .inl (.inl h), r⟩
  | rol h m r => cases l; exact ⟨_, _, rfl, .inl h, r⟩
  | rolK h r => cases l; exact ⟨_, _, rfl, .inr h, r⟩
  | ob a =>
    obtain ⟨vs, h, r⟩ := w.1 a _ l
    exact ⟨_, _, rfl, .inl (.inl h), r⟩
  | _ => cases l
theorem wg_tup {k1 n : Nat} (h : d = .tup ds ∧ ds.length = n ∧ WGs X es ds ρ M Φ) (hc : X.calm = true := by rfl) (hn : (assignEach es X.env).length = n := by rfl) (hst : (assignEach es X.env).findIdx? (·.1) = none := by rfl) : WG X (.Tuple es k1 pos) d ρ M Φ := .mk fun σ H v Q en w r k => by
  obtain ⟨rfl, hl, h⟩ := h
  obtain ⟨a, vs, rfl, hq, rs⟩ := r.asTup
  exact gOf (pg_tup hc pgs_sem hn hst) ⟨a, vs, rfl, hq, by rw [rs.length]; exact hl, h.run σ H vs Q en w rs k⟩
theorem ws_asg (h : WE X ρ M e fun d M1 => WG X tg d ρ M1 Ψ.nx) (hs : swapsWithSole [tg] e pos.line X.env = pure false := by rfl) (hw : swappedStores [tg] e X.env = pure none := by rfl)
    (h1 : (assignEach [tg] X.env).map (·.2) = [assign tg X.env] := by rfl) : WS X ρ M (.Assign [tg] e pos) Ψ := .mk fun σ H E en w k =>
  sOf (ps_asg pe_sem pg_sem hs hw h1) (h.run σ H _ en w fun v d H1 M1 e1 w1 r1 hz => hz.run σ H1 v _ (en.mono e1) w1 r1 (k.nx.step e1))
theorem ws_set (i : Nat) {x : Str} {pos' : Pos} (hN : X.N.Nodup) (h : WE X ρ M e fun d M1 => Ψ.nx (ρ.set i (some d)) M1) (hi : X.N[i]? = some x := by rfl) (hx : Loc X.env.scope x := by first | exact Or.inl rfl | exact Or.inr rfl)
    (hs : swapsWith e (some (.Name x pos')) pos.line X.env = pure false := by rfl) (hf : X.fn x = true ∨ X.env.scope.names.lookup x = some .local := by first | exact .inl rfl | exact .inr rfl) : WS X ρ M (.Assign [.Name x pos'] e pos) Ψ := .mk fun σ H E en w k =>
  sOf (ps_set hN hi hx pe_sem hs hf) (h.run σ H _ en w fun v d H1 M1 e1 w1 r1 hz => k.nx _ _ H1 M1 e1 w1 ((en.mono e1).set r1 i) hz)
/-- a, b = x, y -/
theorem ws_par (i j : Nat) {x y : Str} {px py pt : Pos} {kt k2 : Nat} {pt2 : Pos} (hN : X.N.Nodup) (h : WA X ρ M [a, b] fun ds M1 => ∃ c d, ds = [c, d] ∧ Ψ.nx ((ρ.set i (some c)).set j (some d)) M1) (hi : X.N[i]? = some x := by rfl) (hj : X.N[j]? = some y := by rfl) (hij : i ≠ j := by decide)
    (hx : X.env.scope.names.lookup x = some .local := by rfl) (hy : X.env.scope.names.lookup y = some .local := by rfl) (hw : swappedStores [.Tuple [.Name x px, .Name y py] kt pt] (.Tuple [a, b] k2 pt2) X.env = pure (some [x, y]) := by rfl)
    (hc : X.calm = true := by rfl) (hs : swapsWithSole [.Tuple [.Name x px, .Name y py] kt pt] (.Tuple [a, b] k2 pt2) pos.line X.env = pure false := by rfl) : WS X ρ M (.Assign [.Tuple [.Name x px, .Name y py] kt pt] (.Tuple [a, b] k2 pt2) pos) Ψ := .mk fun σ H E en w k =>
  sOf (ps_par hc hN hi hj hij hx hy pa_sem hw hs) (h.run σ H _ en w fun vs ds H1 M1 e1 w1 r1 hz => by
    obtain ⟨c, d, rfl, hz⟩ := hz
    cases r1 with
    | cons r1 r2 =>
      cases r2 with
      | cons r2 r3 =>
        cases r3
        exact ⟨_, _, rfl, k.nx _ _ H1 M1 e1 w1 (((en.mono e1).set r1 i).set r2 j) hz⟩)
/-- x op= e -/
theorem ws_aug (i : Nat) {x : Str} {op : Operator} {ti : TIp} {pos' : Pos} {c : D} (ho : PIp X op ti) (hr : ρ[i]? = some (some c)) (hN : X.N.Nodup) (h : WE X ρ M e fun d M1 => RD X.K ti c d M1 fun z M2 => Ψ.nx (ρ.set i (some z)) M2) (hi : X.N[i]? = some x := by rfl) (hx : Loc X.env.scope x := by first | exact Or.inl rfl | exact Or.inr rfl)
    (hf : X.fn x = true ∨ X.env.scope.names.lookup x = some .local := by first | exact .inl rfl | exact .inr rfl) : WS X ρ M (.AugAssign (.Name x pos') op e pos) Ψ := .mk fun σ H E en w k => by
  obtain ⟨v, e1, r⟩ := en.get hr
  exact sOf (ps_aug hN hi hx pe_sem ho hf) ⟨v, e1, h.run σ H _ en w fun u d H1 M1 e1 w1 r1 hz => hz _ v u H1 _ w1 (r.mono e1) r1 fun z dz H2 M2 e2 w2 r2 hy => k.nx _ _ H2 M2 (e1.trans e2) w2 ((en.mono (e1.trans e2)).set r2 i) hy⟩
theorem ite_dec {p A B : Prop} [Decidable p] (h1 : p → A) (h2 : ¬ p → B) : if (decide p) = true then A else B := by
  by_cases h : p
  · rw [decide_eq_true h]; exact h1 h
  · rw [decide_eq_false h]; exact h2 h
/-- the walk J yields these data, whatever comes besides -/
def Sq (K : PySem.W.Frag) (M1 : Mp) (Z1 : Zn) (H1 : Hp) (J : It) (items : List D) : Prop := ∀ i M Z H, ExI M1 Z1 H1 M Z H → Wd K M Z H →
  (i = items.length → J.stop i H) ∧ ∀ d, items[i]? = some d → J.go i H ∧ ∀ x H', J.yld i H x H' → Ext M Z H M H' ∧ Wd K M Z H' ∧ Rep K M Z H' x d
structure WI (X : Cx) (ρ : Rho) (M : Mp) (tg iter : Expr) (Φ : List D → Mp → Prop) : Prop where
  run : ∀ {Z : Zn} σ H (R : It → Hp → Prop), EnvR X.K M Z H σ ρ → Wd X.K M Z H →
  (∀ J items H1 M1, Ext M Z H M1 H1 → Wd X.K M1 Z H1 → Sq X.K M1 Z H1 J items → Φ items M1 → R J H1) → iSem X tg iter σ H R
theorem iOf {iter : Expr} {wi : TI} {σ : L2.St} {H : Hp} {R : It → Hp → Prop} (h : PI X tg iter wi) (q : wi σ H R) : iSem X tg iter σ H R := fun pins s I => h.run pins s σ H R I q
theorem sq_tup {K : PySem.W.Frag} {M1 : Mp} {Z1 : Zn} {H1 : Hp} {a : Addr} {vs : List V} {ds : List D} (hq : ∀ M Z H, ExI M1 Z1 H1 M Z H → SqT K H a vs) (rs : Reps K M1 Z1 H1 vs ds) : Sq K M1 Z1 H1 (Itt K a) ds := fun i M Z H e w => by
  refine ⟨fun hi => ⟨vs, hq M Z H e, by rw [rs.length, hi]; exact Nat.le_refl _⟩, fun d hd => ?_⟩
  obtain ⟨v, hv, r⟩ := rs.get hd
  refine ⟨⟨vs, v, hq M Z H e, hv⟩, fun x H' y => ?_⟩
  obtain ⟨rfl, y⟩ := y
  have := y vs (hq M Z _ e)
  rw [hv] at this
  cases this
  exact ⟨Ext.refl, w, r.monoI e⟩
/-- a list, a tuple that stays -/
theorem Rep.tupKeep {K : PySem.W.Frag} {M : Mp} {Z : Zn} {H : Hp} {v : V} {ds : List D} (r : Rep K M Z H v (.tup ds)) : ∃ a vs, v = .ref a ∧ (∀ M' Z' H', ExI M Z H M' Z' H' → SqT K H' a vs) ∧ Reps K M Z H vs ds := by
  cases r with
  | tup h m r => exact ⟨_, _, rfl, fun M' Z' H' e => .inl (e.rd h m), r⟩
  | tupK h r => exact ⟨_, _, rfl, fun _ _ _ _ => .inr h, r⟩
theorem Rep.lstKeep {K : PySem.W.Frag} {M : Mp} {Z : Zn} {H : Hp} {v : V} {d : D} {ds : List D} (r : Rep K M Z H v d) (hd : d = .lst ds ∨ d = .rol ds) : ∃ a vs, v = .ref a ∧ (∀ M' Z' H', ExI M Z H M' Z' H' → SqL K H' a vs) ∧ Reps K M Z H vs ds := by
  rcases hd with rfl | rfl
  · cases r with
    | lst h m r => exact ⟨_, _, rfl, fun M' Z' H' e => .inl (.inl (e _ _ h m).1), r⟩
  · cases r with
    | rol h m r => exact ⟨_, _, rfl, fun M' Z' H' e => .inl (e.rd h m), r⟩
    | rolK h r => exact ⟨_, _, rfl, fun _ _ _ _ => .inr h, r⟩
theorem wi_list {iter : Expr} {Φ : List D → Mp → Prop} (h : WE X ρ M iter fun d M1 => ∃ ds, (d = .lst ds ∨ d = .rol ds) ∧ Φ ds M1) : WI X ρ M tg iter Φ := .mk fun σ H R en w k =>
  iOf (pi_list pe_sem) (h.run σ H _ en w fun v d H1 M1 e1 w1 r1 hz => by
    obtain ⟨ds, hd, hz⟩ := hz
    obtain ⟨a, vs, rfl, hq, rs⟩ := r1.lstKeep hd
    refine ⟨a, rfl, ⟨vs, hq _ _ _ ExI.refl⟩, k _ ds H1 M1 e1 w1 ?_ hz⟩
    intro i M Z H e w
    refine ⟨fun hi => ⟨vs, hq M Z H e, by rw [rs.length, hi]; exact Nat.le_refl _⟩, fun d hd => ?_⟩
    obtain ⟨v, hv, r⟩ := rs.get hd
    refine ⟨⟨vs, v, hq M Z H e, hv⟩, fun x H' y => ?_⟩
    obtain ⟨rfl, y⟩ := y
    have := y vs (hq M Z _ e)
    rw [hv] at this
    cases this
    exact ⟨Ext.refl, w, r.monoI e⟩)
theorem wi_tup {iter : Expr} {Φ : List D → Mp → Prop} (h : WE X ρ M iter fun d M1 => ∃ ds, d = .tup ds ∧ Φ ds M1) : WI X ρ M tg iter Φ := .mk fun σ H R en w k =>
  iOf (pi_tup pe_sem) (h.run σ H _ en w fun v d H1 M1 e1 w1 r1 hz => by
    obtain ⟨ds, rfl, hz⟩ := hz
    obtain ⟨a, vs, rfl, hq, rs⟩ := r1.tupKeep
    exact ⟨a, rfl, ⟨vs, hq _ _ _ ExI.refl⟩, k _ ds H1 M1 e1 w1 (sq_tup hq rs) hz⟩)
/-- lo, lo + 1, .. -/
def rngD (lo : Int) (n : Nat) : List D := (List.range n).map fun (i : Nat) => D.int (lo + (i : Int))
theorem rngD_len (lo : Int) (n : Nat) : (rngD lo n).length = n := by simp [rngD]
theorem rngD_get {lo : Int} {n i : Nat} {d : D} (h : (rngD lo n)[i]? = some d) : i < n ∧ d = .int (lo + (i : Int)) := by
  have hi : i < (rngD lo n).length := (List.getElem?_eq_some_iff.mp h).1
  rw [rngD_len] at hi
  refine ⟨hi, ?_⟩
  unfold rngD at h
  rw [List.getElem?_map, List.getElem?_range hi] at h
  exact (Option.some.inj h).symm
theorem sq_range {K : PySem.W.Frag} {M1 : Mp} {Z1 : Zn} {H1 : Hp} (lo : Int) (n : Nat) : Sq K M1 Z1 H1 (Itr lo n) (rngD lo n) := fun i M Z H e w => by
  refine ⟨fun hi => by rw [hi, rngD_len]; exact Nat.le_refl _, fun d hd => ?_⟩
  obtain ⟨h1, rfl⟩ := rngD_get hd
  refine ⟨h1, fun x H' y => ?_⟩
  obtain ⟨rfl, rfl⟩ := y
  exact ⟨Ext.refl, w, .int _⟩
theorem wi_range1 {p : Pos} {Φ : List D → Mp → Prop} (hm : X.mg "range" = none) (h : WA X ρ M [a] fun ds M1 => ∃ j : Int, ds = [.int j] ∧ -(2 ^ 62) ≤ j ∧ j < 2 ^ 62 ∧ Φ (rngD 0 j.toNat) M1) (hg : Gl X "range" := by rfl) (hs : starEach [a] X.env = [(false, eval a X.env)] := by rfl) : WI X ρ M tg (.Call (.Name "range" p) [a] [] pos) Φ := .mk fun σ H R en w k =>
  iOf (pi_range1 hg hm pa_sem hs) (h.run σ H _ en w fun vs ds H1 M1 e1 w1 r1 hz => by
    obtain ⟨j, rfl, h1, h2, hz⟩ := hz
    cases r1 with
    | cons r1 r2 =>
      cases r1
      cases r2
      exact ⟨j, rfl, h1, h2, k _ _ H1 M1 e1 w1 (sq_range 0 _) hz⟩)
theorem wi_range2 {p : Pos} {Φ : List D → Mp → Prop} (hm : X.mg "range" = none) (h : WA X ρ M [a, b] fun ds M1 => ∃ i j : Int, ds = [.int i, .int j] ∧ (-(2 ^ 62) ≤ i ∧ i < 2 ^ 62 ∧ -(2 ^ 62) ≤ j ∧ j < 2 ^ 62) ∧ Φ (rngD i (j - i).toNat) M1) (hg : Gl X "range" := by rfl) (hs : starEach [a, b] X.env = [(false, eval a X.env), (false, eval b X.env)] := by rfl) (hs2 : starEach [b] X.env = [(false, eval b X.env)] := by rfl) : WI X ρ M tg (.Call (.Name "range" p) [a, b] [] pos) Φ := .mk fun σ H R en w k =>
  iOf (pi_range2 hg hm pa_sem hs hs2) (h.run σ H _ en w fun vs ds H1 M1 e1 w1 r1 hz => by
    obtain ⟨i, j, rfl, h1, hz⟩ := hz
    cases r1 with
    | cons r1 r2 =>
      cases r1
      cases r2 with
      | cons r2 r3 =>
        cases r2
        cases r3
        exact ⟨i, j, rfl, h1, k _ _ H1 M1 e1 w1 (sq_range i _) hz⟩)
theorem ws_for {body : List Stmt} {iter : Expr} (hp : PassesOwn (model X.prog X.w) X.A X.env X.xe)
    (h : WI X ρ M tg iter fun ds M1 => ∃ I : Nat → Rho → Mp → Prop, I 0 ρ M1 ∧
      (∀ i x ρ' M', ds[i]? = some x → I i ρ' M' → WG X tg x ρ' M' fun ρ2 M2 => WSs X ρ2 M2 body { nx := I (i + 1), ct := I (i + 1), bk := Ψ.nx, rt := Ψ.rt }) ∧ ∀ ρ' M', I ds.length ρ' M' → Ψ.nx ρ' M')
    (hc : X.calm = true := by rfl) (hs : ∀ x, foldedSetIterable iter X.env x = pure x := by intro _; rfl) : WS X ρ M (.For tg iter body [] pos) Ψ := .mk fun {Z} σ H E en w k =>
  sOf (ps_for hp hc pi_sem pg_sem pss_sem hs) (h.run σ H _ en w fun J ds H1 M1 e1 w1 sq hz => by
    obtain ⟨I, h0, turn, done⟩ := hz
    refine ⟨fun i m σ' H' => m = ds.length - i ∧ i ≤ ds.length ∧ ∃ ρ' M', Ext M1 Z H1 M' H' ∧ Wd X.K M' Z H' ∧ EnvR X.K M' Z H' σ' ρ' ∧ I i ρ' M', ⟨ds.length, by simp, Nat.zero_le _, ρ, M1, Ext.refl, w1, en.mono e1, h0⟩, ?_⟩
    rintro i m σ' H' ⟨rfl, hi, ρ', M', x', w', en', inv⟩
    obtain ⟨s1, s2⟩ := sq i M' Z H' x'.i w'
    by_cases hlt : i < ds.length
    · have hd : ds[i]? = some ds[i] := List.getElem?_eq_getElem hlt
      obtain ⟨go, yl⟩ := s2 _ hd
      refine .inr ⟨go, fun σ2 H2 => ∃ ρ2 M2, Ext M1 Z H1 M2 H2 ∧ Wd X.K M2 Z H2 ∧ EnvR X.K M2 Z H2 σ2 ρ2 ∧ I (i + 1) ρ2 M2, fun σ2 H2 ⟨ρ2, M2, x2, w2, en2, i2⟩ => ⟨ds.length - (i + 1), by omega, rfl, hlt, ρ2, M2, x2, w2, en2, i2⟩, fun v H2 y => ?_⟩
      obtain ⟨x2, w2, r2⟩ := yl v H2 y
      have x12 := x'.trans x2
      refine (turn i _ ρ' M' hd inv).run σ' H2 v _ (en'.mono x2) w2 r2 fun σ3 ρ3 H3 M3 x3 w3 en3 hb => ?_
      have x13 := x12.trans x3
      have ks := (k.step e1).step x13
      exact hb.run σ3 H3 _ en3 w3 ⟨fun σ4 ρ4 H4 M4 x4 w4 en4 z => ⟨ρ4, M4, x13.trans x4, w4, en4, z⟩, ks.rt, ks.nx, fun σ4 ρ4 H4 M4 x4 w4 en4 z => ⟨ρ4, M4, x13.trans x4, w4, en4, z⟩⟩
    · have e : i = ds.length := by omega
      exact .inl ⟨s1 e, (k.step e1).nx σ' ρ' H' M' x' w' en' (done _ _ (e ▸ inv))⟩)
theorem ws_while {c : Expr} {body : List Stmt} (hp : PassesOwn (model X.prog X.w) X.A X.env X.xe) (I : Nat → Rho → Mp → Prop) (n : Nat) (h0 : I n ρ M)
    (turn : ∀ n ρ' M', I n ρ' M' → WT X ρ' M' c fun b M1 => if b = true then WSs X ρ' M1 body { nx := fun ρ2 M2 => ∃ m, m < n ∧ I m ρ2 M2, ct := fun ρ2 M2 => ∃ m, m < n ∧ I m ρ2 M2, bk := Ψ.nx, rt := Ψ.rt } else Ψ.nx ρ' M1) : WS X ρ M (.While c body [] pos) Ψ := .mk fun {Z} σ H E en w k => by
  refine sOf (ps_while hp pt_sem pss_sem) ⟨fun m σ' H' => ∃ ρ' M', Ext M Z H M' H' ∧ Wd X.K M' Z H' ∧ EnvR X.K M' Z H' σ' ρ' ∧ I m ρ' M', ⟨n, ρ, M, Ext.refl, w, en, h0⟩, ?_⟩
  rintro m σ' H' ⟨ρ', M', x', w', en', inv⟩
  refine (turn m ρ' M' inv).run σ' H' _ en' w' fun b H1 M1 x1 w1 hz => ?_
  have x01 := x'.trans x1
  have ks := k.step x01
  cases b with
  | true =>
    refine ⟨fun σ2 H2 => ∃ ρ2 M2, Ext M Z H M2 H2 ∧ Wd X.K M2 Z H2 ∧ EnvR X.K M2 Z H2 σ2 ρ2 ∧ ∃ j, j < m ∧ I j ρ2 M2, fun σ2 H2 ⟨ρ2, M2, x2, w2, en2, j, hj, i2⟩ => ⟨j, hj, ρ2, M2, x2, w2, en2, i2⟩, ?_⟩
    exact hz.run σ' H1 _ (en'.mono x1) w1 ⟨fun σ4 ρ4 H4 M4 x4 w4 en4 z => ⟨ρ4, M4, x01.trans x4, w4, en4, z⟩, ks.rt, ks.nx, fun σ4 ρ4 H4 M4 x4 w4 en4 z => ⟨ρ4, M4, x01.trans x4, w4, en4, z⟩⟩
  | false => exact ks.nx σ' ρ' H1 M1 Ext.refl w1 (en'.mono x1) hz
end
end DL
namespace DL
open PySem L2
def hid (Z : Zn) (p : Addr) : Zn := fun b => Z b ∨ b = p
section
variable {K : PySem.W.Frag} {M M' : Mp} {Z : Zn} {H H' : Hp} {p : Addr} {o : HO}
theorem hide_x (h : H p = none) : ExI M Z H M (hid Z p) (upd H p o) := fun b u q m => by
  have n : b ≠ p := ne_of_none q h
  exact ⟨by rw [upd_ne n]; exact q, m.1, fun z => z.elim m.2 n⟩
theorem hide_w (w : Wd K M Z H) (h : H p = none) : Wd K M (hid Z p) (upd H p o) := ⟨fun a u e => by
  obtain ⟨z, q⟩ := (w.1 a u e).there
  exact (w.1 a u e).stepI (hide_x h) (upd_ne (ne_of_none q h)), fun b z => by
  rcases z with z | rfl
  · obtain ⟨m, u, q⟩ := w.2 b z
    exact ⟨m, u, by rw [upd_ne (ne_of_none q h)]; exact q⟩
  · exact ⟨(w.fresh h).1, o, upd_same⟩⟩
/-- the hidden object changed -/
theorem hidput_x : ExI M (hid Z p) H M (hid Z p) (upd H p o) := fun b u q m => ⟨by rw [upd_ne (fun e => m.2 (.inr e))]; exact q, m⟩
theorem hidput_w (w : Wd K M (hid Z p) H) : Wd K M (hid Z p) (upd H p o) := ⟨fun a u e => by
  have n : a ≠ p := fun z => by have := (w.2 p (.inr rfl)).1; rw [z, this] at e; cases e
  exact (w.1 a u e).stepI hidput_x (upd_ne n), fun b z => by
  obtain ⟨m, u, q⟩ := w.2 b z
  by_cases hb : b = p
  · exact ⟨m, o, by rw [hb]; exact upd_same⟩
  · exact ⟨m, u, by rw [upd_ne hb]; exact q⟩⟩
/-- .. shown -/
theorem show_x : ExI M (hid Z p) H M Z H := fun b u q m => ⟨q, m.1, fun z => m.2 (.inl z)⟩
theorem show_w (w : Wd K M (hid Z p) H) : Wd K M Z H := ⟨fun a u e => (w.1 a u e).stepI show_x rfl, fun b z => w.2 b (.inl z)⟩
end
def wipeR (ρ : Rho) : List Nat → Rho
  | [] => ρ
  | v :: vs => (wipeR ρ vs).set v none
theorem env_wipe {K : PySem.W.Frag} {M : Mp} {Z : Zn} {H : Hp} {σ : L2.St} {ρ : Rho} (en : EnvR K M Z H σ ρ) : ∀ vs : List Nat, EnvR K M Z H (wipe σ vs) (wipeR ρ vs)
  | [] => en
  | v :: vs => EnvR.unset v (env_wipe en vs)
theorem wipe_get (σ : L2.St) (j : Nat) : ∀ vs : List Nat, (wipe σ vs)[j]? = if j ∈ vs then (σ[j]?).map (fun _ => none) else σ[j]?
  | [] => by simp [wipe]
  | v :: vs => by
    unfold wipe
    have ih := wipe_get σ j vs
    by_cases hj : v = j
    · subst hj
      rw [if_pos List.mem_cons_self]
      by_cases hl : v < (wipe σ vs).length
      · rw [List.getElem?_set_self hl]
        rw [wipe_length] at hl
        rw [List.getElem?_eq_getElem hl]; rfl
      · rw [List.getElem?_eq_none (by simpa using hl)]
        rw [wipe_length] at hl
        rw [List.getElem?_eq_none (by omega)]; rfl
    · rw [List.getElem?_set_ne hj, ih]
      by_cases hm : j ∈ vs
      · rw [if_pos hm, if_pos (List.mem_cons_of_mem _ hm)]
      · rw [if_neg hm, if_neg (by simp only [List.mem_cons, not_or]; exact ⟨fun e => hj e.symm, hm⟩)]
theorem wipe_ext {σ τ : L2.St} {vs : List Nat} (h : ∀ j, j ∉ vs → σ[j]? = τ[j]?) (hl : σ.length = τ.length) : wipe σ vs = wipe τ vs := by
  apply List.ext_getElem?
  intro j
  rw [wipe_get, wipe_get]
  by_cases hj : j ∈ vs
  · rw [if_pos hj, if_pos hj]
    by_cases hs : j < σ.length
    · rw [List.getElem?_eq_getElem hs, List.getElem?_eq_getElem (by omega)]; rfl
    · rw [List.getElem?_eq_none (by omega), List.getElem?_eq_none (by omega)]
  · rw [if_neg hj, if_neg hj]; exact h j hj
theorem wipe_twice (σ : L2.St) (vs : List Nat) : wipe (wipe σ vs) vs = wipe σ vs := wipe_ext (fun j hj => by rw [wipe_get, if_neg hj]) (wipe_length _ _)
theorem wipe_set {σ : L2.St} {vs : List Nat} {i : Nat} {o : Option V} (hi : i ∈ vs) : wipe (σ.set i o) vs = wipe σ vs := wipe_ext (fun j hj => List.getElem?_set_ne (fun (e : i = j) => hj (e ▸ hi))) (List.length_set ..)
def GT (K : PySem.W.Frag) (g : TG) (vs : List Nat) (G : D → Rho → (Rho → Prop) → Prop) : Prop := ∀ M Z H v d σ ρ (R : Rho → Prop) (Q : L2.St → Hp → Prop), EnvR K M Z H (wipe σ vs) ρ → Rep K M Z H v d → G d ρ R →
  (∀ σ2 ρ2, EnvR K M Z H σ2 ρ2 → wipe σ2 vs = wipe σ vs → R ρ2 → Q σ2 H) → g v (wipe σ vs) H Q
theorem gt_name {K : PySem.W.Frag} {vs : List Nat} {i : Nat} (hi : i ∈ vs) : GT K (gName i) vs (fun d ρ R => R (ρ.set i (some d))) := fun M Z H v d σ ρ R Q en r g k =>
  k _ _ (en.set r i) (by rw [wipe_set hi, wipe_twice]) g
theorem gt_two {K : PySem.W.Frag} {vs : List Nat} {i j : Nat} (hi : i ∈ vs) (hj : j ∈ vs) : GT K (gTup K 2 (gCons (gName i) (gCons (gName j) gNil))) vs (fun d ρ R => ∃ a b, d = .tup [a, b] ∧ R ((ρ.set i (some a)).set j (some b))) := fun M Z H v d σ ρ R Q en r g k => by
  obtain ⟨a, b, rfl, g⟩ := g
  obtain ⟨p, vs, rfl, hq, rs⟩ := r.asTup
  cases rs with
  | cons r1 r2 =>
    cases r2 with
    | cons r2 r3 =>
      cases r3
      exact ⟨p, _, rfl, hq, rfl, _, _, rfl, _, _, rfl, rfl, k _ _ ((en.set r1 i).set r2 j) (by rw [wipe_set hj, wipe_set hi, wipe_twice]) g⟩
section
variable {X : Cx} {ρ : Rho} {M : Mp} {elt tg iter : Expr} {pos : Pos} {scope : Scope}
/-- within the block -/
def eBlk (X : Cx) (scope : Scope) (e : Expr) : TE := fun σ H Q => ∀ s H0 C cl fp, eSem (X.blk s H0 scope (compEnvC scope cl C X.env) fp) e σ H Q
def tBlk (X : Cx) (scope : Scope) (e : Expr) : TT := fun σ H Q => ∀ s H0 C cl fp, tSem (X.blk s H0 scope (compEnvC scope cl C X.env) fp) e σ H Q
def WEb (X : Cx) (scope : Scope) (ρ : Rho) (M : Mp) (e : Expr) (Φ : D → Mp → Prop) : Prop := ∀ s H0 C cl fp, WE (X.blk s H0 scope (compEnvC scope cl C X.env) fp) ρ M e Φ
def WTb (X : Cx) (scope : Scope) (ρ : Rho) (M : Mp) (e : Expr) (Φ : Bool → Mp → Prop) : Prop := ∀ s H0 C cl fp, WT (X.blk s H0 scope (compEnvC scope cl C X.env) fp) ρ M e Φ
/-- the tests -/
def TK (X : Cx) (tt : TT) (T : Rho → Mp → (Bool → Mp → Prop) → Prop) : Prop := ∀ {Z : Zn} M H σ ρ (Θ : Bool → Mp → Prop) (Q : Bool → Hp → Prop), EnvR X.K M Z H σ ρ → Wd X.K M Z H → T ρ M Θ → KT X.K M Z H Θ Q → tt σ H Q
theorem tk_nil : TK X tYes (fun _ M Θ => Θ true M) := fun M H σ ρ Θ Q en w h k => k.now w h
theorem tk_one {c : Expr} : TK X (tBlk X scope c) (fun ρ M Θ => WTb X scope ρ M c Θ) := fun M H σ ρ Θ Q en w h k s H0 C cl fp => (h s H0 C cl fp).run σ H Q en w k
/-- what a comprehension asks: I by the turn, what is gathered, the mutable objects -/
def LcI (X : Cx) (scope : Scope) (ρ : Rho) (vs : List Nat) (G : D → Rho → (Rho → Prop) → Prop) (T : Rho → Mp → (Bool → Mp → Prop) → Prop) (elt : Expr) (Φ : D → Mp → Prop) (ds : List D) (M1 : Mp) : Prop :=
  ds.length ≤ sizeLine ∧ ∃ I : Nat → List D → Mp → Prop, I 0 [] M1 ∧
    (∀ i x acc M', ds[i]? = some x → I i acc M' → G x (wipeR ρ vs) fun ρ2 => T ρ2 M' fun b M2 => if b = true then WEb X scope ρ2 M2 elt fun y M3 => I (i + 1) (acc ++ [y]) M3 else I (i + 1) acc M2) ∧
    ∀ acc M', I ds.length acc M' → Φ (.lst acc) M'
theorem lc_run {g : TG} {tt : TT} {vs : List Nat} {G : D → Rho → (Rho → Prop) → Prop} {T : Rho → Mp → (Bool → Mp → Prop) → Prop} {Φ : D → Mp → Prop} (hg : GT X.K g vs G) (ht : TK X tt T)
    (h : WI X ρ M tg iter (LcI X scope ρ vs G T elt Φ)) {Z : Zn} {σ : L2.St} {H : Hp} {Q : VK} (en : EnvR X.K M Z H σ ρ) (w : Wd X.K M Z H) (k : KE X.K M Z H Φ Q) : tLc (iSem X tg iter) g tt (eBlk X scope elt) vs σ H Q :=
  h.run σ H _ en w fun J ds H1 M1 e1 w1 sq hz => by
    obtain ⟨hn, I, h0, turn, done⟩ := hz
    intro Dd hD
    have zne : ∀ b, Z b → b ≠ Dd := w1.zne hD
    refine ⟨fun i m H' => m = ds.length - i ∧ i ≤ ds.length ∧ ∃ accV acc M', ExI M1 Z H1 M' (hid Z Dd) H' ∧ (∀ b, Z b → H' b = H1 b ∧ M' b = M1 b) ∧ Wd X.K M' (hid Z Dd) H' ∧ H' Dd = some (.lst accV) ∧ Reps X.K M' (hid Z Dd) H' accV acc ∧ acc.length ≤ i ∧ I i acc M',
      ⟨ds.length, by simp, Nat.zero_le _, [], [], M1, hide_x hD, fun b z => ⟨upd_ne (zne b z), rfl⟩, hide_w w1 hD, upd_same, .nil, Nat.zero_le _, h0⟩, ?_⟩
    rintro i m H' ⟨rfl, hi, accV, acc, M', x', zk, w', hA, rA, la, inv⟩
    obtain ⟨s1, s2⟩ := sq i M' (hid Z Dd) H' x' w'
    by_cases hlt : i < ds.length
    · have hd : ds[i]? = some ds[i] := List.getElem?_eq_getElem hlt
      obtain ⟨go, yl⟩ := s2 _ hd
      refine .inr ⟨go, fun H2 => ∃ accV acc M2, ExI M1 Z H1 M2 (hid Z Dd) H2 ∧ (∀ b, Z b → H2 b = H1 b ∧ M2 b = M1 b) ∧ Wd X.K M2 (hid Z Dd) H2 ∧ H2 Dd = some (.lst accV) ∧ Reps X.K M2 (hid Z Dd) H2 accV acc ∧ acc.length ≤ i + 1 ∧ I (i + 1) acc M2,
        fun H2 ⟨aV, a, M2, x2, z2, w2, hA2, rA2, l2, i2⟩ => ⟨ds.length - (i + 1), by omega, rfl, hlt, aV, a, M2, x2, z2, w2, hA2, rA2, l2, i2⟩, fun v H2 y => ?_⟩
      obtain ⟨x2, w2, r2⟩ := yl v H2 y
      have en2 : EnvR X.K M' (hid Z Dd) H2 (wipe σ vs) (wipeR ρ vs) := env_wipe ((en.mono e1).monoI (x'.trans x2.i)) vs
      refine hg M' (hid Z Dd) H2 v _ σ _ _ _ en2 r2 (turn i _ acc M' hd inv) fun σ3 ρ3 en3 wp3 hT => ⟨wp3, ?_⟩
      refine ht M' H2 σ3 ρ3 _ _ en3 w2 hT fun b H3 M3 x3 w3 hb => ?_
      have x23 : Ext M' (hid Z Dd) H' M3 H3 := x2.trans x3
      have zk3 : ∀ b, Z b → H3 b = H1 b ∧ M3 b = M1 b := fun b z => ⟨(x23.2 b (.inl z)).1.trans (zk b z).1, (x23.2 b (.inl z)).2.trans (zk b z).2⟩
      cases b with
      | false => exact ⟨accV, acc, M3, x'.trans x23.i, zk3, w3, (x23.2 Dd (.inr rfl)).1.trans hA, rA.mono x23, Nat.le_succ_of_le la, hb⟩
      | true =>
        intro s H0 C cl fp
        refine (hb s H0 C cl fp).run σ3 H3 _ (en3.mono x3) w3 fun yv yd H4 M4 x4 w4 r4 hI => ?_
        have x24 := x23.trans x4
        have hA4 : H4 Dd = some (.lst accV) := (x24.2 Dd (.inr rfl)).1.trans hA
        refine ⟨accV, hA4, by rw [rA.length]; omega, accV ++ [yv], acc ++ [yd], M4, (x'.trans x24.i).trans hidput_x, fun b z => ⟨(upd_ne (zne b z)).trans ((x4.2 b (.inl z)).1.trans (zk3 b z).1), (x4.2 b (.inl z)).2.trans (zk3 b z).2⟩, hidput_w w4, upd_same, ?_, by rw [List.length_append, List.length_singleton]; omega, hI⟩
        exact (((rA.mono x24).append (.cons r4 .nil))).monoI hidput_x
    · have e : i = ds.length := by omega
      refine .inl ⟨s1 e, ?_⟩
      refine k _ (.lst acc) H' M' (e1.trans ⟨x'.trans show_x, zk⟩) (show_w w') (.lst hA ⟨(w'.2 Dd (.inr rfl)).1, fun z => zne Dd z rfl⟩ (rA.monoI show_x)) (done _ _ (e ▸ inv))
/-- [elt for x in iter] -/
theorem we_lc {own : List (Str × Nat)} {g : TG} {tt : TT} {ifs : List Expr} {G : D → Rho → (Rho → Prop) → Prop} {T : Rho → Mp → (Bool → Mp → Prop) → Prop} {Φ : D → Mp → Prop} (hN : X.N.Nodup) (ok : BlkOk X.N X.env.scope scope own)
    (pg : ∀ (s : Shared) (H : Hp) (C : Addr) (cl : List (Str × Addr)) (fp : List Addr), PG (X.blk s H scope (compEnvC scope cl C X.env) fp) tg g) (hg : GT X.K g (own.map (·.2)) G)
    (pt : ∀ (s : Shared) (H : Hp) (C : Addr) (cl : List (Str × Addr)) (fp : List Addr), PTs (X.blk s H scope (compEnvC scope cl C X.env) fp) ifs tt) (ht : TK X tt T)
    (h : WI X ρ M tg iter (LcI X scope ρ (own.map (·.2)) G T elt Φ)) (hc : X.calm = true := by rfl) (hs : ∀ x, foldedSetIterable iter X.env x = pure x := by intro _; rfl) : WE X ρ M (.ListComp elt [⟨tg, iter, ifs, 0⟩] scope pos) Φ := .mk fun σ H Q en w k =>
  eOf (pe_lc hc hN pi_sem ok pg pt (fun s H0 C cl fp => ⟨fun pins s' σ' H' Q' I q => q s H0 C cl fp pins s' I⟩) hs) (lc_run hg ht h en w k)
/-- y = [elt for x in iter] -/
theorem ws_setLc (i : Nat) {y : Str} {py spos : Pos} {own : List (Str × Nat)} {g : TG} {tt : TT} {ifs : List Expr} {G : D → Rho → (Rho → Prop) → Prop} {T : Rho → Mp → (Bool → Mp → Prop) → Prop} {Ψ : DE} (hN : X.N.Nodup) (ok : BlkOk X.N X.env.scope scope own)
    (pg : ∀ (s : Shared) (H : Hp) (C : Addr) (cl : List (Str × Addr)) (fp : List Addr), PG (X.blk s H scope (compEnvC scope cl C X.env) fp) tg g) (hg : GT X.K g (own.map (·.2)) G)
    (pt : ∀ (s : Shared) (H : Hp) (C : Addr) (cl : List (Str × Addr)) (fp : List Addr), PTs (X.blk s H scope (compEnvC scope cl C X.env) fp) ifs tt) (ht : TK X tt T)
    (h : WI X ρ M tg iter (LcI X scope ρ (own.map (·.2)) G T elt fun d M1 => Ψ.nx (ρ.set i (some d)) M1))
    (hsw : swapsWith (.ListComp elt [⟨tg, iter, ifs, 0⟩] scope pos) (some (.Name y py)) spos.line X.env = pure true) (hy : X.N[i]? = some y := by rfl) (hyl : X.env.scope.names.lookup y = some .local := by rfl)
    (hc : X.calm = true := by rfl) (hs : ∀ x, foldedSetIterable iter X.env x = pure x := by intro _; rfl) : WS X ρ M (.Assign [.Name y py] (.ListComp elt [⟨tg, iter, ifs, 0⟩] scope pos) spos) Ψ := .mk fun σ H E en w k =>
  sOf (ps_setLc hc hN hy hyl hsw pi_sem ok pg pt (fun s H0 C cl fp => ⟨fun pins s' σ' H' Q' I q => q s H0 C cl fp pins s' I⟩) hs) (lc_run hg ht h en w fun v d H' M' x w' r z => k.nx _ _ H' M' x w' ((en.mono x).set r i) z)
end
end DL
namespace DL
open PySem PySem.Spec PyProof.Rows L2
/-- go on with less -/
theorem wss_let {X : Cx} {ρ ρ' : Rho} {M M' : Mp} {sts : List Stmt} {Ψ : DE} (l : Les M' M) (f : FzE M M' ρ ρ') (h : WSs X ρ' M' sts Ψ) : WSs X ρ M sts Ψ := .mk fun σ H E en w k =>
  h.run σ H E (f.env l w en) (l.w w) (k.step (l.ext w))
/-- the global x is a def with this contract; dd the data of the defaults that fill up -/
structure Fc (P : Program) (w : World) (K : PySem.W.Frag) (mg : Str → Option Value) (base : Heap) (x : Str) (dd : List D) (k n : Nat) (c : Con) : Prop where
  ex : ∃ (f : Addr) (fd : FuncData) (ps : List Str) (dvs : List V) (ds : List Value), FnOk P w K mg base CX0 k f fd ps (spD K n c) ∧ mg x = some (.ref f) ∧ PySem.W.keepIn K (.ref f) = true ∧ Binds K fd ps ds ∧ Vals dvs ds ∧ ∀ M Z H, Reps K M Z H dvs dd
section
variable {X : Cx} {ρ : Rho} {M : Mp} {Φ : D → Mp → Prop} {e o : Expr} {es : List Expr} {pos p apos : Pos} {x m : Str} {dd : List D} {k n : Nat} {c : Con}
theorem sp_run {n : Nat} {vs dvs : List V} {ds : List D} {M1 : Mp} {Z : Zn} {H1 : Hp} {Q : VK} {E : XK} (r : Reps X.K M1 Z H1 vs ds) (rd : Reps X.K M1 Z H1 dvs dd) (w1 : Wd X.K M1 Z H1) (hz : (ds ++ dd).length = n ∧ c (ds ++ dd) M1 Φ) (k : KE X.K M1 Z H1 Φ Q) : spD X.K n c (vs ++ dvs) H1 Q E :=
  ⟨ds ++ dd, M1, Z, Φ, hz.1, r.append rd, w1, hz.2, k⟩
theorem we_call (F : Fc X.prog X.w X.K X.mg X.base x dd k n c) (hr : Room k X.A) (h : WA X ρ M (e :: es) fun ds M1 => (ds ++ dd).length = n ∧ c (ds ++ dd) M1 Φ) (hg : Gl X x := by rfl)
    (hdb : (x == ("__debug__" : Str)) = false := by decide) (he : starEach (e :: es) X.env = (false, eval e X.env) :: starEach es X.env := by rfl) (hpl : (backTo pos (starEach es X.env)).any (·.1) = false := by rfl) : WE X ρ M (.Call (.Name x p) (e :: es) [] pos) Φ := .mk fun σ H Q en w k => by
  obtain ⟨f, fd, ps, dvs, ds, F, hm, hk, hb, hd, hdd⟩ := F.ex
  exact eOf (pe_call (E := E0) F hr hg hm hk hb hd pass0 pa_sem hdb he hpl) (h.run σ H _ en w fun vs as H1 M1 e1 w1 r1 hz => sp_run r1 (hdd _ _ _) w1 hz (k.step e1))
theorem we_call0 (F : Fc X.prog X.w X.K X.mg X.base x dd k n c) (hr : Room k X.A) (h : dd.length = n ∧ c dd M Φ) (hg : Gl X x := by rfl)
    (hdb : (x == ("__debug__" : Str)) = false := by decide) : WE X ρ M (.Call (.Name x p) [] [] pos) Φ := .mk fun σ H Q en w k => by
  obtain ⟨f, fd, ps, dvs, ds, F, hm, hk, hb, hd, hdd⟩ := F.ex
  exact eOf (pe_call0 (E := E0) F hr hg hm hk hb hd pass0 hdb) (sp_run (E := E0) (ds := []) (vs := []) .nil (hdd _ _ _) w h k)
/-- d is an instance of the class at C with these fields -/
def InsOf (M : Mp) (C : Addr) : D → List (Str × D) → Prop
  | .ins C' fs, gs => C' = C ∧ gs = fs
  | .ob a, gs => M a = some (.ins C gs)
  | _, _ => False
theorem Rep.asIns {K : PySem.W.Frag} {M : Mp} {Z : Zn} {H : Hp} {C : Addr} {v : V} {d : D} {fs : List (Str × D)} (w : Wd K M Z H) (r : Rep K M Z H v d) (i : InsOf M C d fs) : ∃ a dx vs, v = .ref a ∧ H a = some (.ins C dx vs) ∧ RepF K M Z H vs fs := by
  cases r with
  | ins h m r =>
    obtain ⟨rfl, rfl⟩ := i
    exact ⟨_, _, _, rfl, h, r⟩
  | ob a =>
    obtain ⟨dx, vs, h, r⟩ := w.1 a _ i
    exact ⟨_, _, _, rfl, h, r⟩
  | _ => cases i
theorem InsOf.mono {K : PySem.W.Frag} {C : Addr} {d : D} {fs : List (Str × D)} {M : Mp} (h : InsOf M C d fs) {M' : Mp} (k : ∀ a, d = .ob a → M' a = M a) : InsOf M' C d fs := by
  cases d with
  | ins C' gs => exact h
  | ob a => exact (k a rfl).trans h
  | _ => cases h
/-- o.f, a field -/
theorem we_fld {f : Str} {C : Addr} (h : WE X ρ M o fun d M1 => ∃ fs v, InsOf M1 C d fs ∧ Cls X.K C ∧ NoAttr X.K C f ∧ fs.lookup f = some v ∧ Φ v M1) (hb : attributeBase o f X.env (eval o X.env) = eval o X.env := by rfl) : WE X ρ M (.Attribute o f pos) Φ := .mk fun σ H Q en w k =>
  eOf (pe_fld pe_sem hb) (h.run σ H _ en w fun v d H1 M1 e1 w1 r1 hz => by
    obtain ⟨fs, y, hi, cl, na, hl, hz⟩ := hz
    obtain ⟨a, dx, vs, rfl, ha, rf⟩ := r1.asIns w1 hi
    obtain ⟨u, hu, ru⟩ := (rf.lookup f).2 y hl
    exact ⟨a, C, dx, vs, u, rfl, ha, cl, na, hu, (k.step e1).now w1 ru hz⟩)
/-- the fields, one stored -/
def putD (f : Str) (d : D) : List (Str × D) → List (Str × D)
  | [] => [(f, d)]
  | (g, y) :: r => if g = f then (g, d) :: r else (g, y) :: putD f d r
theorem RepF.put {K : PySem.W.Frag} {M : Mp} {Z : Zn} {H : Hp} {f : Str} {v : V} {d : D} (r : Rep K M Z H v d) : ∀ {vs : List (Str × V)} {ds : List (Str × D)}, RepF K M Z H vs ds → RepF K M Z H (putF f v vs) (putD f d ds)
  | _, _, .nil => .cons r .nil
  | _, _, .cons (k := g) r' t => by
    unfold putF putD
    by_cases h : g = f
    · rw [if_pos h, if_pos h]; exact .cons r t
    · rw [if_neg h, if_neg h]; exact .cons r' (RepF.put r t)
/-- o.f = e, o a mutable instance -/
theorem ws_fld {f : Str} {C : Addr} {value : Expr} {pos' : Pos} {Ψ : DE} (h : WE X ρ M value fun d M1 => WE X ρ M1 o fun x M2 => ∃ a fs, x = .ob a ∧ M2 a = some (.ins C fs) ∧ Cls X.K C ∧ NoAttr X.K C f ∧ fs.length < 1000 ∧ Ψ.nx ρ (mset M2 a (.ins C (putD f d fs))))
    (hs : swapsWith value (some (.Attribute o f pos')) pos.line X.env = pure false := by rfl) : WS X ρ M (.Assign [.Attribute o f pos'] value pos) Ψ := .mk fun σ H E en w k =>
  sOf (ps_fld pe_sem pe_sem hs) (bind2 h en w fun v u d x H2 M2 e2 w2 r1 r2 hz => by
    obtain ⟨a, fs, rfl, hM, cl, na, hl, hz⟩ := hz
    cases r2
    obtain ⟨dx, vs, ha, rf⟩ := w2.1 a _ hM
    refine ⟨a, C, dx, vs, rfl, ha, cl, na, by rw [rf.length]; exact hl, ?_⟩
    have x3 : Ext M2 _ H2 (mset M2 a (.ins C (putD f d fs))) (upd H2 a (.ins C dx (putF f v vs))) := Ext.put w2 hM
    exact k.nx σ ρ _ _ (e2.trans x3) (w2.put hM ⟨dx, _, upd_same, (rf.mono x3).put (r1.mono x3)⟩) (en.mono (e2.trans x3)) hz)
theorem we_meth {C : Addr} {pl : Sem Bool} (F : Mc X.prog X.w X.K X.mg X.base C m dd k n c) (hr : Room k X.A)
    (h : WE X ρ M o fun d M1 => ∃ fs, InsOf M1 C d fs ∧ fs.lookup m = none ∧ WA X ρ M1 (e :: es) fun as M2 => (d :: (as ++ dd)).length = n ∧ c (d :: (as ++ dd)) M2 Φ)
    (hst : starEach (e :: es) X.env = (false, eval e X.env) :: starEach es X.env := by rfl) (hpl : (backTo pos (starEach es X.env)).any (·.1) = false := by rfl)
    (ht : eval (.Call (.Attribute o m apos) (e :: es) [] pos) X.env = (do
      let ov ← eval o X.env
      standAt apos.atName
      let (f, first) ← holding [ov] (getMethod ov m pl)
      callWith pos f first (backTo pos (starEach (e :: es) X.env)) (backToKw pos (keywordEach [] X.env))) := by rfl) : WE X ρ M (.Call (.Attribute o m apos) (e :: es) [] pos) Φ := .mk fun σ H Q en w k => by
  obtain ⟨f, fd, ps, dvs, ds, F', hm, hbd, hd, hdd⟩ := F.ex
  refine eOf (pe_meth (pl := pl) (E := E0) pe_sem F.cl hm F' hr hbd hd pass0 pa_sem hst hpl ht) (h.run σ H _ en w fun v d H1 M1 e1 w1 r1 hz => ?_)
  obtain ⟨fs, hi, hl, hz⟩ := hz
  obtain ⟨a, dx, vs, rfl, ha, rf⟩ := r1.asIns w1 hi
  refine ⟨a, dx, vs, rfl, ha, (rf.lookup m).1 hl, hz.run σ H1 _ (en.mono e1) w1 fun us as H2 M2 e2 w2 r2 hy => ?_⟩
  exact ⟨d :: (as ++ dd), M2, _, Φ, hy.1, .cons (r1.mono e2) (r2.append (hdd _ _ _)), w2, hy.2, k.step (e1.trans e2)⟩
/-- a property of the class at C, its getter's contract -/
structure Pc (P : Program) (w : World) (K : PySem.W.Frag) (mg : Str → Option Value) (base : Heap) (C : Addr) (m : Str) (k : Nat) (c : Con) : Prop where
  cl : Cls K C
  ex : ∃ (p g : Addr) (fd : FuncData) (ps : List Str), FnOk P w K mg base CX0 k g fd ps (spD K 1 c) ∧ PropOf K C m p g ∧ Binds K fd ps []
theorem we_prop {C : Addr} (F : Pc X.prog X.w X.K X.mg X.base C m k c) (hr : Room (k + 1) X.A) (h : WE X ρ M o fun d M1 => ∃ fs, InsOf M1 C d fs ∧ c [d] M1 Φ)
    (hab : attributeBase o m X.env (eval o X.env) = eval o X.env := by rfl) : WE X ρ M (.Attribute o m pos) Φ := .mk fun σ H Q en w k => by
  obtain ⟨p, g, fd, ps, F', hp, hb⟩ := F.ex
  refine eOf (pe_prop (E := E0) pe_sem F.cl hp F' hr hb .nil pass0 hab) (h.run σ H _ en w fun v d H1 M1 e1 w1 r1 hz => ?_)
  obtain ⟨fs, hi, hz⟩ := hz
  obtain ⟨a, dx, vs, rfl, ha, rf⟩ := r1.asIns w1 hi
  exact ⟨a, dx, vs, rfl, ha, [d], M1, _, Φ, rfl, .cons r1 .nil, w1, hz, k.step e1⟩
/-- the class of the name x, its __init__'s contract: the new instance is the first argument -/
structure Kc (P : Program) (w : World) (K : PySem.W.Frag) (mg : Str → Option Value) (base : Heap) (x : Str) (C : Addr) (dd : List D) (k n : Nat) (c : Con) : Prop where
  at_ : mg x = some (.ref C)
  ex : ∃ (f : Addr) (fd : FuncData) (ps : List Str) (dvs : List V) (ds : List Value), FnOk P w K mg base CX0 k f fd ps (spD K n c) ∧ Mk K C f ∧ Binds K fd ps ds ∧ Vals dvs ds ∧ ∀ M Z H, Reps K M Z H dvs dd
theorem we_make {C : Addr} (F : Kc X.prog X.w X.K X.mg X.base x C dd k n c) (hr : Room (k + 1) X.A)
    (h : WA X ρ M (e :: es) fun as M1 => ∀ a, M1 a = none → (.ob a :: (as ++ dd)).length = n ∧ c (.ob a :: (as ++ dd)) (mset M1 a (.ins C [])) fun d M2 => d = .non ∧ Lets Φ (.ob a) M2) (hg : Gl X x := by rfl)
    (hdb : (x == ("__debug__" : Str)) = false := by decide) (he : starEach (e :: es) X.env = (false, eval e X.env) :: starEach es X.env := by rfl) (hpl : (backTo pos (starEach es X.env)).any (·.1) = false := by rfl) : WE X ρ M (.Call (.Name x p) (e :: es) [] pos) Φ := .mk fun σ H Q en w k => by
  obtain ⟨f, fd, ps, dvs, ds, F', hm, hbd, hd, hdd⟩ := F.ex
  refine eOf (pe_make (E := E0) hm F' hr hg F.at_ hbd hd pass0 pa_sem hdb he hpl) (h.run σ H _ en w fun vs as H1 M1 e1 w1 r1 hz => ?_)
  intro a dx ha hdx ne
  obtain ⟨hl, hz⟩ := hz a (w1.fresh ha).1
  have ha1 : (upd H1 dx (.own a)) a = none := by rw [upd_ne (Ne.symm ne)]; exact ha
  have x1 : Ext M1 _ H1 M1 (upd H1 dx (.own a)) := Ext.new w1 hdx
  have wa := w1.new (o := .own a) hdx
  have x2 : Ext M1 _ (upd H1 dx (.own a)) (mset M1 a (.ins C [])) (upd (upd H1 dx (.own a)) a (.ins C dx [])) := Ext.newM wa ha1
  have x12 := x1.trans x2
  refine ⟨.ob a :: (as ++ dd), mset M1 a (.ins C []), _, _, hl, .cons (.ob a) ((r1.mono x12).append (hdd _ _ _)), wa.newM ha1 ⟨dx, [], upd_same, .nil⟩, hz, fun v d H2 M2 x3 w2 r2 hy => ?_⟩
  obtain ⟨rfl, hy⟩ := hy
  cases r2
  exact ⟨rfl, lets_k (k.step (e1.trans x12)) _ _ H2 M2 x3 w2 (.ob a) hy⟩
end
end DL
namespace DL
open PySem PySem.Spec PyProof.Rows L2
section
variable {X : Cx} {ρ : Rho} {M : Mp} {Φ : D → Mp → Prop} {Θ : Bool → Mp → Prop} {a b e : Expr} {pos : Pos} {K : PySem.W.Frag}
theorem rd_I {C : Int → Int → Prop} {g : Int → Int → Int} {x y : D} (h : ∃ i j, x = .int i ∧ y = .int j ∧ C i j ∧ Φ (.int (g i j)) M) : RD K (rI C fun i j => .int (g i j)) x y M Φ := fun Z v u H Q w r1 r2 k => by
  obtain ⟨i, j, rfl, rfl, hc, h⟩ := h
  cases r1; cases r2
  exact ⟨i, j, rfl, rfl, hc, k.now w (.int _) h⟩
theorem rd_I0 {g : Int → Int → Int} {x y : D} (h : ∃ i j, x = .int i ∧ y = .int j ∧ Φ (.int (g i j)) M) : RD K (rI0 fun i j => .int (g i j)) x y M Φ := fun Z v u H Q w r1 r2 k => by
  obtain ⟨i, j, rfl, rfl, h⟩ := h
  cases r1; cases r2
  exact ⟨i, j, rfl, rfl, k.now w (.int _) h⟩
theorem rd_B0 {g : Int → Int → Bool} {x y : D} (h : ∃ i j, x = .int i ∧ y = .int j ∧ Φ (.bl (g i j)) M) : RD K (rI0 fun i j => .bl (g i j)) x y M Φ := fun Z v u H Q w r1 r2 k => by
  obtain ⟨i, j, rfl, rfl, h⟩ := h
  cases r1; cases r2
  exact ⟨i, j, rfl, rfl, k.now w (.bl _) h⟩
theorem we_addI (h : WE X ρ M a fun x M1 => WE X ρ M1 b fun y M2 => ∃ i j, x = .int i ∧ y = .int j ∧ Φ (.int (i + j)) M2) : WE X ρ M (.BinOp a .Add b pos) Φ := we_op op_add (h.imp fun _ _ h => h.imp fun _ _ h => rd_I0 h)
theorem we_subI (h : WE X ρ M a fun x M1 => WE X ρ M1 b fun y M2 => ∃ i j, x = .int i ∧ y = .int j ∧ Φ (.int (i - j)) M2) : WE X ρ M (.BinOp a .Sub b pos) Φ := we_op op_sub (h.imp fun _ _ h => h.imp fun _ _ h => rd_I0 h)
theorem we_mulI (h : WE X ρ M a fun x M1 => WE X ρ M1 b fun y M2 => ∃ i j, x = .int i ∧ y = .int j ∧ CMulW i j ∧ Φ (.int (i * j)) M2) : WE X ρ M (.BinOp a .Mult b pos) Φ := we_op op_mulW (h.imp fun _ _ h => h.imp fun _ _ h => rd_I h)
/-- one factor small -/
theorem we_mulS (h : WE X ρ M a fun x M1 => WE X ρ M1 b fun y M2 => ∃ i j, x = .int i ∧ y = .int j ∧ CMul i j ∧ Φ (.int (i * j)) M2) : WE X ρ M (.BinOp a .Mult b pos) Φ := we_op op_mul (h.imp fun _ _ h => h.imp fun _ _ h => rd_I h)
theorem we_modI (h : WE X ρ M a fun x M1 => WE X ρ M1 b fun y M2 => ∃ i j, x = .int i ∧ y = .int j ∧ 0 < j ∧ Φ (.int (i % j)) M2) : WE X ρ M (.BinOp a .Mod b pos) Φ := we_op op_mod (h.imp fun _ _ h => h.imp fun _ _ h => rd_I (C := fun _ j => 0 < j) h)
theorem we_divI (h : WE X ρ M a fun x M1 => WE X ρ M1 b fun y M2 => ∃ i j, x = .int i ∧ y = .int j ∧ CDivW i j ∧ Φ (.int (i / j)) M2) : WE X ρ M (.BinOp a .FloorDiv b pos) Φ := we_op op_fdivW (h.imp fun _ _ h => h.imp fun _ _ h => rd_I h)
theorem we_powI (h : WE X ρ M a fun x M1 => WE X ρ M1 b fun y M2 => ∃ i j, x = .int i ∧ y = .int j ∧ CPow i j ∧ Φ (.int (i ^ j.toNat)) M2) : WE X ρ M (.BinOp a .Pow b pos) Φ := we_op op_pow (h.imp fun _ _ h => h.imp fun _ _ h => rd_I h)
theorem we_negI (h : WE X ρ M a fun x M1 => ∃ i, x = .int i ∧ Φ (.int (-i)) M1) : WE X ρ M (.UnaryOp .USub a pos) Φ := we_un un_neg (h.imp fun _ _ h Z v H Q w r k => by
  obtain ⟨i, rfl, h⟩ := h
  cases r
  exact ⟨i, rfl, k.now w (.int _) h⟩)
section
variable {op : CmpOp}
theorem we_ltI (h : WE X ρ M a fun x M1 => WE X ρ M1 b fun y M2 => ∃ i j, x = .int i ∧ y = .int j ∧ Φ (.bl (decide (i < j))) M2) : WE X ρ M (.Compare a [.Lt] [b] pos) Φ := we_cmp op_lt (nomark _) (h.imp fun _ _ h => h.imp fun _ _ h => rd_B0 h)
theorem we_leI (h : WE X ρ M a fun x M1 => WE X ρ M1 b fun y M2 => ∃ i j, x = .int i ∧ y = .int j ∧ Φ (.bl (decide (i ≤ j))) M2) : WE X ρ M (.Compare a [.LtE] [b] pos) Φ := we_cmp op_le (nomark _) (h.imp fun _ _ h => h.imp fun _ _ h => rd_B0 h)
theorem we_geI (h : WE X ρ M a fun x M1 => WE X ρ M1 b fun y M2 => ∃ i j, x = .int i ∧ y = .int j ∧ Φ (.bl (decide (j ≤ i))) M2) : WE X ρ M (.Compare a [.GtE] [b] pos) Φ := we_cmp op_ge (nomark _) (h.imp fun _ _ h => h.imp fun _ _ h => rd_B0 h)
theorem wt_ltI (h : WE X ρ M a fun x M1 => WE X ρ M1 b fun y M2 => ∃ i j, x = .int i ∧ y = .int j ∧ Θ (decide (i < j)) M2) : WT X ρ M (.Compare a [.Lt] [b] pos) Θ := wt_cmp op_lt (nomark _) (h.imp fun _ _ h => h.imp fun _ _ ⟨i, j, e1, e2, h⟩ => rd_B0 ⟨i, j, e1, e2, _, rfl, h⟩)
theorem wt_leI (h : WE X ρ M a fun x M1 => WE X ρ M1 b fun y M2 => ∃ i j, x = .int i ∧ y = .int j ∧ Θ (decide (i ≤ j)) M2) : WT X ρ M (.Compare a [.LtE] [b] pos) Θ := wt_cmp op_le (nomark _) (h.imp fun _ _ h => h.imp fun _ _ ⟨i, j, e1, e2, h⟩ => rd_B0 ⟨i, j, e1, e2, _, rfl, h⟩)
theorem wt_gtI (h : WE X ρ M a fun x M1 => WE X ρ M1 b fun y M2 => ∃ i j, x = .int i ∧ y = .int j ∧ Θ (decide (j < i)) M2) : WT X ρ M (.Compare a [.Gt] [b] pos) Θ := wt_cmp op_gt (nomark _) (h.imp fun _ _ h => h.imp fun _ _ ⟨i, j, e1, e2, h⟩ => rd_B0 ⟨i, j, e1, e2, _, rfl, h⟩)
theorem wt_geI (h : WE X ρ M a fun x M1 => WE X ρ M1 b fun y M2 => ∃ i j, x = .int i ∧ y = .int j ∧ Θ (decide (j ≤ i)) M2) : WT X ρ M (.Compare a [.GtE] [b] pos) Θ := wt_cmp op_ge (nomark _) (h.imp fun _ _ h => h.imp fun _ _ ⟨i, j, e1, e2, h⟩ => rd_B0 ⟨i, j, e1, e2, _, rfl, h⟩)
end
theorem rd_eq {x y : D} (h : ∃ c, EqS x y c ∧ Φ (.bl c) M) : RD K rEq x y M Φ := fun Z v u H Q w r1 r2 k => by
  obtain ⟨c, hc, h⟩ := h
  obtain ⟨s1, s2⟩ := hc.rep r1 r2
  exact ⟨s1, by rw [s2]; exact k.now w (.bl c) h⟩
theorem rd_ne {x y : D} (h : ∃ c, EqS x y c ∧ Φ (.bl (!c)) M) : RD K rNe x y M Φ := fun Z v u H Q w r1 r2 k => by
  obtain ⟨c, hc, h⟩ := h
  obtain ⟨s1, s2⟩ := hc.rep r1 r2
  exact ⟨s1, by rw [s2]; exact k.now w (.bl (!c)) h⟩
theorem we_eqS (h : WE X ρ M a fun x M1 => WE X ρ M1 b fun y M2 => ∃ c, EqS x y c ∧ Φ (.bl c) M2) : WE X ρ M (.Compare a [.Eq] [b] pos) Φ := we_cmp op_eq (nomark _) (h.imp fun _ _ h => h.imp fun _ _ h => rd_eq h)
theorem we_neS (h : WE X ρ M a fun x M1 => WE X ρ M1 b fun y M2 => ∃ c, EqS x y c ∧ Φ (.bl (!c)) M2) : WE X ρ M (.Compare a [.NotEq] [b] pos) Φ := we_cmp op_ne (nomark _) (h.imp fun _ _ h => h.imp fun _ _ h => rd_ne h)
theorem wt_eqS (h : WE X ρ M a fun x M1 => WE X ρ M1 b fun y M2 => ∃ c, EqS x y c ∧ Θ c M2) : WT X ρ M (.Compare a [.Eq] [b] pos) Θ := wt_cmp op_eq (nomark _) (h.imp fun _ _ h => h.imp fun _ _ ⟨c, e, h⟩ => rd_eq ⟨c, e, _, rfl, h⟩)
theorem wt_neS (h : WE X ρ M a fun x M1 => WE X ρ M1 b fun y M2 => ∃ c, EqS x y c ∧ Θ (!c) M2) : WT X ρ M (.Compare a [.NotEq] [b] pos) Θ := wt_cmp op_ne (nomark _) (h.imp fun _ _ h => h.imp fun _ _ ⟨c, e, h⟩ => rd_ne ⟨c, e, _, rfl, h⟩)
mutual
theorem Rep.dp {M : Mp} {Z : Zn} {H : Hp} : ∀ {v : V} {d : D} {p : PyData}, Rep K M Z H v d → toPy d = some p → Dp K H v p
  | _, _, _, .non, e => by cases e; exact .non
  | _, _, _, .bl b, e => by cases e; exact .bl b
  | _, _, _, .int i, e => by cases e; exact .int i
  | _, _, _, .str x, e => by cases e; exact .str x
  | _, _, _, .ty n, e => by simp [toPy] at e
  | _, _, _, .fn n, e => by simp [toPy] at e
  | _, _, _, .ob n, e => by simp [toPy] at e
  | _, _, _, .dK h m r, e => by simp [toPy] at e
  | _, _, _, .dT h m r, e => by simp [toPy] at e
  | _, _, _, .ins h m r, e => by simp [toPy] at e
  | _, _, _, .key h m, e => by simp [toPy] at e
  | _, _, _, .fig h hd m md, e => by simp [toPy] at e
  | _, _, _, .exc h hd m md r, e => by simp [toPy] at e
  | _, _, _, .lam h hc m mc, e => by simp [toPy] at e
  | _, _, _, .fdK h m r, e => by simp [toPy] at e
  | _, _, _, .slo h hd m md r, e => by simp [toPy] at e
  | _, _, _, .lst h m r, e => by
    obtain ⟨ps, e1, rfl⟩ := Option.map_eq_some_iff.mp (by simpa only [toPy] using e)
    exact .lst (.inl (.inl h)) (Reps.dp r e1)
  | _, _, _, .rol h m r, e => by
    obtain ⟨ps, e1, rfl⟩ := Option.map_eq_some_iff.mp (by simpa only [toPy] using e)
    exact .lst (.inl h) (Reps.dp r e1)
  | _, _, _, .rolK h r, e => by
    obtain ⟨ps, e1, rfl⟩ := Option.map_eq_some_iff.mp (by simpa only [toPy] using e)
    exact .lst (.inr h) (Reps.dp r e1)
  | _, _, _, .tup h m r, e => by
    obtain ⟨ps, e1, rfl⟩ := Option.map_eq_some_iff.mp (by simpa only [toPy] using e)
    exact .tup (.inl h) (Reps.dp r e1)
  | _, _, _, .tupK h r, e => by
    obtain ⟨ps, e1, rfl⟩ := Option.map_eq_some_iff.mp (by simpa only [toPy] using e)
    exact .tup (.inr h) (Reps.dp r e1)
theorem Reps.dp {M : Mp} {Z : Zn} {H : Hp} : ∀ {vs : List V} {ds : List D} {ps : List PyData}, Reps K M Z H vs ds → toPys ds = some ps → DpAll K H vs ps
  | _, _, _, .nil, e => by cases (show some [] = some _ from (by simpa only [toPys] using e)); exact .nil
  | _, _, _, .cons r t, e => by
    simp only [toPys] at e
    obtain ⟨p, e1, e2⟩ := Option.bind_eq_some_iff.mp e
    obtain ⟨qs, e3, rfl⟩ := Option.map_eq_some_iff.mp e2
    exact .cons (Rep.dp r e1) (Reps.dp t e3)
end
theorem rd_eqD {x y : D} (h : ∃ p q, toPy x = some p ∧ toPy y = some q ∧ SeqAt.shaped p = true ∧ SeqAt.shaped q = true ∧ Φ (.bl (PyData.eqv p q)) M) : RD K (rEqD K) x y M Φ := fun Z v u H Q w r1 r2 k => by
  obtain ⟨p, q, e1, e2, s1, s2, h⟩ := h
  exact ⟨p, q, r1.dp e1, r2.dp e2, s1, s2, k.now w (.bl _) h⟩
theorem rd_neD {x y : D} (h : ∃ p q, toPy x = some p ∧ toPy y = some q ∧ SeqAt.shaped p = true ∧ SeqAt.shaped q = true ∧ Φ (.bl (!PyData.eqv p q)) M) : RD K (rNeD K) x y M Φ := fun Z v u H Q w r1 r2 k => by
  obtain ⟨p, q, e1, e2, s1, s2, h⟩ := h
  exact ⟨p, q, r1.dp e1, r2.dp e2, s1, s2, k.now w (.bl _) h⟩
theorem wt_eqD (hu : X.A.units + 64 < cLine) (h : WE X ρ M a fun x M1 => WE X ρ M1 b fun y M2 => ∃ p q, toPy x = some p ∧ toPy y = some q ∧ SeqAt.shaped p = true ∧ SeqAt.shaped q = true ∧ Θ (PyData.eqv p q) M2) : WT X ρ M (.Compare a [.Eq] [b] pos) Θ := wt_cmp (op_eqD hu) (nomark _) (h.imp fun _ _ h => h.imp fun _ _ ⟨p, q, e1, e2, s1, s2, h⟩ => rd_eqD ⟨p, q, e1, e2, s1, s2, _, rfl, h⟩)
theorem wt_neD (hu : X.A.units + 64 < cLine) (h : WE X ρ M a fun x M1 => WE X ρ M1 b fun y M2 => ∃ p q, toPy x = some p ∧ toPy y = some q ∧ SeqAt.shaped p = true ∧ SeqAt.shaped q = true ∧ Θ (!PyData.eqv p q) M2) : WT X ρ M (.Compare a [.NotEq] [b] pos) Θ := wt_cmp (op_neD hu) (nomark _) (h.imp fun _ _ h => h.imp fun _ _ ⟨p, q, e1, e2, s1, s2, h⟩ => rd_neD ⟨p, q, e1, e2, s1, s2, _, rfl, h⟩)
def isNon : D → Bool
  | .non => true
  | _ => false
theorem Rep.isNon {M : Mp} {Z : Zn} {H : Hp} {v : V} {d : D} (r : Rep K M Z H v d) : decide (v = .non) = DL.isNon d := by
  cases r <;> first | rfl | simp [DL.isNon]
theorem we_isN {j : Nat} {p' : Pos} (h : WE X ρ M a fun x M1 => Φ (.bl (isNon x)) M1) : WE X ρ M (.Compare a [.Is] [.Constant .none j p'] pos) Φ := .mk fun σ H Q en w k =>
  eOf (pe_cmp (pc_isN pe_sem)) (h.run σ H _ en w fun v d H1 M1 e1 w1 r1 hz => by
    show Q (.bl (decide (v = .non))) H1
    rw [r1.isNon]
    exact (k.step e1).now w1 (.bl _) hz)
theorem we_notN {j : Nat} {p' : Pos} (h : WE X ρ M a fun x M1 => Φ (.bl (!isNon x)) M1) : WE X ρ M (.Compare a [.IsNot] [.Constant .none j p'] pos) Φ := .mk fun σ H Q en w k =>
  eOf (pe_cmp (pc_notN pe_sem)) (h.run σ H _ en w fun v d H1 M1 e1 w1 r1 hz => by
    show Q (.bl (!decide (v = .non))) H1
    rw [r1.isNon]
    exact (k.step e1).now w1 (.bl _) hz)
theorem wt_isN {j : Nat} {p' : Pos} (h : WE X ρ M a fun x M1 => Θ (isNon x) M1) : WT X ρ M (.Compare a [.Is] [.Constant .none j p'] pos) Θ := .mk fun σ H Q en w k =>
  tOf (pt_cmp (pc_isN pe_sem)) (h.run σ H _ en w fun v d H1 M1 e1 w1 r1 hz => by
    show ∃ c, V.bl (decide (v = .non)) = .bl c ∧ Q c H1
    rw [r1.isNon]
    exact ⟨_, rfl, (k.step e1).now w1 hz⟩)
theorem wt_notN {j : Nat} {p' : Pos} (h : WE X ρ M a fun x M1 => Θ (!isNon x) M1) : WT X ρ M (.Compare a [.IsNot] [.Constant .none j p'] pos) Θ := .mk fun σ H Q en w k =>
  tOf (pt_cmp (pc_notN pe_sem)) (h.run σ H _ en w fun v d H1 M1 e1 w1 r1 hz => by
    show ∃ c, V.bl (!decide (v = .non)) = .bl c ∧ Q c H1
    rw [r1.isNon]
    exact ⟨_, rfl, (k.step e1).now w1 hz⟩)
theorem wt_chainI {c : Expr} (h : WE X ρ M a fun x M1 => WE X ρ M1 b fun y M2 => ∃ i j, x = .int i ∧ y = .int j ∧ if decide (i ≤ j) = true then WE X ρ M2 c fun z M3 => ∃ l, z = .int l ∧ Θ (decide (j ≤ l)) M3 else Θ false M2) (hm : lastMarks [.LtE, .LtE] [b, c] = false := by rfl) : WT X ρ M (.Compare a [.LtE, .LtE] [b, c] pos) Θ := .mk fun σ H Q en w k =>
  tOf (pt_chain op_le op_le pe_sem pe_sem pe_sem (hm := hm)) (bind2 h en w fun v u x y H2 M2 e2 w2 r1 r2 hz => by
    obtain ⟨i, j, rfl, rfl, hz⟩ := hz
    cases r1; cases r2
    refine ⟨i, j, rfl, rfl, _, rfl, ?_⟩
    cases hd : decide (i ≤ j) with
    | false =>
      rw [hd] at hz
      exact ⟨_, rfl, (k.step e2).now w2 hz⟩
    | true =>
      rw [hd] at hz
      exact hz.run σ H2 _ (en.mono e2) w2 fun v3 z H3 M3 e3 w3 r3 hy => by
        obtain ⟨l, rfl, hy⟩ := hy
        cases r3
        exact ⟨j, l, rfl, rfl, _, rfl, (k.step (e2.trans e3)).now w3 hy⟩)
theorem we_addS (h : WE X ρ M a fun x M1 => WE X ρ M1 b fun y M2 => ∃ i j, x = .str i ∧ y = .str j ∧ i.length + j.length ≤ sizeLine ∧ Φ (.str (i ++ j)) M2) : WE X ρ M (.BinOp a .Add b pos) Φ := we_op op_add_str (h.imp fun _ _ h => h.imp fun _ _ h Z v u H Q w r1 r2 k => by
  obtain ⟨i, j, rfl, rfl, hz, h⟩ := h
  cases r1; cases r2
  exact ⟨i, j, rfl, rfl, hz, k.now w (.str _) h⟩)
theorem we_inC (h : WE X ρ M a fun x M1 => WE X ρ M1 b fun y M2 => ∃ c z, x = .str ⟨#[c]⟩ ∧ y = .str z ∧ Φ (.bl (decide (c ∈ z.cps.toList))) M2) (hm : behindInMarks .In b = false := by rfl) : WE X ρ M (.Compare a [.In] [b] pos) Φ := we_cmp op_in_sign hm (h.imp fun _ _ h => h.imp fun _ _ h Z v u H Q w r1 r2 k => by
  obtain ⟨i, j, rfl, rfl, h⟩ := h
  cases r1; cases r2
  exact ⟨i, j, rfl, rfl, k.now w (.bl _) h⟩)
theorem we_addL (h : WE X ρ M a fun x M1 => WE X ρ M1 b fun y M2 => ∃ xs ys, x = .lst xs ∧ y = .lst ys ∧ xs.length + ys.length ≤ sizeLine ∧ Φ (.lst (xs ++ ys)) M2) : WE X ρ M (.BinOp a .Add b pos) Φ := we_op op_cat (h.imp fun _ _ h => h.imp fun _ _ h Z v u H Q w r1 r2 k => by
  obtain ⟨xs, ys, rfl, rfl, hz, h⟩ := h
  cases r1 with
  | lst h1 m1 r1 =>
    cases r2 with
    | lst h2 m2 r2 =>
      exact ⟨_, _, _, _, rfl, rfl, h1, h2, by rw [r1.length, r2.length]; exact hz, fun p hp => k.new w hp (.lst upd_same (w.fresh hp) ((r1.append r2).mono (Ext.new w hp))) h⟩)
theorem we_addT (h : WE X ρ M a fun x M1 => WE X ρ M1 b fun y M2 => ∃ xs ys, x = .tup xs ∧ y = .tup ys ∧ xs.length + ys.length ≤ sizeLine ∧ Φ (.tup (xs ++ ys)) M2) : WE X ρ M (.BinOp a .Add b pos) Φ := we_op op_catA (h.imp fun _ _ h => h.imp fun _ _ h Z v u H Q w r1 r2 k => by
  obtain ⟨xs, ys, rfl, rfl, hz, h⟩ := h
  obtain ⟨p, vs, rfl, hq, rs⟩ := r1.asTup
  obtain ⟨p2, vs2, rfl, hq2, rs2⟩ := r2.asTup
  refine ⟨p, p2, vs, vs2, rfl, rfl, hq, hq2, by rw [rs.length, rs2.length]; exact hz, fun e => ?_, fun _ e => ?_, fun _ _ q hp => ?_⟩
  · subst e; cases rs; exact k.now w r2 h
  · subst e; cases rs2; rw [List.append_nil] at h; exact k.now w r1 h
  · exact k.new w hp (.tup (.inl upd_same) (w.fresh hp) ((rs.append rs2).mono (Ext.new w hp))) h)
/-- what a subscript reads -/
def IxD (M : Mp) (d : D) (i : Int) (y : D) : Prop := (∃ ds, LstOf M d ds ∧ atI ds i = some y) ∨ (∃ ds, d = .tup ds ∧ atI ds i = some y) ∨ ∃ z c, d = .str z ∧ z.length ≤ sizeLine ∧ atI z.cps.toList i = some c ∧ y = .str ⟨#[c]⟩
theorem Reps.atI {M : Mp} {Z : Zn} {H : Hp} {vs : List V} {ds : List D} {i : Int} {d : D} (r : Reps K M Z H vs ds) (h : L2.atI ds i = some d) : ∃ v, L2.atI vs i = some v ∧ Rep K M Z H v d := by
  unfold L2.atI at h ⊢
  rw [r.length]
  cases e : ixN ds.length i with
  | none => rw [e] at h; cases h
  | some j =>
    rw [e] at h
    exact r.get h
theorem we_ix (h : WE X ρ M a fun x M1 => WE X ρ M1 b fun y M2 => ∃ i d, y = .int i ∧ IxD M2 x i d ∧ Φ d M2) (hs : PlainIx b := by exact fun _ _ => rfl) : WE X ρ M (.Subscript a b pos) Φ := .mk fun σ H Q en w k =>
  eOf (pe_ix ix_seq pe_sem pe_sem hs) (bind2 h en w fun v u x y H2 M2 e2 w2 r1 r2 hz => by
    obtain ⟨i, d, rfl, hi, hz⟩ := hz
    cases r2
    rcases hi with ⟨ds, hl, ha⟩ | ⟨ds, rfl, ha⟩ | ⟨z, c, rfl, hl, ha, rfl⟩
    · obtain ⟨p, vs, rfl, hq, rs⟩ := r1.asLst w2 hl
      obtain ⟨v, hv, rv⟩ := rs.atI ha
      exact .inl ⟨p, vs, i, v, rfl, rfl, hq, hv, (k.step e2).now w2 rv hz⟩
    · obtain ⟨p, vs, rfl, hq, rs⟩ := r1.asTup
      obtain ⟨v, hv, rv⟩ := rs.atI ha
      exact .inr (.inl ⟨p, vs, i, v, rfl, rfl, hq, hv, (k.step e2).now w2 rv hz⟩)
    · cases r1
      exact .inr (.inr ⟨z, i, c, rfl, rfl, hl, ha, (k.step e2).now w2 (.str _) hz⟩))
theorem ixT {M : Mp} {ds : List D} {i : Int} {y : D} (h : atI ds i = some y) : IxD M (.tup ds) i y := .inr (.inl ⟨ds, rfl, h⟩)
theorem ixL {M : Mp} {ds : List D} {i : Int} {y : D} (h : atI ds i = some y) : IxD M (.lst ds) i y := .inl ⟨ds, rfl, h⟩
theorem ixR {M : Mp} {ds : List D} {i : Int} {y : D} (h : atI ds i = some y) : IxD M (.rol ds) i y := .inl ⟨ds, rfl, h⟩
theorem ixO {M : Mp} {p : Addr} {ds : List D} {i : Int} {y : D} (hp : M p = some (.lst ds)) (h : atI ds i = some y) : IxD M (.ob p) i y := .inl ⟨ds, hp, h⟩
def WO (X : Cx) (ρ : Rho) (M : Mp) (e : Option Expr) (Φ : Option Int → Mp → Prop) : Prop := match e with
  | none => Φ none M
  | some e => WE X ρ M e fun d M1 => ∃ i, d = .int i ∧ Φ (some i) M1
def oSem (X : Cx) : Option Expr → TO
  | none => tNoPart
  | some e => tPart (eSem X e)
theorem po_sem {o : Option Expr} : PO X o (oSem X o) := by
  cases o with
  | none => exact po_none
  | some e => exact po_some pe_sem
theorem wo_run {o : Option Expr} {ΦO : Option Int → Mp → Prop} (h : WO X ρ M o ΦO) {Z : Zn} {σ : L2.St} {H : Hp} {Q : Option Int → Hp → Prop} (en : EnvR X.K M Z H σ ρ) (w : Wd X.K M Z H) (k : ∀ i H' M', Ext M Z H M' H' → Wd X.K M' Z H' → ΦO i M' → Q i H') : oSem X o σ H Q := by
  cases o with
  | none => exact k none H M Ext.refl w h
  | some e =>
    refine (show WE X ρ M e (fun d M1 => ∃ i, d = .int i ∧ ΦO (some i) M1) from h).run σ H _ en w fun v d H1 M1 e1 w1 r1 hz => ?_
    obtain ⟨i, rfl, hz⟩ := hz
    cases r1
    exact ⟨i, rfl, k _ H1 M1 e1 w1 hz⟩
/-- what a slice is -/
def SlD (M : Mp) (d : D) (lo hi : Option Int) (y : D) : Prop := (∃ ds, LstOf M d ds ∧ y = .lst (cutD ds lo hi)) ∨ (∃ ds, d = .tup ds ∧ y = .tup (cutD ds lo hi)) ∨ ∃ z, d = .str z ∧ z.length ≤ sizeLine ∧ y = .str (cutS z lo hi)
theorem cutD_all {α : Type} {xs : List α} {lo hi : Option Int} (h : HT.sIx xs.length 0 lo = 0 ∧ HT.sIx xs.length xs.length hi = xs.length) : cutD xs lo hi = xs := by
  unfold cutD; rw [h.1, h.2]; simp
theorem we_slice {lo hi : Option Expr} {p2 : Pos} (h : WE X ρ M a fun x M1 => WO X ρ M1 lo fun l M2 => WO X ρ M2 hi fun u M3 => ∃ d, SlD M3 x l u d ∧ Φ d M3) : WE X ρ M (.Subscript a (.Slice lo hi none p2) pos) Φ := .mk fun σ H Q en w k =>
  eOf (pe_slice (sl_list.or (sl_tupA.or sl_str)) pe_sem po_sem po_sem) (h.run σ H _ en w fun v x H1 M1 e1 w1 r1 hz => wo_run hz (en.mono e1) w1 fun l H2 M2 e2 w2 hz => wo_run hz (en.mono (e1.trans e2)) w2 fun u H3 M3 e3 w3 hz => by
    obtain ⟨d, hd, hz⟩ := hz
    have r3 := r1.mono (e2.trans e3)
    have k3 := k.step ((e1.trans e2).trans e3)
    rcases hd with ⟨ds, hl, rfl⟩ | ⟨ds, rfl, rfl⟩ | ⟨z, rfl, hl, rfl⟩
    · obtain ⟨p, vs, rfl, hq, rs⟩ := r3.asLst w3 hl
      exact .inl ⟨p, vs, rfl, hq, fun q hp => k3.new w3 hp (.lst upd_same (w3.fresh hp) ((rs.cut l u).mono (Ext.new w3 hp))) hz⟩
    · obtain ⟨p, vs, rfl, hq, rs⟩ := r3.asTup
      refine .inr (.inl ⟨p, vs, rfl, hq, fun hw => ?_, fun hw q hp => ?_⟩)
      · rw [rs.length] at hw
        rw [cutD_all hw] at hz
        exact k3.now w3 r3 hz
      · exact k3.new w3 hp (.tup (.inl upd_same) (w3.fresh hp) ((rs.cut l u).mono (Ext.new w3 hp))) hz
    · cases r3
      exact .inr (.inr ⟨z, rfl, hl, k3.now w3 (.str _) hz⟩))
end
end DL
namespace DL
open PySem PySem.Spec PyProof.Rows L2
section
variable {K : PySem.W.Frag} {M : Mp} {Z : Zn} {H : Hp}
theorem Reps.two {vs : List V} {d e : D} (r : Reps K M Z H vs [d, e]) : ∃ v u, vs = [v, u] ∧ Rep K M Z H v d ∧ Rep K M Z H u e := by
  cases r with
  | cons r t =>
    obtain ⟨u, rfl, r2⟩ := t.one
    exact ⟨_, u, rfl, r, r2⟩
theorem Reps.three {vs : List V} {d e f : D} (r : Reps K M Z H vs [d, e, f]) : ∃ v u x, vs = [v, u, x] ∧ Rep K M Z H v d ∧ Rep K M Z H u e ∧ Rep K M Z H x f := by
  cases r with
  | cons r t =>
    obtain ⟨u, x, rfl, r2, r3⟩ := t.two
    exact ⟨_, u, x, rfl, r, r2, r3⟩
end
section
variable {X : Cx} {ρ : Rho} {M : Mp} {Φ : D → Mp → Prop} {Θ : Bool → Mp → Prop} {a b e o : Expr} {es : List Expr} {pos p apos : Pos} {x : Str}
theorem we_callB {id : String} {r : List V → Hp → VK → Prop} (hc : CallR X (.builtin id) r) (hm : X.mg x = none) (hv : bootBuiltins x = some (.builtin id)) (h : WA X ρ M (e :: es) fun ds M1 => RC X.K r ds M1 Φ) (hg : Gl X x := by rfl) (hn : x ≠ "__name__" := by decide) (hdb : (x == ("__debug__" : Str)) = false := by decide)
    (he : starEach (e :: es) X.env = (false, eval e X.env) :: starEach es X.env := by rfl) (hpl : (backTo pos (starEach es X.env)).any (·.1) = false := by rfl) : WE X ρ M (.Call (.Name x p) (e :: es) [] pos) Φ := .mk fun σ H Q en w k =>
  eOf (pe_callB hc hg hm hv pa_sem hn hdb he hpl) (h.run σ H _ en w fun vs ds H1 M1 e1 w1 r1 hz => hz _ vs H1 Q w1 r1 (k.step e1))
theorem we_callTy {T : String} {r : List V → Hp → VK → Prop} (hc : CallR X (.type T) r) (hm : X.mg x = none) (hv : bootBuiltins x = some (.type T)) (h : WA X ρ M (e :: es) fun ds M1 => RC X.K r ds M1 Φ) (hg : Gl X x := by rfl) (hn : x ≠ "__name__" := by decide) (hdb : (x == ("__debug__" : Str)) = false := by decide)
    (he : starEach (e :: es) X.env = (false, eval e X.env) :: starEach es X.env := by rfl) (hpl : (backTo pos (starEach es X.env)).any (·.1) = false := by rfl) : WE X ρ M (.Call (.Name x p) (e :: es) [] pos) Φ := .mk fun σ H Q en w k =>
  eOf (pe_callTy hc hg hm hv pa_sem hn hdb he hpl) (h.run σ H _ en w fun vs ds H1 M1 e1 w1 r1 hz => hz _ vs H1 Q w1 r1 (k.step e1))
/-- how many -/
def LenD (M : Mp) (d : D) (n : Nat) : Prop := (∃ ds, LstOf M d ds ∧ n = ds.length) ∨ (∃ ds, d = .tup ds ∧ n = ds.length) ∨ ∃ z, d = .str z ∧ z.length ≤ sizeLine ∧ n = z.length
theorem we_len (hm : X.mg "len" = none) (h : WE X ρ M e fun d M1 => ∃ n : Nat, LenD M1 d n ∧ Φ (.int n) M1) (hg : Gl X "len" := by rfl)
    (he : starEach [e] X.env = (false, eval e X.env) :: starEach [] X.env := by rfl) (hpl : (backTo pos (starEach [] X.env)).any (·.1) = false := by rfl) : WE X ρ M (.Call (.Name "len" p) [e] [] pos) Φ :=
  we_callB call_len hm boot_len (wa_cons (h.imp fun d M1 h => wa_nil fun Z vs H Q w rr k => by
    obtain ⟨n, hn, h⟩ := h
    obtain ⟨v, rfl, r⟩ := rr.one
    refine ⟨v, n, rfl, ?_, k.now w (.int _) h⟩
    rcases hn with ⟨ds, hl, rfl⟩ | ⟨ds, rfl, rfl⟩ | ⟨z, rfl, hz, rfl⟩
    · obtain ⟨p, vs, rfl, hq, rs⟩ := r.asLst w hl
      exact .inl ⟨vs, hq, rs.length.symm⟩
    · obtain ⟨p, vs, rfl, hq, rs⟩ := r.asTup
      exact .inr ⟨vs, hq, rs.length.symm⟩
    · cases r
      exact ⟨hz, rfl⟩) he) hg (he := he) (hpl := hpl)
theorem lenL {M : Mp} {ds : List D} : LenD M (.lst ds) ds.length := .inl ⟨ds, rfl, rfl⟩
theorem lenR {M : Mp} {ds : List D} : LenD M (.rol ds) ds.length := .inl ⟨ds, rfl, rfl⟩
theorem lenT {M : Mp} {ds : List D} : LenD M (.tup ds) ds.length := .inr (.inl ⟨ds, rfl, rfl⟩)
theorem lenS {M : Mp} {z : Str} (h : z.length ≤ sizeLine) : LenD M (.str z) z.length := .inr (.inr ⟨z, rfl, h, rfl⟩)
theorem lenO {M : Mp} {p : Addr} {ds : List D} (h : M p = some (.lst ds)) : LenD M (.ob p) ds.length := .inl ⟨ds, h, rfl⟩
theorem we_abs (hm : X.mg "abs" = none) (h : WE X ρ M e fun d M1 => ∃ i, d = .int i ∧ Φ (.int (if i < 0 then -i else i)) M1) (hg : Gl X "abs" := by rfl)
    (he : starEach [e] X.env = (false, eval e X.env) :: starEach [] X.env := by rfl) (hpl : (backTo pos (starEach [] X.env)).any (·.1) = false := by rfl) : WE X ρ M (.Call (.Name "abs" p) [e] [] pos) Φ :=
  we_callB call_abs hm (by decide +kernel) (wa_cons (h.imp fun d M1 h => wa_nil fun Z vs H Q w rr k => by
    obtain ⟨i, rfl, h⟩ := h
    obtain ⟨v, rfl, r⟩ := rr.one
    cases r
    exact ⟨i, rfl, k.now w (.int _) h⟩) he) hg (he := he) (hpl := hpl)
/-- int(x) of an int, a bool -/
theorem we_intN (hm : X.mg "int" = none) (h : WE X ρ M e fun d M1 => (∃ i, d = .int i ∧ Φ (.int i) M1) ∨ ∃ c, d = .bl c ∧ Φ (.int (if c then 1 else 0)) M1) (hg : Gl X "int" := by rfl)
    (he : starEach [e] X.env = (false, eval e X.env) :: starEach [] X.env := by rfl) (hpl : (backTo pos (starEach [] X.env)).any (·.1) = false := by rfl) : WE X ρ M (.Call (.Name "int" p) [e] [] pos) Φ :=
  we_callTy call_int1 hm (by decide +kernel) (wa_cons (h.imp fun d M1 h => wa_nil fun Z vs H Q w rr k => by
    obtain ⟨v, rfl, r⟩ := rr.one
    rcases h with ⟨i, rfl, h⟩ | ⟨i, rfl, h⟩
    · cases r; exact .inl ⟨i, rfl, k.now w (.int _) h⟩
    · cases r; exact .inr ⟨i, rfl, k.now w (.int _) h⟩) he) hg (he := he) (hpl := hpl)
/-- int(text) -/
theorem we_intS (hm : X.mg "int" = none) (h : WE X ρ M e fun d M1 => ∃ z n, d = .str z ∧ PySem.intText? z = some n ∧ z.length ≤ 640 ∧ Φ (.int n) M1) (hg : Gl X "int" := by rfl)
    (he : starEach [e] X.env = (false, eval e X.env) :: starEach [] X.env := by rfl) (hpl : (backTo pos (starEach [] X.env)).any (·.1) = false := by rfl) : WE X ρ M (.Call (.Name "int" p) [e] [] pos) Φ :=
  we_callTy call_int_str hm (by decide +kernel) (wa_cons (h.imp fun d M1 h => wa_nil fun Z vs H Q w rr k => by
    obtain ⟨v, rfl, r⟩ := rr.one
    obtain ⟨z, n, rfl, h1, h2, h⟩ := h
    cases r
    exact ⟨z, n, rfl, h1, h2, k.now w (.int _) h⟩) he) hg (he := he) (hpl := hpl)
/-- str(int) -/
theorem we_strI (hm : X.mg "str" = none) (h : WE X ρ M e fun d M1 => ∃ i : Int, d = .int i ∧ i.natAbs.log2 < 1920 ∧ Φ (.str (toString i)) M1) (hg : Gl X "str" := by rfl)
    (he : starEach [e] X.env = (false, eval e X.env) :: starEach [] X.env := by rfl) (hpl : (backTo pos (starEach [] X.env)).any (·.1) = false := by rfl) : WE X ρ M (.Call (.Name "str" p) [e] [] pos) Φ :=
  we_callTy call_str_int hm (by decide +kernel) (wa_cons (h.imp fun d M1 h => wa_nil fun Z vs H Q w rr k => by
    obtain ⟨v, rfl, r⟩ := rr.one
    obtain ⟨i, rfl, h2, h⟩ := h
    cases r
    exact ⟨i, rfl, h2, k.now w (.str _) h⟩) he) hg (he := he) (hpl := hpl)
theorem we_max2 (hm : X.mg "max" = none) (h : WE X ρ M a fun x M1 => WE X ρ M1 b fun y M2 => ∃ i j, x = .int i ∧ y = .int j ∧ Φ (.int (if j > i then j else i)) M2) (hc : X.calm = true := by rfl) (hg : Gl X "max" := by rfl)
    (ha : starEach [a, b] X.env = (false, eval a X.env) :: starEach [b] X.env := by rfl) (hb : starEach [b] X.env = (false, eval b X.env) :: starEach [] X.env := by rfl) (hpl : (backTo pos (starEach [b] X.env)).any (·.1) = false := by rfl) : WE X ρ M (.Call (.Name "max" p) [a, b] [] pos) Φ :=
  we_callB (call_max2 hc) hm (by decide +kernel) (wa_cons (h.imp fun x M1 h => wa_cons (h.imp fun y M2 h => wa_nil fun Z vs H Q w rr k => by
    obtain ⟨v, u, rfl, r1, r2⟩ := rr.two
    obtain ⟨i, j, rfl, rfl, h⟩ := h
    cases r1; cases r2
    exact ⟨i, j, rfl, k.now w (.int _) h⟩) hb) ha) hg (he := ha) (hpl := hpl)
theorem we_min2 (hm : X.mg "min" = none) (h : WE X ρ M a fun x M1 => WE X ρ M1 b fun y M2 => ∃ i j, x = .int i ∧ y = .int j ∧ Φ (.int (if j < i then j else i)) M2) (hc : X.calm = true := by rfl) (hg : Gl X "min" := by rfl)
    (ha : starEach [a, b] X.env = (false, eval a X.env) :: starEach [b] X.env := by rfl) (hb : starEach [b] X.env = (false, eval b X.env) :: starEach [] X.env := by rfl) (hpl : (backTo pos (starEach [b] X.env)).any (·.1) = false := by rfl) : WE X ρ M (.Call (.Name "min" p) [a, b] [] pos) Φ :=
  we_callB (call_min2 hc) hm (by decide +kernel) (wa_cons (h.imp fun x M1 h => wa_cons (h.imp fun y M2 h => wa_nil fun Z vs H Q w rr k => by
    obtain ⟨v, u, rfl, r1, r2⟩ := rr.two
    obtain ⟨i, j, rfl, rfl, h⟩ := h
    cases r1; cases r2
    exact ⟨i, j, rfl, k.now w (.int _) h⟩) hb) ha) hg (he := ha) (hpl := hpl)
/-- sum, all, any -/
theorem we_sum (hm : X.mg "sum" = none) (h : WE X ρ M e fun d M1 => ∃ ns : List Int, LstOf M1 d (ns.map D.int) ∧ Φ (.int ns.sum) M1) (hc : X.calm = true := by rfl) (hg : Gl X "sum" := by rfl)
    (he : starEach [e] X.env = (false, eval e X.env) :: starEach [] X.env := by rfl) (hpl : (backTo pos (starEach [] X.env)).any (·.1) = false := by rfl) : WE X ρ M (.Call (.Name "sum" p) [e] [] pos) Φ :=
  we_callB (cr_sum hc) hm (by decide +kernel) (wa_cons (h.imp fun d M1 h => wa_nil fun Z vs H Q w rr k => by
    obtain ⟨v, rfl, r⟩ := rr.one
    obtain ⟨ns, hl, h⟩ := h
    obtain ⟨q, vs, rfl, hq, rs⟩ := r.asLst w hl
    rw [rs.ints] at hq
    exact ⟨q, ns, rfl, hq, k.now w (.int _) h⟩) he) hg (he := he) (hpl := hpl)
theorem we_all (hm : X.mg "all" = none) (h : WE X ρ M e fun d M1 => ∃ bs : List Bool, LstOf M1 d (bs.map D.bl) ∧ Φ (.bl (bs.all id)) M1) (hc : X.calm = true := by rfl) (hg : Gl X "all" := by rfl)
    (he : starEach [e] X.env = (false, eval e X.env) :: starEach [] X.env := by rfl) (hpl : (backTo pos (starEach [] X.env)).any (·.1) = false := by rfl) : WE X ρ M (.Call (.Name "all" p) [e] [] pos) Φ :=
  we_callB (cr_all hc) hm (by decide +kernel) (wa_cons (h.imp fun d M1 h => wa_nil fun Z vs H Q w rr k => by
    obtain ⟨v, rfl, r⟩ := rr.one
    obtain ⟨ns, hl, h⟩ := h
    obtain ⟨q, vs, rfl, hq, rs⟩ := r.asLst w hl
    rw [rs.bls] at hq
    exact ⟨q, ns, rfl, hq, k.now w (.bl _) h⟩) he) hg (he := he) (hpl := hpl)
/-- tuple(xs), list(xs) -/
theorem we_tupleOf (hm : X.mg "tuple" = none) (h : WE X ρ M e fun d M1 => ∃ ds, (LstOf M1 d ds ∨ d = .tup ds) ∧ Φ (.tup ds) M1) (hg : Gl X "tuple" := by rfl)
    (he : starEach [e] X.env = (false, eval e X.env) :: starEach [] X.env := by rfl) (hpl : (backTo pos (starEach [] X.env)).any (·.1) = false := by rfl) : WE X ρ M (.Call (.Name "tuple" p) [e] [] pos) Φ :=
  we_callTy call_tuple_of hm (by decide +kernel) (wa_cons (h.imp fun d M1 h => wa_nil fun Z vs H Q w rr k => by
    obtain ⟨v, rfl, r⟩ := rr.one
    obtain ⟨ds, hl | rfl, h⟩ := h
    · obtain ⟨q, vs, rfl, hq, rs⟩ := r.asLst w hl
      exact ⟨q, vs, rfl, .inl ⟨hq, fun l hp => k.new w hp (.tup (.inl upd_same) (w.fresh hp) (rs.mono (Ext.new w hp))) h⟩⟩
    · obtain ⟨q, vs, rfl, hq, rs⟩ := r.asTup
      exact ⟨q, vs, rfl, .inr ⟨hq, k.now w r h⟩⟩) he) hg (he := he) (hpl := hpl)
theorem we_listOf (hm : X.mg "list" = none) (h : WE X ρ M e fun d M1 => ∃ ds, (LstOf M1 d ds ∨ d = .tup ds) ∧ Φ (.lst ds) M1) (hg : Gl X "list" := by rfl)
    (he : starEach [e] X.env = (false, eval e X.env) :: starEach [] X.env := by rfl) (hpl : (backTo pos (starEach [] X.env)).any (·.1) = false := by rfl) : WE X ρ M (.Call (.Name "list" p) [e] [] pos) Φ :=
  we_callTy call_list_of hm (by decide +kernel) (wa_cons (h.imp fun d M1 h => wa_nil fun Z vs H Q w rr k => by
    obtain ⟨v, rfl, r⟩ := rr.one
    obtain ⟨ds, hl | rfl, h⟩ := h
    · obtain ⟨q, vs, rfl, hq, rs⟩ := r.asLst w hl
      exact ⟨q, vs, rfl, .inl hq, fun l hp => k.new w hp (.lst upd_same (w.fresh hp) (rs.mono (Ext.new w hp))) h⟩
    · obtain ⟨q, vs, rfl, hq, rs⟩ := r.asTup
      exact ⟨q, vs, rfl, .inr hq, fun l hp => k.new w hp (.lst upd_same (w.fresh hp) (rs.mono (Ext.new w hp))) h⟩) he) hg (he := he) (hpl := hpl)
/-- a list that will be changed -/
theorem we_listOfM (hm : X.mg "list" = none) (h : WE X ρ M e fun d M1 => ∃ ds, (LstOf M1 d ds ∨ d = .tup ds) ∧ ∀ q, M1 q = none → Φ (.ob q) (mset M1 q (.lst ds))) (hg : Gl X "list" := by rfl)
    (he : starEach [e] X.env = (false, eval e X.env) :: starEach [] X.env := by rfl) (hpl : (backTo pos (starEach [] X.env)).any (·.1) = false := by rfl) : WE X ρ M (.Call (.Name "list" p) [e] [] pos) Φ :=
  we_callTy call_list_of hm (by decide +kernel) (wa_cons (h.imp fun d M1 h => wa_nil fun Z vs H Q w rr k => by
    obtain ⟨v, rfl, r⟩ := rr.one
    obtain ⟨ds, hl, h⟩ := h
    obtain ⟨q, vs, rfl, hq, rs⟩ : ∃ q vs, v = .ref q ∧ (SqL X.K H q vs ∨ SqT X.K H q vs) ∧ Reps X.K M1 Z H vs ds := by
      rcases hl with hl | rfl
      · obtain ⟨q, vs, e, hq, rs⟩ := r.asLst w hl; exact ⟨q, vs, e, .inl hq, rs⟩
      · obtain ⟨q, vs, e, hq, rs⟩ := r.asTup; exact ⟨q, vs, e, .inr hq, rs⟩
    exact ⟨q, vs, rfl, hq, fun l hp => k _ (.ob l) _ (mset M1 l (.lst ds)) (Ext.newM w hp) (w.newM hp ⟨vs, upd_same, rs.mono (Ext.newM w hp)⟩) (.ob l) (h l (w.fresh hp).1)⟩) he) hg (he := he) (hpl := hpl)
/-- list(range(n)) -/
theorem we_listRg1 {p2 pos2 : Pos} (hm : X.mg "list" = none) (hm2 : X.mg "range" = none) (h : WE X ρ M e fun d M1 => ∃ n : Int, d = .int n ∧ RgOk 0 n ∧ Φ (.lst (rngD 0 n.toNat)) M1) (hc : X.calm = true := by rfl) (hg : Gl X "list" := by rfl) (hg2 : Gl X "range" := by rfl)
    (na : starEach [e] X.env = (false, eval e X.env) :: starEach [] X.env := by rfl) (nb : starEach [.Call (.Name "range" p2) [e] [] pos2] X.env = (false, eval (.Call (.Name "range" p2) [e] [] pos2) X.env) :: starEach [] X.env := by rfl) : WE X ρ M (.Call (.Name "list" p) [.Call (.Name "range" p2) [e] [] pos2] [] pos) Φ := .mk fun σ H Q en w k =>
  eOf (pe_listRg hc hg hm (prg_1 hg2 hm2 pe_sem na) nb) (h.run σ H _ en w fun v d H1 M1 e1 w1 r1 hz => by
    obtain ⟨n, rfl, ok, hz⟩ := hz
    cases r1
    refine ⟨n, rfl, ok, fun q hq => (k.step e1).new w1 hq (.lst upd_same (w1.fresh hq) ?_) hz⟩
    have e2 : ∀ (M : Mp) (Z : Zn) (H : Hp), Reps X.K M Z H (rgV 0 n) (rngD 0 n.toNat) := fun M Z H => by
      unfold rgV rngD
      rw [show (n - 0).toNat = n.toNat by omega]
      generalize List.range n.toNat = l
      induction l with
      | nil => exact .nil
      | cons i r ih => exact .cons (.int _) ih
    exact e2 _ _ _)
/-- a class as data -/
def ClsD : D → Value → Prop
  | .ty n, u => u = .type n
  | .fn C, u => u = .ref C
  | _, _ => False
theorem we_isi (hm : X.mg "isinstance" = none) (h : WE X ρ M a fun x M1 => WE X ρ M1 b fun y M2 => ∃ t u c, TyD M2 x t ∧ ClsD y u ∧ (∀ C, t = .ref C → OwnC X.K C) ∧ PySem.W.kitOne X.K t u = some c ∧ Φ (.bl c) M2) (hg : Gl X "isinstance" := by rfl)
    (ha : starEach [a, b] X.env = (false, eval a X.env) :: starEach [b] X.env := by rfl) (hb : starEach [b] X.env = (false, eval b X.env) :: starEach [] X.env := by rfl) (hpl : (backTo pos (starEach [b] X.env)).any (·.1) = false := by rfl) : WE X ρ M (.Call (.Name "isinstance" p) [a, b] [] pos) Φ :=
  we_callB call_isi hm (by decide +kernel) (wa_cons (h.imp fun x M1 h => wa_cons (h.imp fun y M2 h => wa_nil fun Z vs H Q w rr k => by
    obtain ⟨v, u, rfl, r1, r2⟩ := rr.two
    obtain ⟨t, cu, c, h1, h2, own, h3, h⟩ := h
    refine ⟨v, u, t, cu, c, rfl, ?_, h1.rep r1 own, h3, k.now w (.bl _) h⟩
    cases r2 with
    | ty n => cases h2; exact .ty n
    | fn C => cases h2; exact .own C
    | _ => cases h2) hb) ha) hg (he := ha) (hpl := hpl)
theorem we_m0 {id : String} {name : Str} {r : V → List V → Hp → VK → Prop} (slot : Slot "str" name id) (ty : typeOf (.builtin id) = pure (.type "method_descriptor")) (rule : MtR X id r)
    (h : WE X ρ M o fun d M1 => ∃ z, d = .str z ∧ ∀ Z H Q, Wd X.K M1 Z H → KE X.K M1 Z H Φ Q → r (.str z) [] H Q) (hbase : attributeBase o name X.env (eval o X.env) = eval o X.env := by rfl) (hline : (apos.endLine == pos.line) = true := by rfl) : WE X ρ M (.Call (.Attribute o name apos) [] [] pos) Φ := .mk fun σ H Q en w k =>
  eOf (pe_m0 slot ty rule pe_sem hbase hline) (h.run σ H _ en w fun v d H1 M1 e1 w1 r1 hz => by
    obtain ⟨z, rfl, hz⟩ := hz
    cases r1
    exact ⟨⟨z, rfl⟩, hz _ H1 Q w1 (k.step e1)⟩)
theorem we_m1 {id : String} {name : Str} {r : V → List V → Hp → VK → Prop} (slot : Slot "str" name id) (ty : typeOf (.builtin id) = pure (.type "method_descriptor")) (rule : MtR X id r)
    (h : WE X ρ M o fun d M1 => ∃ z, d = .str z ∧ WE X ρ M1 e fun y M2 => ∀ Z H Q u, Wd X.K M2 Z H → Rep X.K M2 Z H u y → KE X.K M2 Z H Φ Q → r (.str z) [u] H Q)
    (hs : starEach [e] X.env = [(false, eval e X.env)] := by rfl) (hbase : attributeBase o name X.env (eval o X.env) = eval o X.env := by rfl) (hline : (apos.endLine == pos.line) = true := by rfl) : WE X ρ M (.Call (.Attribute o name apos) [e] [] pos) Φ := .mk fun σ H Q en w k =>
  eOf (pe_m1 slot ty rule pe_sem pe_sem hs hbase hline) (h.run σ H _ en w fun v d H1 M1 e1 w1 r1 hz => by
    obtain ⟨z, rfl, hz⟩ := hz
    cases r1
    exact ⟨⟨z, rfl⟩, hz.run σ H1 _ (en.mono e1) w1 fun u y H2 M2 e2 w2 r2 hy => hy _ H2 Q u w2 r2 (k.step (e1.trans e2))⟩)
theorem we_startswith (h : WE X ρ M o fun d M1 => ∃ z, d = .str z ∧ WE X ρ M1 e fun y M2 => ∃ s, y = .str s ∧ Φ (.bl (Txt.startswith z s)) M2) (hs : starEach [e] X.env = [(false, eval e X.env)] := by rfl) (hbase : attributeBase o "startswith" X.env (eval o X.env) = eval o X.env := by rfl) (hline : (apos.endLine == pos.line) = true := by rfl) : WE X ρ M (.Call (.Attribute o "startswith" apos) [e] [] pos) Φ :=
  we_m1 F.slot_str_startswith F.type_str_startswith mt_startswith (h.imp fun d M1 ⟨z, e1, h⟩ => ⟨z, e1, h.imp fun y M2 ⟨s, e2, h⟩ Z H Q u w r k => by subst e2; cases r; exact ⟨z, s, rfl, rfl, k.now w (.bl _) h⟩⟩) hs hbase hline
theorem we_endswith (h : WE X ρ M o fun d M1 => ∃ z, d = .str z ∧ WE X ρ M1 e fun y M2 => ∃ s, y = .str s ∧ Φ (.bl (Txt.endswith z s)) M2) (hs : starEach [e] X.env = [(false, eval e X.env)] := by rfl) (hbase : attributeBase o "endswith" X.env (eval o X.env) = eval o X.env := by rfl) (hline : (apos.endLine == pos.line) = true := by rfl) : WE X ρ M (.Call (.Attribute o "endswith" apos) [e] [] pos) Φ :=
  we_m1 F.slot_str_endswith F.type_str_endswith mt_endswith (h.imp fun d M1 ⟨z, e1, h⟩ => ⟨z, e1, h.imp fun y M2 ⟨s, e2, h⟩ Z H Q u w r k => by subst e2; cases r; exact ⟨z, s, rfl, rfl, k.now w (.bl _) h⟩⟩) hs hbase hline
theorem we_partition (h : WE X ρ M o fun d M1 => ∃ z, d = .str z ∧ WE X ρ M1 e fun y M2 => ∃ s, y = .str s ∧ (s.length == 0) = false ∧ z.length ≤ sizeLine ∧ Φ (.tup [.str (Txt.partition z s).1, .str (Txt.partition z s).2.1, .str (Txt.partition z s).2.2]) M2) (hs : starEach [e] X.env = [(false, eval e X.env)] := by rfl) (hbase : attributeBase o "partition" X.env (eval o X.env) = eval o X.env := by rfl) (hline : (apos.endLine == pos.line) = true := by rfl) : WE X ρ M (.Call (.Attribute o "partition" apos) [e] [] pos) Φ :=
  we_m1 F.slot_str_partition F.type_str_partition mt_partition (h.imp fun d M1 ⟨z, e1, h⟩ => ⟨z, e1, h.imp fun y M2 ⟨s, e2, h1, h2, h⟩ Z H Q u w r k => by
    subst e2
    cases r
    exact ⟨z, s, rfl, rfl, h1, h2, fun q hq => k.new w hq (.tup (.inl upd_same) (w.fresh hq) (.cons (.str _) (.cons (.str _) (.cons (.str _) .nil)))) h⟩⟩) hs hbase hline
theorem we_join (h : WE X ρ M o fun d M1 => ∃ z, d = .str z ∧ WE X ρ M1 e fun y M2 => ∃ ys : List Str, (LstOf M2 y (ys.map D.str) ∨ y = .tup (ys.map D.str)) ∧ (ys.map (·.length)).sum + ys.length * z.length ≤ 16777216 ∧ Φ (.str (Txt.join z ys)) M2) (hs : starEach [e] X.env = [(false, eval e X.env)] := by rfl) (hbase : attributeBase o "join" X.env (eval o X.env) = eval o X.env := by rfl) (hline : (apos.endLine == pos.line) = true := by rfl) : WE X ρ M (.Call (.Attribute o "join" apos) [e] [] pos) Φ :=
  we_m1 F.slot_str_join F.type_str_join mt_join (h.imp fun d M1 ⟨z, e1, h⟩ => ⟨z, e1, h.imp fun y M2 ⟨ys, e2, h1, h⟩ Z H Q u w r k => by
    rcases e2 with e2 | rfl
    · obtain ⟨q, vs, rfl, hq, rs⟩ := r.asLst w e2
      rw [rs.strs] at hq
      exact ⟨z, q, ys, rfl, rfl, .inl hq, h1, k.now w (.str _) h⟩
    · obtain ⟨q, vs, rfl, hq, rs⟩ := r.asTup
      rw [rs.strs] at hq
      exact ⟨z, q, ys, rfl, rfl, .inr hq, h1, k.now w (.str _) h⟩⟩) hs hbase hline
theorem we_append (h : WE X ρ M o fun d M1 => ∃ q ds0, d = .ob q ∧ M1 q = some (.lst ds0) ∧ WE X ρ M1 e fun y M2 => ∃ ds, M2 q = some (.lst ds) ∧ ds.length < sizeLine ∧ Φ .non (mset M2 q (.lst (ds ++ [y]))))
    (hbase : attributeBase o "append" X.env (eval o X.env) = eval o X.env := by rfl)
    (hfew : ((backTo pos (starEach (e :: []) X.env)).all (fun x => !x.1) && (backToKw pos (keywordEach [] X.env)).all (fun x => x.1.isSome)
      && decide ((e :: []).length + ([] : List Keyword).length + (if ([] : List Keyword).isEmpty then 0 else 1) < 30)) = true := by rfl)
    (hline : (apos.endLine == pos.line) = true := by rfl) (hs : starEach (e :: []) X.env = (false, eval e X.env) :: starEach [] X.env := by rfl) (hplain : (backTo pos (starEach [] X.env)).any (·.1) = false := by rfl) : WE X ρ M (.Call (.Attribute o "append" apos) [e] [] pos) Φ := .mk fun σ H Q en w k =>
  eOf (pe_bm PySem.F.plainAttrs_list PySem.F.slot_list_append PySem.F.type_list_append mt_append pe_sem (pa_cons pe_sem pa_nil hs) hbase hfew hline hs hplain) (h.run σ H _ en w fun v d H1 M1 e1 w1 r1 hz => by
    obtain ⟨q, ds0, rfl, hM, hz⟩ := hz
    cases r1
    obtain ⟨vs0, h0, _⟩ := w1.1 q _ hM
    refine ⟨.inl ⟨rfl, _, .inl (.inl h0)⟩, hz.run σ H1 _ (en.mono e1) w1 fun u y H2 M2 e2 w2 r2 hy => ?_⟩
    obtain ⟨ds, hM2, hl, hy⟩ := hy
    obtain ⟨vs, hv, rs⟩ := w2.1 q _ hM2
    refine ⟨q, vs, u, rfl, rfl, hv, by rw [rs.length]; exact hl, ?_⟩
    have x3 : Ext M2 _ H2 (mset M2 q (.lst (ds ++ [y]))) (upd H2 q (.lst (vs ++ [u]))) := Ext.put w2 hM2
    exact k _ .non _ _ ((e1.trans e2).trans x3) (w2.put hM2 ⟨_, upd_same, (rs.append (.cons r2 .nil)).mono x3⟩) .non hy)
theorem we_extend (h : WE X ρ M o fun d M1 => ∃ q ds0, d = .ob q ∧ M1 q = some (.lst ds0) ∧ WE X ρ M1 e fun y M2 => ∃ ds ys, M2 q = some (.lst ds) ∧ y = .lst ys ∧ ds.length + ys.length ≤ sizeLine ∧ Φ .non (mset M2 q (.lst (ds ++ ys))))
    (hbase : attributeBase o "extend" X.env (eval o X.env) = eval o X.env := by rfl)
    (hfew : ((backTo pos (starEach (e :: []) X.env)).all (fun x => !x.1) && (backToKw pos (keywordEach [] X.env)).all (fun x => x.1.isSome)
      && decide ((e :: []).length + ([] : List Keyword).length + (if ([] : List Keyword).isEmpty then 0 else 1) < 30)) = true := by rfl)
    (hline : (apos.endLine == pos.line) = true := by rfl) (hs : starEach (e :: []) X.env = (false, eval e X.env) :: starEach [] X.env := by rfl) (hplain : (backTo pos (starEach [] X.env)).any (·.1) = false := by rfl) : WE X ρ M (.Call (.Attribute o "extend" apos) [e] [] pos) Φ := .mk fun σ H Q en w k =>
  eOf (pe_bm PySem.F.plainAttrs_list PySem.F.slot_list_extend PySem.F.type_list_extend mt_extend pe_sem (pa_cons pe_sem pa_nil hs) hbase hfew hline hs hplain) (h.run σ H _ en w fun v d H1 M1 e1 w1 r1 hz => by
    obtain ⟨q, ds0, rfl, hM, hz⟩ := hz
    cases r1
    obtain ⟨vs0, h0, _⟩ := w1.1 q _ hM
    refine ⟨.inl ⟨rfl, _, .inl (.inl h0)⟩, hz.run σ H1 _ (en.mono e1) w1 fun u y H2 M2 e2 w2 r2 hy => ?_⟩
    obtain ⟨ds, ys, hM2, rfl, hl, hy⟩ := hy
    obtain ⟨vs, hv, rs⟩ := w2.1 q _ hM2
    cases r2 with
    | @lst _ us _ h2 m2 r2 =>
      refine ⟨q, _, vs, us, rfl, rfl, hv, h2, by rw [rs.length, r2.length]; exact hl, ?_⟩
      have x3 : Ext M2 _ H2 (mset M2 q (.lst (ds ++ ys))) (upd H2 q (.lst (vs ++ us))) := Ext.put w2 hM2
      exact k _ .non _ _ ((e1.trans e2).trans x3) (w2.put hM2 ⟨_, upd_same, (rs.append r2).mono x3⟩) .non hy)
/-- xs[i] = e -/
theorem wg_sub {i : Expr} {d : D} {Ω : Rho → Mp → Prop} (h : WE X ρ M o fun x M1 => WE X ρ M1 i fun y M2 => ∃ q ds n j, x = .ob q ∧ y = .int n ∧ M2 q = some (.lst ds) ∧ ixN ds.length n = some j ∧ Ω ρ (mset M2 q (.lst (ds.set j d))))
    (ha : ∀ v, assign (.Subscript o i pos) X.env v = (do
      let ov ← holding [v] (eval o X.env)
      let iv ← holding [v, ov] (eval i X.env)
      standAt pos
      holding [v, ov, iv] (setItem ov iv v)
      release [v, ov, iv] []) := by intro _; rfl) : WG X (.Subscript o i pos) d ρ M Ω := .mk fun {Z} σ H v Q en w r k =>
  gOf (pg_sub pe_sem pe_sem set_list ha) (bind2 h en w fun v1 v2 x y H2 M2 e2 w2 r1 r2 hz => by
    obtain ⟨q, ds, n, j, rfl, rfl, hM, hj, hz⟩ := hz
    cases r1; cases r2
    obtain ⟨vs, hv, rs⟩ := w2.1 q _ hM
    refine ⟨q, vs, n, j, rfl, rfl, hv, by rw [rs.length]; exact hj, ?_⟩
    have x3 : Ext M2 _ H2 (mset M2 q (.lst (ds.set j d))) (upd H2 q (.lst (vs.set j v))) := Ext.put w2 hM
    exact k σ ρ _ _ (e2.trans x3) (w2.put hM ⟨_, upd_same, (Reps.set (r.mono e2) j rs).mono x3⟩) (en.mono (e2.trans x3)) hz)
/-- [*xs, ..] -/
theorem wa_star {sp : Pos} {ΦA : List D → Mp → Prop} (h : WE X ρ M e fun d M1 => ∃ xs, (LstOf M1 d xs ∨ d = .tup xs) ∧ WA X ρ M1 es fun ds M2 => ∀ ys, ys = xs ++ ds → ΦA ys M2) (hs : starEach (.Starred e sp :: es) X.env = (true, eval e X.env) :: starEach es X.env := by rfl) : WA X ρ M (.Starred e sp :: es) ΦA := .mk fun σ H Q en w k =>
  aOf (StX.pa_star pe_sem pa_sem hs) (h.run σ H _ en w fun v d H1 M1 e1 w1 r1 hz => by
    obtain ⟨xs, hl, hz⟩ := hz
    obtain ⟨q, vs, rfl, hq, rs⟩ : ∃ q vs, v = .ref q ∧ (SqT X.K H1 q vs ∨ SqL X.K H1 q vs) ∧ Reps X.K M1 _ H1 vs xs := by
      rcases hl with hl | rfl
      · obtain ⟨q, vs, e, hq, rs⟩ := r1.asLst w1 hl; exact ⟨q, vs, e, .inr hq, rs⟩
      · obtain ⟨q, vs, e, hq, rs⟩ := r1.asTup; exact ⟨q, vs, e, .inl hq, rs⟩
    exact ⟨q, vs, rfl, hq, hz.run σ H1 _ (en.mono e1) w1 fun us ds H2 M2 e2 w2 r2 hy => k (vs ++ us) (xs ++ ds) H2 M2 (e1.trans e2) w2 ((rs.mono e2).append r2) (hy _ rfl)⟩)
end
end DL
namespace DL
open PySem PySem.Spec PyProof.Rows L2
/-- the signs of a text, each with its number in a new pair -/
def Ites (x : Str) : It := ⟨fun i _ => i < x.cps.size, fun i H v H' => ∃ T c, v = .ref T ∧ H T = none ∧ H' = upd H T (.tup [.int (i : Nat), .str ⟨#[c]⟩]) ∧ x.cps[i]? = some c, fun i _ => i = x.cps.size⟩
theorem draws_txt {prog : Program} {w : World} {A : Around} (hh : A.handled = none) (it : Addr) (x : Str) (t : Tok) :
    Draws prog w A it [it] x.cps.size (fun i v => ∃ c u, x.cps[i]? = some c ∧ v = .str ⟨#[c]⟩ u) (fun i h => h.IsStrIter it (strIterType x) x t i) := by
  unfold strIterType
  cases x.cps.all (· < 128)
  · exact Draws.strWide hh it x t
  · exact Draws.strAscii hh it x t
theorem turn_enumS {P : Program} {w : World} {K : PySem.W.Frag} {elts : List Expr} {kk : Nat} {tpos : Pos} (x : Str) (t : Tok) (e it : Addr) :
    Turn P w K (.Tuple elts kk tpos) (Ites x) [e, it] e (fun i h => (∃ old, IsEnum h e it i old) ∧ h.IsStrIter it (strIterType x) x t i ∧ e ≠ it) where
  mem := by simp
  obj := fun i h st b hb => by
    obtain ⟨⟨old, he⟩, ⟨o, e1, c, d⟩, hne⟩ := st
    have e' : b = e ∨ b = it := by simpa using hb
    rcases e' with z | z
    · rw [z]; exact ⟨_, he, fun v z => nomatch z⟩
    · rw [z]; exact ⟨o, e1, fun v z => by rw [d] at z; cases z⟩
  keep := fun i h h' st k => by
    obtain ⟨⟨old, he⟩, ⟨o, e1, c, d⟩, hne⟩ := st
    exact ⟨⟨old, k e (by simp) _ he⟩, ⟨o, k it (by simp) _ e1, c, d⟩, hne⟩
  item := by
    intro X hP hw hK hc i pins s σ H E I hf st hg
    subst hP hw hK
    obtain ⟨⟨old, he⟩, hit, hne⟩ := st
    have hel : e < s.heap.objs.size := Heap.lt_size he
    have hil : it < s.heap.objs.size := by obtain ⟨_, q, _⟩ := hit; exact Heap.lt_size q
    refine wpAny_pyNext_enum_itemD (draws_txt (A := X.A.in1) (I.ok.hd hc) it x t) he hit hg hne (by simpa using hne) fun u h' tk hP ho hit' hT hsz hk => ?_
    obtain ⟨c, tk2, hcx, rfl⟩ := hP
    refine ⟨_, rfl, wpAny_letOwnedTupleGo_enum (s := { s with heap := h', toks := tk + 1 }) ho fun h'' he' sb => ?_⟩
    have hT2 : h''.get? s.heap.objs.size = some { cls := .type "tuple", data := .seq #[.int i tk, .str ⟨#[c]⟩ tk2] } := (sb.2 _ (Nat.ne_of_gt hel)).trans hT
    have new : ObjOk X.prog X.w (upd H s.heap.objs.size (.tup [.int (i : Nat), .str ⟨#[c]⟩])) h'' s.heap.objs.size (.tup [.int (i : Nat), .str ⟨#[c]⟩]) :=
      ⟨by show 2 ≤ sizeLine; decide, [.int i tk, .str ⟨#[c]⟩ tk2], .cons ⟨_, rfl⟩ (.cons ⟨_, rfl⟩ .nil), ⟨_, hT2, rfl, _, rfl⟩⟩
    have I1 : Inv X pins σ (upd H s.heap.objs.size (.tup [.int (i : Nat), .str ⟨#[c]⟩])) { s with heap := h'', toks := tk + 1 } :=
      I.turnedNew (ch := [e, it]) (fun b ob hb q => (sb.2 b (fun z => hb (by simp [z]))).trans (hk b ob (fun z => hb (by simp [z])) (fun z => hb (by simp [z])) q)) hf (Nat.le_refl _) new
    refine ⟨.ref s.heap.objs.size, _, I1, rfl, ⟨_, c, rfl, I.hok.fresh (Nat.le_refl _), rfl, hcx⟩, ⟨⟨.str ⟨#[c]⟩ tk2, ?_⟩, ?_, hne⟩, fun b hb => ?_⟩
    · have e1 : ((i + 1 : Nat) : Int) = (i : Int) + 1 := by omega
      rw [e1]; exact he'
    · obtain ⟨o, q1, q2⟩ := hit'
      exact ⟨o, (sb.2 it (Ne.symm hne)).trans q1, q2⟩
    · have hb' : b < s.heap.objs.size := by
        have e' : b = e ∨ b = it := by simpa using hb
        rcases e' with z | z
        · rw [z]; exact hel
        · rw [z]; exact hil
      rw [upd_ne (Nat.ne_of_lt hb')]
      exact (hf b hb).1
  done := by
    intro X hP hw hK hc i pins s σ H E I hf st hg
    subst hP hw hK
    obtain ⟨⟨old, he⟩, hit, hne⟩ := st
    obtain ⟨f0, f1, f2, f3, f4, f5⟩ := hf it (by simp)
    have hi : i = x.cps.size := hg
    subst hi
    exact wpAny_pyNext_enum_endD (draws_txt (A := X.A.in1) (I.ok.hd hc) it x t) he hit fun h' eb => ⟨rfl, I.turned (t' := s.toks) (fun b o hb q => eb b o hb q) f0 f1 f3 f4 f5⟩
  self := fun A i s Q E st h => let ⟨⟨_, he⟩, _⟩ := st; wpAny_pyIter_enum he h
def iEnumS (ta : TA) : TI := fun σ H R => ta σ H fun vs H1 => ∃ x, vs = [.str x] ∧ R (Ites x) H1
theorem pi_enumS {X : Cx} {e : Expr} {ta : TA} {p pos tpos : Pos} {elts : List Expr} {kk : Nat} (hg : Gl X "enumerate") (hm : X.mg "enumerate" = none) (ha : PA X [e] ta) (hs : starEach [e] X.env = [(false, eval e X.env)] := by rfl) :
    PI X (.Tuple elts kk tpos) (.Call (.Name "enumerate" p) [e] [] pos) (iEnumS ta) := by
  refine ⟨fun pins s σ H R I h => ?_⟩
  refine Call_ (ld_blt I hg hm boot_enumerate (PyProof.Rows.callWith_type1 (thn (ha.run pos pins s σ H _ I h) fun us s1 ⟨vs, H1, I1, r1, q1⟩ => ?_) hs rfl))
  obtain ⟨x, ex, q⟩ := q1
  subst ex
  cases r1 with
  | cons r rr =>
    cases rr
    obtain ⟨t, rfl⟩ := r
    refine call_enumerate_str fun h' he hit hsz hk => wpAny_pyIter_enum he ?_
    have I2 : Inv X pins σ H1 { s1 with heap := h' } := I1.kept (t' := s1.toks) hk
    refine ⟨s1.heap.objs.size + 1, [s1.heap.objs.size + 1, s1.heap.objs.size], _, _, H1, rfl, I2, turn_enumS x t (s1.heap.objs.size + 1) s1.heap.objs.size, ⟨⟨.none, he⟩, hit, Nat.succ_ne_self _⟩, fun b hb => ?_, q⟩
    have e' : b = s1.heap.objs.size + 1 ∨ b = s1.heap.objs.size := by simpa using hb
    have hle : s1.heap.objs.size ≤ b := by
      rcases e' with z | z
      · rw [z]; exact Nat.le_add_right _ _
      · rw [z]; exact Nat.le_refl _
    exact I1.fpOk hle (I1.hok.fresh hle)
section
variable {X : Cx} {ρ : Rho} {M : Mp} {tg a b e : Expr} {pos p : Pos} {Φ : List D → Mp → Prop}
/-- the signs of a text -/
def signs (x : Str) : List D := x.cps.toList.map fun c => .str ⟨#[c]⟩
/-- .. each with its number -/
def enumS (x : Str) : List D := (List.range x.cps.size).map fun (i : Nat) => .tup [.int (i : Nat), .str ⟨#[x.cps.getD i 0]⟩]
theorem sq_str {K : PySem.W.Frag} {M1 : Mp} {Z1 : Zn} {H1 : Hp} (x : Str) : Sq K M1 Z1 H1 (Its x) (signs x) := fun i M Z H e w => by
  refine ⟨fun hi => ?_, fun d hd => ?_⟩
  · show x.cps.size ≤ i
    rw [hi]; simp [signs]
  · unfold signs at hd
    rw [List.getElem?_map] at hd
    obtain ⟨c, hc, rfl⟩ := Option.map_eq_some_iff.mp hd
    rw [Array.getElem?_toList] at hc
    refine ⟨(Array.getElem?_eq_some_iff.mp hc).1, fun v H' y => ?_⟩
    obtain ⟨rfl, c', hc', rfl⟩ := y
    rw [hc] at hc'; cases hc'
    exact ⟨Ext.refl, w, .str _⟩
theorem wi_str (h : WE X ρ M e fun d M1 => ∃ x, d = .str x ∧ Φ (signs x) M1) : WI X ρ M tg e Φ := .mk fun σ H R en w k =>
  iOf (pi_str pe_sem) (h.run σ H _ en w fun v d H1 M1 e1 w1 r1 hz => by
    obtain ⟨x, rfl, hz⟩ := hz
    cases r1
    exact ⟨x, rfl, k _ _ H1 M1 e1 w1 (sq_str x) hz⟩)
theorem sq_enumS {K : PySem.W.Frag} {M1 : Mp} {Z1 : Zn} {H1 : Hp} (x : Str) : Sq K M1 Z1 H1 (Ites x) (enumS x) := fun i M Z H e w => by
  refine ⟨fun hi => ?_, fun d hd => ?_⟩
  · show i = x.cps.size
    rw [hi]; simp [enumS]
  · unfold enumS at hd
    rw [List.getElem?_map] at hd
    obtain ⟨j, hj, rfl⟩ := Option.map_eq_some_iff.mp hd
    obtain ⟨hlt, rfl⟩ : i < x.cps.size ∧ i = j := by
      have q : i < (List.range x.cps.size).length := (List.getElem?_eq_some_iff.mp hj).1
      rw [List.length_range] at q
      rw [List.getElem?_range q] at hj
      exact ⟨q, Option.some.inj hj⟩
    refine ⟨hlt, fun v H' y => ?_⟩
    obtain ⟨T, c, rfl, hT, rfl, hc⟩ := y
    have ec : x.cps.getD i 0 = c := by
      rw [Array.getD_eq_getD_getElem?, hc]; rfl
    rw [ec]
    exact ⟨Ext.new w hT, w.new hT, .tup (.inl upd_same) (w.fresh hT) (.cons (.int _) (.cons (.str _) .nil))⟩
theorem wi_enumS {elts : List Expr} {kk : Nat} {tpos : Pos} (hm : X.mg "enumerate" = none) (h : WE X ρ M e fun d M1 => ∃ x, d = .str x ∧ Φ (enumS x) M1) (hg : Gl X "enumerate" := by rfl) (hs : starEach [e] X.env = [(false, eval e X.env)] := by rfl) : WI X ρ M (.Tuple elts kk tpos) (.Call (.Name "enumerate" p) [e] [] pos) Φ := .mk fun σ H R en w k =>
  iOf (pi_enumS hg hm (pa_cons pe_sem pa_nil hs) hs) (h.run σ H _ en w fun v d H1 M1 e1 w1 r1 hz => by
    obtain ⟨x, rfl, hz⟩ := hz
    cases r1
    exact ⟨x, rfl, k _ _ H1 M1 e1 w1 (sq_enumS x) hz⟩)
/-- zip of two tuples -/
def zipD (xs ys : List D) : List D := (xs.zip ys).map fun q => .tup [q.1, q.2]
theorem zipD_get {xs ys : List D} {i : Nat} {d : D} (h : (zipD xs ys)[i]? = some d) : ∃ x y, xs[i]? = some x ∧ ys[i]? = some y ∧ d = .tup [x, y] := by
  unfold zipD at h
  rw [List.getElem?_map] at h
  obtain ⟨⟨x, y⟩, hq, rfl⟩ := Option.map_eq_some_iff.mp h
  rw [List.getElem?_zip_eq_some] at hq
  exact ⟨x, y, hq.1, hq.2, rfl⟩
theorem wi_zipT {elts : List Expr} {kk : Nat} {tpos : Pos} (hm : X.mg "zip" = none) (h : WE X ρ M a fun x M1 => WE X ρ M1 b fun y M2 => ∃ xs ys, x = .tup xs ∧ y = .tup ys ∧ Φ (zipD xs ys) M2) (hg : Gl X "zip" := by rfl)
    (ha : starEach [a, b] X.env = (false, eval a X.env) :: starEach [b] X.env := by rfl) (hb : starEach [b] X.env = (false, eval b X.env) :: starEach [] X.env := by rfl) (hpl : (backTo pos (starEach [b] X.env)).any (·.1) = false := by rfl) : WI X ρ M (.Tuple elts kk tpos) (.Call (.Name "zip" p) [a, b] [] pos) Φ := .mk fun σ H R en w k =>
  iOf (RZ.pi_zipA hg hm (pa_cons pe_sem (pa_cons pe_sem pa_nil hb) ha) ha hpl) (bind2 h en w fun v u x y H2 M2 e2 w2 r1 r2 hz => by
    obtain ⟨xs, ys, rfl, rfl, hz⟩ := hz
    obtain ⟨p1, vs, rfl, hq1, rs1⟩ := r1.tupKeep
    obtain ⟨p2, us, rfl, hq2, rs2⟩ := r2.tupKeep
    refine ⟨p1, p2, vs, us, rfl, .inr ⟨hq1 _ _ _ ExI.refl, hq2 _ _ _ ExI.refl, k _ _ H2 M2 e2 w2 ?_ hz⟩⟩
    intro i M Z H e w
    refine ⟨fun hi => ⟨vs, us, hq1 _ _ _ e, hq2 _ _ _ e, ?_⟩, fun d hd => ?_⟩
    · rw [rs1.length, rs2.length]
      have : (zipD xs ys).length = min xs.length ys.length := by simp [zipD]
      omega
    · obtain ⟨x, y, hx, hy, rfl⟩ := zipD_get hd
      obtain ⟨v, hv, rv⟩ := rs1.get hx
      obtain ⟨u, hu, ru⟩ := rs2.get hy
      refine ⟨⟨vs, us, v, u, hq1 _ _ _ e, hq2 _ _ _ e, hv, hu⟩, fun z H' yl => ?_⟩
      obtain ⟨T, v', u', rfl, hT, rfl, h1, h2⟩ := yl
      have z1 := h1 vs (hq1 _ _ _ e)
      have z2 := h2 us (hq2 _ _ _ e)
      rw [hv] at z1; cases z1
      rw [hu] at z2; cases z2
      have x3 : Ext M Z H M (upd H T (.tup [v, u])) := Ext.new w hT
      exact ⟨x3, w.new hT, .tup (.inl upd_same) (w.fresh hT) (.cons ((rv.monoI e).mono x3) (.cons ((ru.monoI e).mono x3) .nil))⟩)
end
/-- the pairs as values stand -/
def rawOf (es : List DictEntry) (kvs : List (Str × V)) : List (Str × Value) := (kvs.zip es).map fun q => (q.1.1, q.2.val)
theorem pairs_raw {prog : Program} {w : World} : ∀ {kvs : List (Str × V)} {es : List DictEntry}, Paired (fun (p : Str × V) (e : DictEntry) => (∃ t, e.key = .str p.1 t) ∧ RelV p.2 e.val) kvs es →
    Pairs (strKind prog w) es (rawOf es kvs) ∧ (rawOf es kvs).map (·.1) = kvs.map (·.1) ∧ (rawOf es kvs).length = kvs.length ∧ ∀ (i : Nat) (k : Str) (v : V), kvs[i]? = some (k, v) → ∃ u, (rawOf es kvs)[i]? = some (k, u) ∧ RelV v u
  | _, _, .nil => ⟨.nil, rfl, rfl, fun i k v e => by simp at e⟩
  | (k, v) :: kvs, e :: es, .cons ⟨⟨t, hk⟩, hv⟩ r => by
    obtain ⟨h1, h2, h3, h4⟩ := pairs_raw (prog := prog) (w := w) r
    refine ⟨.cons (by rw [hk]; exact strKind_is prog w k t) rfl h1, ?_, ?_, fun i k' v' e' => ?_⟩
    · show k :: (rawOf es kvs).map (·.1) = k :: kvs.map (·.1)
      rw [h2]
    · show (rawOf es kvs).length + 1 = kvs.length + 1
      rw [h3]
    · cases i with
      | zero => simp at e'; obtain ⟨rfl, rfl⟩ := e'; exact ⟨_, rfl, hv⟩
      | succ i => exact h4 i k' v' (by simpa using e')
theorem wrD_at {K : PySem.W.Frag} {w : World} {a : Addr} {kvs : List (Str × V)} (h : WrD K w a kvs) (prog : Program) {hp : Heap} (X : K.In hp) : (a == sysModules) = false ∧ ∃ vs n, hp.DictAt (strKind prog w) a vs n ∧ vs.length = kvs.length ∧ vs.map (·.1) = kvs.map (·.1) ∧ ∀ (i : Nat) (k : Str) (v : V), kvs[i]? = some (k, v) → ∃ u, vs[i]? = some (k, u) ∧ RelV v u := by
  obtain ⟨es, n, hl, hs, hk, pr, nd⟩ := h
  obtain ⟨h1, h2, h3, h4⟩ := pairs_raw (prog := prog) (w := w) pr
  refine ⟨hs, _, n, ⟨_, es, X _ _ hl, ⟨rfl, rfl, rfl⟩, rfl, fun e he => ?_, h1, by rw [h2]; exact nd⟩, h3, h2, h4⟩
  obtain ⟨x, t, e1, e2⟩ := hk.all e (Array.mem_toList_iff.mpr he)
  exact ⟨x, by rw [e1]; exact strKind_is prog w x t, e2⟩
def Itw (kvs : List (Str × V)) : It := ⟨fun i _ => i < kvs.length, fun i H x H' => ∃ T k v, kvs[i]? = some (k, v) ∧ x = .ref T ∧ H T = none ∧ H' = upd H T (.tup [.str k, v]), fun i _ => kvs.length ≤ i⟩
theorem turn_gitems {P : Program} {w : World} {K : PySem.W.Frag} {a : Addr} {kvs : List (Str × V)} {elts : List Expr} {kk : Nat} {tpos : Pos} (hw : WrD K w a kvs) (it : Addr) (ep : Nat) (hep : ∀ es n, K.lookup a = some ⟨.type "dict", none, .dict es n, #[]⟩ → n = ep) :
    Turn P w K (.Tuple elts kk tpos) (Itw kvs) [it] it (fun i h => ∃ ok ov, IsItemIter h it a i kvs.length ep ok ov) where
  mem := by simp
  obj := fun i h st b hb => by
    have e : b = it := by simpa using hb
    subst e
    obtain ⟨ok, ov, e⟩ := st
    exact ⟨_, e, fun v z => nomatch z⟩
  keep := fun i h h' st k => let ⟨ok, ov, e⟩ := st; ⟨ok, ov, k it (by simp) _ e⟩
  item := by
    intro X hP hw' hK hc i pins s σ H E I hf st hg
    subst hP hw' hK
    obtain ⟨es0, n0, hl0, _⟩ := id hw
    have en := hep es0 n0 hl0
    obtain ⟨hs, vs, n, hm, hl, hmm, hv⟩ := wrD_at hw X.prog I.kIn
    have hn : n = ep := by
      obtain ⟨o, es, ho, hx, hd, _⟩ := hm
      rw [I.kIn _ _ hl0] at ho
      cases ho
      injection hd with _ h2
      rw [← h2]; exact en
    subst hn
    obtain ⟨⟨k, v⟩, hkv⟩ : ∃ p, kvs[i]? = some p := ⟨kvs[i], List.getElem?_eq_getElem hg⟩
    obtain ⟨u, hu, ru⟩ := hv i k v hkv
    obtain ⟨ok, ov, he⟩ := st
    rw [← hl] at he
    have hlt : it < s.heap.objs.size := Heap.lt_size he
    refine wpAny_pyNext_items_item he hm hu fun key h' hkey ho hT hz hk => ?_
    refine ⟨_, rfl, wpAny_letOwnedTupleGo_items (s := { s with heap := h' }) ho fun h'' he' sb => ?_⟩
    have hT2 : h''.get? s.heap.objs.size = some { cls := .type "tuple", data := .seq #[key, u] } := (sb.2 _ (Nat.ne_of_gt hlt)).trans hT
    obtain ⟨tk, rfl⟩ : ∃ t, key = .str k t := Value.isStrOf_shape hkey
    have new : ObjOk X.prog X.w (upd H s.heap.objs.size (.tup [.str k, v])) h'' s.heap.objs.size (.tup [.str k, v]) :=
      ⟨by show 2 ≤ sizeLine; decide, [.str k tk, u], .cons ⟨tk, rfl⟩ (.cons ru .nil), ⟨_, hT2, rfl, _, rfl⟩⟩
    have I1 : Inv X pins σ (upd H s.heap.objs.size (.tup [.str k, v])) { s with heap := h'' } :=
      I.turnedNew (t' := s.toks) (ch := [it]) (fun b ob hb e => (sb.2 b (by simpa using hb)).trans (hk b ob (by simpa using hb) e)) hf (Nat.le_refl _) new
    refine ⟨.ref s.heap.objs.size, _, I1, rfl, ⟨_, k, v, hkv, rfl, I.hok.fresh (Nat.le_refl _), rfl⟩, ⟨.str k tk, u, ?_⟩, fun b hb => ?_⟩
    · rw [← hl]; exact he'
    · have e : b = it := by simpa using hb
      rw [e, upd_ne (Nat.ne_of_lt hlt)]
      exact (hf it (by simp)).1
  done := by
    intro X hP hw' hK hc i pins s σ H E I hf st hg
    subst hP hw' hK
    obtain ⟨es0, n0, hl0, _⟩ := id hw
    have en := hep es0 n0 hl0
    obtain ⟨hs, vs, n, hm, hl, hmm, hv⟩ := wrD_at hw X.prog I.kIn
    have hn : n = ep := by
      obtain ⟨o, es, ho, hx, hd, _⟩ := hm
      rw [I.kIn _ _ hl0] at ho
      cases ho
      injection hd with _ h2
      rw [← h2]; exact en
    subst hn
    obtain ⟨f0, f1, f2, f3, f4, f5⟩ := hf it (by simp)
    obtain ⟨ok, ov, he⟩ := st
    rw [← hl] at he
    exact wpAny_pyNext_items_end (I.ok.hd hc) he hm (List.getElem?_eq_none (by rw [hl]; exact hg)) fun h' eb => ⟨rfl, I.turned (t' := s.toks) (fun b ob hb e => eb b ob hb e) f0 f1 f3 f4 f5⟩
  self := fun A i s Q E st h => let ⟨_, _, e⟩ := st; PySem.W.kcp_self e h
section
variable {X : Cx} {ρ : Rho} {M : Mp} {a : Addr} {e f : Expr} {pos p apos : Pos} {x : Str} {kvs : List (Str × V)}
def iGItems (kvs : List (Str × V)) : TI := fun σ H R => R (Itw kvs) H
theorem pi_gitems {elts : List Expr} {kk : Nat} {tpos : Pos} (hm : X.mg x = some (.ref a)) (hw : WrD X.K X.w a kvs) (hg : Gl X x) (hdb : (x == ("__debug__" : Str)) = false) (hbase : attributeBase (.Name x p) "items" X.env (eval (.Name x p) X.env) = eval (.Name x p) X.env) (hline : (apos.endLine == pos.line) = true) :
    PI X (.Tuple elts kk tpos) (.Call (.Attribute (.Name x p) "items" apos) [] [] pos) (iGItems kvs) := by
  refine ⟨fun pins s σ H R I h => ?_⟩
  refine wpAny_Call_method (T := "dict") (id := "dict.items") hbase rfl hline F.plainAttrs_dict F.slot_dict_items F.type_dict_items (ld_glob I hg hm ?_ hdb)
  obtain ⟨es0, n0, hl0, _⟩ := id hw
  obtain ⟨hs, vs, n, hd, hl, hmm, hv⟩ := wrD_at hw X.prog I.kIn
  refine ⟨hd.dictOf.typeIs, hd.dictOf.mapOf.noDict, ?_⟩
  have I2 : Inv X pins σ H { s with heap := s.heap.push { cls := .type "dict_items", data := .fields #[.ref a] } } := I.kept (t' := s.toks) fun b ob q => Heap.get?_push_of_some _ q
  have hn : n = n0 := by
    obtain ⟨o, es, ho, hx, hd', _⟩ := hd
    rw [I.kIn _ _ hl0] at ho
    cases ho
    injection hd' with _ h2
    exact h2.symm
  have fin : wpAny (model X.prog X.w) X.A (pyIter (.ref s.heap.objs.size)) (PIE X pins σ (.Tuple elts kk tpos) R) X.xe { s with heap := s.heap.push { cls := .type "dict_items", data := .fields #[.ref a] } } := by
    refine wpAny_pyIter_items (d := a) (knd := strKind X.prog X.w) ⟨_, Heap.get?_push_size _ rfl, rfl, rfl⟩ (hd.push _) (pi_one (tk := s.toks) I2 _ (turn_gitems hw _ n fun es m hm' => by rw [hl0] at hm'; cases hm'; exact hn.symm) ⟨.none, .none, ?_⟩ h)
    rw [← hl]
    exact Heap.get?_push_size _ rfl
  show wpAny _ _ (callWith pos (.builtin "dict.items") [.ref a] [] []) _ X.xe s
  exact method_meetsIn F.slot_dict_items F.entry_dict_items rfl (PySem.evalArgs_none ⟨rfl, hd.dictOf.typeIs, F.args_dict_items_1 _, _, meets_dict_items (strKind X.prog X.w) a hs, ⟨vs, hd.dictOf⟩, fin⟩)
/-- the data of a written dict's pairs -/
def gitems (ds : List (Str × D)) : List D := ds.map fun q => .tup [.str q.1, q.2]
theorem wi_gitems {elts : List Expr} {kk : Nat} {tpos : Pos} {ds : List (Str × D)} {Φ : List D → Mp → Prop} (hm : X.mg x = some (.ref a)) (hw : WrD X.K X.w a kvs) (hr : ∀ M Z H, RepF X.K M Z H kvs ds) (h : Φ (gitems ds) M) (hg : Gl X x := by rfl) (hdb : (x == ("__debug__" : Str)) = false := by decide)
    (hbase : attributeBase (.Name x p) "items" X.env (eval (.Name x p) X.env) = eval (.Name x p) X.env := by rfl) (hline : (apos.endLine == pos.line) = true := by rfl) : WI X ρ M (.Tuple elts kk tpos) (.Call (.Attribute (.Name x p) "items" apos) [] [] pos) Φ := .mk fun σ H R en w k =>
  iOf (pi_gitems hm hw hg hdb hbase hline) (k _ _ H M Ext.refl w (fun i M' Z' H' e w' => by
    have rf := hr M' Z' H'
    refine ⟨fun hi => ?_, fun d hd => ?_⟩
    · show kvs.length ≤ i
      rw [hi, rf.length]; simp [gitems]
    · unfold gitems at hd
      rw [List.getElem?_map] at hd
      obtain ⟨⟨k, y⟩, hq, rfl⟩ := Option.map_eq_some_iff.mp hd
      obtain ⟨v, hv, rv⟩ := rf.get hq
      refine ⟨(List.getElem?_eq_some_iff.mp hv).1, fun z H2 yl => ?_⟩
      obtain ⟨T, k', v', hkv, rfl, hT, rfl⟩ := yl
      rw [hv] at hkv; cases hkv
      have x3 : Ext M' Z' H' M' (upd H' T (.tup [.str k, v])) := Ext.new w' hT
      exact ⟨x3, w'.new hT, .tup (.inl upd_same) (w'.fresh hT) (.cons (.str _) (.cons (rv.mono x3) .nil))⟩) h)
end
end DL
namespace DL
open PySem PySem.Spec PyProof.Rows L2
section
variable {P : Program} {w : World} {A : Around} {E : Value → Shared → Prop} {s : Shared}
abbrev emptySet (w : World) : Obj := { cls := .type "set", dict := none, data := .set #[] 0 (.fresh 0 0 (!w.params.followText "set-order")) }
end
end DL
namespace DL
open PySem PySem.Spec PyProof.Rows L2
section
variable {X : Cx} {ρ : Rho} {M : Mp} {Φ : D → Mp → Prop} {Θ : Bool → Mp → Prop} {a b e o : Expr} {es : List Expr} {pos p apos : Pos} {x : Str}
theorem we_strS (hm : X.mg "str" = none) (h : WE X ρ M e fun d M1 => ∃ z, d = .str z ∧ Φ (.str z) M1) (hg : Gl X "str" := by rfl)
    (he : starEach [e] X.env = (false, eval e X.env) :: starEach [] X.env := by rfl) (hpl : (backTo pos (starEach [] X.env)).any (·.1) = false := by rfl) : WE X ρ M (.Call (.Name "str" p) [e] [] pos) Φ :=
  we_callTy SkE.call_str_str hm (by decide +kernel) (wa_cons (h.imp fun d M1 h => wa_nil fun Z vs H Q w rr k => by
    obtain ⟨v, rfl, r⟩ := rr.one
    obtain ⟨z, rfl, h⟩ := h
    cases r
    exact ⟨z, rfl, k.now w (.str _) h⟩) he) hg (he := he) (hpl := hpl)
theorem inV_strs (z : Str) : ∀ zs : List Str, inV (.str z) (zs.map V.str) = decide (z ∈ zs)
  | [] => rfl
  | y :: zs => by
    have ih := inV_strs z zs
    unfold inV at ih ⊢
    rw [List.map_cons, List.any_cons, ih]
    show (decide (y = z) || _) = _
    by_cases h : y = z
    · subst h; simp
    · have h' : ¬ z = y := fun q => h q.symm
      simp [h, h']
theorem flat_strs (zs : List Str) : (zs.map V.str).all flatV = true := by
  rw [List.all_map]; exact List.all_eq_true.mpr fun _ _ => rfl
theorem rd_inS {x y : D} (h : ∃ (z : Str) (zs : List Str), x = .str z ∧ (y = .tup (zs.map D.str) ∨ LstOf M y (zs.map D.str)) ∧ Φ (.bl (decide (z ∈ zs))) M) : RD X.K (rIn X.K false) x y M Φ := fun Z v u H Q w r1 r2 k => by
  obtain ⟨z, zs, rfl, hy, h⟩ := h
  cases r1
  rcases hy with rfl | hy
  · obtain ⟨q, vs, rfl, hq, rs⟩ := r2.asTup
    rw [rs.strs] at hq
    exact ⟨q, _, rfl, .inr hq, rfl, flat_strs zs, by rw [inV_strs]; exact k.now w (.bl _) h⟩
  · obtain ⟨q, vs, rfl, hq, rs⟩ := r2.asLst w hy
    rw [rs.strs] at hq
    exact ⟨q, _, rfl, .inl hq, rfl, flat_strs zs, by rw [inV_strs]; exact k.now w (.bl _) h⟩
theorem we_inS (h : WE X ρ M a fun x M1 => WE X ρ M1 b fun y M2 => ∃ (z : Str) (zs : List Str), x = .str z ∧ (y = .tup (zs.map D.str) ∨ LstOf M2 y (zs.map D.str)) ∧ Φ (.bl (decide (z ∈ zs))) M2) (hm : behindInMarks .In b = false := by rfl) : WE X ρ M (.Compare a [.In] [b] pos) Φ :=
  we_cmp op_in_seq hm (h.imp fun _ _ h => h.imp fun _ _ h => rd_inS h)
/-- a written tuple of texts -/
theorem we_txts {e1 e2 : Str} {j1 j2 k1 : Nat} {q1 q2 : Pos} (h : Φ (.tup ([e1, e2].map D.str)) M) (hs : starEach [.Constant (.str e1) j1 q1, .Constant (.str e2) j2 q2] X.env = (false, eval (.Constant (.str e1) j1 q1) X.env) :: starEach [.Constant (.str e2) j2 q2] X.env := by rfl) (hs2 : starEach [.Constant (.str e2) j2 q2] X.env = (false, eval (.Constant (.str e2) j2 q2) X.env) :: starEach [] X.env := by rfl) :
    WE X ρ M (.Tuple [.Constant (.str e1) j1 q1, .Constant (.str e2) j2 q2] k1 pos) Φ :=
  we_tup (wa_cons (we_str (wa_cons (we_str (wa_nil ⟨by show 2 ≤ sizeLine; decide, h⟩)) hs2)) hs)
theorem we_powW (h : WE X ρ M a fun x M1 => WE X ρ M1 b fun y M2 => ∃ i j, x = .int i ∧ y = .int j ∧ (0 ≤ j ∧ (Builtin.Int.intBits i : Int) * j ≤ 2 ^ 27) ∧ Φ (.int (i ^ j.toNat)) M2) : WE X ρ M (.BinOp a .Pow b pos) Φ :=
  we_op (r := rI (fun i j => 0 ≤ j ∧ (Builtin.Int.intBits i : Int) * j ≤ 2 ^ 27) fun i j => .int (i ^ j.toNat)) (opI fun _ _ _ _ _ _ _ hc q => pow_int hc.1 hc.2 q) (h.imp fun _ _ h => h.imp fun _ _ h => rd_I h)
theorem we_startsAt {f : Expr} (h : WE X ρ M o fun d M1 => ∃ z, d = .str z ∧ WE X ρ M1 e fun y M2 => WE X ρ M2 f fun u M3 => ∃ s i, y = .str s ∧ u = .int i ∧ Φ (.bl (Txt.startswith3 z s i)) M3)
    (hbase : attributeBase o "startswith" X.env (eval o X.env) = eval o X.env := by rfl) (hline : (apos.endLine == pos.line) = true := by rfl)
    (hfew : ((backTo pos (starEach [e, f] X.env)).all (fun x => !x.1) && (backToKw pos (keywordEach [] X.env)).all (fun x => x.1.isSome) && decide ([e, f].length + ([] : List Keyword).length + (if ([] : List Keyword).isEmpty then 0 else 1) < 30)) = true := by rfl)
    (hs : starEach [e, f] X.env = (false, eval e X.env) :: starEach [f] X.env := by rfl) (hs2 : starEach [f] X.env = (false, eval f X.env) :: starEach [] X.env := by rfl) (hpl : (backTo pos (starEach [f] X.env)).any (·.1) = false := by rfl) : WE X ρ M (.Call (.Attribute o "startswith" apos) [e, f] [] pos) Φ := .mk fun σ H Q en w k => by
  refine eOf (pe_bm F.plainAttrs_str F.slot_str_startswith F.type_str_startswith mt_startswith3 pe_sem (pa_sem (es := [e, f])) hbase hfew hline hs hpl) (h.run σ H _ en w fun v d H1 M1 e1 w1 r1 hz => ?_)
  obtain ⟨z, rfl, hz⟩ := hz
  cases r1
  refine ⟨rfl, (wa_cons (ΦA := fun ds M3 => ∃ s i, ds = [.str s, .int i] ∧ Φ (.bl (Txt.startswith3 z s i)) M3) (hz.imp fun y M2 hy => wa_cons (hy.imp fun u M3 hu => wa_nil ?_) hs2) hs).run σ H1 _ (en.mono e1) w1 fun vs ds H2 M2 e2 w2 r2 hx => ?_⟩
  · obtain ⟨s, i, rfl, rfl, hu⟩ := hu
    exact ⟨s, i, rfl, hu⟩
  · obtain ⟨s, i, rfl, hx⟩ := hx
    obtain ⟨v1, v2, rfl, r3, r4⟩ := r2.two
    cases r3; cases r4
    exact ⟨z, s, i, rfl, rfl, (k.step (e1.trans e2)).now w2 (.bl _) hx⟩
variable {Ψ : DE}
theorem ws_par3 (i j l : Nat) {x y z : Str} {c : Expr} {px py pz pt pt2 : Pos} {kt k2 : Nat} (hN : X.N.Nodup) (h : WA X ρ M [a, b, c] fun ds M1 => ∃ d1 d2 d3, ds = [d1, d2, d3] ∧ Ψ.nx (((ρ.set i (some d1)).set j (some d2)).set l (some d3)) M1)
    (hi : X.N[i]? = some x := by rfl) (hj : X.N[j]? = some y := by rfl) (hl : X.N[l]? = some z := by rfl) (hij : i ≠ j := by decide) (hil : i ≠ l := by decide) (hjl : j ≠ l := by decide)
    (hx : X.env.scope.names.lookup x = some .local := by rfl) (hy : X.env.scope.names.lookup y = some .local := by rfl) (hz : X.env.scope.names.lookup z = some .local := by rfl)
    (hw : swappedStores [.Tuple [.Name x px, .Name y py, .Name z pz] kt pt] (.Tuple [a, b, c] k2 pt2) X.env = pure (some [x, y, z]) := by rfl) (hc : X.calm = true := by rfl)
    (hs : swapsWithSole [.Tuple [.Name x px, .Name y py, .Name z pz] kt pt] (.Tuple [a, b, c] k2 pt2) pos.line X.env = pure false := by rfl) : WS X ρ M (.Assign [.Tuple [.Name x px, .Name y py, .Name z pz] kt pt] (.Tuple [a, b, c] k2 pt2) pos) Ψ := .mk fun σ H E en w k =>
  sOf (ps_par3 hc hN hi hj hl hij hil hjl hx hy hz pa_sem hw hs) (h.run σ H _ en w fun vs ds H1 M1 e1 w1 r1 hq => by
    obtain ⟨d1, d2, d3, rfl, hq⟩ := hq
    obtain ⟨v1, v2, v3, rfl, q1, q2, q3⟩ := r1.three
    exact ⟨_, _, _, rfl, k.nx _ _ H1 M1 e1 w1 ((((en.mono e1).set q1 i).set q2 j).set q3 l) hq⟩)
theorem wg_fld {f : Str} {C : Addr} {d : D} {Ω : Rho → Mp → Prop} (h : WE X ρ M o fun x M1 => ∃ q fs, x = .ob q ∧ M1 q = some (.ins C fs) ∧ Cls X.K C ∧ NoAttr X.K C f ∧ fs.length < 1000 ∧ Ω ρ (mset M1 q (.ins C (putD f d fs)))) : WG X (.Attribute o f pos) d ρ M Ω := .mk fun {Z} σ H v Q en w r k => by
  intro pins s u I ru
  refine PySem.W.kas_attr (thn (h.run σ H (fun x H2 => ∃ q C' dx fs, x = .ref q ∧ H2 q = some (.ins C' dx fs) ∧ Cls X.K C' ∧ NoAttr X.K C' f ∧ fs.length < 1000 ∧ Q σ (upd H2 q (.ins C' dx (putF f v fs)))) en w (fun x dx H1 M1 e1 w1 r1 hz => ?_) pins s I) fun ov s2 ⟨y, H2, I2, ry, q2⟩ => ?_)
  · obtain ⟨q, fs, rfl, hM, cl, na, hl, hz⟩ := hz
    cases r1
    obtain ⟨dx, vs, ha, rf⟩ := w1.1 q _ hM
    have x3 : Ext M1 _ H1 (mset M1 q (.ins C (putD f d fs))) (upd H1 q (.ins C dx (putF f v vs))) := Ext.put w1 hM
    exact ⟨q, C, dx, vs, rfl, ha, cl, na, by rw [rf.length]; exact hl, k σ ρ _ _ (e1.trans x3) (w1.put hM ⟨dx, _, upd_same, (rf.mono x3).put (r.mono (e1.trans x3))⟩) (en.mono (e1.trans x3)) hz⟩
  · obtain ⟨q, C', dx, fs, rfl, ha, cl, na, hl, hq⟩ := q2
    cases ry
    exact setattr_ok I2 ha cl na hl ru fun s3 I3 => ⟨σ, _, I3, hq⟩
end
end DL
namespace DL
open PySem PySem.Spec PyProof.Rows L2
/-- the module's def x is the statement st; dvs: its defaults -/
structure Df (K : PySem.W.Frag) (mg : Str → Option Value) (x : Str) (st : Stmt) (dvs : List V) : Prop where
  ex : ∃ (f : Addr) (fd : FuncData), FunD K x x (defArgs st) (defBody st) (defScope st) dvs [] f fd ∧ mg x = some (.ref f)
section
variable {P : Program} {w : World} {K : PySem.W.Frag} {mg : Str → Option Value} {base : Heap} {x : Str} {st : Stmt} {N ps : List Str} {j k n : Nat} {c : Con} {dd : List D} {C : Addr} {m : Str}
theorem Fc.up (F : Fc P w K mg base x dd j n c) (h : j ≤ k) : Fc P w K mg base x dd k n c := by
  obtain ⟨f, fd, ps, dvs, ds, F, r⟩ := F.ex
  exact ⟨f, fd, ps, dvs, ds, F.mono h, r⟩
theorem Kc.up (F : Kc P w K mg base x C dd j n c) (h : j ≤ k) : Kc P w K mg base x C dd k n c := by
  obtain ⟨f, fd, ps, dvs, ds, G, r⟩ := F.ex
  exact ⟨F.at_, f, fd, ps, dvs, ds, G.mono h, r⟩
theorem Mc.up (F : Mc P w K mg base C m dd j n c) (h : j ≤ k) : Mc P w K mg base C m dd k n c := by
  obtain ⟨f, fd, ps, dvs, ds, G, r⟩ := F.ex
  exact ⟨F.cl, f, fd, ps, dvs, ds, G.mono h, r⟩
theorem Pc.up (F : Pc P w K mg base C m j c) (h : j ≤ k) : Pc P w K mg base C m k c := by
  obtain ⟨p, g, fd, ps, G, r⟩ := F.ex
  exact ⟨F.cl, p, g, fd, ps, G.mono h, r⟩
theorem Df.fc (D : Df K mg x st []) (S : FnScope N ps (defScope st))
    (hb : ∀ (kV doc pm : Value) (an : Option Addr) (cdv ct : Value) (us : List Value), us.length = ps.length → bindArgs (PySem.W.fnOf x x (defArgs st) (defBody st) (defScope st) .none kV doc pm an cdv ct) ⟨us, []⟩ = pure (ps.zip us))
    (h : BodyOk P w K mg base x st N ps.length k c) : Fc P w K mg base x [] (k + 1) ps.length c := by
  obtain ⟨f, fd, F, hm⟩ := D.ex
  exact ⟨f, fd, ps, [], [], fn_ok F S (h f), hm, F.kp, F.bindsN hb, .nil, fun _ _ _ => .nil⟩
/-- with defaults: n values are written, the defaults behind the first j fill up -/
theorem Df.fcD {dvs : List V} (D : Df K mg x st dvs) (S : FnScope N ps (defScope st)) (nn jj : Nat) (hd : dvs ≠ []) (hn : nn + (dvs.length - jj) = ps.length) (hr : ∀ M Z H, Reps K M Z H (dvs.drop jj) dd)
    (hb : ∀ (T : Addr) (kV doc pm : Value) (an : Option Addr) (cdv ct : Value) (us its : List Value), us.length = nn → its.length = dvs.length →
      ∃ k, bindArgs (PySem.W.fnOf x x (defArgs st) (defBody st) (defScope st) (.ref T) kV doc pm an cdv ct) ⟨us, []⟩ = seqItems? (.ref T) >>= k ∧ k (some its.toArray) = pure (ps.zip (us ++ its.drop jj)))
    (h : BodyOk P w K mg base x st N ps.length k c) : Fc P w K mg base x dd (k + 1) ps.length c := by
  obtain ⟨f, fd, F, hm⟩ := D.ex
  obtain ⟨ds, hv, hB⟩ := F.binds1 (ps := ps) nn jj hd hn hb
  exact ⟨f, fd, ps, dvs.drop jj, ds, fn_ok F S (h f), hm, F.kp, hB, hv, hr⟩
end
section
variable {P : Program} {w : World} {K : PySem.W.Frag} {mg : Str → Option Value} {base : Heap} {x qual : Str} {st : Stmt} {N ps : List Str} {j k n : Nat} {c : Con} {dd : List D} {C : Addr} {m : Str} {f p : Addr}
theorem Md.pc (D : Md K C m qual st f) (cl : Cls K C) (me : PropOf K C m p f) (S : FnScope N ["self"] (defScope st))
    (hb : ∀ (kV doc pm : Value) (an : Option Addr) (cdv ct : Value) (us : List Value), us.length = 1 → bindArgs (PySem.W.fnOf m qual (defArgs st) (defBody st) (defScope st) .none kV doc pm an cdv ct) ⟨us, []⟩ = pure ((["self"] : List Str).zip us))
    (h : BodyOk P w K mg base qual st N 1 k c) : Pc P w K mg base C m (k + 1) c := by
  obtain ⟨fd, F⟩ := D.ex
  exact ⟨cl, p, f, fd, ["self"], fn_ok F S (h f), me, F.bindsN hb⟩
theorem Md.kc (D : Md K C "__init__" qual st f) (hm : mg x = some (.ref C)) (me : Mk K C f) (S : FnScope N ps (defScope st))
    (hb : ∀ (kV doc pm : Value) (an : Option Addr) (cdv ct : Value) (us : List Value), us.length = ps.length → bindArgs (PySem.W.fnOf "__init__" qual (defArgs st) (defBody st) (defScope st) .none kV doc pm an cdv ct) ⟨us, []⟩ = pure (ps.zip us))
    (h : BodyOk P w K mg base qual st N ps.length k c) : Kc P w K mg base x C [] (k + 1) ps.length c := by
  obtain ⟨fd, F⟩ := D.ex
  exact ⟨hm, f, fd, ps, [], [], fn_ok F S (h f), me, F.bindsN hb, .nil, fun _ _ _ => .nil⟩
end
end DL
namespace DL
open PySem PySem.Spec PyProof.Rows L2
/-- d can be compared: it is p, k deep at most -/
structure CmpD (d : D) (p : PyData) (k : Nat) : Prop where
  eq : toPy d = some p
  lay : p.canLay0 = true
  dep : p.depth ≤ k
theorem CmpD.shaped {d : D} {p : PyData} {k : Nat} (h : CmpD d p k) (hk : k ≤ 64) : SeqAt.shaped p = true := by
  unfold SeqAt.shaped
  rw [h.lay, decide_eq_true (Nat.le_trans h.dep hk)]; rfl
theorem cmp_int (i : Int) : CmpD (.int i) (.int i) 0 := ⟨by simp [toPy], by simp [PyData.canLay0], by simp [PyData.depth]⟩
theorem cmp_bl (i : Bool) : CmpD (.bl i) (.bool i) 0 := ⟨by simp [toPy], by simp [PyData.canLay0], by simp [PyData.depth]⟩
theorem cmp_non : CmpD .non .none 0 := ⟨by simp [toPy], by simp [PyData.canLay0], by simp [PyData.depth]⟩
theorem cmp_str {x : Str} (h : ∀ c ∈ x.cps.toList, c < 0x110000) : CmpD (.str x) (.str x) 0 := ⟨by simp [toPy], by
  simp only [PyData.canLay0, PyData.strOk]
  rw [← Array.all_toList]
  exact List.all_eq_true.mpr fun c hc => decide_eq_true (h c hc), by simp [PyData.depth]⟩
theorem cmps_nil {k : Nat} : CmpDs [] [] k := ⟨by simp [toPys], by simp [PyData.canLayAll0], by simp [PyData.depthAll]⟩
theorem cmps_cons {d : D} {p : PyData} {ds : List D} {ps : List PyData} {k j : Nat} (h : CmpD d p j) (hj : j ≤ k) (t : CmpDs ds ps k) : CmpDs (d :: ds) (p :: ps) k := ⟨by
  simp only [toPys, h.eq, t.eq]; rfl, by simp only [PyData.canLayAll0, h.lay, t.lay]; rfl, by
  simp only [PyData.depthAll]; have := h.dep; have := t.dep; omega⟩
theorem cmps_map {α : Type} {f : α → D} {g : α → PyData} {k j : Nat} (hj : j ≤ k) : ∀ {xs : List α}, (∀ x ∈ xs, CmpD (f x) (g x) j) → CmpDs (xs.map f) (xs.map g) k
  | [], _ => cmps_nil
  | x :: xs, h => cmps_cons (h x List.mem_cons_self) hj (cmps_map hj fun y hy => h y (List.mem_cons_of_mem _ hy))
theorem cmp_lst {ds : List D} {ps : List PyData} {k : Nat} (h : CmpDs ds ps k) : CmpD (.lst ds) (.list ps) (k + 1) := ⟨by simp only [toPy, h.eq]; rfl, by simp only [PyData.canLay0, h.lay], by simp only [PyData.depth]; have := h.dep; omega⟩
theorem cmp_tup {ds : List D} {ps : List PyData} {k : Nat} (h : CmpDs ds ps k) : CmpD (.tup ds) (.tuple ps) (k + 1) := ⟨by simp only [toPy, h.eq]; rfl, by simp only [PyData.canLay0, h.lay], by simp only [PyData.depth]; have := h.dep; omega⟩
theorem eqv_nilL (ps : List PyData) : PyData.eqv (.list ps) (.list []) = ps.isEmpty := by
  cases ps <;> simp [PyData.eqv, PyData.eqvAll]
theorem eqv_nilT (ps : List PyData) : PyData.eqv (.tuple ps) (.tuple []) = ps.isEmpty := by
  cases ps <;> simp [PyData.eqv, PyData.eqvAll]
section
variable {X : Cx} {ρ : Rho} {M : Mp} {Φ : D → Mp → Prop} {Θ : Bool → Mp → Prop} {a b : Expr} {pos : Pos}
theorem shaped_nilL : SeqAt.shaped (.list []) = true := by decide +kernel
theorem shaped_nilT : SeqAt.shaped (.tuple []) = true := by decide +kernel
theorem isEmpty_len {α β : Type} {xs : List α} {ys : List β} (h : xs.length = ys.length) : xs.isEmpty = ys.isEmpty := by
  cases xs <;> cases ys <;> simp_all
/-- x != [] -/
theorem wt_neNil {lp : Pos} (hu : X.A.units + 64 < cLine) (h : WE X ρ M a fun x M1 => ∃ xs ps k, x = .lst xs ∧ CmpDs xs ps k ∧ k ≤ 60 ∧ Θ (!xs.isEmpty) M1) : WT X ρ M (.Compare a [.NotEq] [.List [] lp] pos) Θ :=
  wt_neD hu (h.imp fun x M1 ⟨xs, ps, k, e, c, hk, h⟩ => we_lst (wa_nil ⟨Nat.zero_le _, _, _, by rw [e]; exact (cmp_lst c).eq, by simp [toPy, toPys], (cmp_lst c).shaped (by omega), shaped_nilL, by rw [eqv_nilL, isEmpty_len c.length]; exact h⟩))
/-- x != () -/
theorem wt_neNilT {lp : Pos} {kk : Nat} (hu : X.A.units + 64 < cLine) (h : WE X ρ M a fun x M1 => ∃ xs ps k, x = .tup xs ∧ CmpDs xs ps k ∧ k ≤ 60 ∧ Θ (!xs.isEmpty) M1) : WT X ρ M (.Compare a [.NotEq] [.Tuple [] kk lp] pos) Θ :=
  wt_neD hu (h.imp fun x M1 ⟨xs, ps, k, e, c, hk, h⟩ => we_tup (wa_nil ⟨Nat.zero_le _, _, _, by rw [e]; exact (cmp_tup c).eq, by simp [toPy, toPys], (cmp_tup c).shaped (by omega), shaped_nilT, by rw [eqv_nilT, isEmpty_len c.length]; exact h⟩))
theorem wt_eqNilT {lp : Pos} {kk : Nat} (hu : X.A.units + 64 < cLine) (h : WE X ρ M a fun x M1 => ∃ xs ps k, x = .tup xs ∧ CmpDs xs ps k ∧ k ≤ 60 ∧ Θ (xs.isEmpty) M1) : WT X ρ M (.Compare a [.Eq] [.Tuple [] kk lp] pos) Θ :=
  wt_eqD hu (h.imp fun x M1 ⟨xs, ps, k, e, c, hk, h⟩ => we_tup (wa_nil ⟨Nat.zero_le _, _, _, by rw [e]; exact (cmp_tup c).eq, by simp [toPy, toPys], (cmp_tup c).shaped (by omega), shaped_nilT, by rw [eqv_nilT, isEmpty_len c.length]; exact h⟩))
end
end DL
namespace DL
open PySem PySem.Spec PyProof.Rows L2
section
variable {P : Program} {w : World} {K : PySem.W.Frag} {mg : Str → Option Value} {base : Heap} {x qual : Str} {st : Stmt} {kws : List (Str × V)} {f : Addr} {fd : FuncData} {N ps : List Str} {k n : Nat} {c : Con}
theorem FnG.mono {j : Nat} {sp : Sp} (F : FnG P w K mg base j f fd ps sp) (h : j ≤ k) : FnG P w K mg base k f fd ps sp := ⟨F.len, fun A outer s H args us vs Q E hg hr => F.run A outer s H args us vs Q E hg (hr.mono h)⟩
/-- a body keeps a contract where nothing is being shown -/
def BodyG (P : Program) (w : World) (K : PySem.W.Frag) (mg : Str → Option Value) (base : Heap) (qual : Str) (st : Stmt) (N : List Str) (n k : Nat) (c : Con) : Prop :=
  ∀ (f : Addr) (cdv : Value) (A : Around) (outer : List Env) (s : Shared) (H : Hp) (E : XK), (A.deeper (envOfC qual (defScope st) s.heap.objs.size f cdv)).guards = some [] → Room k (A.deeper (envOfC qual (defScope st) s.heap.objs.size f cdv)) → ∀ ds M Φ, ds.length = n → c ds M Φ →
      WSs (bx P w K mg base N qual (defScope st) f cdv A outer s H E) (start N ds) M (defBody st) { nx := fun _ M' => Φ .non M', rt := Lets Φ }
theorem fnG_ok {dvs : List V} (F : FunD K x qual (defArgs st) (defBody st) (defScope st) dvs kws f fd) (S : FnScope N ps (defScope st)) (h : BodyG P w K mg base qual st N ps.length k c) : FnG P w K mg base (k + 1) f fd ps (spD K ps.length c) := by
  obtain ⟨oc, od, dV, kV, doc, pm, an, cdv, ct, osl, rfl, lk, hcd, _, _⟩ := F.ex
  have ln : ∀ vs H Q E, spD K ps.length c vs H Q E → vs.length = ps.length := fun vs H Q E q => by
    obtain ⟨ds, M, Z, Φ, hl, r, _⟩ := q
    rw [r.length, hl]
  refine ⟨ln, fun A outer s H args us vs Q E hg hr e0 hb rv hsp => ?_⟩
  have hlen := ln _ _ _ _ hsp
  have hK : K.In s.heap := e0.mod.kin.keeps fun b o z => (e0.bs b o z).1
  have hlim : s.heap.NoLimit := e0.mod.nolimit.keeps fun b o z => (e0.bs b o z).1
  have kinds : ∀ y ∈ ps.zip us, (defScope st).names.lookup y.1 = some .local ∨ ((defScope st).names.lookup y.1 = some .cell ∧ ((cellsFrom (s.heap.objs.size + 1) (defScope st).names []).lookup y.1).isSome = true) := fun y hy => by
    rcases S.par y.1 (List.of_mem_zip hy).1 with z | z
    · exact .inl z
    · exact .inr ⟨z, PySem.W.cellsFrom_some _ _ _ (.inl z)⟩
  refine codeAny_call_function hr.depth (hK _ _ lk) rfl S.co S.gen rfl (PySem.W.codeRec_of hK hcd) (hb _ _ _ _ (wpAny_newFunctionEnv_cells S.kind kinds fun env he s1 xx => ?_))
  subst he
  refine ⟨hlim.keeps xx.toInCall.keep, codeAny_func ?_⟩
  obtain ⟨ds, M, Z, Φ, hl, r, wd, hc, kk⟩ := hsp
  have I : Inv (cxOf CX0 P w K mg base N qual (defScope st) f cdv A outer s H E) [] (L2.start N vs) H s1 := inv_start S hr.hd e0 hlen rv xx
  have body := (h f cdv A outer s H E hg (hr.deeper _) ds M Φ hl hc).run (L2.start N vs) H { nx := fun _ H' => Q .non H', rt := Q } (env_start r) wd ⟨fun σ' ρ' H' M' x w' en z => kk _ .non H' M' x w' .non z, lets_k kk, fun _ _ _ _ _ _ _ z => z.elim, fun _ _ _ _ _ _ _ z => z.elim⟩
  have done : ∀ {σ' : L2.St} {H' : Hp} {v : V} {u : Value} {s' : Shared}, Inv (cxOf CX0 P w K mg base N qual (defScope st) f cdv A outer s H E) [] σ' H' s' → RelV v u → Q v H' → CE outer P w H s Q u s' := fun {σ' H' v u s'} J ru q => ⟨v, H', J.os, J.bare, J.base, J.hok, ru, q⟩
  refine wpAny_mono ((PSs.nox (pss_sem (X := bx P w K mg base N qual (defScope st) f cdv A outer s H E))).run [] s1 (L2.start N vs) H _ I body) (fun fl s' hs => ?_) fun e s' hs => hs
  cases fl with
  | ret u => obtain ⟨v, σ', H', J, ru, q⟩ := hs; exact done J ru q
  | next => obtain ⟨σ', H', J, q⟩ := hs; exact done (v := V.non) (u := Value.none) J rfl q
  | brk => obtain ⟨_, _, _, q⟩ := hs; exact q.elim
  | cont => obtain ⟨_, _, _, q⟩ := hs; exact q.elim
/-- such a def under its name -/
structure Gc (P : Program) (w : World) (K : PySem.W.Frag) (mg : Str → Option Value) (base : Heap) (x : Str) (k n : Nat) (c : Con) : Prop where
  ex : ∃ (f : Addr) (fd : FuncData) (ps : List Str), FnG P w K mg base k f fd ps (spD K n c) ∧ mg x = some (.ref f) ∧ PySem.W.keepIn K (.ref f) = true ∧ Binds K fd ps []
theorem Df.gc (D : Df K mg x st []) (S : FnScope N ps (defScope st))
    (hb : ∀ (kV doc pm : Value) (an : Option Addr) (cdv ct : Value) (us : List Value), us.length = ps.length → bindArgs (PySem.W.fnOf x x (defArgs st) (defBody st) (defScope st) .none kV doc pm an cdv ct) ⟨us, []⟩ = pure (ps.zip us))
    (h : BodyG P w K mg base x st N ps.length k c) : Gc P w K mg base x (k + 1) ps.length c := by
  obtain ⟨f, fd, F, hm⟩ := D.ex
  exact ⟨f, fd, ps, fnG_ok F S h, hm, F.kp, F.bindsN hb⟩
end
section
variable {X : Cx} {ρ : Rho} {M : Mp} {Φ : D → Mp → Prop} {e : Expr} {es : List Expr} {pos p : Pos} {x : Str} {k n : Nat} {c : Con}
theorem we_callG (F : Gc X.prog X.w X.K X.mg X.base x k n c) (hg0 : X.A.guards = some []) (hr : Room k X.A) (h : WA X ρ M (e :: es) fun ds M1 => ds.length = n ∧ c ds M1 Φ) (hg : Gl X x := by rfl)
    (hdb : (x == ("__debug__" : Str)) = false := by decide) (he : starEach (e :: es) X.env = (false, eval e X.env) :: starEach es X.env := by rfl) (hpl : (backTo pos (starEach es X.env)).any (·.1) = false := by rfl) : WE X ρ M (.Call (.Name x p) (e :: es) [] pos) Φ := .mk fun {Z} σ H Q en w k => by
  obtain ⟨f, fd, ps, F, hm, hk, hb⟩ := F.ex
  intro pins s I
  refine wpAny_Call_Name_kw (ld_glob I hg hm ?_ hdb)
  refine PySem.W.callWith_K (h₀ := X.base) I.ok.mod.kin hk (thn ((pa_sem (es := e :: es)).run pos pins s σ H (fun vs H1 => spD X.K n c vs H1 Q E0) I (h.run σ H _ en w fun vs ds H1 M1 e1 w1 r1 hz => ⟨ds, M1, Z, Φ, hz.1, r1, w1, hz.2, k.step e1⟩)) fun us s1 z => ⟨?_, ?_⟩) he hpl
  · obtain ⟨vs, H1, I1, r, q⟩ := z; exact I1.kIn
  · obtain ⟨vs, H1, I1, r, q⟩ := z
    have hl : (us ++ ([] : List Value)).length = ps.length := by rw [List.append_nil, ← r.length]; exact F.len _ _ _ _ q
    have bt := hb s1 us I1.kIn hl
    rw [List.append_nil] at bt
    refine wpAny_call (codeAny_mono (F.run X.A X.stack s1 H1 ⟨us, []⟩ us vs Q E0 hg0 hr I1.env0 bt r q) fun res s' hq => ?_)
    cases res with
    | error er => exact hq.elim
    | ok fl =>
      cases fl with
      | ret u => exact I1.after hq
      | next => exact hq.elim
      | brk => exact hq.elim
      | cont => exact hq.elim
end
end DL
namespace DL
open PySem PySem.Spec PyProof.Rows L2
theorem lawG {P : Program} {w : World} {K : PySem.W.Frag} {mg mb : Str → Option Value} {k : Nat} {fa a : Addr} {fd : FuncData} {x : Str} {sp : Sp} {s : Shared} {vs : List Value} {ns : List Int}
    (KX : K.In s.heap) (gn : s.heap.Ns mainGlobals mg) (bn : s.heap.Ns builtinsNs mb) (bb : ∀ x : Str, x ≠ "__name__" → mb x = bootBuiltins x) (lim : s.heap.NoLimit) (hg : s.gens = #[])
    (ha : s.heap.get? a = some { cls := .type "list", data := .seq vs.toArray }) (hi : IntsAre vs ns) (hl : ns.length ≤ sizeLine) (hr : Room k callerA)
    (F : ∀ base : Heap, K.In base → base.Ns mainGlobals mg → FnG P w K mg base k fa fd [x] sp) (bind_ : ∀ (s : Shared) (u : Value), BindsTo s fd ⟨[u], []⟩ [(x, u)])
    (hsp : ∀ H : Hp, Only H → SqL K H a (ns.map V.int) → sp [.ref a] H (fun v _ => v = .bl true) fun _ _ _ => False) :
    codeAny (model P w) callerA (.call (.ref fa) ⟨[.ref a], []⟩) (fun r s' => r = .ok (.ret (.bool true)) ∧ OldK s.heap s'.heap ∧ s'.os = s.os ∧ AllBare s'.gens) s := by
  have rv := vals_ints hi
  have lenV := hi.length
  have main : ∀ H : Hp, Only H → SqL K H a (ns.map V.int) → HOk P w H s.heap → (∀ b, H b ≠ none → b = a) → (H a ≠ none → K.lookup a = none) →
      codeAny (model P w) callerA (.call (.ref fa) ⟨[.ref a], []⟩) (fun r s' => r = .ok (.ret (.bool true)) ∧ OldK s.heap s'.heap ∧ s'.os = s.os ∧ AllBare s'.gens) s := fun H o1 o2 hok at_ hK => by
    have keep0 : ∀ {b : Addr} {o : Obj}, s.heap.get? b = some o → H b = none → (hidT s.heap H).get? b = some o := fun z y => hidT_get z y
    have noD : ∀ {b : Addr} {o : Obj} {es : Array DictEntry} {ep : Nat}, s.heap.get? b = some o → o.data = .dict es ep → H b = none := fun {b o es ep} z d => by
      cases q : H b with
      | none => rfl
      | some u =>
        have eb : b = a := at_ b (by rw [q]; simp)
        rw [eb, ha] at z
        cases z
        cases (show Data.seq vs.toArray _ = Data.dict es ep from d)
    have nsK : ∀ {b : Addr} {m : Str → Option Value}, s.heap.Ns b m → (hidT s.heap H).Ns b m := fun {b m} z => by
      obtain ⟨o, es, ep, y, d, r⟩ := z
      exact ⟨o, es, ep, keep0 y (noD y d), d, r⟩
    have inB : K.In (hidT s.heap H) := fun b o z => keep0 (KX b o z) (by
      cases q : H b with
      | none => rfl
      | some u =>
        have eb : b = a := at_ b (by rw [q]; simp)
        rw [eb, hK (by rw [← eb, q]; simp)] at z
        cases z)
    have hM : Mod K mg (hidT s.heap H) := ⟨inB, nsK gn, ⟨mb, nsK bn, bb⟩, by obtain ⟨mc, h1, h2⟩ := lim; exact ⟨mc, nsK h1, h2⟩⟩
    have e0 : Env0 P w K mg (hidT s.heap H) callerA [] s H := ⟨rfl, hM, fun b o z => of_hidT z, Nat.le_of_eq (hidT_size _ _), trivial, fun b hb => absurd (show b ∈ ([] : List Addr) from hb) (by simp), hok, .of_eq hg⟩
    refine codeAny_mono ((F _ inB (nsK gn)).run callerA [] s H ⟨[.ref a], []⟩ [.ref a] [.ref a] _ _ rfl hr e0 (bind_ s (.ref a)) (.cons rfl .nil) (hsp H o1 o2)) fun r s' h => ?_
    cases r with
    | error e => exact False.elim h
    | ok fl =>
      cases fl with
      | ret u =>
        obtain ⟨v, H', os, bare, un, hok', r', q⟩ := h
        obtain rfl : v = .bl true := q
        obtain rfl : u = Value.bool true := r'
        refine ⟨rfl, OldK.of_keep fun b o z => ?_, os, bare⟩
        cases q : H b with
        | none => exact un.keep b o z q (fun y => absurd (show b ∈ ([] : List Addr) from y) (by simp)) (by simp)
        | some u =>
          rcases o1 b with y | ⟨ob, xs, y⟩
          · rw [q] at y; cases y
          · have y2 := un.frzs b ob _ y
            have y3 := (hok b _ y).1
            have y4 := (hok' b _ y2).1
            rw [z] at y3; cases y3
            exact y4
      | _ => exact False.elim h
  cases hk : K.lookup a with
  | some o =>
    have z := KX a o hk
    rw [ha] at z
    cases z
    exact main (fun _ => none) (fun _ => .inl rfl) (.inr ⟨_, vs.toArray, _, hk, rfl, rfl, rfl, by rw [List.size_toArray, lenV]; exact hl, by simpa using rv⟩) (fun b u z => by cases (show (none : Option HO) = some u from z)) (fun b z => absurd rfl z) fun z => absurd rfl z
  | none =>
    refine main (fun b => if b = a then some (.frz { cls := .type "list", data := .seq vs.toArray } (.lst (ns.map V.int))) else none) (fun b => ?_) (.inl (.inr ⟨_, if_pos rfl⟩)) (fun b u z => ?_) (fun b z => ?_) fun _ => hk
    · by_cases hb : b = a
      · exact .inr ⟨_, _, if_pos hb⟩
      · exact .inl (if_neg hb)
    · by_cases hb : b = a
      · cases (if_pos hb).symm.trans z
        subst hb
        exact ⟨ha, by rw [List.length_map]; exact hl, vs, _, rv, ha⟩
      · cases (if_neg hb).symm.trans z
    · by_cases hb : b = a
      · exact hb
      · exact absurd (if_neg hb) z
theorem walk_ofG {l : PySem.W.OpenLaw} {n k : Nat} {q : Program} {loose : List Str} {XP : (Str → Option Value) → Heap → Prop} {YP : World → Heap → Prop} {d : DefRec} {x : Str}
    (hn : l.most = some n) (hn2 : n ≤ sizeLine) (hdf : d.params.defaults = []) (hr : Room k callerA)
    (F : ∀ (w : World) (mg : Str → Option Value) (fa : Addr) (h : Heap), YP w h → h.Ns mainGlobals mg → mg d.name = some (.ref fa) →
      ∃ (K : PySem.W.Frag) (fd : FuncData) (sp : Sp), K.In h ∧ (∀ (s : Shared) (u : Value), BindsTo s fd ⟨[u], []⟩ [(x, u)]) ∧
        (∀ (H : Hp) (a : Addr) (ns : List Int), ns.length ≤ n → Only H → SqL K H a (ns.map V.int) → sp [.ref a] H (fun v _ => v = .bl true) fun _ _ _ => False) ∧
        ∀ base : Heap, K.In base → base.Ns mainGlobals mg → FnG l.prog w K mg base k fa fd [x] sp) :
    PySem.W.WalkO q loose XP YP l.row.toRowW d [] (fun f vs => PySem.call f vs) := by
  refine Att.attach_call hn hdf fun w s0 s1 mg mb fa o pm cd doc a vs ns G Y ho hd hcd hmg hobj hints hlen hg => ?_
  obtain ⟨K, fd, sp, KX, hb, hsp, hF⟩ := F w mg fa _ Y G.T.g hmg
  exact lawG KX G.T.g G.T.b G.T.builtins G.T.nolimit hg hobj hints (Nat.le_trans hlen hn2) hr hF hb fun H hO hS => hsp H a ns hlen hO hS
end DL
namespace DL
open PySem PySem.Spec PyProof.Rows L2
section
variable {X : Cx} {ρ : Rho} {M : Mp} {Φ : D → Mp → Prop} {e : Expr} {pos p : Pos}
theorem cr_reprD (hg : X.A.guards = some []) (hu : X.A.units + 64 < cLine) : CallR X (.builtin "repr") (fun xs H Q => ∃ v q, xs = [v] ∧ Dp X.K H v q ∧ q.showable = true ∧ q.canLay0 = true ∧ q.depth ≤ 60 ∧ q.shown.length ≤ sizeLine ∧ Q (.str q.shown) H) := by
  intro pins s σ H xs us Q I r h
  obtain ⟨v, q, rfl, hd, hs, hc, hk, hz, h⟩ := h
  obtain ⟨u, rfl, ru⟩ := vals1 r
  obtain ⟨as, rd⟩ := Dp.reads I q v u hd ru
  have fin : ∀ (h' : Heap) (tk : Nat) (t : Tok), (∀ b o, s.heap.get? b = some o → h'.get? b = some o) → EP X pins σ Q (.str q.shown t) { s with heap := h', toks := tk } := fun h' tk t kp => ⟨.str q.shown, H, I.kept kp, ⟨t, rfl⟩, h⟩
  have same : ∀ (tk : Nat) (t : Tok), EP X pins σ Q (.str q.shown t) { s with toks := tk } := fun tk t => ⟨.str q.shown, H, I.tok tk, ⟨t, rfl⟩, h⟩
  have big : ∀ a, u = .ref a → wpAny (model X.prog X.w) X.A (call (.builtin "repr") [u]) (EP X pins σ Q) X.xe s := fun a ea => by
    subst ea
    exact repr_of_reads' rd hs (fun z => by rw [PyData.hasDict_of_canLay q hc] at z; cases z) hg (by omega) (fun _ _ z => z) (fun h' t tk kp => fin h' tk t kp) hz
  cases hd with
  | non => cases ru; exact PySem.P.repr_of_none (by simp only [PyData.shown] at same; exact same _ _)
  | bl b => cases ru; exact PySem.P.repr_of_bool (by simp only [PyData.shown] at same; exact same _ _)
  | int i =>
    obtain ⟨t, rfl⟩ := ru
    simp only [PyData.showable, decide_eq_true_eq] at hs
    exact PySem.P.repr_of_int hs (by simp only [PyData.shown] at same; exact same _ _)
  | str x =>
    obtain ⟨t, rfl⟩ := ru
    simp only [PyData.shown] at hz
    exact PySem.P.repr_of_str (by simp only [PyData.shown] at same; exact same _ _) hz
  | lst h1 h2 => cases ru; exact big _ rfl
  | tup h1 h2 => cases ru; exact big _ rfl
end
end DL
namespace DL
open PySem PySem.Spec PyProof.Rows L2
def lexI : List Int → List Int → Bool
  | [], [] => false
  | [], _ :: _ => true
  | _ :: _, [] => false
  | p :: ns, q :: ms => if p = q then lexI ns ms else decide (p < q)
theorem lexI_asym : ∀ {x y : List Int}, lexI x y = true → lexI y x = false
  | [], [], h => by cases h
  | [], _ :: _, _ => rfl
  | _ :: _, [], h => by cases h
  | p :: x, q :: y, h => by
    rw [lexI] at h ⊢
    by_cases e : p = q
    · subst e
      rw [if_pos rfl] at h ⊢
      exact lexI_asym h
    · rw [if_neg e] at h
      rw [if_neg (fun z => e z.symm)]
      have := of_decide_eq_true h
      exact decide_eq_false (by omega)
theorem lexI_tr : ∀ {x y z : List Int}, lexI y x = false → lexI z y = false → lexI z x = false
  | [], y, z, h1, h2 => by
    cases z with
    | nil => rfl
    | cons r z => rfl
  | p :: x, [], z, h1, h2 => by cases h1
  | p :: x, q :: y, [], h1, h2 => by cases h2
  | p :: x, q :: y, r :: z, h1, h2 => by
    rw [lexI] at h1 h2 ⊢
    by_cases e1 : q = p
    · subst e1
      rw [if_pos rfl] at h1
      by_cases e2 : r = q
      · subst e2
        rw [if_pos rfl] at h2 ⊢
        exact lexI_tr h1 h2
      · rw [if_neg e2] at h2 ⊢; exact h2
    · rw [if_neg e1] at h1
      have a1 := of_decide_eq_false h1
      by_cases e2 : r = q
      · subst e2
        rw [if_neg e1]; exact h1
      · rw [if_neg e2] at h2
        have a2 := of_decide_eq_false h2
        rw [if_neg (by omega)]
        exact decide_eq_false (by omega)
theorem swoI (k : Value → List Int) : SrtO.Swo fun v u => lexI (k v) (k u) := ⟨fun _ _ h => lexI_asym h, fun _ _ _ h1 h2 => lexI_tr h1 h2⟩
section
variable {prog : Program} {w : World} {A : Around} {E : Value → Shared → Prop} {s : Shared}
theorem lexN {b fin : Bool} {Q : Bool → Shared → Prop} : ∀ {xs ys : List Value} {ns ms : List Int} (i : Nat), IntsAre xs ns → IntsAre ys ms → fin = decide (ns.length < ms.length) → Q (lexI ns ms) s → PySem.W.KatLex prog w A b fin Q (xs.zip ys) i s
  | _, _, _, _, i, .nil, .nil, hf, h => by rw [hf]; exact PySem.W.kat_nil h
  | _, _, _, _, i, .nil, .cons q u hy, hf, h => by rw [hf]; exact PySem.W.kat_nil (by simpa [lexI] using h)
  | _, _, _, _, i, .cons p t hx, .nil, hf, h => by rw [hf]; exact PySem.W.kat_nil (by simpa [lexI] using h)
  | _, _, _, _, i, .cons (ns := ns) (vs := xs) p t hx, .cons (ns := ms) (vs := ys) q u hy, hf, h => by
    show PySem.W.KatLex prog w A b fin Q ((Value.int p t, Value.int q u) :: xs.zip ys) i s
    refine PySem.W.kat_cons (wpAny_eqBool_int ?_)
    rw [lexI] at h
    by_cases e : p = q
    · subst e
      rw [beq_self_eq_true]
      rw [if_pos rfl] at h
      exact PySem.W.kat_yes (lexN (i + 1) hx hy (by rw [hf]; exact decide_eq_decide.mpr (by simp)) h)
    · rw [show (p == q) = false from beq_eq_false_iff_ne.mpr e]
      rw [if_neg e] at h
      exact PySem.W.kat_no (TS.oneLt_ints _ h)
/-- the first ints -/
theorem firstsN {h : Heap} : ∀ vs : List Value, (∀ v ∈ vs, ∃ ns, TS.TupInts h v ns ∧ ns ≠ []) → ∃ fs, PySem.W.KatTups h vs fs ∧ fs.length = vs.length ∧ ∀ f, f ∈ fs → ∃ n t, f = Value.int n t
  | [], _ => ⟨[], PySem.W.KatTups.nil, rfl, fun f hf => by simp at hf⟩
  | v :: vs, x => by
    obtain ⟨fs, k, l, hi⟩ := firstsN vs fun u hu => x u (List.mem_cons_of_mem _ hu)
    obtain ⟨ns, ⟨a, xs, rfl, ⟨o, ho, hc, n, hdt⟩, ii⟩, hn⟩ := x v (List.mem_cons_self ..)
    cases e : xs.toList with
    | nil => rw [e] at ii; cases ii; exact absurd rfl hn
    | cons y ys =>
      obtain ⟨m, t, hy⟩ := ii.all y (by rw [e]; exact List.mem_cons_self ..)
      refine ⟨y :: fs, PySem.W.KatTups.cons ho hc hdt (by have z := congrArg (fun l : List Value => l[0]?) e; simpa using z) k, by simp [l], fun f hf => ?_⟩
      rcases List.mem_cons.mp hf with rfl | hf
      · exact ⟨m, t, hy⟩
      · exact hi f hf
theorem tupsSortable {a : Addr} {vs : List Value} {k : Value → List Int} (h0 : 0 < vs.length) (hp : ∀ v ∈ vs, TS.TupInts s.heap v (k v) ∧ k v ≠ []) (ha : ∀ o, s.heap.get? a = some o → o.cls ≠ .type "tuple") : SrtO.SortableO prog w A s a vs fun v u => lexI (k v) (k u) := by
  intro h' keep
  have hp' : ∀ v ∈ vs, TS.TupInts h' v (k v) := fun v hm => (hp v hm).1.keeps fun b o e c => keep b o (fun z => by subst z; exact ha o e c) e
  obtain ⟨fs, h1, h2, h3⟩ := firstsN (h := h') vs fun v hv => ⟨_, hp' v hv, (hp v hv).2⟩
  refine ⟨tuples' true, fun Q E hq => ?_, fun p q hm hm' => ?_⟩
  · refine PySem.W.kat_kind (T := .type "int") h1 (by omega) (fun f hm => ?_) (by rfl) ?_
    · obtain ⟨x, t, rfl⟩ := h3 f hm
      exact PySem.W.Looks.now
    · have e : (Value.type "int" != Value.type "tuple") = true := by first | decide +kernel | rfl | decide
      rw [e]
      exact hq
  · obtain ⟨a1, xs, e1, ⟨o1, ho1, hc1, n1, hd1⟩, i1⟩ := hp' _ hm
    obtain ⟨a2, ys, e2, ⟨o2, ho2, hc2, n2, hd2⟩, i2⟩ := hp' _ hm'
    show wpAny (model prog w) A (keyLt' (tuples' true) p.1 q.1) (fun r s' => s' = { s with heap := h' } ∧ r = lexI (k p.1) (k q.1)) (fun _ _ => False) { s with heap := h' }
    generalize k p.1 = np at i1 ⊢
    generalize k q.1 = nq at i2 ⊢
    rw [e1, e2]
    refine PySem.W.kat_lt ho1 hd1 ho2 hd2 (lexN 0 i1 i2 ?_ ⟨rfl, rfl⟩)
    have l1 := i1.length
    have l2 := i2.length
    rw [Array.length_toList] at l1 l2
    rw [l1, l2]
end
end DL
namespace DL
open PySem PySem.Spec PyProof.Rows L2
section
variable {X : Cx} {ρ : Rho} {M : Mp} {Φ : D → Mp → Prop} {e : Expr} {pos p : Pos}
def TupsV (K : PySem.W.Frag) (H : Hp) : List V → List (List Int) → Prop := Paired fun x ns => ∃ t, x = V.ref t ∧ SqT K H t (ns.map V.int)
theorem TupsV.raw {pins : List (Addr × Obj)} {σ : L2.St} {H : Hp} {s : Shared} (I : Inv X pins σ H s) : ∀ {xs : List V} {ps : List (List Int)} {us : List Value}, TupsV X.K H xs ps → Vals xs us → us.map (TS.intsOf s.heap) = ps ∧ ∀ u ∈ us, TS.TupInts s.heap u (TS.intsOf s.heap u)
  | _, _, _, .nil, .nil => ⟨rfl, fun u hu => by simp at hu⟩
  | _, _, _, .cons h t, .cons r v => by
    obtain ⟨a, rfl, hq⟩ := h
    cases r
    obtain ⟨h1, h2⟩ := TupsV.raw I t v
    have q := tupI_raw I hq
    refine ⟨by rw [List.map_cons, q.ints, h1], fun u hu => ?_⟩
    rcases List.mem_cons.mp hu with rfl | hu
    · rw [q.ints]; exact q
    · exact h2 u hu
theorem cr_sortedAsc : CallR X (.builtin "sorted") (fun vs H Q => ∃ (a : Addr) (xs : List V) (ps : List (List Int)), vs = [V.ref a] ∧ SqL X.K H a xs ∧ TupsV X.K H xs ps ∧ (2 ≤ xs.length → ∀ n ∈ ps, n ≠ []) ∧ ps.Pairwise (fun x y => lexI y x = false) ∧ ∀ p, H p = none → Q (.ref p) (upd H p (.lst xs))) := by
  intro pins s σ H vs us Q I r h
  obtain ⟨a, xs, ps, rfl, hs, ht, hne, hp, q⟩ := h
  rw [Vals.ref1 r]
  obtain ⟨its, rv, hl, hz⟩ := I.list hs
  obtain ⟨h1, h2⟩ := TupsV.raw I ht rv
  have lenI : xs.length = its.length := rv.length
  have hz2 : its.length ≤ sizeLine := by rw [← lenI]; exact hz
  refine SrtO.sorted_ord (swoI (TS.intsOf s.heap)) hl.isList hz2 (fun h2l hp1 a1 ha1 kk => ?_) fun out o1 o2 => ?_
  · refine tupsSortable (s := { s with heap := hp1 }) (by omega) (fun v hv => ⟨(h2 v hv).keeps fun b o z _ => (kk b o z).2, ?_⟩) fun o z => ?_
    · exact hne (by omega) _ (by rw [← h1]; exact List.mem_map_of_mem hv)
    · have z' := z.symm.trans ha1
      cases z'
      intro c
      exact absurd (Value.type.inj c) (by decide)
  · have srt : SrtO.Srtd (fun v u => lexI (TS.intsOf s.heap v) (TS.intsOf s.heap u)) its := by
      rw [← h1] at hp
      exact List.pairwise_map.mp hp
    have eo : out = its := SrtO.stb_uniq (swoI _) o1 srt o2
    subst eo
    obtain ⟨n, hn⟩ := sortedAll_at s.heap out out.toArray
    exact ⟨.ref _, upd H (s.heap.objs.size + 1) (.lst xs), I.laid (t' := s.toks) (fun b o z => sortedAll_old z) (Nat.le_succ _) ⟨hz, out, n, rv, hn⟩, rfl, q _ (I.hok.fresh (Nat.le_succ _))⟩
theorem Reps.tups {K : PySem.W.Frag} {M : Mp} {Z : Zn} {H : Hp} : ∀ {vs : List V} {ps : List (List Int)}, Reps K M Z H vs (ps.map fun q => .tup (q.map D.int)) → TupsV K H vs ps
  | _, [], .nil => .nil
  | _, q :: ps, .cons r t => by
    obtain ⟨a, us, rfl, hq, rs⟩ := r.asTup
    rw [rs.ints] at hq
    exact .cons ⟨a, rfl, hq⟩ (Reps.tups t)
theorem we_sortedAsc (hm : X.mg "sorted" = none) (h : WE X ρ M e fun d M1 => ∃ ps : List (List Int), LstOf M1 d (ps.map fun q => D.tup (q.map D.int)) ∧ (2 ≤ ps.length → ∀ n ∈ ps, n ≠ []) ∧ ps.Pairwise (fun x y => lexI y x = false) ∧ Φ (.lst (ps.map fun q => D.tup (q.map D.int))) M1) (hg : Gl X "sorted" := by rfl)
    (he : starEach [e] X.env = (false, eval e X.env) :: starEach [] X.env := by rfl) (hpl : (backTo pos (starEach [] X.env)).any (·.1) = false := by rfl) : WE X ρ M (.Call (.Name "sorted" p) [e] [] pos) Φ :=
  we_callB cr_sortedAsc hm (by decide +kernel) (wa_cons (h.imp fun d M1 h => wa_nil fun Z vs H Q w rr k => by
    obtain ⟨v, rfl, r⟩ := rr.one
    obtain ⟨ps, hl, h1, h2, h⟩ := h
    obtain ⟨q, us, rfl, hq, rs⟩ := r.asLst w hl
    refine ⟨q, us, ps, rfl, hq, rs.tups, fun z => h1 (by rw [rs.length, List.length_map] at z; exact z), h2, fun l hp => k.new w hp (.lst upd_same (w.fresh hp) (rs.mono (Ext.new w hp))) h⟩) he) hg (he := he) (hpl := hpl)
end
end DL
namespace DL
open PySem PySem.Spec PyProof.Rows L2 SX
/-- shown, at most b signs -/
structure ShD (p : PyData) (b : Nat) : Prop where
  ok : p.showable = true
  le : p.shown.length ≤ b
end DL
namespace DL
open PySem PySem.Spec PyProof.Rows L2
def keyD : Key → D
  | .inl i => .int i
  | .inr x => .str x
section
variable {X : Cx} {ρ : Rho} {M : Mp} {Φ : D → Mp → Prop} {Θ : Bool → Mp → Prop} {a b e o i : Expr} {es : List Expr} {pos p : Pos}
def putT (kvs : List (List Key × D)) (k : List Key) (d : D) : List (List Key × D) := if (kvs.any fun kv => decide (kv.1 = k)) = true then kvs.map (fun kv => if kv.1 = k then (kv.1, d) else kv) else kvs ++ [(k, d)]
theorem RepT.snoc {K : PySem.W.Frag} {M : Mp} {Z : Zn} {H : Hp} {k : List Key} {v : V} {d : D} (r : Rep K M Z H v d) : ∀ {vs : List (List Key × V)} {ds : List (List Key × D)}, RepT K M Z H vs ds → RepT K M Z H (vs ++ [(k, v)]) (ds ++ [(k, d)])
  | _, _, .nil => .cons r .nil
  | _, _, .cons r1 t => .cons r1 (RepT.snoc r t)
theorem RepT.repl {K : PySem.W.Frag} {M : Mp} {Z : Zn} {H : Hp} {k : List Key} {v : V} {d : D} (r : Rep K M Z H v d) : ∀ {vs : List (List Key × V)} {ds : List (List Key × D)}, RepT K M Z H vs ds → RepT K M Z H (vs.map fun kv => if kv.1 = k then (kv.1, v) else kv) (ds.map fun kv => if kv.1 = k then (kv.1, d) else kv)
  | _, _, .nil => .nil
  | _, _, .cons (k := j) r1 t => by
    rw [List.map_cons, List.map_cons]
    by_cases e : j = k
    · simp only [if_pos e]; exact .cons r (RepT.repl r t)
    · simp only [if_neg e]; exact .cons r1 (RepT.repl r t)
theorem RepT.put {K : PySem.W.Frag} {M : Mp} {Z : Zn} {H : Hp} {k : List Key} {v : V} {d : D} {vs : List (List Key × V)} {ds : List (List Key × D)} (r : Rep K M Z H v d) (t : RepT K M Z H vs ds) : RepT K M Z H (putK vs k v) (putT ds k d) := by
  unfold putK putT
  rw [t.any]
  split
  · exact t.repl r
  · exact t.snoc r
theorem rd_inD {x y : D} (h : ∃ p q, toPy x = some p ∧ toPy y = some (.list q) ∧ SeqAt.shaped p = true ∧ SeqAt.shaped (.list q) = true ∧ Φ (.bl (q.any fun z => PyData.eqv z p)) M) : RD X.K (rInD X.K) x y M Φ := fun Z v u H Q w r1 r2 k => by
  obtain ⟨p, q, e1, e2, s1, s2, h⟩ := h
  exact ⟨p, q, r1.dp e1, r2.dp e2, s1, s2, k.now w (.bl _) h⟩
end
end DL
namespace DL
open PySem PySem.Spec PyProof.Rows L2 SlX
/-- what __init__ of five slots does: the i-th value goes to the slot js[i] -/
def spF (C : Addr) (out : List Int → List Int) : Sp := fun vs H Q E => ∃ (a dx : Addr) (ns : List Int), vs = .ref a :: ns.map V.int ∧ ns.length = 5 ∧ H a = some (.ins C dx []) ∧ dx ≠ a ∧ Q .non (slH H a C dx ((out ns).map fun i => some (V.int i)))
/-- C(..), C such a class -/
structure Gk (P : Program) (w : World) (K : PySem.W.Frag) (mg : Str → Option Value) (base : Heap) (x : Str) (C : Addr) (k : Nat) (dd : List Int) (out : List Int → List Int) : Prop where
  at_ : mg x = some (.ref C)
  ex : ∃ (f : Addr) (fd : FuncData) (ps : List Str) (ds : List Value), FnOk P w K mg base CX0 k f fd ps (spF C out) ∧ Mk K C f ∧ Binds K fd ps ds ∧ Vals (dd.map V.int) ds
end DL
namespace HK
open PySem PySem.Spec PyProof.Rows L2 DL He
theorem propB_ok {K : PySem.W.Frag} {C m : Str} (h : propB K (C, m) = true) : PropOf K (ga K C) m (ma K (ga K C) m) (pgA C m K) := by
  obtain ⟨h1, h2⟩ := Bool.and_eq_true_iff.mp h
  obtain ⟨h3, h4⟩ := Bool.and_eq_true_iff.mp h2
  obtain ⟨h5, h6⟩ := Bool.and_eq_true_iff.mp h4
  refine ⟨eqO_ok h1, eqO_ok h3, of_decide_eq_true h5, ?_⟩
  unfold pgA
  cases q : PySem.W.recIn K (ma K (ga K C) m) "property" with
  | none => rw [q] at h6; cases h6
  | some l =>
    rw [q] at h6
    cases l with
    | nil => cases h6
    | cons v r =>
      cases v with
      | ref g => exact ⟨r, rfl⟩
      | _ => cases h6
def KiT (K : PySem.W.Frag) (C : Addr) : Prop := PySem.W.kitOne K (.ref C) (.type "tuple") = some false ∧ PySem.W.kitOne K (.ref C) (.type "int") = some false ∧ PySem.W.kitOne K (.ref C) (.type "str") = some false ∧ PySem.W.kitOne K (.type "NoneType") (.ref C) = some false
theorem kiT_ok {K : PySem.W.Frag} {x : Str} (h : kiT K x = true) : KiT K (ga K x) := by
  obtain ⟨h1, h⟩ := Bool.and_eq_true_iff.mp h
  obtain ⟨h2, h⟩ := Bool.and_eq_true_iff.mp h
  obtain ⟨h3, h⟩ := Bool.and_eq_true_iff.mp h
  exact ⟨of_decide_eq_true h1, of_decide_eq_true h2, of_decide_eq_true h3, of_decide_eq_true h⟩
theorem eqB_ok {K : PySem.W.Frag} {x : Str} (h : eqB K x = true) : KiT K (ga K x) ∧ OwnC K (ga K x) ∧ PySem.W.findIn K (.ref (ga K x)) "__ne__" = some (some (.builtin "object.__ne__")) := by
  obtain ⟨h0, h⟩ := Bool.and_eq_true_iff.mp h
  obtain ⟨h1, h⟩ := Bool.and_eq_true_iff.mp h
  obtain ⟨h2, h⟩ := Bool.and_eq_true_iff.mp h
  obtain ⟨h3, h⟩ := Bool.and_eq_true_iff.mp h
  obtain ⟨h4, h⟩ := Bool.and_eq_true_iff.mp h
  obtain ⟨h5, h⟩ := Bool.and_eq_true_iff.mp h
  exact ⟨kiT_ok h0, ⟨cls_ok h1, eqO_ok h2, eqO_ok h3, of_decide_eq_true h4, of_decide_eq_true h5⟩, eqO_ok h⟩
theorem obsG_eq {n : Nat} {ns : List Str} {S : Sp} {g : Addr → Option Obj} {s : Shared} (h : ∀ a, g a = s.heap.get? a) : obsG n ns S g = (hook n ns S).obs s := by
  have e : g = s.heap.get? := funext h
  rw [e] <;> rfl
section
variable {S : Sp} {w : World} {K : PySem.W.Frag}
theorem Says.eqs (c : Says S w K) {x : Str} (h : x ∈ S.eq) : KiT K (ga K x) ∧ OwnC K (ga K x) ∧ PySem.W.findIn K (.ref (ga K x)) "__ne__" = some (some (.builtin "object.__ne__")) := by
  have b := Bool.and_eq_true_iff.mp (Bool.and_eq_true_iff.mp (Bool.and_eq_true_iff.mp (congrArg (fun z : Al => z.1) c)).2).2
  exact eqB_ok (List.all_eq_true.mp (Bool.and_eq_true_iff.mp (Bool.and_eq_true_iff.mp b.2).2).2 _ h)
end
end HK
namespace PL
open PySem SX TL
def opn (s : Bool) : Nat := if s then 123 else 91
def sgn (s : Bool) : Nat := if s then 42 else 43
def sep (s : Bool) : List Nat := [32, sgn s, 32]
mutual
def txt : T → List Nat
  | .one => [49]
  | .name x => x
  | .cop s n t => opn s :: (numL n ++ 32 :: (txt t ++ [cls s]))
  | .row s ts => 40 :: (joinL (sep s) (txts ts) ++ [41])
def txts : List T → List (List Nat)
  | [] => []
  | t :: ts => txt t :: txts ts
end
theorem txts_map : ∀ ts : List T, txts ts = ts.map txt
  | [] => rfl
  | t :: ts => by rw [txts, txts_map ts, List.map_cons]
def letter (c : Nat) : Bool := decide (97 ≤ c) && decide (c ≤ 122)
mutual
/-- a plan as the texts allow it -/
def Good : T → Prop
  | .one => True
  | .name x => x ≠ [] ∧ x.length ≤ 8 ∧ ∀ c ∈ x, letter c = true
  | .cop _ n t => 2 ≤ n ∧ n ≤ 10 ^ 30 ∧ Good t
  | .row _ ts => 2 ≤ ts.length ∧ Goods ts
def Goods : List T → Prop
  | [] => True
  | t :: ts => Good t ∧ Goods ts
end
theorem goods_all : ∀ {ts : List T}, Goods ts ↔ ∀ t ∈ ts, Good t
  | [] => by simp [Goods]
  | t :: ts => by simp [Goods, goods_all (ts := ts)]
mutual
/-- nobody is unknown -/
def Told : T → Prop
  | .one => True
  | .name _ => False
  | .cop _ _ t => Told t
  | .row _ ts => Tolds ts
def Tolds : List T → Prop
  | [] => True
  | t :: ts => Told t ∧ Tolds ts
end
theorem tolds_all : ∀ {ts : List T}, Tolds ts ↔ ∀ t ∈ ts, Told t
  | [] => by simp [Tolds]
  | t :: ts => by simp [Tolds, tolds_all (ts := ts)]
theorem hts_le : ∀ {ts : List T} {t : T}, t ∈ ts → ht t ≤ hts ts
  | u :: ts, t, h => by
    rcases List.mem_cons.mp h with rfl | h
    · exact Nat.le_max_left _ _
    · exact Nat.le_trans (hts_le h) (Nat.le_max_right _ _)
theorem dep_app : ∀ p q : List Nat, dep (p ++ q) = dep p + dep q
  | [], q => by simp [dep]
  | c :: p, q => by rw [List.cons_append, dep, dep, dep_app p q]; omega
/-- no bracket is closed too much -/
def nn (d : Int) : List Nat → Prop
  | [] => True
  | c :: r => 0 ≤ d + wgt c ∧ nn (d + wgt c) r
theorem nn_app : ∀ (d : Int) (p q : List Nat), nn d p → nn (d + dep p) q → nn d (p ++ q)
  | d, [], q, _, h => by simpa [dep] using h
  | d, c :: p, q, h1, h2 => ⟨h1.1, nn_app _ p q h1.2 (by rw [dep] at h2; rw [show d + wgt c + dep p = d + (wgt c + dep p) by omega]; exact h2)⟩
/-- .. and no blank stands outside of brackets -/
def qu (d : Int) : List Nat → Prop
  | [] => True
  | c :: r => 0 ≤ d + wgt c ∧ (d + wgt c ≠ 0 ∨ c ≠ 32) ∧ qu (d + wgt c) r
theorem qu_app : ∀ (d : Int) (p q : List Nat), qu d p → qu (d + dep p) q → qu d (p ++ q)
  | d, [], q, _, h => by simpa [dep] using h
  | d, c :: p, q, h1, h2 => ⟨h1.1, h1.2.1, qu_app _ p q h1.2.2 (by rw [dep] at h2; rw [show d + wgt c + dep p = d + (wgt c + dep p) by omega]; exact h2)⟩
theorem qu_nn : ∀ (d : Int) (p : List Nat), qu d p → nn d p
  | _, [], _ => trivial
  | d, c :: p, h => ⟨h.1, qu_nn _ p h.2.2⟩
theorem nn_qu : ∀ (d : Int) (p : List Nat), nn d p → qu (d + 1) p
  | _, [], _ => trivial
  | d, c :: p, h => ⟨by have := h.1; omega, .inl (by have := h.1; omega), by have := nn_qu _ p h.2; rw [show d + 1 + wgt c = d + wgt c + 1 by omega]; exact this⟩
theorem wgt0 {c : Nat} (h : c ≠ 40 ∧ c ≠ 91 ∧ c ≠ 123 ∧ c ≠ 41 ∧ c ≠ 93 ∧ c ≠ 125) : wgt c = 0 := by
  unfold wgt
  rw [if_neg (by omega), if_neg (by omega)]; rfl
theorem plain_dep : ∀ {p : List Nat}, (∀ c ∈ p, wgt c = 0) → dep p = 0
  | [], _ => rfl
  | c :: p, h => by rw [dep, h c List.mem_cons_self, plain_dep fun x hx => h x (List.mem_cons_of_mem _ hx)]; rfl
theorem plain_nn : ∀ {d : Int} {p : List Nat}, 0 ≤ d → (∀ c ∈ p, wgt c = 0) → nn d p
  | _, [], _, _ => trivial
  | d, c :: p, h0, h => by
    have e := h c List.mem_cons_self
    refine ⟨by rw [e]; omega, ?_⟩
    rw [e, Int.add_zero]
    exact plain_nn h0 fun x hx => h x (List.mem_cons_of_mem _ hx)
theorem plain_qu : ∀ {d : Int} {p : List Nat}, 0 ≤ d → (∀ c ∈ p, wgt c = 0 ∧ c ≠ 32) → qu d p
  | _, [], _, _ => trivial
  | d, c :: p, h0, h => by
    obtain ⟨e, e2⟩ := h c List.mem_cons_self
    refine ⟨by rw [e]; omega, .inr e2, ?_⟩
    rw [e, Int.add_zero]
    exact plain_qu h0 fun x hx => h x (List.mem_cons_of_mem _ hx)
/-- o p c, brackets around -/
theorem around_ok {o c : Nat} {p : List Nat} (ho : wgt o = 1 ∧ o ≠ 32) (hc : wgt c = -1 ∧ c ≠ 32) (hp : nn 0 p) (hd : dep p = 0) : dep (o :: (p ++ [c])) = 0 ∧ qu 0 (o :: (p ++ [c])) := by
  have e1 : dep (p ++ [c]) = -1 := by rw [dep_app, hd, dep, dep, hc.1]; rfl
  refine ⟨by rw [dep, ho.1, e1]; rfl, by rw [ho.1]; decide, .inr ho.2, ?_⟩
  rw [ho.1]
  refine qu_app _ _ _ (nn_qu 0 p hp) ⟨?_, .inr hc.2, trivial⟩
  rw [hd, hc.1]; decide
theorem wgt_opn (s : Bool) : wgt (opn s) = 1 ∧ opn s ≠ 32 := by cases s <;> decide
theorem wgt_cls (s : Bool) : wgt (cls s) = -1 ∧ cls s ≠ 32 := by cases s <;> decide
theorem wgt_num {n c : Nat} (h : c ∈ numL n) : wgt c = 0 ∧ c ≠ 32 := by
  have q := numL_digits n c h
  exact ⟨wgt0 (by omega), by omega⟩
theorem wgt_letter {c : Nat} (h : letter c = true) : wgt c = 0 ∧ c ≠ 32 := by
  simp [letter] at h
  exact ⟨wgt0 (by omega), by omega⟩
theorem sep_ok (s : Bool) : dep (sep s) = 0 ∧ nn 0 (sep s) := by cases s <;> (unfold nn dep sep sgn; simp [wgt, nn, dep])
theorem join_ok (s : Bool) : ∀ {ps : List (List Nat)}, (∀ p ∈ ps, dep p = 0 ∧ nn 0 p) → dep (joinL (sep s) ps) = 0 ∧ nn 0 (joinL (sep s) ps)
  | [], _ => ⟨rfl, trivial⟩
  | [p], h => h p List.mem_cons_self
  | p :: q :: r, h => by
    obtain ⟨h1, h2⟩ := h p List.mem_cons_self
    obtain ⟨i1, i2⟩ := join_ok s (ps := q :: r) fun x hx => h x (List.mem_cons_of_mem _ hx)
    obtain ⟨s1, s2⟩ := sep_ok s
    refine ⟨?_, ?_⟩
    · rw [joinL, dep_app, dep_app, h1, s1, i1]; rfl
    · rw [joinL]
      refine nn_app _ _ _ h2 ?_
      rw [h1]
      refine nn_app _ _ _ s2 ?_
      rw [s1]; exact i2
mutual
theorem txt_ok : ∀ {t : T}, Good t → dep (txt t) = 0 ∧ qu 0 (txt t)
  | .one, _ => by simp [txt, dep, qu, wgt]
  | .name x, h => by
    obtain ⟨h0, h1, h2⟩ := h
    rw [txt]
    exact ⟨plain_dep fun c hc => (wgt_letter (h2 c hc)).1, plain_qu (by decide) fun c hc => wgt_letter (h2 c hc)⟩
  | .cop s n t, h => by
    obtain ⟨h1, h2, h3⟩ := h
    obtain ⟨e1, e2⟩ := txt_ok h3
    rw [txt, show numL n ++ 32 :: (txt t ++ [cls s]) = (numL n ++ 32 :: txt t) ++ [cls s] by simp]
    have d0 : dep (numL n) = 0 := plain_dep fun c hc => (wgt_num hc).1
    refine around_ok (wgt_opn s) (wgt_cls s) (nn_app _ _ _ (plain_nn (by decide) fun c hc => (wgt_num hc).1) ?_) ?_
    · rw [d0]
      exact ⟨by decide, qu_nn _ _ e2⟩
    · rw [dep_app, d0, dep, e1]; decide
  | .row s ts, h => by
    rw [txt]
    obtain ⟨j1, j2⟩ := join_ok s (ps := txts ts) fun p hp => by
      obtain ⟨q1, q2⟩ := txts_ok h.2 p hp
      exact ⟨q1, qu_nn _ _ q2⟩
    exact around_ok (by decide) (by decide) j2 j1
theorem txts_ok : ∀ {ts : List T}, Goods ts → ∀ p ∈ txts ts, dep p = 0 ∧ qu 0 p
  | [], _, p, hp => by simp [txts] at hp
  | t :: ts, h, p, hp => by
    rw [txts] at hp
    rcases List.mem_cons.mp hp with rfl | hp
    · exact txt_ok h.1
    · exact txts_ok h.2 p hp
end
/-- the first sign -/
theorem txt_head {t : T} (h : Good t) : ∃ c r, txt t = c :: r ∧ c ≠ 32 ∧ c ≠ 43 ∧ c ≠ 42 := by
  cases t with
  | one => exact ⟨49, [], by rw [txt], by decide, by decide, by decide⟩
  | name x =>
    obtain ⟨h0, h1, h2⟩ := h
    cases x with
    | nil => exact absurd rfl h0
    | cons c r =>
      have q := h2 c List.mem_cons_self
      simp [letter] at q
      exact ⟨c, r, by rw [txt], by omega, by omega, by omega⟩
  | cop s n t => exact ⟨opn s, _, by rw [txt], by cases s <;> decide, by cases s <;> decide, by cases s <;> decide⟩
  | row s ts => exact ⟨40, _, by rw [txt], by decide, by decide, by decide⟩
theorem G_qu {L : List Nat} (s : Nat) (S : List Nat) (hs : s = 32) : ∀ (p R : List Nat) (i : Nat) (d : Int) (b : Nat) (f : List (List Nat)), qu d p → G L (s :: S) (p ++ R) i d b f = G L (s :: S) R (i + p.length) (d + dep p) b f
  | [], R, i, d, b, f, _ => by simp [dep]
  | c :: p, R, i, d, b, f, h => by
    obtain ⟨h1, h2, h3⟩ := h
    rw [List.cons_append, G, if_neg, G_qu s S hs p R _ _ b f h3, dep, List.length_cons]
    · congr 1 <;> omega
    · rintro ⟨z, y⟩
      rcases h2 with h2 | h2
      · exact h2 z
      · rw [pre_of_head _ _ (by rw [hs]; exact h2)] at y
        cases y
theorem sep_len (s : Bool) : (sep s).length = 3 := rfl
theorem pre_other {x y z : Nat} {r : List Nat} (s : Bool) (h : y ≠ sgn s) : pre (sep s) (x :: y :: r) = false := by
  cases e : pre (sep s) (x :: y :: r) with
  | false => rfl
  | true =>
    unfold pre sep at e
    simp at e
    exact absurd e.2.1 h
/-- the sign itself: one more part -/
theorem G_sep {L : List Nat} (s : Bool) {c : Nat} {R : List Nat} (i b : Nat) (f : List (List Nat)) (hc : c ≠ 43 ∧ c ≠ 42) : G L (sep s) (sep s ++ (c :: R)) i 0 b f = G L (sep s) (c :: R) (i + 3) 0 (i + 3) (f ++ [(L.take i).drop b]) := by
  have w1 : wgt 32 = 0 := by decide
  have w2 : wgt (sgn s) = 0 := by cases s <;> decide
  show G L (sep s) (32 :: sgn s :: 32 :: c :: R) i 0 b f = _
  rw [G, if_pos ⟨by rw [w1]; rfl, by rw [show 32 :: sgn s :: 32 :: c :: R = sep s ++ (c :: R) from rfl]; exact pre_self _ _⟩]
  rw [G, if_neg (by rintro ⟨_, y⟩; rw [show sep s = 32 :: [sgn s, 32] from rfl, pre_of_head _ _ (by cases s <;> decide)] at y; cases y)]
  rw [G, if_neg (by rintro ⟨_, y⟩; rw [pre_other (z := 0) s (by cases s <;> simp [sgn, hc.1, hc.2])] at y; cases y)]
  rw [w1, w2]; rfl
/-- another sign: nothing -/
theorem G_no {L : List Nat} (s : Bool) {c : Nat} {R : List Nat} (i b : Nat) (f : List (List Nat)) (hc : c ≠ 43 ∧ c ≠ 42) : G L (sep s) (sep (!s) ++ (c :: R)) i 0 b f = G L (sep s) (c :: R) (i + 3) 0 b f := by
  have w1 : wgt 32 = 0 := by decide
  have w2 : wgt (sgn (!s)) = 0 := by cases s <;> decide
  show G L (sep s) (32 :: sgn (!s) :: 32 :: c :: R) i 0 b f = _
  rw [G, if_neg (by rintro ⟨_, y⟩; rw [pre_other (z := 0) s (by cases s <;> decide)] at y; cases y)]
  rw [G, if_neg (by rintro ⟨_, y⟩; rw [show sep s = 32 :: [sgn s, 32] from rfl, pre_of_head _ _ (by cases s <;> decide)] at y; cases y)]
  rw [G, if_neg (by rintro ⟨_, y⟩; rw [pre_other (z := 0) s (by cases s <;> simp [sgn, hc.1, hc.2])] at y; cases y)]
  rw [w1, w2]; rfl
theorem join_head {s : Bool} : ∀ {t : T} {ts : List T}, Good t → ∃ c r, joinL (sep s) (txts (t :: ts)) = c :: r ∧ c ≠ 43 ∧ c ≠ 42
  | t, [], h => by
    obtain ⟨c, r, e, h1, h2, h3⟩ := txt_head h
    exact ⟨c, r, by rw [txts, txts, joinL, e], h2, h3⟩
  | t, u :: ts, h => by
    obtain ⟨c, r, e, h1, h2, h3⟩ := txt_head h
    exact ⟨c, _, by rw [txts, txts, joinL, e, List.cons_append], h2, h3⟩
theorem G_join {s : Bool} : ∀ {ts : List T} {L P : List Nat} (f : List (List Nat)), ts ≠ [] → Goods ts → L = P ++ joinL (sep s) (txts ts) → G L (sep s) (joinL (sep s) (txts ts)) P.length 0 P.length f = f ++ txts ts
  | [], _, _, _, h, _, _ => absurd rfl h
  | [t], L, P, f, _, h, e => by
    obtain ⟨d0, q0⟩ := txt_ok h.1
    rw [txts, txts, joinL] at e ⊢
    have := G_qu (L := L) 32 [sgn s, 32] rfl (txt t) [] P.length 0 P.length f q0
    rw [List.append_nil] at this
    rw [show sep s = 32 :: [sgn s, 32] from rfl, this, G, e, List.drop_left]
  | t :: u :: ts, L, P, f, _, h, e => by
    obtain ⟨d0, q0⟩ := txt_ok h.1
    obtain ⟨c, R, ej, c1, c2⟩ := join_head (s := s) (ts := ts) h.2.1
    have e1 : joinL (sep s) (txts (t :: u :: ts)) = txt t ++ (sep s ++ joinL (sep s) (txts (u :: ts))) := by rw [txts, txts, joinL]
    rw [e1] at e ⊢
    rw [show G L (sep s) = G L (32 :: [sgn s, 32]) from rfl, G_qu 32 [sgn s, 32] rfl _ _ _ _ _ _ q0, d0, ej]
    show G L (sep s) (sep s ++ (c :: R)) (P.length + (txt t).length) (0 + 0) P.length f = _
    rw [show (0 : Int) + 0 = 0 from rfl, G_sep s _ _ _ ⟨c1, c2⟩]
    have e2 : (L.take (P.length + (txt t).length)).drop P.length = txt t := by
      rw [e, ← List.length_append, ← List.append_assoc, List.take_left, List.drop_left]
    have ih := G_join (s := s) (ts := u :: ts) (L := L) (P := P ++ txt t ++ sep s) (f ++ [txt t]) (by simp) h.2 (by rw [e]; simp)
    rw [ej] at ih
    rw [e2]
    have el : (P ++ txt t ++ sep s).length = P.length + (txt t).length + 3 := by simp [sep_len]; omega
    rw [el] at ih
    rw [ih, show txts (t :: u :: ts) = txt t :: txts (u :: ts) by rw [txts]]
    simp
theorem G_none {s : Bool} : ∀ {ts : List T} {L : List Nat} (i b : Nat) (f : List (List Nat)), ts ≠ [] → Goods ts → G L (sep s) (joinL (sep (!s)) (txts ts)) i 0 b f = f ++ [L.drop b]
  | [], _, _, _, _, h, _ => absurd rfl h
  | [t], L, i, b, f, _, h => by
    obtain ⟨d0, q0⟩ := txt_ok h.1
    rw [txts, txts, joinL]
    have := G_qu (L := L) 32 [sgn s, 32] rfl (txt t) [] i 0 b f q0
    rw [List.append_nil] at this
    rw [show sep s = 32 :: [sgn s, 32] from rfl, this, G]
  | t :: u :: ts, L, i, b, f, _, h => by
    obtain ⟨d0, q0⟩ := txt_ok h.1
    obtain ⟨c, R, ej, c1, c2⟩ := join_head (s := !s) (ts := ts) h.2.1
    have e1 : joinL (sep (!s)) (txts (t :: u :: ts)) = txt t ++ (sep (!s) ++ joinL (sep (!s)) (txts (u :: ts))) := by rw [txts, txts, joinL]
    rw [e1, show G L (sep s) = G L (32 :: [sgn s, 32]) from rfl, G_qu 32 [sgn s, 32] rfl _ _ _ _ _ _ q0, d0, ej]
    show G L (sep s) (sep (!s) ++ (c :: R)) (i + (txt t).length) (0 + 0) b f = _
    rw [show (0 : Int) + 0 = 0 from rfl, G_no s _ _ _ ⟨c1, c2⟩, ← ej]
    exact G_none _ _ _ (by simp) h.2
/-- what parted tells -/
def parts (L S : List Nat) : List (List Nat) := G L S L 0 0 0 []
theorem parts_join {s : Bool} {ts : List T} (h0 : ts ≠ []) (h : Goods ts) : parts (joinL (sep s) (txts ts)) (sep s) = txts ts := G_join (P := []) [] h0 h rfl
theorem parts_none {s : Bool} {ts : List T} (h0 : ts ≠ []) (h : Goods ts) : parts (joinL (sep (!s)) (txts ts)) (sep s) = [joinL (sep (!s)) (txts ts)] := G_none 0 0 [] h0 h
theorem numL_head : ∀ {n : Nat}, 1 ≤ n → ∃ c r, numL n = c :: r ∧ c ≠ 48 := by
  intro n
  induction n using Nat.strongRecOn with
  | _ n ih =>
    intro h
    by_cases hn : n < 10
    · exact ⟨48 + n, [], numL_lt hn, by omega⟩
    · obtain ⟨c, r, e, hc⟩ := ih (n / 10) (by omega) (by omega)
      exact ⟨c, r ++ [48 + n % 10], by rw [numL_step (by omega), e, List.cons_append], hc⟩
end PL
namespace W
open PySem PySem.Spec PyProof.Rows L2 DL SX PL
abbrev tS (l : List Nat) : D := .str (S l)
def signsD : List (Str × D) := [("beside", .str " + "), ("introduced", .str " * ")]
def aroundD : List (Str × D) := [("beside", .tup [.str "[", .str "]"]), ("introduced", .tup [.str "{", .str "}"])]
def turnedD : List (Str × D) := [("+", .str "*"), ("*", .str "+"), ("[", .str "{"), ("{", .str "["), ("]", .str "}"), ("}", .str "]")]
/-- what is known of the module behind the top -/
structure Fx (w : World) (K : PySem.W.Frag) (mg : Str → Option Value) : Prop where
  bn : ∀ x, x ∈ bns → mg x = none
  gONE : ∃ t, mg "ONE" = some (.str "one" t)
  gNAME : ∃ t, mg "NAME" = some (.str "name" t)
  gBESIDE : ∃ t, mg "BESIDE" = some (.str "beside" t)
  gINTRODUCED : ∃ t, mg "INTRODUCED" = some (.str "introduced" t)
  gBLANK : ∃ t, mg "BLANK" = some (.str " " t)
  gLETTERS : ∃ t, mg "LETTERS" = some (.str "abcdefghijklmnopqrstuvwxyz" t)
  gFIGURES : ∃ t, mg "FIGURES" = some (.str "0123456789" t)
  gMOST_LETTERS : ∃ t, mg "MOST_LETTERS" = some (.int 8 t)
  gPERSON : ∃ t, mg "PERSON" = some (.str "1" t)
  gLEAST_MANY : ∃ t, mg "LEAST_MANY" = some (.int 2 t)
  gMOST_MANY : ∃ t, mg "MOST_MANY" = some (.int (10 ^ 30) t)
  gMOST_NAMES : ∃ t, mg "MOST_NAMES" = some (.int 3 t)
  gMOST_DEPTH : ∃ t, mg "MOST_DEPTH" = some (.int 60 t)
  gSIGNS : ∃ a kvs, mg "SIGNS" = some (.ref a) ∧ WrD K w a kvs ∧ ∀ M Z H, RepF K M Z H kvs signsD
  gAROUND : ∃ a kvs, mg "AROUND" = some (.ref a) ∧ WrD K w a kvs ∧ ∀ M Z H, RepF K M Z H kvs aroundD
  gTURNED : ∃ a kvs, mg "TURNED" = some (.ref a) ∧ WrD K w a kvs ∧ ∀ M Z H, RepF K M Z H kvs turnedD
section
variable {P : Program} {w : World} {K : PySem.W.Frag} {mg : Str → Option Value} {base : Heap}
def cIsInt : Con := fun ds M Φ => ∃ i l h, ds = [.int i, .int l, .int h] ∧ Φ (.bl (decide (l ≤ i) && decide (i ≤ h))) M
theorem ok_is_integer (F : Fx w K mg) : BodyOk P w K mg base "is_integer" s_is_integer ["value", "low", "high"] 3 0 cIsInt := by
  intro f cdv A outer s H E hr ds M Φ hl hc
  obtain ⟨i, l, h, rfl, hc⟩ := hc
  refine wss_cons (ws_if (wt_ww (ww_or (wt_not (wt_val (we_isi (F.bn _ (by decide +kernel)) (we_var 0 rfl (we_bty (F.bn _ (by decide +kernel)) rfl ⟨_, _, true, rfl, rfl, (by intro C h; cases h), rfl, _, rfl, ?_⟩))))))))
  refine ww_or1 (wt_val (we_isi (F.bn _ (by decide +kernel)) (we_var 0 rfl (we_bty (F.bn _ (by decide +kernel)) rfl ⟨_, _, false, rfl, rfl, (by intro C h; cases h), rfl, _, rfl, ?_⟩))))
  refine wss_nil (wss_cons (ws_ret (we_and (we_or (we_isN (we_var 1 rfl ⟨_, rfl, we_one (we_leI (we_var 1 rfl (we_var 0 rfl ⟨_, _, rfl, rfl, _, rfl, ?_⟩)))⟩))))))
  refine ite_dec (fun h1 => ?_) fun h1 => ?_
  · refine we_one (we_or (we_isN (we_var 2 rfl ⟨_, rfl, we_one (we_leI (we_var 0 rfl (we_var 2 rfl ⟨_, _, rfl, rfl, Lets.of ?_⟩)))⟩)))
    rw [decide_eq_true h1] at hc; exact hc
  · rw [decide_eq_false h1] at hc; exact Lets.of hc
def isNameL (l : List Nat) : Bool := decide (1 ≤ l.length) && (decide (l.length ≤ 8) && l.all letter)
theorem letters_eq : ("abcdefghijklmnopqrstuvwxyz" : Str) = S ((List.range 26).map (97 + ·)) := by decide +kernel
theorem figures_eq : ("0123456789" : Str) = S ((List.range 10).map (48 + ·)) := by decide +kernel
theorem mem_letters (c : Nat) : decide (c ∈ ("abcdefghijklmnopqrstuvwxyz" : Str).cps.toList) = letter c := by
  rw [letters_eq]
  unfold letter
  rw [← Bool.decide_and]
  apply decide_eq_decide.mpr
  show c ∈ (List.range 26).map (97 + ·) ↔ _
  simp only [List.mem_map, List.mem_range]
  constructor
  · rintro ⟨a, h, rfl⟩; omega
  · rintro ⟨h1, h2⟩; exact ⟨c - 97, by omega, by omega⟩
def figure (c : Nat) : Bool := decide (48 ≤ c) && decide (c ≤ 57)
theorem mem_figures (c : Nat) : decide (c ∈ ("0123456789" : Str).cps.toList) = figure c := by
  rw [figures_eq]
  unfold figure
  rw [← Bool.decide_and]
  apply decide_eq_decide.mpr
  show c ∈ (List.range 10).map (48 + ·) ↔ _
  simp only [List.mem_map, List.mem_range]
  constructor
  · rintro ⟨a, h, rfl⟩; omega
  · rintro ⟨h1, h2⟩; exact ⟨c - 48, by omega, by omega⟩
theorem signs_S (l : List Nat) : DL.signs (S l) = l.map fun c => D.str ⟨#[c]⟩ := rfl
theorem signs_get {l : List Nat} {i : Nat} {x : D} (h : (DL.signs (S l))[i]? = some x) : ∃ c, l[i]? = some c ∧ x = .str ⟨#[c]⟩ := by
  rw [signs_S, List.getElem?_map] at h
  obtain ⟨c, h1, rfl⟩ := Option.map_eq_some_iff.mp h
  exact ⟨c, h1, rfl⟩
theorem take_snoc {α : Type} {l : List α} {i : Nat} {c : α} (h : l[i]? = some c) : l.take (i + 1) = l.take i ++ [c] := by
  rw [List.take_add_one, h]; rfl
def cIsName : Con := fun ds M Φ => ∃ l, ds = [tS l] ∧ l.length ≤ 1000000 ∧ Φ (.bl (isNameL l)) M
theorem ok_is_name (F : Fx w K mg) : BodyOk P w K mg base "is_name" s_is_name ["value", "letter"] 1 0 cIsName := by
  intro f cdv A outer s H E hr ds M Φ hl hc
  obtain ⟨l, rfl, hl, hc⟩ := hc
  have nd : (["value", "letter"] : List Str).Nodup := by decide +kernel
  refine wss_cons (ws_if (wt_ww (ww_or (wt_not (wt_val (we_isi (F.bn _ (by decide +kernel)) (we_var 0 rfl (we_bty (F.bn _ (by decide +kernel)) rfl ⟨_, _, true, rfl, rfl, (by intro C h; cases h), rfl, _, rfl, ?_⟩))))))))
  refine ww_or1 (wt_not (wt_chainI (we_int (we_len (F.bn _ (by decide +kernel)) (we_var 0 rfl ⟨_, lenS (by rw [S_len, sizeLine_eq]; omega), _, _, rfl, rfl, ?_⟩)))))
  have e0 : ((S l).length : Int) = (l.length : Int) := by rw [S_len]
  have ret : ∀ c, isNameL l = c → Φ (.bl c) M := fun c e => e ▸ hc
  refine ite_dec (fun h1 => we_gint F.gMOST_LETTERS ⟨_, rfl, ?_⟩) fun h1 => ?_
  · by_cases h2 : ((S l).length : Int) ≤ 8
    · rw [decide_eq_true h2]
      refine wss_nil (wss_cons (ws_ret (we_all (F.bn _ (by decide +kernel)) (we_lc nd (blkOk_by (N := ["value", "letter"]) (sc := defScope s_is_name) (own := [("letter", 1)]) (by decide +kernel)) (fun _ _ _ _ _ => pg_name (i := 1) nd rfl (Or.inl rfl)) (gt_name (by decide)) (fun _ _ _ _ _ => pts_nil) tk_nil
        (wi_str (we_var 0 rfl ⟨_, rfl, ?_⟩))))))
      refine ⟨by rw [signs_S, List.length_map, sizeLine_eq]; omega, fun i acc M' => M' = M ∧ acc = (l.take i).map fun c => .bl (letter c), ⟨rfl, rfl⟩, ?_, ?_⟩
      · rintro i x acc M' hx ⟨rfl, rfl⟩ 
        obtain ⟨c, hc1, rfl⟩ := signs_get hx
        intro s1 H1 C cl fp
        refine we_inC (we_var 1 rfl (we_gstr F.gLETTERS ⟨c, _, rfl, rfl, rfl, ?_⟩))
        rw [mem_letters, take_snoc hc1, List.map_append]; rfl
      · rintro acc M' ⟨rfl, rfl⟩
        rw [signs_S, List.length_map, List.take_length]
        refine ⟨l.map letter, by rw [List.map_map]; rfl, Lets.of (ret _ ?_)⟩
        unfold isNameL
        rw [decide_eq_true (show 1 ≤ l.length by omega), decide_eq_true (show l.length ≤ 8 by omega)]
        simp
    · rw [decide_eq_false h2]
      refine wss_cons (ws_ret (we_bl (Lets.of (ret _ ?_))))
      unfold isNameL
      rw [decide_eq_false (show ¬ l.length ≤ 8 by omega)]; simp
  · refine wss_cons (ws_ret (we_bl (Lets.of (ret _ ?_))))
    unfold isNameL
    rw [decide_eq_false (show ¬ 1 ≤ l.length by omega)]; rfl
end
end W
namespace W
open PySem PySem.Spec PyProof.Rows L2 DL SX PL
section
variable {P : Program} {w : World} {K : PySem.W.Frag} {mg : Str → Option Value} {base : Heap}
theorem num_len {n : Nat} (h : n ≤ 10 ^ 30) : (TL.numL n).length ≤ 31 := TL.numL_len (by decide) (Nat.lt_of_le_of_lt h (by decide))
theorem num_int (n : Nat) (h : n ≤ 10 ^ 30) : PySem.intText? (S (TL.numL n)) = some (n : Int) := by
  rw [← num_S]
  exact TL.int_num (by have := num_len h; omega)
def cNumberIn : Con := fun ds M Φ => ∃ n : Nat, ds = [tS (TL.numL n)] ∧ 1 ≤ n ∧ n ≤ 10 ^ 30 ∧ Φ (.int n) M
theorem ok_number_in (F : Fx w K mg) : BodyOk P w K mg base "number_in" s_number_in ["text", "figure"] 1 0 cNumberIn := by
  intro f cdv A outer s H E hr ds M Φ hl hc
  obtain ⟨n, rfl, n1, n2, hc⟩ := hc
  have nd : (["text", "figure"] : List Str).Nodup := by decide +kernel
  obtain ⟨c, r, ec, c48⟩ := numL_head n1
  have hlen := num_len n2
  have e1 : decide (S (TL.numL n) = ("" : Str)) = false := decide_eq_false fun h => by
    have := S_inj (h.trans (show ("" : Str) = S [] by decide +kernel))
    rw [ec] at this; cases this
  have e2 : decide (S (TL.numL n) = ("0" : Str)) = false := decide_eq_false fun h => by
    have := S_inj (h.trans (show ("0" : Str) = S [48] by decide +kernel))
    rw [ec] at this; injection this with h1 _; exact c48 h1
  refine wss_cons (ws_if (wt_ww (ww_or (wt_eqS (we_var 0 rfl (we_str ⟨_, rfl, ?_⟩))))))
  rw [e1]
  refine ww_or1 (wt_not (wt_val (we_all (F.bn _ (by decide +kernel)) (we_lc nd (blkOk_by (N := ["text", "figure"]) (sc := defScope s_number_in) (own := [("figure", 1)]) (by decide +kernel)) (fun _ _ _ _ _ => pg_name (i := 1) nd rfl (Or.inl rfl)) (gt_name (by decide)) (fun _ _ _ _ _ => pts_nil) tk_nil
        (wi_str (we_var 0 rfl ⟨_, rfl, ?_⟩))))))
  refine ⟨by rw [signs_S, List.length_map, sizeLine_eq]; omega, fun i acc M' => M' = M ∧ acc = ((TL.numL n).take i).map fun c => .bl (figure c), ⟨rfl, rfl⟩, ?_, ?_⟩
  · rintro i x acc M' hx ⟨rfl, rfl⟩
    obtain ⟨c, hc1, rfl⟩ := signs_get hx
    intro s1 H1 C cl fp
    refine we_inC (we_var 1 rfl (we_gstr F.gFIGURES ⟨c, _, rfl, rfl, rfl, ?_⟩))
    rw [mem_figures, take_snoc hc1, List.map_append]; rfl
  · rintro acc M' ⟨rfl, rfl⟩
    rw [signs_S, List.length_map, List.take_length]
    refine ⟨(TL.numL n).map figure, by rw [List.map_map]; rfl, _, rfl, ?_⟩
    have e3 : ((TL.numL n).map figure).all id = true := by
      rw [List.all_map]
      refine List.all_eq_true.mpr fun c hc => ?_
      have q := TL.numL_digits n c hc
      show (decide (48 ≤ c) && decide (c ≤ 57)) = true
      rw [decide_eq_true q.1, decide_eq_true q.2]; rfl
    rw [e3]
    refine wss_nil (wss_cons (ws_ret (we_if (wt_ww (ww_or (wt_eqS (we_var 0 rfl (we_str ⟨_, rfl, ?_⟩))))))))
    rw [e2]
    refine ww_or1 (wt_neS (we_ix (we_var 0 rfl (we_int ⟨0, _, rfl, .inr (.inr ⟨_, c, rfl, by rw [S_len, sizeLine_eq]; omega, by show atI (TL.numL n) 0 = some c; rw [ec]; exact atI_nat (j := 0) rfl, rfl⟩), we_str ⟨_, rfl, ?_⟩⟩))))
    have e4 : decide ((⟨#[c]⟩ : Str) = ("0" : Str)) = false := decide_eq_false fun h => by
      have := S_inj (a := [c]) (h.trans (show ("0" : Str) = S [48] by decide +kernel))
      injection this with h1 _; exact c48 h1
    rw [e4]
    exact we_intS (F.bn _ (by decide +kernel)) (we_var 0 rfl ⟨_, _, rfl, num_int n n2, by rw [S_len]; omega, Lets.of hc⟩)
theorem cut_bi (l : List Nat) (b i : Nat) (h : i ≤ l.length) : cutS (S l) (some (b : Int)) (some (i : Int)) = S ((l.take i).drop b) := by
  unfold cutS
  rw [S_len, HT.sIx_nat, HT.sIx_nat, Nat.min_eq_left h]
  show S ((l.drop (min b l.length)).take (i - min b l.length)) = _
  congr 1
  by_cases hb : b ≤ l.length
  · rw [Nat.min_eq_left hb, List.drop_take]
  · rw [Nat.min_eq_right (by omega), List.drop_length, List.drop_eq_nil_of_le (by rw [List.length_take]; omega)]; simp
theorem cut_b (l : List Nat) (b : Nat) : cutS (S l) (some (b : Int)) none = S (l.drop b) := by
  unfold cutS
  rw [S_len, HT.sIx_nat, HT.sIx_none]
  show S ((l.drop (min b l.length)).take (l.length - min b l.length)) = _
  congr 1
  by_cases hb : b ≤ l.length
  · rw [Nat.min_eq_left hb]; exact List.take_of_length_le (by rw [List.length_drop]; omega)
  · rw [Nat.min_eq_right (by omega), List.drop_length, List.drop_eq_nil_of_le (by omega)]; simp
theorem starts_at {l s : List Nat} (hs : s ≠ []) (i : Nat) (hi : i ≤ l.length) : Txt.startswith3 (S l) (S s) (i : Int) = TL.pre s (l.drop i) := by
  have e : PySem.fromIndex (S l).length (i : Int) = i := by
    rw [S_len]; unfold PySem.fromIndex; rw [if_neg (by omega)]; omega
  unfold Txt.startswith3
  rw [e]
  have q := TL.at_iff (x := S l) (y := S s) hs i
  cases hp : TL.pre s (l.drop i) with
  | true =>
    obtain ⟨h1, h2⟩ := q.mpr hp
    rw [h2, decide_eq_true h1]; rfl
  | false =>
    cases h1 : decide (i + (S s).length ≤ (S l).length) with
    | false => rfl
    | true =>
      cases h2 : Builtin.Str.subAt (S l) (S s) i with
      | false => rfl
      | true =>
        have := q.mp ⟨of_decide_eq_true h1, h2⟩
        rw [show TL.pre (TL.tl (S s)) ((TL.tl (S l)).drop i) = TL.pre s (l.drop i) from rfl, hp] at this
        cases this
theorem enumS_get {l : List Nat} {i : Nat} {x : D} (h : (enumS (S l))[i]? = some x) : ∃ c, l[i]? = some c ∧ x = .tup [.int (i : Nat), .str ⟨#[c]⟩] := by
  unfold enumS at h
  rw [List.getElem?_map] at h
  obtain ⟨j, h1, rfl⟩ := Option.map_eq_some_iff.mp h
  obtain ⟨h2, rfl⟩ := List.getElem?_eq_some_iff.mp h1
  rw [List.length_range] at h2
  rw [List.getElem_range]
  have h3 : i < l.length := by simpa using h2
  refine ⟨l[i], List.getElem?_eq_getElem h3, ?_⟩
  have : (S l).cps.getD i 0 = l[i] := by simp [Array.getD, h3]
  rw [this]
theorem enumS_len (l : List Nat) : (enumS (S l)).length = l.length := by simp [enumS]
theorem opens (c : Nat) : decide (c ∈ ("([{" : Str).cps.toList) = decide (c = 40 ∨ c = 91 ∨ c = 123) := by
  rw [show ("([{" : Str) = S [40, 91, 123] by decide +kernel]
  simp
theorem closes (c : Nat) : decide (c ∈ (")]}" : Str).cps.toList) = decide (c = 41 ∨ c = 93 ∨ c = 125) := by
  rw [show (")]}" : Str) = S [41, 93, 125] by decide +kernel]
  simp
theorem wgt_code (d : Int) (c : Nat) : d + (if decide (c ∈ ("([{" : Str).cps.toList) = true then 1 else 0) - (if decide (c ∈ (")]}" : Str).cps.toList) = true then 1 else 0) = d + wgt c := by
  rw [opens, closes]
  unfold wgt
  simp only [decide_eq_true_eq]
  omega
def cParted : Con := fun ds M Φ => ∃ l b, ds = [tS l, tS (sep b)] ∧ l.length ≤ 1000000 ∧ Φ (.lst ((parts l (sep b)).map tS)) M
theorem les_new {M : Mp} {p : Addr} {o : MO} (h : M p = none) : Les M (mset M p o) := fun b => by
  by_cases e : b = p
  · rw [e]; exact .inr h
  · rw [mset_ne e]; exact .inl rfl
theorem ok_parted (F : Fx w K mg) : BodyOk P w K mg base "parted" s_parted ["text", "sign", "found", "depth", "begin", "at", "letter"] 2 0 cParted := by
  intro f cdv A outer s H E hr ds M Φ hl hc
  obtain ⟨l, sb, rfl, hl, hc⟩ := hc
  have nd : (["text", "sign", "found", "depth", "begin", "at", "letter"] : List Str).Nodup := by decide +kernel
  refine wss_cons (ws_set 2 nd (we_lstM (wa_nil ⟨by decide, fun p hp => ?_⟩)))
  refine wss_cons (ws_set 3 nd (we_int ?_))
  refine wss_cons (ws_set 4 nd (we_int ?_))
  refine wss_cons (ws_for PassesOwn.never (wi_enumS (F.bn _ (by decide +kernel)) (we_var 0 rfl ⟨_, rfl, ?_⟩)))
  refine ⟨fun i ρ' M' => ∃ o1 o2 d b fo, ρ' = [some (tS l), some (tS (sep sb)), some (.ob p), some (.int d), some (.int (b : Nat)), o1, o2] ∧ M' = mset M p (.lst (fo.map tS)) ∧ fo.length ≤ i ∧ G l (sep sb) (l.drop i) i d b fo = parts l (sep sb), ?_, ?_, ?_⟩
  · exact ⟨none, none, 0, 0, [], rfl, rfl, Nat.le_refl _, rfl⟩
  · rintro i x ρ' M' hx ⟨o1, o2, d, b, fo, rfl, rfl, hf, hG⟩
    obtain ⟨c, hc1, rfl⟩ := enumS_get hx
    have hi : i < l.length := (List.getElem?_eq_some_iff.mp hc1).1
    refine wg_tup ⟨rfl, rfl, wgs_cons (wg_name 5 (wgs_cons (wg_name 6 (wgs_nil ⟨rfl, ?_⟩) nd)) nd)⟩
    refine wss_cons (ws_set 3 nd (we_subI (we_addI (we_var 3 rfl (we_intN (F.bn _ (by decide +kernel)) (we_inC (we_var 6 rfl (we_str ⟨c, _, rfl, rfl, .inr ⟨_, rfl, _, _, rfl, rfl, ?_⟩⟩))))))))
    refine we_intN (F.bn _ (by decide +kernel)) (we_inC (we_var 6 rfl (we_str ⟨c, _, rfl, rfl, .inr ⟨_, rfl, _, _, rfl, rfl, ?_⟩⟩)))
    rw [wgt_code]
    have ed : l.drop i = c :: l.drop (i + 1) := by
      rw [List.drop_eq_getElem_cons hi]
      rw [List.getElem?_eq_getElem hi] at hc1; cases hc1; rfl
    rw [ed, PL.G] at hG
    refine wss_cons (ws_if (wt_ww (ww_and (wt_eqS (we_var 3 rfl (we_int ⟨_, rfl, ?_⟩))))))
    by_cases h0 : d + wgt c = 0
    · rw [decide_eq_true h0]
      refine ww_and1 (wt_val (we_startsAt (we_var 0 rfl ⟨_, rfl, we_var 1 rfl (we_var 5 rfl ⟨_, _, rfl, rfl, _, rfl, ?_⟩)⟩)))
      rw [starts_at (by simp [sep]) i (by omega), ed]
      cases hp2 : TL.pre (sep sb) (c :: l.drop (i + 1)) with
      | true =>
        rw [if_pos ⟨h0, hp2⟩] at hG
        refine wss_cons (ws_expr (we_append (we_var 2 rfl ⟨p, _, rfl, mset_same, we_slice (we_var 0 rfl (we_var 4 rfl ⟨_, rfl, we_var 5 rfl ⟨_, rfl, _, .inr (.inr ⟨_, rfl, by rw [S_len, sizeLine_eq]; omega, rfl⟩), _, mset_same, by rw [List.length_map, sizeLine_eq]; omega, ?_⟩⟩))⟩)))
        rw [mset_mset, cut_bi _ _ _ (by omega)]
        refine wss_cons (ws_set 4 nd (we_addI (we_var 5 rfl (we_len (F.bn _ (by decide +kernel)) (we_var 1 rfl ⟨_, lenS (by rw [S_len, sizeLine_eq, sep_len]; omega), _, _, rfl, rfl, wss_nil (wss_nil ?_)⟩)))))
        refine ⟨some (.int (i : Nat)), some (.str ⟨#[c]⟩), d + wgt c, i + 3, fo ++ [(l.take i).drop b], ?_, ?_, by rw [List.length_append, List.length_singleton]; omega, hG⟩
        · rw [S_len, sep_len]
          rfl
        · rw [List.map_append]; rfl
      | false =>
        rw [if_neg (by rintro ⟨_, y⟩; rw [hp2] at y; cases y)] at hG
        exact wss_nil (wss_nil ⟨_, _, _, b, fo, rfl, rfl, by omega, hG⟩)
    · rw [decide_eq_false h0]
      rw [if_neg (fun y => h0 y.1)] at hG
      exact wss_nil (wss_nil ⟨_, _, _, b, fo, rfl, rfl, by omega, hG⟩)
  · rintro ρ' M' ⟨o1, o2, d, b, fo, rfl, rfl, hf, hG⟩
    rw [enumS_len] at hG hf
    rw [List.drop_length, PL.G] at hG
    refine wss_cons (ws_ret (we_lst (wa_star (we_var 2 rfl ⟨_, .inl mset_same, wa_cons (we_slice (we_var 0 rfl (we_var 4 rfl ⟨_, rfl, _, .inr (.inr ⟨_, rfl, by rw [S_len, sizeLine_eq]; omega, rfl⟩), wa_nil fun ys ey => ⟨?_, ?_⟩⟩)))⟩))))
    · rw [ey, List.length_append, List.length_map, List.length_singleton, sizeLine_eq]; omega
    · refine ⟨_, M, les_new hp, .same _, ?_⟩
      rw [ey, cut_b]
      rw [← hG, List.map_append] at hc
      exact hc
end
end W
namespace W
open PySem PySem.Spec PyProof.Rows L2 DL SX PL
section
variable {P : Program} {w : World} {K : PySem.W.Frag} {mg : Str → Option Value} {base : Heap}
theorem le30 {n : Nat} (h : n ≤ 10 ^ 30) : (n : Int) ≤ 10 ^ 30 := by
  have e : ((10 ^ 30 : Nat) : Int) = 10 ^ 30 := by decide +kernel
  omega
theorem sz1 : 1 ≤ sizeLine := by decide
theorem sz2 : 2 ≤ sizeLine := by decide
theorem sz3 : 3 ≤ sizeLine := by decide
def wrd (b : Bool) : Str := if b then "introduced" else "beside"
theorem starts1 (c d : Nat) (r : List Nat) : Txt.startswith (S (c :: r)) (S [d]) = decide (c = d) := by
  have q := TL.at_iff (x := S (c :: r)) (y := S [d]) (by simp [TL.tl]) 0
  have e : TL.pre (TL.tl (S [d])) ((TL.tl (S (c :: r))).drop 0) = decide (c = d) := by
    show TL.pre [d] (c :: r) = _
    unfold TL.pre
    simp
    rfl
  rw [e] at q
  unfold Txt.startswith
  rw [S_len, S_len]
  rw [show decide (0 + [d].length ≤ (c :: r).length) = true from decide_eq_true (by simp), Bool.true_and]
  by_cases h : c = d
  · rw [decide_eq_true h] at q ⊢
    exact (q.mpr rfl).2
  · rw [decide_eq_false h] at q ⊢
    cases hs : Builtin.Str.subAt (S (c :: r)) (S [d]) 0 with
    | false => rfl
    | true => exact absurd (q.mp ⟨by rw [S_len, S_len]; simp, hs⟩) (by decide)
theorem ends1 (c d : Nat) (r : List Nat) : Txt.endswith (S (r ++ [c])) (S [d]) = decide (c = d) := by
  have q := TL.at_iff (x := S (r ++ [c])) (y := S [d]) (by simp [TL.tl]) r.length
  have e : TL.pre (TL.tl (S [d])) ((TL.tl (S (r ++ [c]))).drop r.length) = decide (c = d) := by
    show TL.pre [d] ((r ++ [c]).drop r.length) = _
    rw [List.drop_left]
    unfold TL.pre
    simp
    rfl
  rw [e] at q
  unfold Txt.endswith
  have el : (S (r ++ [c])).length - (S [d]).length = r.length := by rw [S_len, S_len]; simp
  rw [el, S_len, S_len]
  rw [show decide (0 + [d].length ≤ (r ++ [c]).length) = true from decide_eq_true (by simp), Bool.true_and]
  by_cases h : c = d
  · rw [decide_eq_true h] at q ⊢
    exact (q.mpr rfl).2
  · rw [decide_eq_false h] at q ⊢
    cases hs : Builtin.Str.subAt (S (r ++ [c])) (S [d]) r.length with
    | false => rfl
    | true => exact absurd (q.mp ⟨by rw [S_len, S_len]; simp, hs⟩) (by decide)
theorem cut_mid (o c : Nat) (m : List Nat) : cutS (S (o :: (m ++ [c]))) (some 1) (some (-1)) = S m := by
  unfold cutS
  rw [S_len, show (some (1 : Int)) = some ((1 : Nat) : Int) from rfl, HT.sIx_nat]
  have e1 : (o :: (m ++ [c])).length = m.length + 2 := by simp
  have e2 : HT.sIx (o :: (m ++ [c])).length (o :: (m ++ [c])).length (some (-1)) = m.length + 1 := by
    rw [e1]; simp only [HT.sIx]; rw [if_pos (by decide)]; omega
  rw [e2, e1, Nat.min_eq_left (by omega)]
  show S (((m ++ [c]).drop 0).take (m.length + 1 - 1)) = _
  rw [List.drop_zero, Nat.add_sub_cancel, List.take_left]
theorem br_S (b : Bool) : (S [opn b], S [cls b]) = (if b then (("{" : Str), ("}" : Str)) else (("[" : Str), ("]" : Str))) := by
  cases b <;> decide +kernel
theorem around_get {i : Nat} {x : D} (h : (gitems aroundD)[i]? = some x) : ∃ b : Bool, x = .tup [.str (wrd b), .tup [tS [opn b], tS [cls b]]] ∧ i = if b then 1 else 0 := by
  match i, h with
  | 0, h =>
    cases h
    refine ⟨false, ?_, rfl⟩
    have := br_S false
    injection this with h1 h2
    rw [tS, tS, h1, h2]; rfl
  | 1, h =>
    cases h
    refine ⟨true, ?_, rfl⟩
    have := br_S true
    injection this with h1 h2
    rw [tS, tS, h1, h2]; rfl
  | n + 2, h => simp [gitems, aroundD] at h
theorem sep_S (b : Bool) : S (sep b) = (if b then (" * " : Str) else (" + " : Str)) := by cases b <;> decide +kernel
theorem signs_of {i : Nat} {x : D} (h : (gitems signsD)[i]? = some x) : ∃ b : Bool, x = .tup [.str (wrd b), tS (sep b)] ∧ i = if b then 1 else 0 := by
  match i, h with
  | 0, h => cases h; refine ⟨false, ?_, rfl⟩; rw [tS, sep_S]; rfl
  | 1, h => cases h; refine ⟨true, ?_, rfl⟩; rw [tS, sep_S]; rfl
  | n + 2, h => simp [gitems, signsD] at h
/-- the first sign, and no bracket of copies -/
theorem txt_no {t : T} (h : Good t) (hn : ∀ s n u, t ≠ .cop s n u) : ∃ c r, txt t = c :: r ∧ ∀ b, c ≠ opn b := by
  cases t with
  | one => exact ⟨49, [], by rw [txt], fun b => by cases b <;> decide⟩
  | name x =>
    obtain ⟨h0, h1, h2⟩ := h
    cases x with
    | nil => exact absurd rfl h0
    | cons c r =>
      have q := h2 c List.mem_cons_self
      simp [letter] at q
      exact ⟨c, r, by rw [txt], fun b => by cases b <;> simp [opn] <;> omega⟩
  | cop s n u => exact absurd rfl (hn s n u)
  | row s ts => exact ⟨40, _, by rw [txt], fun b => by cases b <;> decide⟩
def copR : T → D
  | .cop s n t => .tup [.str (wrd s), .lst [.tup [.int (n : Nat), tS (txt t)]]]
  | _ => .non
theorem opn_inj {a b : Bool} : decide (opn a = opn b) = decide (a = b) := by cases a <;> cases b <;> decide
def cCopiesIn : Con := fun ds M Φ => ∃ t, ds = [tS (txt t)] ∧ Good t ∧ (txt t).length ≤ 1000000 ∧ Φ (copR t) M
theorem ok_copies_in (F : Fx w K mg) (Fn : Fc P w K mg base "number_in" [] 1 1 cNumberIn) : BodyOk P w K mg base "copies_in" s_copies_in ["text", "word", "head", "end", "number", "blank", "rest", "many"] 1 1 cCopiesIn := by
  intro f cdv A outer s H E hr ds M Φ hl hc
  obtain ⟨t, rfl, hg, hl, hc⟩ := hc
  have nd : (["text", "word", "head", "end", "number", "blank", "rest", "many"] : List Str).Nodup := by decide +kernel
  obtain ⟨a, kvs, h1, h2, h3⟩ := F.gAROUND
  refine wss_cons (ws_for PassesOwn.never (wi_gitems h1 h2 h3 ?_))
  refine ⟨fun i ρ' M' => ∃ o1 o2 o3 o4 o5 o6 o7, ρ' = [some (tS (txt t)), o1, o2, o3, o4, o5, o6, o7] ∧ M' = M ∧ ∀ s n u, t = .cop s n u → i ≤ if s then 1 else 0, ?_, ?_, ?_⟩
  · exact ⟨none, none, none, none, none, none, none, rfl, rfl, fun s n u _ => Nat.zero_le _⟩
  · rintro i x ρ' M' hx ⟨o1, o2, o3, o4, o5, o6, o7, rfl, rfl, hi⟩
    obtain ⟨b, rfl, rfl⟩ := around_get hx
    refine wg_tup ⟨rfl, rfl, wgs_cons (wg_name 1 (wgs_cons (wg_tup ⟨rfl, rfl, wgs_cons (wg_name 2 (wgs_cons (wg_name 3 (wgs_nil ⟨rfl, wgs_nil ⟨rfl, ?_⟩⟩) nd)) nd)⟩)) nd)⟩
    refine wss_cons (ws_if (wt_ww (ww_and (wt_val (we_startswith (we_var 0 rfl ⟨_, rfl, we_var 2 rfl ⟨_, rfl, _, rfl, ?_⟩⟩))))))
    by_cases hcop : ∃ s n u, t = .cop s n u
    · obtain ⟨s, n, u, rfl⟩ := hcop
      obtain ⟨n1, n2, hu⟩ := hg
      have et : txt (.cop s n u) = opn s :: ((TL.numL n ++ 32 :: txt u) ++ [cls s]) := by rw [txt]; simp
      have hl2 : (TL.numL n).length + (txt u).length + 3 ≤ 1000000 := by rw [et] at hl; simp at hl; omega
      rw [et, starts1, opn_inj]
      by_cases hs : s = b
      · subst hs
        rw [decide_eq_true rfl]
        refine ww_and1 (wt_val (we_endswith (we_var 0 (by rfl) ⟨_, rfl, we_var 3 rfl ⟨_, rfl, _, rfl, ?_⟩⟩)))
        rw [show opn s :: ((TL.numL n ++ 32 :: txt u) ++ [cls s]) = (opn s :: (TL.numL n ++ 32 :: txt u)) ++ [cls s] from rfl, ends1, decide_eq_true rfl]
        refine wss_cons (ws_asg (we_partition (we_slice (we_var 0 rfl (we_int ⟨1, rfl, we_negI (we_int ⟨1, rfl, _, rfl, _, .inr (.inr ⟨_, rfl, ?_, rfl⟩), _, rfl, we_gstr F.gBLANK ⟨_, rfl, ?_, ?_, ?_⟩⟩)⟩)))))
        · rw [S_len, sizeLine_eq]; simp; omega
        · decide +kernel
        · refine Nat.le_trans (cutS_length _ _ _) ?_
          rw [S_len, sizeLine_eq]; simp; omega
        · rw [show (opn s :: (TL.numL n ++ 32 :: txt u)) ++ [cls s] = opn s :: ((TL.numL n ++ 32 :: txt u) ++ [cls s]) from rfl, cut_mid, show (" " : Str) = S [32] by decide +kernel]
          have hp : Txt.partition (S (TL.numL n ++ 32 :: txt u)) (S [32]) = (S (TL.numL n), S [32], S (txt u)) :=
            partition_some (by simp) (par_head (c := 32) (sep := []) (p := TL.numL n) (txt u) (TL.numL_free (by omega)))
          rw [hp]
          refine wg_tup ⟨rfl, rfl, wgs_cons (wg_name 4 (wgs_cons (wg_name 5 (wgs_cons (wg_name 6 (wgs_nil ⟨rfl, ?_⟩) nd)) nd)) nd)⟩
          refine wss_cons (ws_set 7 nd (we_call Fn (hr.mono (by decide)) (wa_cons (we_var 4 rfl (wa_nil ⟨rfl, n, rfl, by omega, n2, ?_⟩)))))
          refine wss_cons (ws_if (wt_ww (ww_and (wt_notN (we_var 7 rfl ?_)))))
          refine ww_and1 (wt_chainI (we_gint F.gLEAST_MANY (we_var 7 rfl ⟨_, _, rfl, rfl, ?_⟩)))
          rw [decide_eq_true (show (2 : Int) ≤ (n : Int) by omega)]
          refine we_gint F.gMOST_MANY ⟨_, rfl, ?_⟩
          rw [decide_eq_true (le30 n2)]
          refine wss_cons (ws_ret (we_tup (wa_cons (we_var 1 rfl (wa_cons (we_lst (wa_cons (we_tup (wa_cons (we_var 7 rfl (wa_cons (we_var 6 rfl (wa_nil ⟨sz2, wa_nil ⟨sz1, wa_nil ⟨sz2, Lets.of hc⟩⟩⟩)))))))))))))
      · rw [decide_eq_false hs]
        refine wss_nil (wss_nil ⟨_, _, _, _, _, _, _, rfl, rfl, fun s' n' u' e => ?_⟩)
        cases e
        have := hi s n u rfl
        cases s <;> cases b <;> simp_all
    · obtain ⟨c, r, et, hno⟩ := txt_no hg fun s n u e => hcop ⟨s, n, u, e⟩
      rw [et, starts1, decide_eq_false (hno b)]
      exact wss_nil (wss_nil ⟨_, _, _, _, _, _, _, by rw [← et]; rfl, rfl, fun s' n' u' e => absurd ⟨s', n', u', e⟩ hcop⟩)
  · rintro ρ' M' ⟨o1, o2, o3, o4, o5, o6, o7, rfl, rfl, hi⟩
    refine wss_cons (ws_ret (we_non (Lets.of ?_)))
    cases t with
    | cop s n u =>
      have := hi s n u rfl
      cases s <;> simp [gitems, aroundD] at this
    | one => exact hc
    | name x => exact hc
    | row s ts => exact hc
def rowR (s : Bool) (ts : List T) : D := .tup [.str (wrd s), .lst (ts.map fun t => .tup [.int 1, tS (txt t)])]
theorem txts_len (ts : List T) : (txts ts).length = ts.length := by rw [txts_map, List.length_map]
theorem joins_len (s : Bool) : ∀ (ps : List (List Nat)), ps.length ≤ (TL.joinL (sep s) ps).length + 1
  | [] => Nat.zero_le _
  | [p] => by simp
  | p :: q :: r => by
    have ih := joins_len s (q :: r)
    rw [TL.joinL, List.length_append, List.length_append, sep_len]
    simp only [List.length_cons] at ih ⊢
    omega
theorem row_txt (s : Bool) (ts : List T) : txt (.row s ts) = 40 :: (TL.joinL (sep s) (txts ts) ++ [41]) := by rw [txt]
theorem row_len (s : Bool) (ts : List T) : (txt (.row s ts)).length = (TL.joinL (sep s) (txts ts)).length + 2 := by rw [row_txt]; simp
def cRowIn : Con := fun ds M Φ => ∃ s ts, ds = [tS (txt (.row s ts))] ∧ Good (.row s ts) ∧ (txt (.row s ts)).length ≤ 1000000 ∧ Φ (rowR s ts) M
theorem ok_row_in (F : Fx w K mg) (Fp : Fc P w K mg base "parted" [] 1 2 cParted) : BodyOk P w K mg base "row_in" s_row_in ["text", "word", "sign", "parts", "part"] 1 1 cRowIn := by
  intro f cdv A outer s H E hr ds M Φ hl hc
  obtain ⟨b, ts, rfl, ⟨hg1, hg⟩, hl, hc⟩ := hc
  have nd : (["text", "word", "sign", "parts", "part"] : List Str).Nodup := by decide +kernel
  obtain ⟨a, kvs, h1, h2, h3⟩ := F.gSIGNS
  have hz := row_len b ts
  have hn : ts ≠ [] := by rintro rfl; simp at hg1
  have hj := joins_len b (txts ts)
  rw [txts_len] at hj
  refine wss_cons (ws_if (wt_ww (ww_or (wt_not (wt_val (we_startswith (we_var 0 rfl ⟨_, rfl, we_str ⟨_, rfl, _, rfl, ?_⟩⟩)))))))
  have e1 : Txt.startswith (S (txt (.row b ts))) ("(" : Str) = true := by rw [row_txt, show ("(" : Str) = S [40] by decide +kernel, starts1, decide_eq_true rfl]
  have e2 : Txt.endswith (S (txt (.row b ts))) (")" : Str) = true := by rw [row_txt, show (")" : Str) = S [41] by decide +kernel, show 40 :: (TL.joinL (sep b) (txts ts) ++ [41]) = (40 :: TL.joinL (sep b) (txts ts)) ++ [41] from rfl, ends1, decide_eq_true rfl]
  rw [e1]
  refine ww_or1 (wt_not (wt_val (we_endswith (we_var 0 rfl ⟨_, rfl, we_str ⟨_, rfl, _, rfl, ?_⟩⟩))))
  rw [e2]
  refine wss_nil (wss_cons (ws_for PassesOwn.never (wi_gitems h1 h2 h3 ?_)))
  refine ⟨fun i ρ' M' => ∃ o1 o2 o3 o4, ρ' = [some (tS (txt (.row b ts))), o1, o2, o3, o4] ∧ M' = M ∧ i ≤ if b then 1 else 0, ?_, ?_, ?_⟩
  · exact ⟨none, none, none, none, rfl, rfl, Nat.zero_le _⟩
  · rintro i x ρ' M' hx ⟨o1, o2, o3, o4, rfl, rfl, hi⟩
    obtain ⟨c, rfl, rfl⟩ := signs_of hx
    refine wg_tup ⟨rfl, rfl, wgs_cons (wg_name 1 (wgs_cons (wg_name 2 (wgs_nil ⟨rfl, ?_⟩) nd)) nd)⟩
    refine wss_cons (ws_set 3 nd (we_call Fp (hr.mono (by decide)) (wa_cons (we_slice (we_var 0 rfl (we_int ⟨1, rfl, we_negI (we_int ⟨1, rfl, _, rfl, _, .inr (.inr ⟨_, rfl, ?_, rfl⟩), wa_cons (we_var 2 rfl (wa_nil ⟨rfl, TL.joinL (sep b) (txts ts), c, ?_, ?_, ?_⟩))⟩)⟩))))))
    · rw [S_len, sizeLine_eq]; omega
    · rw [row_txt, cut_mid]; rfl
    · omega
    · by_cases hbc : b = c
      · subst hbc
        rw [parts_join hn hg]
        refine wss_cons (ws_if (wt_gtI (we_len (F.bn _ (by decide +kernel)) (we_var 3 rfl ⟨_, lenL, we_int ⟨_, _, rfl, rfl, ?_⟩⟩))))
        rw [List.length_map, txts_len, decide_eq_true (show (1 : Int) < (ts.length : Int) by omega)]
        refine wss_cons (ws_ret (we_tup (wa_cons (we_var 1 rfl (wa_cons (we_lc nd (blkOk_by (N := ["text", "word", "sign", "parts", "part"]) (sc := defScope s_row_in) (own := [("part", 4)]) (by decide +kernel)) (fun _ _ _ _ _ => pg_name (i := 4) nd rfl (Or.inl rfl)) (gt_name (by decide)) (fun _ _ _ _ _ => pts_nil) tk_nil
          (wi_list (we_var 3 rfl ⟨_, .inl rfl, ?_⟩)))))))) 
        refine ⟨by rw [List.length_map, txts_len, sizeLine_eq]; omega, fun i acc M'' => M'' = M' ∧ acc = (ts.take i).map fun t => .tup [.int 1, tS (txt t)], ⟨rfl, rfl⟩, ?_, ?_⟩
        · rintro i x acc M'' hx ⟨rfl, rfl⟩
          rw [txts_map, List.map_map, List.getElem?_map] at hx
          obtain ⟨t, ht, rfl⟩ := Option.map_eq_some_iff.mp hx
          intro s1 H1 C cl fp
          refine we_tup (wa_cons (we_int (wa_cons (we_var 4 rfl (wa_nil ⟨sz2, rfl, ?_⟩)))))
          rw [take_snoc ht, List.map_append]; rfl
        · rintro acc M'' ⟨rfl, rfl⟩
          rw [List.length_map, txts_len, List.take_length]
          exact wa_nil ⟨sz2, Lets.of hc⟩
      · have hcb : c = !b := by cases b <;> cases c <;> simp_all
        subst hcb
        have := parts_none (s := !b) hn hg
        rw [Bool.not_not] at this
        rw [this]
        refine wss_cons (ws_if (wt_gtI (we_len (F.bn _ (by decide +kernel)) (we_var 3 rfl ⟨_, lenL, we_int ⟨_, _, rfl, rfl, ?_⟩⟩))))
        rw [show decide ((1 : Int) < ((([TL.joinL (sep b) (txts ts)].map tS).length : Nat) : Int)) = false from rfl]
        refine wss_nil (wss_nil ⟨_, _, _, _, rfl, rfl, ?_⟩)
        cases b <;> simp_all
  · rintro ρ' M' ⟨o1, o2, o3, o4, rfl, rfl, hi⟩
    cases b <;> simp [gitems, signsD] at hi
end
end W
namespace PL
open PySem SX TL
/-- how often, what -/
def kids : T → List (Nat × T)
  | .cop _ n t => [(n, t)]
  | .row _ ts => ts.map fun t => (1, t)
  | _ => []
def isCop : T → Bool
  | .cop _ _ _ => true
  | _ => false
mutual
def ppl : T → Nat
  | .one => 1
  | .name _ => 1
  | .cop _ n t => n * ppl t
  | .row _ ts => ppls ts
def ppls : List T → Nat
  | [] => 0
  | t :: ts => ppl t + ppls ts
end
theorem ppls_sum : ∀ ts : List T, ppls ts = (ts.map ppl).sum
  | [] => rfl
  | t :: ts => by rw [ppls, ppls_sum ts, List.map_cons, List.sum_cons]
theorem ppl_kids {t : T} (h : kids t ≠ []) : ppl t = ((kids t).map fun q => q.1 * ppl q.2).sum := by
  cases t with
  | one => simp [kids] at h
  | name x => simp [kids] at h
  | cop s n t => simp [kids, ppl]
  | row s ts =>
    rw [ppl, ppls_sum, kids, List.map_map]
    congr 1
    apply List.map_congr_left
    intro t _
    simp
theorem ppl_none {t : T} (h : kids t = []) (hg : Good t) : ppl t = 1 := by
  cases t with
  | one => rw [ppl]
  | name x => rw [ppl]
  | cop s n t => simp [kids] at h
  | row s ts =>
    have := hg.1
    simp [kids] at h
    subst h
    simp at this
theorem join_len_mem {S : List Nat} : ∀ {ps : List (List Nat)} {p : List Nat}, p ∈ ps → p.length ≤ (joinL S ps).length
  | [q], p, h => by
    have : p = q := by simpa using h
    subst this
    rw [joinL]; exact Nat.le_refl _
  | q :: r :: ps, p, h => by
    rw [joinL, List.length_append, List.length_append]
    rcases List.mem_cons.mp h with rfl | h
    · omega
    · have := join_len_mem (S := S) h
      omega
theorem kids_ok {t : T} {q : Nat × T} (hq : q ∈ kids t) (hg : Good t) : Good q.2 ∧ ht q.2 < ht t ∧ (txt q.2).length < (txt t).length ∧ 1 ≤ q.1 ∧ q.1 ≤ 10 ^ 30 := by
  cases t with
  | one => simp [kids] at hq
  | name x => simp [kids] at hq
  | cop s n t =>
    have : q = (n, t) := by simpa [kids] using hq
    subst this
    obtain ⟨h1, h2, h3⟩ := hg
    refine ⟨h3, by rw [ht]; exact Nat.lt_succ_self _, by rw [txt]; simp; omega, by show 1 ≤ n; omega, h2⟩
  | row s ts =>
    obtain ⟨t, ht', rfl⟩ := List.mem_map.mp (show q ∈ ts.map (fun t => (1, t)) from hq)
    refine ⟨goods_all.mp hg.2 t ht', ?_, ?_, Nat.le_refl _, show 1 ≤ 10 ^ 30 by decide⟩
    · rw [ht]; have := hts_le ht'; show ht t < _; omega
    · rw [txt]
      have : (txt t).length ≤ (joinL (sep s) (txts ts)).length := join_len_mem (by rw [txts_map]; exact List.mem_map_of_mem ht')
      simp; omega
theorem kids_told {t : T} {q : Nat × T} (hq : q ∈ kids t) (hg : Told t) : Told q.2 := by
  cases t with
  | one => simp [kids] at hq
  | name x => simp [kids] at hq
  | cop s n t =>
    have : q = (n, t) := by simpa [kids] using hq
    subst this
    exact hg
  | row s ts =>
    obtain ⟨t, ht', rfl⟩ := List.mem_map.mp (show q ∈ ts.map (fun t => (1, t)) from hq)
    exact tolds_all.mp hg t ht'
theorem numL_lt16 : ∀ n : Nat, n < 16 ^ (numL n).length := by
  intro n
  induction n using Nat.strongRecOn with
  | _ n ih =>
    by_cases hn : n < 10
    · rw [numL_lt hn]; show n < 16 ^ 1; omega
    · have := ih (n / 10) (by omega)
      rw [numL_step (by omega), List.length_append, List.length_singleton, Nat.pow_succ]
      omega
theorem pow16_add {a b m n : Nat} (h1 : a < 16 ^ m) (h2 : b < 16 ^ n) : a + b < 16 ^ (m + n + 1) := by
  have e1 : 16 ^ m ≤ 16 ^ (m + n) := Nat.pow_le_pow_right (by decide) (by omega)
  have e2 : 16 ^ n ≤ 16 ^ (m + n) := Nat.pow_le_pow_right (by decide) (by omega)
  rw [Nat.pow_succ]
  omega
theorem pow16_le {a m n : Nat} (h1 : a < 16 ^ m) (h : m ≤ n) : a < 16 ^ n := Nat.lt_of_lt_of_le h1 (Nat.pow_le_pow_right (by decide) h)
mutual
theorem ppl_lt : ∀ {t : T}, Good t → ppl t < 16 ^ (txt t).length
  | .one, _ => by rw [ppl, txt]; decide
  | .name x, h => by
    rw [ppl, txt]
    have : 0 < x.length := List.length_pos_iff.mpr h.1
    exact pow16_le (m := 1) (by decide) this
  | .cop s n t, h => by
    rw [ppl, txt]
    have h1 := numL_lt16 n
    have h2 := ppl_lt h.2.2
    have h3 : n * ppl t < 16 ^ ((numL n).length + (txt t).length) := by
      rw [Nat.pow_add]
      exact Nat.mul_lt_mul'' h1 h2
    exact pow16_le h3 (by simp; omega)
  | .row s ts, h => by
    rw [ppl, txt]
    exact pow16_le (ppls_lt (s := s) h.2) (by simp; omega)
theorem ppls_lt {s : Bool} : ∀ {ts : List T}, Goods ts → ppls ts < 16 ^ (joinL (sep s) (txts ts)).length
  | [], _ => by rw [ppls]; exact Nat.pow_pos (by decide)
  | [t], h => by rw [ppls, ppls, txts, txts, joinL]; exact ppl_lt h.1
  | t :: u :: ts, h => by
    have h1 := ppl_lt h.1
    have h2 := ppls_lt (s := s) (ts := u :: ts) h.2
    rw [ppls, show txts (t :: u :: ts) = txt t :: txt u :: txts ts by rw [txts, txts], joinL]
    rw [show txts (u :: ts) = txt u :: txts ts by rw [txts]] at h2
    refine pow16_le (pow16_add h1 h2) ?_
    rw [List.length_append, List.length_append, sep_len]; omega
end
mutual
theorem txt_lt : ∀ {t : T}, Good t → ∀ c ∈ txt t, c < 128
  | .one, _, c, hc => by rw [txt] at hc; simp at hc; omega
  | .name x, h, c, hc => by
    rw [txt] at hc
    have q := h.2.2 c hc
    simp [letter] at q; omega
  | .cop s n t, h, c, hc => by
    rw [txt] at hc
    simp at hc
    rcases hc with rfl | hc | rfl | hc | rfl
    · cases s <;> decide
    · have := numL_digits n c hc; omega
    · decide
    · exact txt_lt h.2.2 c hc
    · cases s <;> decide
  | .row s ts, h, c, hc => by
    rw [txt] at hc
    simp at hc
    rcases hc with rfl | hc | rfl
    · decide
    · exact txts_lt (s := s) h.2 c hc
    · decide
theorem txts_lt {s : Bool} : ∀ {ts : List T}, Goods ts → ∀ c ∈ joinL (sep s) (txts ts), c < 128
  | [], _, c, hc => by rw [txts, joinL] at hc; simp at hc
  | [t], h, c, hc => by rw [txts, txts, joinL] at hc; exact txt_lt h.1 c hc
  | t :: u :: ts, h, c, hc => by
    rw [show txts (t :: u :: ts) = txt t :: txt u :: txts ts by rw [txts, txts], joinL] at hc
    rcases List.mem_append.mp hc with hc | hc
    · exact txt_lt h.1 c hc
    · rcases List.mem_append.mp hc with hc | hc
      · cases s <;> (simp [sep, sgn] at hc; omega)
      · exact txts_lt (s := s) (ts := u :: ts) h.2 c (by rw [show txts (u :: ts) = txt u :: txts ts by rw [txts]]; exact hc)
end
theorem log16 {a m : Nat} (h : a < 16 ^ m) : a.log2 ≤ 4 * m := by
  by_cases h0 : a = 0
  · subst h0; simp
  · have e : a < 2 ^ (4 * m) := by rw [Nat.pow_mul]; exact h
    exact Nat.le_of_lt ((Nat.log2_lt h0).mpr e)
end PL
namespace W
open PySem PySem.Spec PyProof.Rows L2 DL SX PL
section
variable {P : Program} {w : World} {K : PySem.W.Frag} {mg : Str → Option Value} {base : Heap}
def wordT : T → Str
  | .one => "one"
  | .name _ => "name"
  | .cop s _ _ => wrd s
  | .row s _ => wrd s
def grpD (t : T) : List D := (kids t).map fun q => .tup [.int (q.1 : Nat), tS (txt q.2)]
def isOne : T → Bool
  | .one => true
  | _ => false
def isNm : T → Bool
  | .name _ => true
  | _ => false
theorem first_no {t : T} (h : Good t) (h1 : isNm t = false) : ∃ c r, txt t = c :: r ∧ letter c = false := by
  cases t with
  | one => exact ⟨49, [], by rw [txt], by decide⟩
  | name x => cases h1
  | cop s n u => exact ⟨opn s, _, by rw [txt], by cases s <;> decide⟩
  | row s ts => exact ⟨40, _, by rw [txt], by decide⟩
theorem isName_txt {t : T} (h : Good t) : isNameL (txt t) = isNm t := by
  cases hn : isNm t with
  | true =>
    cases t with
    | name x =>
      obtain ⟨h0, h1, h2⟩ := h
      rw [txt]
      unfold isNameL
      rw [decide_eq_true (show 1 ≤ x.length from List.length_pos_iff.mpr h0), decide_eq_true h1, List.all_eq_true.mpr h2]; rfl
    | _ => cases hn
  | false =>
    obtain ⟨c, r, e, hc⟩ := first_no h hn
    rw [e]
    unfold isNameL
    rw [List.all_cons, hc]; simp
theorem isOne_txt {t : T} (h : Good t) : decide (S (txt t) = ("1" : Str)) = isOne t := by
  rw [show ("1" : Str) = S [49] by decide +kernel]
  have e : decide (S (txt t) = S [49]) = decide (txt t = [49]) := decide_eq_decide.mpr ⟨S_inj, fun h => by rw [h]⟩
  rw [e]
  cases t with
  | one => rw [txt]; rfl
  | name x =>
    obtain ⟨h0, h1, h2⟩ := h
    rw [txt]
    refine decide_eq_false fun q => ?_
    subst q
    exact absurd (h2 49 (by simp)) (by decide)
  | cop s n u => rw [txt]; refine decide_eq_false fun q => ?_; injection q with q1 _; cases s <;> cases q1
  | row s ts => rw [txt]; refine decide_eq_false fun q => ?_; injection q with q1 _; cases q1
def cGroupsIn : Con := fun ds M Φ => ∃ t, ds = [tS (txt t)] ∧ Good t ∧ (txt t).length ≤ 1000000 ∧ Φ (.tup [.str (wordT t), .lst (grpD t)]) M
theorem ok_groups_in (F : Fx w K mg) (F1 : Fc P w K mg base "is_name" [] 1 1 cIsName) (F2 : Fc P w K mg base "copies_in" [] 2 1 cCopiesIn) (F3 : Fc P w K mg base "row_in" [] 2 1 cRowIn) :
    BodyOk P w K mg base "groups_in" s_groups_in ["text", "found"] 1 2 cGroupsIn := by
  intro f cdv A outer s H E hr ds M Φ hl hc
  obtain ⟨t, rfl, hg, hl, hc⟩ := hc
  have nd : (["text", "found"] : List Str).Nodup := by decide +kernel
  refine wss_cons (ws_if (wt_eqS (we_var 0 rfl (we_gstr F.gPERSON ⟨_, rfl, ?_⟩))))
  rw [isOne_txt hg]
  cases h1 : isOne t with
  | true =>
    cases t with
    | one => exact wss_cons (ws_ret (we_tup (wa_cons (we_gstr F.gONE (wa_cons (we_lst (wa_nil ⟨Nat.zero_le _, wa_nil ⟨sz2, Lets.of hc⟩⟩)))))))
    | _ => cases h1
  | false =>
    refine wss_nil (wss_cons (ws_if (wt_val (we_call F1 (hr.mono (by decide)) (wa_cons (we_var 0 rfl (wa_nil ⟨rfl, _, rfl, hl, _, rfl, ?_⟩)))))))
    rw [isName_txt hg]
    cases h2 : isNm t with
    | true =>
      cases t with
      | name x => exact wss_cons (ws_ret (we_tup (wa_cons (we_gstr F.gNAME (wa_cons (we_lst (wa_nil ⟨Nat.zero_le _, wa_nil ⟨sz2, Lets.of hc⟩⟩)))))))
      | _ => cases h2
    | false =>
      refine wss_nil (wss_cons (ws_set 1 nd (we_call F2 (hr.mono (by decide)) (wa_cons (we_var 0 rfl (wa_nil ⟨rfl, _, rfl, hg, hl, ?_⟩))))))
      refine wss_cons (ws_ret (we_if (wt_isN (we_var 1 rfl ?_))))
      cases t with
      | one => cases h1
      | name x => cases h2
      | cop b n u => exact we_var 1 rfl (Lets.of hc)
      | row b ts =>
        refine we_call F3 (hr.mono (by decide)) (wa_cons (we_var 0 rfl (wa_nil ⟨rfl, _, _, rfl, hg, hl, Lets.of ?_⟩)))
        unfold grpD kids at hc
        rw [List.map_map] at hc
        exact hc
def cPlanText (h : Nat) : Con := fun ds M Φ => ∃ t d, ds = [tS (txt t), .int (d : Nat)] ∧ Good t ∧ (txt t).length ≤ 1000000 ∧ ht t ≤ h ∧ d + ht t ≤ 60 ∧ Φ (.bl true) M
theorem kids_len {t : T} (hg : Good t) : (kids t).length ≤ (txt t).length := by
  cases t with
  | one => simp [kids]
  | name x => simp [kids]
  | cop s n u => rw [txt]; simp [kids]
  | row s ts =>
    have := joins_len s (txts ts)
    rw [txts_len] at this
    rw [row_len]; simp [kids]; omega
theorem ok_is_plan_text (h : Nat) (F : Fx w K mg) (F1 : Fc P w K mg base "groups_in" [] 3 1 cGroupsIn) (F2 : ∀ j, h = j + 1 → Fc P w K mg base "is_plan_text" [] (j + 4) 2 (cPlanText j)) :
    BodyOk P w K mg base "is_plan_text" s_is_plan_text ["text", "depth", "found", "many", "part"] 2 (h + 3) (cPlanText h) := by
  intro f cdv A outer s H E hr ds M Φ hl hc
  obtain ⟨t, d, rfl, hg, hl, hh, hd, hc⟩ := hc
  have nd : (["text", "depth", "found", "many", "part"] : List Str).Nodup := by decide +kernel
  have hk := kids_len hg
  refine wss_cons (ws_set 2 nd (we_if (wt_leI (we_var 1 rfl (we_gint F.gMOST_DEPTH ⟨_, _, rfl, rfl, ?_⟩)))))
  rw [decide_eq_true (show (d : Int) ≤ 60 by omega)]
  refine we_call F1 (hr.mono (by omega)) (wa_cons (we_var 0 rfl (wa_nil ⟨rfl, _, rfl, hg, hl, ?_⟩)))
  refine wss_cons (ws_ret (we_and (we_notN (we_var 2 rfl ⟨_, rfl, ?_⟩))))
  refine we_one (we_all (F.bn _ (by decide +kernel)) (we_lc nd (blkOk_by (N := ["text", "depth", "found", "many", "part"]) (sc := defScope s_is_plan_text) (own := [("many", 3), ("part", 4)]) (by decide +kernel)) (fun _ _ _ _ _ => pg_tup rfl (pgs_cons (pg_name (i := 3) nd rfl (Or.inl rfl)) (pgs_cons (pg_name (i := 4) nd rfl (Or.inl rfl)) pgs_nil)) rfl rfl) (gt_two (by decide) (by decide)) (fun _ _ _ _ _ => pts_nil) tk_nil
    (wi_list (we_ix (we_var 2 rfl (we_int ⟨1, _, rfl, ixT (atI_nat (j := 1) rfl), _, .inl rfl, ?_⟩))))))
  refine ⟨by rw [grpD, List.length_map, sizeLine_eq]; omega, fun i acc M' => M' = M ∧ acc = (List.replicate i true).map D.bl, ⟨rfl, rfl⟩, ?_, ?_⟩
  · rintro i x acc M' hx ⟨rfl, rfl⟩
    rw [grpD, List.getElem?_map] at hx
    obtain ⟨q, hq, rfl⟩ := Option.map_eq_some_iff.mp hx
    obtain ⟨g1, g2, g3, g4, g5⟩ := kids_ok (List.mem_of_getElem? hq) hg
    refine ⟨_, _, rfl, ?_⟩
    intro s1 H1 C cl fp
    obtain ⟨j, rfl⟩ : ∃ j, h = j + 1 := ⟨h - 1, by omega⟩
    refine we_call (F2 j rfl) (hr.mono (by omega)) (wa_cons (we_var 4 rfl (wa_cons (we_addI (we_var 1 rfl (we_int ⟨_, _, rfl, rfl, wa_nil ⟨rfl, q.2, d + 1, rfl, g1, by omega, by omega, by omega, rfl, ?_⟩⟩))))))
    rw [List.replicate_succ', List.map_append]; rfl
  · rintro acc M' ⟨rfl, rfl⟩
    exact ⟨_, rfl, by rw [List.all_replicate]; simp; exact Lets.of hc⟩
end
end W
namespace W
open PySem PySem.Spec PyProof.Rows L2 DL SX PL
def six (a b c d e f : D) : List (Str × D) := [("own_text", a), ("own_names", b), ("own_word", c), ("own_groups", d), ("own_copies", e), ("own_people", f)]
theorem putD_ne {g f : Str} {d y : D} {r : List (Str × D)} (h : g ≠ f) : putD f d ((g, y) :: r) = (g, y) :: putD f d r := by
  rw [putD, if_neg h]
def f1 (a : D) : List (Str × D) := [("own_text", a)]
def f2 (a b : D) : List (Str × D) := [("own_text", a), ("own_names", b)]
def f3 (a b c : D) : List (Str × D) := [("own_text", a), ("own_names", b), ("own_word", c)]
def f4 (a b c d : D) : List (Str × D) := [("own_text", a), ("own_names", b), ("own_word", c), ("own_groups", d)]
def f5 (a b c d e : D) : List (Str × D) := [("own_text", a), ("own_names", b), ("own_word", c), ("own_groups", d), ("own_copies", e)]
section
variable {a b c d e f x : D}
theorem put1 : putD "own_text" x [] = f1 x := rfl
theorem put2 : putD "own_names" x (f1 a) = f2 a x := by unfold f1; rw [putD_ne] <;> first | rfl | decide +kernel
theorem put3 : putD "own_word" x (f2 a b) = f3 a b x := by unfold f2; rw [putD_ne, putD_ne] <;> first | rfl | decide +kernel
theorem put4 : putD "own_groups" x (f3 a b c) = f4 a b c x := by unfold f3; rw [putD_ne, putD_ne, putD_ne] <;> first | rfl | decide +kernel
theorem put5 : putD "own_copies" x (f4 a b c d) = f5 a b c d x := by unfold f4; rw [putD_ne, putD_ne, putD_ne, putD_ne] <;> first | rfl | decide +kernel
theorem put6 : putD "own_people" x (f5 a b c d e) = six a b c d e x := by unfold f5; rw [putD_ne, putD_ne, putD_ne, putD_ne, putD_ne] <;> first | rfl | decide +kernel
theorem sl1 : (f1 a).length < 1000 := by show 1 < 1000; decide
theorem sl2 : (f2 a b).length < 1000 := by show 2 < 1000; decide
theorem sl3 : (f3 a b c).length < 1000 := by show 3 < 1000; decide
theorem sl4 : (f4 a b c d).length < 1000 := by show 4 < 1000; decide
theorem sl5 : (f5 a b c d e).length < 1000 := by show 5 < 1000; decide
theorem lk_hit {g : Str} {y : D} {r : List (Str × D)} : ((g, y) :: r).lookup g = some y := by rw [List.lookup_cons]; simp
theorem lk_miss {g h : Str} {y : D} {r : List (Str × D)} (hn : (g == h) = false) : ((h, y) :: r).lookup g = r.lookup g := by rw [List.lookup_cons, hn]
theorem lk_text : List.lookup ("own_text" : Str) (six a b c d e f) = some a := lk_hit
theorem lk_names : List.lookup ("own_names" : Str) (six a b c d e f) = some b := by unfold six; rw [lk_miss, lk_hit]; decide +kernel
theorem lk_word : List.lookup ("own_word" : Str) (six a b c d e f) = some c := by unfold six; rw [lk_miss, lk_miss, lk_hit] <;> decide +kernel
theorem lk_groups : List.lookup ("own_groups" : Str) (six a b c d e f) = some d := by unfold six; rw [lk_miss, lk_miss, lk_miss, lk_hit] <;> decide +kernel
theorem lk_copies : List.lookup ("own_copies" : Str) (six a b c d e f) = some e := by unfold six; rw [lk_miss, lk_miss, lk_miss, lk_miss, lk_hit] <;> decide +kernel
theorem lk_people : List.lookup ("own_people" : Str) (six a b c d e f) = some f := by unfold six; rw [lk_miss, lk_miss, lk_miss, lk_miss, lk_miss, lk_hit] <;> decide +kernel
theorem lk5_groups : List.lookup ("own_groups" : Str) (f5 a b c d e) = some d := by unfold f5; rw [lk_miss, lk_miss, lk_miss, lk_hit] <;> decide +kernel
end
mutual
/-- the plan as an instance of the class at C -/
def planD (C : Addr) : T → D
  | .one => .ins C (six (tS (txt .one)) (.tup []) (.str (wordT .one)) (.lst []) (.bl false) (.int (ppl .one : Nat)))
  | .name x => .ins C (six (tS (txt (.name x))) (.tup [tS x]) (.str (wordT (.name x))) (.lst []) (.bl false) (.int (ppl (.name x) : Nat)))
  | .cop s n t => .ins C (six (tS (txt (.cop s n t))) (.tup []) (.str (wordT (.cop s n t))) (.lst [.tup [.int (n : Nat), planD C t]]) (.bl true) (.int (ppl (.cop s n t) : Nat)))
  | .row s ts => .ins C (six (tS (txt (.row s ts))) (.tup []) (.str (wordT (.row s ts))) (.lst (plansD C ts)) (.bl false) (.int (ppl (.row s ts) : Nat)))
def plansD (C : Addr) : List T → List D
  | [] => []
  | t :: ts => .tup [.int ((1 : Nat) : Int), planD C t] :: plansD C ts
end
theorem plansD_map (C : Addr) : ∀ ts : List T, plansD C ts = ts.map fun t => .tup [.int ((1 : Nat) : Int), planD C t]
  | [] => by rw [plansD]; rfl
  | t :: ts => by rw [plansD, plansD_map C ts, List.map_cons]
def subsD (C : Addr) (t : T) : List D := (kids t).map fun q => .tup [.int (q.1 : Nat), planD C q.2]
def fldsD (C : Addr) (t : T) : List (Str × D) := six (tS (txt t)) (.tup []) (.str (wordT t)) (.lst (subsD C t)) (.bl (isCop t)) (.int (ppl t : Nat))
theorem planD_told {C : Addr} {t : T} (h : Told t) : planD C t = .ins C (fldsD C t) := by
  cases t with
  | one => rw [planD]; rfl
  | name x => exact h.elim
  | cop s n t => rw [planD]; rfl
  | row s ts =>
    rw [planD, plansD_map]
    unfold fldsD subsD kids
    rw [List.map_map]; rfl
/-- what is known of the class -/
structure Px (K : PySem.W.Frag) (mg : Str → Option Value) (C : Addr) : Prop where
  at_ : mg "Plan" = some (.ref C)
  cl : Cls K C
  na : ∀ f, f ∈ fNames → NoAttr K C f
  init : ∃ f, Mk K C f ∧ Md K C "__init__" "Plan.__init__" s_Plan___init__ f
  text : ∃ p f, PropOf K C "text" p f ∧ Md K C "text" "Plan.text" s_Plan_text f
  names : ∃ p f, PropOf K C "names" p f ∧ Md K C "names" "Plan.names" s_Plan_names f
  word : ∃ p f, PropOf K C "word" p f ∧ Md K C "word" "Plan.word" s_Plan_word f
  many : ∃ p f, PropOf K C "many" p f ∧ Md K C "many" "Plan.many" s_Plan_many f
  invert : ∃ f, Meth K C "__invert__" f ∧ Md K C "__invert__" "Plan.__invert__" s_Plan___invert__ f
section
variable {P : Program} {w : World} {K : PySem.W.Frag} {mg : Str → Option Value} {base : Heap} {C : Addr}
def cInit (C : Addr) (h : Nat) : Con := fun ds M Φ => ∃ a t, ds = [.ob a, tS (txt t)] ∧ Good t ∧ Told t ∧ (txt t).length ≤ 100000 ∧ ht t ≤ h ∧ ht t ≤ 60 ∧ M a = some (.ins C []) ∧ Φ .non (mset M a (.ins C (fldsD C t)))
/-- Plan(e) -/
theorem we_plan {X : Cx} {ρ : Rho} {M : Mp} {Φ : D → Mp → Prop} {e : Expr} {p pos : Pos} {h k : Nat} (F : Kc X.prog X.w X.K X.mg X.base "Plan" C [] k 2 (cInit C h)) (hr : Room (k + 1) X.A)
    (q : WE X ρ M e fun d M1 => ∃ t, d = tS (txt t) ∧ Good t ∧ Told t ∧ (txt t).length ≤ 100000 ∧ ht t ≤ h ∧ ht t ≤ 60 ∧ Φ (planD C t) M1) (hg : Gl X "Plan" := by rfl)
    (he : starEach [e] X.env = (false, eval e X.env) :: starEach [] X.env := by rfl) (hpl : (backTo pos (starEach [] X.env)).any (·.1) = false := by rfl) : WE X ρ M (.Call (.Name "Plan" p) [e] [] pos) Φ :=
  we_make F hr (wa_cons (q.imp fun d M1 ⟨t, e1, h1, h2, h3, h4, h5, h6⟩ => wa_nil fun a ha => ⟨rfl, a, t, by rw [e1]; rfl, h1, h2, h3, h4, h5, mset_same, rfl, by
    rw [mset_mset]
    exact ⟨_, M1, les_new ha, .ins mset_same ha, by rw [← planD_told h2]; exact h6⟩⟩) he) hg (he := he) (hpl := hpl)
theorem cop_in {t : T} (h : Good t) : ∃ c r, txt t = c :: r ∧ decide (S [c] ∈ (["[", "{"] : List Str)) = isCop t := by
  have e1 : (["[", "{"] : List Str) = [S [91], S [123]] := by decide +kernel
  rw [e1]
  have key : ∀ c : Nat, decide (S [c] ∈ [S [91], S [123]]) = (decide (c = 91) || decide (c = 123)) := fun c => by
    rw [← Bool.decide_or]
    refine decide_eq_decide.mpr ?_
    simp only [List.mem_cons, List.not_mem_nil, or_false]
    constructor
    · rintro (h | h)
      · left; injection S_inj h
      · right; injection S_inj h
    · rintro (rfl | rfl)
      · exact .inl rfl
      · exact .inr rfl
  cases t with
  | one => exact ⟨49, [], by rw [txt], by rw [key]; rfl⟩
  | name x =>
    obtain ⟨h0, h1, h2⟩ := h
    cases x with
    | nil => exact absurd rfl h0
    | cons c r =>
      have q := h2 c List.mem_cons_self
      simp [letter] at q
      exact ⟨c, r, by rw [txt], by rw [key, decide_eq_false (by omega), decide_eq_false (by omega)]; rfl⟩
  | cop s n u => exact ⟨opn s, _, by rw [txt], by rw [key]; cases s <;> rfl⟩
  | row s ts => exact ⟨40, _, by rw [txt], by rw [key]; rfl⟩
theorem cut_1 (c : Nat) (r : List Nat) : cutS (S (c :: r)) none (some 1) = S [c] := by
  unfold cutS
  rw [S_len, show (some (1 : Int)) = some ((1 : Nat) : Int) from rfl, HT.sIx_nat, HT.sIx_none, Nat.min_eq_left (by simp)]
  rfl
theorem grp_cmp {t : T} (h : Good t) : ∃ ps, CmpDs (grpD t) ps 1 :=
  ⟨_, cmps_map (j := 1) (Nat.le_refl _) (g := fun q => .tuple [.int (q.1 : Nat), .str (S (txt q.2))]) fun q hq => cmp_tup (cmps_cons (cmp_int _) (Nat.le_refl _) (cmps_cons (cmp_str fun c hc => by
    have := txt_lt (kids_ok hq h).1 c hc; omega) (Nat.le_refl _) cmps_nil))⟩
end
end W
namespace W
open PySem PySem.Spec PyProof.Rows L2 DL He HK
theorem mem_bn {x : Str} (h : x ∈ bns) : Fa.free x ∈ spec.fa := List.mem_append_left _ (List.mem_map_of_mem h)
theorem mem_glo {x : Str} (h : x ∈ globsA) : Fa.glo x ∈ spec.fa := List.mem_append_right _ (List.mem_append_left _ (List.mem_map_of_mem h))
theorem mem_na {x : Str} (h : x ∈ fNames) : Fa.noat "Plan" x ∈ spec.fa := List.mem_append_right _ (List.mem_append_right _ (List.mem_append_left _ (List.mem_map_of_mem h)))
theorem mem_co (i : Nat) {f : Fa} (h : consts[i]? = some f) : f ∈ spec.fa := List.mem_append_right _ (List.mem_append_right _ (List.mem_append_right _ (List.mem_of_getElem? h)))
theorem ob_eq (s : PySem.W.SharedT) : ob s = hk.obs s.abs := obsG_eq (HandSHeadRun.getT_eq s)
end W
namespace W
open PySem PySem.Spec PyProof.Rows L2 DL SX PL
section
variable {P : Program} {w : World} {K : PySem.W.Frag} {mg : Str → Option Value} {base : Heap} {C : Addr}
abbrev nInit : List Str := ["self", "text", "groups", "many", "part"]
theorem mul_ok {n p m : Nat} (h1 : n ≤ 10 ^ 30) (h2 : p < 16 ^ m) (h3 : m ≤ 100000) : CMulW (n : Nat) (p : Nat) := by
  show ((n : Int)).natAbs.log2 + ((p : Int)).natAbs.log2 < 1000000
  rw [Int.natAbs_natCast, Int.natAbs_natCast]
  have e1 := log16 h2
  have e2 : n < 16 ^ 26 := Nat.lt_of_le_of_lt h1 (by decide)
  have e3 := log16 e2
  omega
theorem sum_cast {α : Type} (f : α → Nat) : ∀ l : List α, (l.map fun q => ((f q : Nat) : Int)).sum = (((l.map f).sum : Nat) : Int)
  | [] => rfl
  | x :: l => by simp [sum_cast f l]
end
end W
namespace PL
open PySem SX TL
def Ok (t : T) : Prop := Good t ∧ Told t ∧ (txt t).length ≤ 100000
theorem kids_Ok {t : T} {q : Nat × T} (hq : q ∈ kids t) (h : Ok t) : Ok q.2 := by
  obtain ⟨h1, h2, h3⟩ := h
  obtain ⟨g1, g2, g3, g4, g5⟩ := kids_ok hq h1
  exact ⟨g1, kids_told hq h2, by omega⟩
def cnt (t : T) : Nat := ((kids t).map (·.1)).sum
/-- the part with the number i (of copies: any) -/
def piece : T → Nat → Option T
  | .cop _ _ t, _ => some t
  | .row _ ts, i => ts[i]?
  | _, _ => none
theorem cnt_cop (s : Bool) (n : Nat) (t : T) : cnt (.cop s n t) = n := by simp [cnt, kids]
theorem ones_sum : ∀ ts : List T, ((ts.map fun t => (1, t)).map (fun q : Nat × T => q.1)).sum = ts.length
  | [] => rfl
  | t :: ts => by rw [List.map_cons, List.map_cons, List.sum_cons, ones_sum ts, List.length_cons]; show 1 + _ = _; omega
theorem cnt_row (s : Bool) (ts : List T) : cnt (.row s ts) = ts.length := by
  unfold cnt kids; exact ones_sum ts
theorem piece_some {t : T} {i : Nat} (h : i < cnt t) : ∃ u, piece t i = some u := by
  cases t with
  | one => simp [cnt, kids] at h
  | name x => simp [cnt, kids] at h
  | cop s n t => exact ⟨t, rfl⟩
  | row s ts => rw [cnt_row] at h; exact ⟨ts[i], List.getElem?_eq_getElem h⟩
theorem piece_mem {t u : T} {i : Nat} (h : piece t i = some u) : ∃ q ∈ kids t, q.2 = u := by
  cases t with
  | one => cases h
  | name x => cases h
  | cop s n v => exact ⟨(n, v), by simp [kids], Option.some.inj h⟩
  | row s ts => exact ⟨(1, u), by unfold kids; exact List.mem_map.mpr ⟨u, List.mem_of_getElem? h, rfl⟩, rfl⟩
theorem piece_Ok {t u : T} {i : Nat} (h : piece t i = some u) (ok : Ok t) : Ok u := by
  obtain ⟨q, hq, rfl⟩ := piece_mem h
  exact kids_Ok hq ok
/-- going down -/
def desc : T → List Nat → Option T
  | t, [] => some t
  | t, i :: p => if i < cnt t then (piece t i).bind fun u => desc u p else none
theorem desc_snoc : ∀ {t : T} {p : List Nat} {i : Nat}, desc t (p ++ [i]) = (desc t p).bind fun u => if i < cnt u then piece u i else none
  | t, [], i => by
    simp only [List.nil_append, desc, Option.bind_some]
    split
    · cases piece t i <;> rfl
    · rfl
  | t, j :: p, i => by
    simp only [List.cons_append, desc]
    split
    · cases h : piece t j with
      | none => rfl
      | some u => simp only [Option.bind_some]; exact desc_snoc
    · rfl
theorem desc_Ok : ∀ {t u : T} {p : List Nat}, desc t p = some u → Ok t → Ok u
  | t, u, [], h, ok => by cases h; exact ok
  | t, u, i :: p, h, ok => by
    simp only [desc] at h
    split at h
    · obtain ⟨v, h1, h2⟩ := Option.bind_eq_some_iff.mp h
      exact desc_Ok h2 (piece_Ok h1 ok)
    · cases h
theorem desc_none {t : T} {p q : List Nat} (h : desc t p = none) : desc t (p ++ q) = none := by
  induction p generalizing t with
  | nil => cases h
  | cons i p ih =>
    simp only [List.cons_append, desc] at h ⊢
    split
    · rename_i hc
      rw [if_pos hc] at h
      cases e : piece t i with
      | none => rfl
      | some u => rw [e] at h; simp only [Option.bind_some] at h ⊢; exact ih h
    · rfl
def isOneT : T → Bool
  | .one => true
  | _ => false
/-- is it a person of the plan -/
def isPers (t : T) (p : List Nat) : Bool := match desc t p with
  | some u => isOneT u
  | none => false
/-- whether the parts know one another -/
def intr : T → Bool
  | .cop s _ _ => s
  | .row s _ => s
  | _ => false
/-- whom do_know tells -/
def knowsB : T → List Nat → List Nat → Bool
  | t, i :: p, j :: q => if i = j then (match piece t i with | some u => knowsB u p q | none => false) else intr t
  | _, _, _ => false
def flip (c : Nat) : Nat := if c = 43 then 42 else if c = 42 then 43 else if c = 91 then 123 else if c = 123 then 91 else if c = 93 then 125 else if c = 125 then 93 else c
end PL
namespace W
open PySem PySem.Spec PyProof.Rows L2 DL SX PL
section
variable {P : Program} {w : World} {K : PySem.W.Frag} {mg : Str → Option Value} {base : Heap} {C : Addr}
/-- what a question of the plan tells -/
def cGet (C : Addr) (g : T → D) : Con := fun ds M Φ => ∃ t, ds = [planD C t] ∧ Ok t ∧ Φ (g t) M
theorem insP {M : Mp} {t : T} (h : Told t) : InsOf M C (planD C t) (fldsD C t) := by rw [planD_told h]; exact ⟨rfl, rfl⟩
theorem ok_text (X : Px K mg C) : BodyOk P w K mg base "Plan.text" s_Plan_text ["self"] 1 0 (cGet C fun t => tS (txt t)) := by
  intro f cdv A outer s H E hr ds M Φ hl hc
  obtain ⟨t, rfl, ok, hc⟩ := hc
  exact wss_cons (ws_ret (we_fld (C := C) (we_var 0 rfl ⟨_, _, insP ok.2.1, X.cl, X.na _ (by decide +kernel), lk_text, Lets.of hc⟩)))
theorem ok_names (X : Px K mg C) : BodyOk P w K mg base "Plan.names" s_Plan_names ["self"] 1 0 (cGet C fun t => .tup []) := by
  intro f cdv A outer s H E hr ds M Φ hl hc
  obtain ⟨t, rfl, ok, hc⟩ := hc
  exact wss_cons (ws_ret (we_fld (C := C) (we_var 0 rfl ⟨_, _, insP ok.2.1, X.cl, X.na _ (by decide +kernel), lk_names, Lets.of hc⟩)))
theorem ok_word (X : Px K mg C) : BodyOk P w K mg base "Plan.word" s_Plan_word ["self"] 1 0 (cGet C fun t => .str (wordT t)) := by
  intro f cdv A outer s H E hr ds M Φ hl hc
  obtain ⟨t, rfl, ok, hc⟩ := hc
  exact wss_cons (ws_ret (we_fld (C := C) (we_var 0 rfl ⟨_, _, insP ok.2.1, X.cl, X.na _ (by decide +kernel), lk_word, Lets.of hc⟩)))
theorem ok_many (F : Fx w K mg) (X : Px K mg C) : BodyOk P w K mg base "Plan.many" s_Plan_many ["self", "many", "part"] 1 0 (cGet C fun t => .int (cnt t : Nat)) := by
  intro f cdv A outer s H E hr ds M Φ hl hc
  obtain ⟨t, rfl, ok, hc⟩ := hc
  have nd : (["self", "many", "part"] : List Str).Nodup := by decide +kernel
  have hk := kids_len ok.1
  have h3 := ok.2.2
  refine wss_cons (ws_ret (we_sum (F.bn _ (by decide +kernel)) (we_lc nd (blkOk_by (N := ["self", "many", "part"]) (sc := defScope s_Plan_many) (own := [("many", 1), ("part", 2)]) (by decide +kernel)) (fun _ _ _ _ _ => pg_tup rfl (pgs_cons (pg_name (i := 1) nd rfl (Or.inl rfl)) (pgs_cons (pg_name (i := 2) nd rfl (Or.inl rfl)) pgs_nil)) rfl rfl) (gt_two (by decide) (by decide)) (fun _ _ _ _ _ => pts_nil) tk_nil
    (wi_list (we_fld (C := C) (we_var 0 rfl ⟨_, _, insP ok.2.1, X.cl, X.na _ (by decide +kernel), lk_groups, _, .inl rfl, ?_⟩))))))
  refine ⟨by rw [subsD, List.length_map, sizeLine_eq]; omega, fun i acc M' => M' = M ∧ acc = (((kids t).take i).map fun q => ((q.1 : Nat) : Int)).map D.int, ⟨rfl, rfl⟩, ?_, ?_⟩
  · rintro i x acc M' hx ⟨rfl, rfl⟩
    rw [subsD, List.getElem?_map] at hx
    obtain ⟨q, hq, rfl⟩ := Option.map_eq_some_iff.mp hx
    refine ⟨_, _, rfl, ?_⟩
    intro s1 H1 C' cl fp
    refine we_var 1 rfl ⟨rfl, ?_⟩
    rw [take_snoc hq, List.map_append, List.map_append]; rfl
  · rintro acc M' ⟨rfl, rfl⟩
    refine ⟨_, rfl, Lets.of ?_⟩
    rw [subsD, List.length_map, List.take_length, sum_cast (fun q : Nat × T => q.1)]
    exact hc
def cTold (C : Addr) : Con := fun ds M Φ => ∃ t, ds = [planD C t] ∧ Ok t ∧ Φ .non M
theorem ok_check_told (F1 : Pc P w K mg base C "names" 1 (cGet C fun t => .tup [])) : BodyOk P w K mg base "check_told" s_check_told ["plan"] 1 2 (cTold C) := by
  intro f cdv A outer s H E hr ds M Φ hl hc
  obtain ⟨t, rfl, ok, hc⟩ := hc
  exact wss_cons (ws_if (wt_neNilT hr.units (we_prop F1 (hr.mono (by decide)) (we_var 0 rfl ⟨_, insP ok.2.1, t, rfl, ok, [], [], 0, rfl, cmps_nil, by decide, wss_nil (wss_nil hc)⟩))))
/-- one sign turned -/
theorem turned (c : Nat) : (List.lookup (S [c]) turnedD).getD (.str (S [c])) = .str (S [PL.flip c]) := by
  have e : turnedD = [(S [43], tS [42]), (S [42], tS [43]), (S [91], tS [123]), (S [123], tS [91]), (S [93], tS [125]), (S [125], tS [93])] := by
    unfold turnedD
    rw [show ("+" : Str) = S [43] by decide +kernel, show ("*" : Str) = S [42] by decide +kernel, show ("[" : Str) = S [91] by decide +kernel, show ("{" : Str) = S [123] by decide +kernel, show ("]" : Str) = S [93] by decide +kernel, show ("}" : Str) = S [125] by decide +kernel]
  have b : ∀ d, (S [c] == S [d]) = decide (c = d) := fun d => by
    rw [S_beq_eq]
    exact decide_eq_decide.mpr ⟨fun h => by injection h, fun h => by rw [h]⟩
  rw [e]
  unfold PL.flip
  simp only [List.lookup_cons, b, List.lookup_nil]
  by_cases h1 : c = 43
  · subst h1; rfl
  by_cases h2 : c = 42
  · subst h2; rfl
  by_cases h3 : c = 91
  · subst h3; rfl
  by_cases h4 : c = 123
  · subst h4; rfl
  by_cases h5 : c = 93
  · subst h5; rfl
  by_cases h6 : c = 125
  · subst h6; rfl
  rw [if_neg h1, if_neg h2, if_neg h3, if_neg h4, if_neg h5, if_neg h6]
  simp [h1, h2, h3, h4, h5, h6]
end
end W
namespace PL
open PySem SX TL
theorem fm_congr {α β : Type} {f g : α → List β} : ∀ {l : List α}, (∀ x ∈ l, f x = g x) → l.flatMap f = l.flatMap g
  | [], _ => rfl
  | x :: l, h => by rw [List.flatMap_cons, List.flatMap_cons, h x List.mem_cons_self, fm_congr fun y hy => h y (List.mem_cons_of_mem _ hy)]
mutual
def persL : T → List (List Nat)
  | .one => [[]]
  | .name _ => []
  | .cop _ n t => (List.range n).flatMap fun i => (persL t).map (i :: ·)
  | .row _ ts => persR 0 ts
def persR : Nat → List T → List (List Nat)
  | _, [] => []
  | k, t :: ts => (persL t).map (k :: ·) ++ persR (k + 1) ts
end
def pieceP (t : T) (j : Nat) : List (List Nat) := match piece t j with
  | some u => (persL u).map (j :: ·)
  | none => []
def upTo (t : T) (i : Nat) : List (List Nat) := (List.range i).flatMap (pieceP t)
theorem upTo_succ {t u : T} {i : Nat} (h : piece t i = some u) : upTo t (i + 1) = upTo t i ++ (persL u).map (i :: ·) := by
  unfold upTo
  rw [List.range_succ, List.flatMap_append]
  simp [pieceP, h]
theorem persR_eq : ∀ (ts : List T) (k : Nat), persR k ts = (List.range ts.length).flatMap fun j => match ts[j]? with
    | some u => (persL u).map ((k + j) :: ·)
    | none => []
  | [], k => by rw [persR]; rfl
  | t :: ts, k => by
    rw [persR, persR_eq ts (k + 1), List.length_cons, List.range_succ_eq_map, List.flatMap_cons, List.flatMap_map]
    congr 1
    refine fm_congr ?_
    intro j _
    simp only [Function.comp, Nat.succ_eq_add_one, List.getElem?_cons_succ]
    rw [show k + 1 + j = k + (j + 1) by omega]
theorem persL_upTo {t : T} (h : isOneT t = false) : persL t = upTo t (cnt t) := by
  cases t with
  | one => cases h
  | name x => rw [persL]; rfl
  | cop s n t => rw [persL, cnt_cop]; rfl
  | row s ts =>
    rw [persL, cnt_row, persR_eq]
    unfold upTo
    refine fm_congr ?_
    intro j _
    simp only [pieceP, piece, Nat.zero_add]
theorem mem_upTo {t : T} {i : Nat} {p : List Nat} (h : p ∈ upTo t i) : ∃ j u q, j < i ∧ piece t j = some u ∧ q ∈ persL u ∧ p = j :: q := by
  unfold upTo at h
  obtain ⟨j, hj, hp⟩ := List.mem_flatMap.mp h
  unfold pieceP at hp
  cases e : piece t j with
  | none => rw [e] at hp; simp at hp
  | some u =>
    rw [e] at hp
    obtain ⟨q, hq, rfl⟩ := List.mem_map.mp hp
    exact ⟨j, u, q, List.mem_range.mp hj, e, hq, rfl⟩
theorem piece_ht {t u : T} {i : Nat} (h : piece t i = some u) : ht u < ht t := by
  cases t with
  | one => cases h
  | name x => cases h
  | cop s n v => obtain rfl := Option.some.inj h; rw [ht]; omega
  | row s ts => have := hts_le (List.mem_of_getElem? (show ts[i]? = some u from h)); rw [ht]; omega
theorem pers_is : ∀ (n : Nat) {t : T} {p : List Nat}, ht t ≤ n → p ∈ persL t → isPers t p = true := by
  intro n
  induction n with
  | zero =>
    intro t p hn hp
    cases h : isOneT t with
    | true =>
      cases t with
      | one =>
        rw [persL] at hp
        have : p = [] := by simpa using hp
        subst this; rfl
      | _ => cases h
    | false =>
      rw [persL_upTo h] at hp
      obtain ⟨j, u, q, h1, h2, h3, rfl⟩ := mem_upTo hp
      have := piece_ht h2
      omega
  | succ n ih =>
    intro t p hn hp
    cases h : isOneT t with
    | true =>
      cases t with
      | one =>
        rw [persL] at hp
        have : p = [] := by simpa using hp
        subst this; rfl
      | _ => cases h
    | false =>
      rw [persL_upTo h] at hp
      obtain ⟨j, u, q, h1, h2, h3, rfl⟩ := mem_upTo hp
      have h4 := piece_ht h2
      have h5 := ih (by omega) h3
      unfold isPers at h5 ⊢
      simp only [desc]
      rw [if_pos h1, h2]
      exact h5
theorem pers_len {t : T} {i j : Nat} (h : i ≤ j) : (upTo t i).length ≤ (upTo t j).length := by
  obtain ⟨k, rfl⟩ := Nat.exists_eq_add_of_le h
  unfold upTo
  rw [List.range_add, List.flatMap_append, List.length_append]
  omega
mutual
theorem persL_le : ∀ t : T, (persL t).length ≤ ppl t
  | .one => by rw [persL, ppl]; simp
  | .name x => by rw [persL, ppl]; simp
  | .cop s n t => by
    rw [persL, ppl]
    have ih := persL_le t
    have : ∀ m : Nat, ((List.range m).flatMap fun i => (persL t).map (i :: ·)).length = m * (persL t).length := by
      intro m
      induction m with
      | zero => simp
      | succ m ih => rw [List.range_succ, List.flatMap_append, List.length_append, ih]; simp [Nat.succ_mul]
    rw [this]
    exact Nat.mul_le_mul_left _ ih
  | .row s ts => by rw [persL, ppl]; exact persR_le 0 ts
theorem persR_le : ∀ (k : Nat) (ts : List T), (persR k ts).length ≤ ppls ts
  | k, [] => by rw [persR, ppls]; simp
  | k, t :: ts => by
    rw [persR, ppls, List.length_append, List.length_map]
    have h1 := persL_le t
    have h2 := persR_le (k + 1) ts
    omega
end
/-- a person that is nothing further down -/
theorem pers_nil {t : T} (h : isPers t [] = true) : t = .one := by
  unfold isPers at h
  simp only [desc] at h
  cases t with
  | one => rfl
  | _ => cases h
theorem pers_cons {t : T} {i : Nat} {p : List Nat} (h : isPers t (i :: p) = true) : ∃ u, i < cnt t ∧ piece t i = some u ∧ isPers u p = true := by
  unfold isPers at h
  simp only [desc] at h
  split at h
  · rename_i u hu
    split at hu
    · rename_i hlt
      obtain ⟨v, h1, h2⟩ := Option.bind_eq_some_iff.mp hu
      exact ⟨v, hlt, h1, by unfold isPers; rw [h2]; exact h⟩
    · cases hu
  · cases h
theorem pers_ht : ∀ {p : List Nat} {t : T}, isPers t p = true → p.length ≤ ht t
  | [], _, _ => Nat.zero_le _
  | i :: p, t, h => by
    obtain ⟨u, h1, h2, h3⟩ := pers_cons h
    have a := pers_ht h3
    have b := piece_ht h2
    rw [List.length_cons]; omega
theorem mem_le_sum : ∀ {l : List Nat} {n : Nat}, n ∈ l → n ≤ l.sum
  | x :: l, n, h => by
    rw [List.sum_cons]
    rcases List.mem_cons.mp h with rfl | h
    · omega
    · have := mem_le_sum h; omega
theorem pers_one {p : List Nat} (h : isPers .one p = true) : p = [] := by
  cases p with
  | nil => rfl
  | cons i p =>
    obtain ⟨u, h1, _⟩ := pers_cons h
    simp [cnt, kids] at h1
theorem two_pers {t : T} {p q : List Nat} (hp : isPers t p = true) (hq : isPers t q = true) (hn : p ≠ q) : ∃ i p' j q' u v, p = i :: p' ∧ q = j :: q' ∧ i < cnt t ∧ j < cnt t ∧ piece t i = some u ∧ piece t j = some v ∧ isPers u p' = true ∧ isPers v q' = true := by
  cases p with
  | nil =>
    have := pers_nil hp
    subst this
    exact absurd (pers_one hq).symm hn
  | cons i p' =>
    cases q with
    | nil =>
      have := pers_nil hq
      subst this
      exact absurd (pers_one hp) hn
    | cons j q' =>
      obtain ⟨u, h1, h2, h3⟩ := pers_cons hp
      obtain ⟨v, g1, g2, g3⟩ := pers_cons hq
      exact ⟨i, p', j, q', u, v, rfl, rfl, h1, g1, h2, g2, h3, g3⟩
mutual
theorem ppl_pos : ∀ {t : T}, Good t → 1 ≤ ppl t
  | .one, _ => by rw [ppl]; omega
  | .name x, _ => by rw [ppl]; omega
  | .cop s n t, h => by
    rw [ppl]
    have h1 := ppl_pos h.2.2
    have h2 := h.1
    exact Nat.mul_pos (by omega) h1
  | .row s ts, h => by
    rw [ppl]
    have := ppls_pos h.2
    have := h.1
    omega
theorem ppls_pos : ∀ {ts : List T}, Goods ts → ts.length ≤ ppls ts
  | [], _ => Nat.zero_le _
  | t :: ts, h => by
    rw [ppls, List.length_cons]
    have h1 := ppl_pos h.1
    have h2 := ppls_pos h.2
    omega
end
end PL
namespace W
open PySem PySem.Spec PyProof.Rows L2 DL SX PL
section
variable {P : Program} {w : World} {K : PySem.W.Frag} {mg : Str → Option Value} {base : Heap} {C : Addr}
/-- a person as data -/
abbrev perD (p : List Nat) : D := .tup (p.map fun (i : Nat) => D.int (i : Nat))
def cPartAt (C : Addr) : Con := fun ds M Φ => ∃ t i u, ds = [planD C t, .int (i : Nat)] ∧ Ok t ∧ piece t i = some u ∧ Φ (planD C u) M
theorem ok_part_at (X : Px K mg C) : BodyOk P w K mg base "part_at" s_part_at ["plan", "number"] 2 0 (cPartAt C) := by
  intro f cdv A outer s H E hr ds M Φ hl hc
  obtain ⟨t, i, u, rfl, ok, hp, hc⟩ := hc
  refine wss_cons (ws_ret (we_if (wt_val (we_fld (C := C) (we_var 0 rfl ⟨_, _, insP ok.2.1, X.cl, X.na _ (by decide +kernel), lk_copies, _, rfl, ?_⟩)))))
  cases t with
  | one => cases hp
  | name x => cases hp
  | cop b n v =>
    obtain rfl : v = u := Option.some.inj hp
    exact we_ix (we_ix (we_fld (C := C) (we_var 0 rfl ⟨_, _, insP ok.2.1, X.cl, X.na _ (by decide +kernel), lk_groups, we_int ⟨0, _, rfl, ixL (atI_nat (j := 0) rfl), we_int ⟨1, _, rfl, ixT (atI_nat (j := 1) rfl), Lets.of hc⟩⟩⟩)))
  | row b ts =>
    have hq : (subsD C (.row b ts))[i]? = some (.tup [.int ((1 : Nat) : Int), planD C u]) := by
      show ((ts.map fun t => (1, t)).map fun q : Nat × T => D.tup [.int (q.1 : Nat), planD C q.2])[i]? = _
      rw [List.map_map, List.getElem?_map, show ts[i]? = some u from hp]; rfl
    exact we_ix (we_ix (we_fld (C := C) (we_var 0 rfl ⟨_, _, insP ok.2.1, X.cl, X.na _ (by decide +kernel), lk_groups, we_var 1 rfl ⟨i, _, rfl, ixL (atI_nat hq), we_int ⟨1, _, rfl, ixT (atI_nat (j := 1) rfl), Lets.of hc⟩⟩⟩)))
theorem pers_get {p : List Nat} {i : Nat} {x : D} (h : (p.map fun (i : Nat) => D.int (i : Nat))[i]? = some x) : ∃ n, p[i]? = some n ∧ x = .int (n : Nat) := by
  rw [List.getElem?_map] at h
  obtain ⟨n, h1, rfl⟩ := Option.map_eq_some_iff.mp h
  exact ⟨n, h1, rfl⟩
theorem one_word {t : T} (h : Told t) : decide (wordT t = ("one" : Str)) = isOneT t := by
  cases t with
  | one => decide +kernel
  | name x => exact h.elim
  | cop s n u =>
    show decide (wrd s = ("one" : Str)) = false
    cases s <;> decide +kernel
  | row s ts =>
    show decide (wrd s = ("one" : Str)) = false
    cases s <;> decide +kernel
end
end W
namespace W
open PySem PySem.Spec PyProof.Rows L2 DL SX PL
section
variable {P : Program} {w : World} {K : PySem.W.Frag} {mg : Str → Option Value} {base : Heap} {C : Addr}
def cDoKnow (C : Addr) : Con := fun ds M Φ => ∃ t p q, ds = [planD C t, perD p, perD q] ∧ Ok t ∧ isPers t p = true ∧ isPers t q = true ∧ Φ (.bl (knowsB t p q)) M
theorem intr_word {t : T} (h : Told t) : decide (wordT t = ("introduced" : Str)) = intr t := by
  cases t with
  | one => decide +kernel
  | name x => exact h.elim
  | cop s n u =>
    show decide (wrd s = ("introduced" : Str)) = s
    cases s <;> decide +kernel
  | row s ts =>
    show decide (wrd s = ("introduced" : Str)) = s
    cases s <;> decide +kernel
theorem knows_drop : ∀ {p q : List Nat} {t u : T} (i : Nat), p.take i = q.take i → i ≤ p.length → i ≤ q.length → desc t (p.take i) = some u → knowsB t p q = knowsB u (p.drop i) (q.drop i)
  | p, q, t, u, 0, _, _, _, h => by cases h; rfl
  | [], q, t, u, i + 1, _, h1, _, _ => by simp at h1
  | p, [], t, u, i + 1, _, _, h1, _ => by simp at h1
  | a :: p, b :: q, t, u, i + 1, h0, h1, h2, h => by
    rw [List.take_succ_cons, List.take_succ_cons] at h0
    injection h0 with h3 h4
    subst h3
    rw [List.take_succ_cons] at h
    simp only [desc] at h
    split at h
    · obtain ⟨v, e1, e2⟩ := Option.bind_eq_some_iff.mp h
      rw [knowsB, if_pos rfl, e1]
      exact knows_drop i h4 (by simpa using h1) (by simpa using h2) e2
    · cases h
theorem zip_get {p q : List Nat} {i : Nat} {x : D} (h : (zipD (p.map fun (i : Nat) => D.int (i : Nat)) (q.map fun (i : Nat) => D.int (i : Nat)))[i]? = some x) : ∃ m n : Nat, p[i]? = some m ∧ q[i]? = some n ∧ x = .tup [.int (m : Nat), .int (n : Nat)] := by
  obtain ⟨a, b, h1, h2, rfl⟩ := zipD_get h
  obtain ⟨m, e1, rfl⟩ := pers_get h1
  obtain ⟨n, e2, rfl⟩ := pers_get h2
  exact ⟨m, n, e1, e2, rfl⟩
theorem ok_do_know (F : Fx w K mg) (F3 : Fc P w K mg base "part_at" [] 1 2 (cPartAt C)) (F4 : Pc P w K mg base C "word" 1 (cGet C fun t => .str (wordT t))) :
    BodyOk P w K mg base "do_know" s_do_know ["plan", "one", "other", "here", "mine", "its"] 3 2 (cDoKnow C) := by
  intro f cdv A outer s H E hr ds M Φ hl hc
  obtain ⟨t, p, q, rfl, ok, hp, hq, hc⟩ := hc
  have nd : (["plan", "one", "other", "here", "mine", "its"] : List Str).Nodup := by decide +kernel
  refine wss_cons (ws_set 3 nd (we_var 0 rfl ?_))
  refine wss_cons (ws_for PassesOwn.never (wi_zipT (F.bn _ (by decide +kernel)) (we_var 1 rfl (we_var 2 rfl ⟨_, _, rfl, rfl, ?_⟩))))
  refine ⟨fun i ρ' M' => ∃ o1 o2 u, ρ' = [some (planD C t), some (perD p), some (perD q), some (planD C u), o1, o2] ∧ M' = M ∧ p.take i = q.take i ∧ i ≤ p.length ∧ i ≤ q.length ∧ desc t (p.take i) = some u, ⟨_, _, t, rfl, rfl, rfl, Nat.zero_le _, Nat.zero_le _, rfl⟩, ?_, ?_⟩
  · rintro i x ρ' M' hx ⟨o1, o2, u, rfl, rfl, he, l1, l2, hd⟩
    obtain ⟨m, n, hm, hn, rfl⟩ := zip_get hx
    have oku := desc_Ok hd ok
    have k1 := knows_drop i he l1 l2 hd
    obtain ⟨a1, b1⟩ := List.getElem?_eq_some_iff.mp hm
    obtain ⟨a2, b2⟩ := List.getElem?_eq_some_iff.mp hn
    rw [List.drop_eq_getElem_cons a1, List.drop_eq_getElem_cons a2, b1, b2, knowsB] at k1
    refine wg_tup ⟨rfl, rfl, wgs_cons (wg_name 4 (wgs_cons (wg_name 5 (wgs_nil ⟨rfl, ?_⟩) nd)) nd)⟩
    refine wss_cons (ws_if (wt_neS (we_var 4 rfl (we_var 5 rfl ⟨_, rfl, ?_⟩))))
    by_cases hmn : m = n
    · subst hmn
      rw [decide_eq_true rfl]
      have hlt : desc t (p.take (i + 1)) ≠ none := by
        intro hnone
        have e2 := desc_none (q := p.drop (i + 1)) hnone
        rw [List.take_append_drop] at e2
        unfold isPers at hp
        rw [e2] at hp
        cases hp
      rw [take_snoc hm, desc_snoc, hd, Option.bind_some] at hlt
      by_cases hc2 : m < cnt u
      · obtain ⟨v, hv⟩ := piece_some hc2
        refine wss_nil (wss_cons (ws_set 3 nd (we_call F3 (hr.mono (by decide)) (wa_cons (we_var 3 rfl (wa_cons (we_var 4 rfl (wa_nil ⟨rfl, u, m, v, rfl, oku, hv, wss_nil ⟨_, _, v, rfl, rfl, ?_, by omega, by omega, ?_⟩⟩))))))))
        · rw [take_snoc hm, take_snoc hn, he]
        · rw [take_snoc hm, desc_snoc, hd, Option.bind_some, if_pos hc2]; exact hv
      · rw [if_neg hc2] at hlt; exact absurd rfl hlt
    · rw [decide_eq_false (fun h => hmn (by omega))]
      rw [if_neg hmn] at k1
      refine wss_cons (ws_ret (we_eqS (we_prop F4 (hr.mono (by decide)) (we_var 3 rfl ⟨_, insP oku.2.1, u, rfl, oku, we_gstr F.gINTRODUCED ⟨_, rfl, Lets.of ?_⟩⟩))))
      rw [intr_word oku.2.1, ← k1]
      exact hc
  · rintro ρ' M' ⟨o1, o2, u, rfl, rfl, he, l1, l2, hd⟩
    have k1 := knows_drop _ he l1 l2 hd
    have : (zipD (p.map fun (i : Nat) => D.int (i : Nat)) (q.map fun (i : Nat) => D.int (i : Nat))).length = min p.length q.length := by simp [zipD]
    rw [this] at k1
    refine wss_cons (ws_ret (we_bl (Lets.of ?_)))
    have e : knowsB t p q = false := by
      rw [k1]
      rcases Nat.le_total p.length q.length with h | h
      · rw [Nat.min_eq_left h, List.drop_length]; rfl
      · rw [Nat.min_eq_right h, List.drop_length]
        cases p.drop q.length <;> rfl
    rw [e] at hc; exact hc
end
end W
namespace W
open PySem PySem.Spec PyProof.Rows L2 DL SX PL SlX
section
variable {P : Program} {w : World} {K : PySem.W.Frag} {mg : Str → Option Value} {base : Heap} {C G : Addr}
def cIsPerson (C : Addr) : Con := fun ds M Φ => ∃ t p, ds = [planD C t, perD p] ∧ Ok t ∧ Φ (.bl (isPers t p)) M
theorem ok_is_person (F : Fx w K mg) (F1 : Fc P w K mg base "is_integer" [] 1 3 cIsInt) (F2 : Pc P w K mg base C "many" 1 (cGet C fun t => .int (cnt t : Nat))) (F3 : Fc P w K mg base "part_at" [] 1 2 (cPartAt C)) (F4 : Pc P w K mg base C "word" 1 (cGet C fun t => .str (wordT t))) :
    BodyOk P w K mg base "is_person" s_is_person ["plan", "value", "here", "number"] 2 2 (cIsPerson C) := by
  intro f cdv A outer s H E hr ds M Φ hl hc
  obtain ⟨t, p, rfl, ok, hc⟩ := hc
  have nd : (["plan", "value", "here", "number"] : List Str).Nodup := by decide +kernel
  refine wss_cons (ws_if (wt_not (wt_val (we_isi (F.bn _ (by decide +kernel)) (we_var 1 rfl (we_bty (F.bn _ (by decide +kernel)) rfl ⟨_, _, true, rfl, rfl, (by intro C h; cases h), rfl, _, rfl, ?_⟩))))))
  refine wss_nil (wss_cons (ws_set 2 nd (we_var 0 rfl ?_)))
  refine wss_cons (ws_for PassesOwn.never (wi_tup (we_var 1 rfl ⟨_, rfl, ?_⟩)))
  refine ⟨fun i ρ' M' => ∃ o u, ρ' = [some (planD C t), some (perD p), some (planD C u), o] ∧ M' = M ∧ desc t (p.take i) = some u, ⟨_, t, rfl, rfl, rfl⟩, ?_, ?_⟩
  · rintro i x ρ' M' hx ⟨o, u, rfl, rfl, hd⟩
    obtain ⟨n, hn, rfl⟩ := pers_get hx
    have oku := desc_Ok hd ok
    refine wg_name 3 ?_ nd
    refine wss_cons (ws_if (wt_not (wt_val (we_call F1 (hr.mono (by decide)) (wa_cons (we_var 3 rfl (wa_cons (we_int (wa_cons (we_subI (we_prop F2 (hr.mono (by decide)) (we_var 2 rfl ⟨_, insP oku.2.1, u, rfl, oku, we_int ⟨_, _, rfl, rfl, wa_nil ⟨rfl, _, _, _, rfl, _, rfl, ?_⟩⟩⟩))))))))))))
    have e : (decide ((0 : Int) ≤ (n : Nat)) && decide (((n : Nat) : Int) ≤ (cnt u : Nat) - 1)) = decide (n < cnt u) := by
      rw [decide_eq_true (show (0 : Int) ≤ (n : Nat) by omega), Bool.true_and]
      exact decide_eq_decide.mpr (by omega)
    rw [e]
    have ed : desc t (p.take (i + 1)) = if n < cnt u then piece u n else none := by
      rw [take_snoc hn, desc_snoc, hd]; rfl
    by_cases hlt : n < cnt u
    · rw [decide_eq_true hlt]
      rw [if_pos hlt] at ed
      obtain ⟨v, hv⟩ := piece_some hlt
      refine wss_nil (wss_cons (ws_set 2 nd (we_call F3 (hr.mono (by decide)) (wa_cons (we_var 2 rfl (wa_cons (we_var 3 rfl (wa_nil ⟨rfl, u, n, v, rfl, oku, hv, wss_nil ⟨_, v, rfl, rfl, ed.trans hv⟩⟩))))))))
    · rw [decide_eq_false hlt]
      rw [if_neg hlt] at ed
      refine wss_cons (ws_ret (we_bl (Lets.of ?_)))
      have : isPers t p = false := by
        unfold isPers
        have e2 := desc_none (q := p.drop (i + 1)) ed
        rw [List.take_append_drop] at e2
        rw [e2]
      rw [this] at hc
      exact hc
  · rintro ρ' M' ⟨o, u, rfl, rfl, hd⟩
    rw [List.length_map, List.take_length] at hd
    have oku := desc_Ok hd ok
    refine wss_cons (ws_ret (we_eqS (we_prop F4 (hr.mono (by decide)) (we_var 2 rfl ⟨_, insP oku.2.1, u, rfl, oku, we_gstr F.gONE ⟨_, rfl, Lets.of ?_⟩⟩))))
    rw [one_word oku.2.1]
    have : isPers t p = isOneT u := by unfold isPers; rw [hd]
    rw [← this]; exact hc
def cCheckPerson (C : Addr) : Con := fun ds M Φ => ∃ t p, ds = [planD C t, perD p] ∧ Ok t ∧ isPers t p = true ∧ Φ .non M
theorem ok_check_person (F1 : Fc P w K mg base "is_person" [] 3 2 (cIsPerson C)) : BodyOk P w K mg base "check_person" s_check_person ["plan", "value"] 2 3 (cCheckPerson C) := by
  intro f cdv A outer s H E hr ds M Φ hl hc
  obtain ⟨t, p, rfl, ok, hp, hc⟩ := hc
  refine wss_cons (ws_if (wt_not (wt_val (we_call F1 (hr.mono (by decide)) (wa_cons (we_var 0 rfl (wa_cons (we_var 1 rfl (wa_nil ⟨rfl, t, p, rfl, ok, _, rfl, ?_⟩)))))))))
  rw [hp]
  exact wss_nil (wss_nil hc)
theorem ok_knows (F1 : Fc P w K mg base "check_told" [] 3 1 (cTold C)) (F2 : Fc P w K mg base "check_person" [] 4 2 (cCheckPerson C)) (F3 : Fc P w K mg base "do_know" [] 3 3 (cDoKnow C)) :
    BodyOk P w K mg base "knows" s_knows ["plan", "one", "other"] 3 4 (cDoKnow C) := by
  intro f cdv A outer s H E hr ds M Φ hl hc
  obtain ⟨t, p, q, rfl, ok, hp, hq, hc⟩ := hc
  refine wss_cons (ws_expr (we_call F1 (hr.mono (by decide)) (wa_cons (we_var 0 rfl (wa_nil ⟨rfl, t, rfl, ok, ?_⟩)))))
  refine wss_cons (ws_expr (we_call F2 (hr.mono (by decide)) (wa_cons (we_var 0 rfl (wa_cons (we_var 1 rfl (wa_nil ⟨rfl, t, p, rfl, ok, hp, ?_⟩)))))))
  refine wss_cons (ws_expr (we_call F2 (hr.mono (by decide)) (wa_cons (we_var 0 rfl (wa_cons (we_var 2 rfl (wa_nil ⟨rfl, t, q, rfl, ok, hq, ?_⟩)))))))
  exact wss_cons (ws_ret (we_call F3 (hr.mono (by decide)) (wa_cons (we_var 0 rfl (wa_cons (we_var 1 rfl (wa_cons (we_var 2 rfl (wa_nil ⟨rfl, t, p, q, rfl, ok, hp, hq, Lets.of hc⟩)))))))))
end
end W
namespace DL
open PySem PySem.Spec PyProof.Rows L2
/-- what is wanted where an error is raised: its class, its fields -/
abbrev Xi := Addr → List (Str × D) → Mp → Prop
def KX (K : PySem.W.Frag) (M : Mp) (Z : Zn) (H : Hp) (Ξ : Xi) (E : XK) : Prop := ∀ C fs vs d H' M', Ext M Z H M' H' → Wd K M' Z H' → H' d = some (.xd vs) → Im M' Z d → RepF K M' Z H' vs fs → Ξ C fs M' → E (.ref C) (some d) H'
theorem KX.step {K : PySem.W.Frag} {M M1 : Mp} {Z : Zn} {H H1 : Hp} {Ξ : Xi} {E : XK} (k : KX K M Z H Ξ E) (e : Ext M Z H M1 H1) : KX K M1 Z H1 Ξ E := fun C fs vs d H' M' x w h m r z => k C fs vs d H' M' (e.trans x) w h m r z
/-- X takes what is raised as E, whatever stands in the slots -/
def TakesE (X : Cx) (E : XK) : Prop := Takes X fun cls d _ H => E cls d H
structure WEx (X : Cx) (ρ : Rho) (M : Mp) (e : Expr) (Φ : D → Mp → Prop) (Ξ : Xi) : Prop where
  run : ∀ {Z : Zn} σ H (Q : VK) (E : XK), EnvR X.K M Z H σ ρ → Wd X.K M Z H → KE X.K M Z H Φ Q → TakesE X E → KX X.K M Z H Ξ E → eSem X e σ H Q
structure WTx (X : Cx) (ρ : Rho) (M : Mp) (e : Expr) (Φ : Bool → Mp → Prop) (Ξ : Xi) : Prop where
  run : ∀ {Z : Zn} σ H (Q : Bool → Hp → Prop) (E : XK), EnvR X.K M Z H σ ρ → Wd X.K M Z H → KT X.K M Z H Φ Q → TakesE X E → KX X.K M Z H Ξ E → tSem X e σ H Q
structure WAx (X : Cx) (ρ : Rho) (M : Mp) (es : List Expr) (Φ : List D → Mp → Prop) (Ξ : Xi) : Prop where
  run : ∀ {Z : Zn} σ H (Q : List V → Hp → Prop) (E : XK), EnvR X.K M Z H σ ρ → Wd X.K M Z H → KA X.K M Z H Φ Q → TakesE X E → KX X.K M Z H Ξ E → aSem X es σ H Q
structure WSx (X : Cx) (ρ : Rho) (M : Mp) (st : Stmt) (Ψ : DE) (Ξ : Xi) : Prop where
  run : ∀ {Z : Zn} σ H (D : Ends) (E : XK), EnvR X.K M Z H σ ρ → Wd X.K M Z H → KS X.K M Z H Ψ D → TakesE X E → KX X.K M Z H Ξ E → sSem X st D σ H
structure WSsx (X : Cx) (ρ : Rho) (M : Mp) (st : List Stmt) (Ψ : DE) (Ξ : Xi) : Prop where
  run : ∀ {Z : Zn} σ H (D : Ends) (E : XK), EnvR X.K M Z H σ ρ → Wd X.K M Z H → KS X.K M Z H Ψ D → TakesE X E → KX X.K M Z H Ξ E → ssSem X st D σ H
section
variable {X : Cx} {ρ : Rho} {M : Mp} {Φ : D → Mp → Prop} {Ξ : Xi} {Ψ : DE} {e a b : Expr} {es : List Expr} {st : Stmt} {sts rest : List Stmt} {pos p : Pos} {x : Str}
theorem WE.up (h : WE X ρ M e Φ) : WEx X ρ M e Φ Ξ := .mk fun σ H Q E en w k _ _ => h.run σ H Q en w k
theorem WT.up {Φ : Bool → Mp → Prop} (h : WT X ρ M e Φ) : WTx X ρ M e Φ Ξ := .mk fun σ H Q E en w k _ _ => h.run σ H Q en w k
theorem WA.up {Φ : List D → Mp → Prop} (h : WA X ρ M es Φ) : WAx X ρ M es Φ Ξ := .mk fun σ H Q E en w k _ _ => h.run σ H Q en w k
theorem WS.up (h : WS X ρ M st Ψ) : WSx X ρ M st Ψ Ξ := .mk fun σ H Q E en w k _ _ => h.run σ H Q en w k
theorem WSs.up (h : WSs X ρ M sts Ψ) : WSsx X ρ M sts Ψ Ξ := .mk fun σ H Q E en w k _ _ => h.run σ H Q en w k
end
end DL
namespace DL
open PySem PySem.Spec PyProof.Rows L2
/-- a contract with what is wanted where an error is raised -/
abbrev ConX := List D → Mp → (D → Mp → Prop) → Xi → Prop
def spX (K : PySem.W.Frag) (n : Nat) (c : ConX) : Sp := fun vs H Q E => ∃ ds M Z Φ Ξ, ds.length = n ∧ Reps K M Z H vs ds ∧ Wd K M Z H ∧ c ds M Φ Ξ ∧ KE K M Z H Φ Q ∧ KX K M Z H Ξ E
/-- the global x is a def with this contract -/
structure Fcx (P : Program) (w : World) (K : PySem.W.Frag) (mg : Str → Option Value) (base : Heap) (x : Str) (dd : List D) (k n : Nat) (c : ConX) : Prop where
  ex : ∃ (f : Addr) (fd : FuncData) (ps : List Str) (dvs : List V) (ds : List Value), FnOk P w K mg base (CX P w) k f fd ps (spX K n c) ∧ mg x = some (.ref f) ∧ PySem.W.keepIn K (.ref f) = true ∧ Binds K fd ps ds ∧ Vals dvs ds ∧ ∀ M Z H, Reps K M Z H dvs dd
/-- the method m of the class at C has this contract -/
structure Mcx (P : Program) (w : World) (K : PySem.W.Frag) (mg : Str → Option Value) (base : Heap) (C : Addr) (m : Str) (dd : List D) (k n : Nat) (c : ConX) : Prop where
  cl : Cls K C
  ex : ∃ (f : Addr) (fd : FuncData) (ps : List Str) (dvs : List V) (ds : List Value), FnOk P w K mg base (CX P w) k f fd ps (spX K n c) ∧ Meth K C m f ∧ Binds K fd ps ds ∧ Vals dvs ds ∧ ∀ M Z H, Reps K M Z H dvs dd
end DL
namespace DL
open PySem PySem.Spec PyProof.Rows L2
section
variable {P : Program} {w : World} {K : PySem.W.Frag} {mg : Str → Option Value} {base : Heap} {x qual : Str} {st : Stmt} {N ps : List Str} {j k n : Nat} {c : ConX} {dd : List D} {C : Addr} {m : Str} {f : Addr}
theorem Fcx.up (F : Fcx P w K mg base x dd j n c) (h : j ≤ k) : Fcx P w K mg base x dd k n c := by
  obtain ⟨f, fd, ps, dvs, ds, F, r⟩ := F.ex
  exact ⟨f, fd, ps, dvs, ds, F.mono h, r⟩
theorem Mcx.up (F : Mcx P w K mg base C m dd j n c) (h : j ≤ k) : Mcx P w K mg base C m dd k n c := by
  obtain ⟨f, fd, ps, dvs, ds, G, r⟩ := F.ex
  exact ⟨F.cl, f, fd, ps, dvs, ds, G.mono h, r⟩
/-- the class of the name x, the contract of its __init__, which may raise -/
structure Kcx (P : Program) (w : World) (K : PySem.W.Frag) (mg : Str → Option Value) (base : Heap) (x : Str) (C : Addr) (dd : List D) (k n : Nat) (c : ConX) : Prop where
  at_ : mg x = some (.ref C)
  ex : ∃ (f : Addr) (fd : FuncData) (ps : List Str) (dvs : List V) (ds : List Value), FnOk P w K mg base (CX P w) k f fd ps (spX K n c) ∧ Mk K C f ∧ Binds K fd ps ds ∧ Vals dvs ds ∧ ∀ M Z H, Reps K M Z H dvs dd
theorem Kcx.up (F : Kcx P w K mg base x C dd j n c) (h : j ≤ k) : Kcx P w K mg base x C dd k n c := by
  obtain ⟨f, fd, ps, dvs, ds, G, r⟩ := F.ex
  exact ⟨F.at_, f, fd, ps, dvs, ds, G.mono h, r⟩
end
end DL
namespace DL
open PySem PySem.Spec PyProof.Rows L2
abbrev eSet (w : World) : Obj := { cls := .type "set", dict := none, data := .set #[] 0 (.fresh 0 0 (!w.params.followText "set-order")) }
end DL
namespace DL
open PySem PySem.Spec PyProof.Rows L2 SX
abbrev dctP (x y : Str) (n : Int) : PyData := .dict [(.tuple [.str x, .str y], .int n)]
abbrev dctD (x y : Str) (n : Int) : D := .dT [([.inr x, .inr y], .int n)]
section
variable {X : Cx} {ρ : Rho} {M : Mp} {Φ : D → Mp → Prop} {e : Expr} {pos p : Pos}
theorem cr_reprT (hg : X.A.guards = some []) (hu : X.A.units + 64 < cLine) {x y : Str} {n : Int} (hs : (dctP x y n).showable = true) (hz : (dctP x y n).shown.length ≤ sizeLine) (hdp : (dctP x y n).depth ≤ 8) : CallR X (.builtin "repr") (fun xs H Q => ∃ a, xs = [.ref a] ∧ H a = some (.dT [([.inr x, .inr y], .int n)]) ∧ Q (.str (dctP x y n).shown) H) := by
  intro pins s σ H xs us Q I r h
  obtain ⟨a, rfl, ha, h⟩ := h
  obtain ⟨u, rfl, ru⟩ := vals1 r
  obtain rfl : u = Value.ref a := ru
  obtain ⟨_, hs0, ys, kv, o, es, ep, ho, hx, hd, hk, _⟩ := I.hok a _ ha
  cases kv with
  | @cons _ q _ qs pr t =>
    cases t
    obtain ⟨e1, e2, e3⟩ := pr
    obtain ⟨_, its, ri, o2, h1, h2, n2, h3⟩ := (show ObjOk X.prog X.w H s.heap q.2.1 (.tup [V.str x, V.str y]) from I.hok q.2.1 _ e2)
    cases ri with
    | @cons _ w1 _ _ p1 r2 =>
      cases r2 with
      | @cons _ w2 _ _ p2 r3 =>
        cases r3
        obtain ⟨t1, rfl⟩ := p1
        obtain ⟨t2, rfl⟩ := p2
        obtain ⟨t3, e3⟩ := e3
        have rk : Reads s.heap (.ref q.2.1) (.tuple [.str x, .str y]) ([] ++ ([] ++ [])) := Reads.tuple h1 h2 h3 (.cons (.str x t1) (.cons (.str y t2) .nil))
        have rd : Reads s.heap (.ref a) (dctP x y n) (a :: (([] ++ ([] ++ [])) ++ []) ++ ([] ++ [])) := Reads.dict ho hx.1 hd (by rw [hk]; exact .cons rk .nil) (by rw [hk]; show ReadsAll s.heap [q.2.2] [.int n] ([] ++ []); rw [e3]; exact .cons (.int n t3) .nil)
        refine repr_of_reads' rd hs (fun _ => ?_) hg (by omega) (fun _ _ z => z) (fun h' t tk kp => ⟨.str _, H, I.kept kp, ⟨t, rfl⟩, h⟩) hz
        intro z
        rcases List.mem_cons.mp z with z | z
        · rw [← z] at hs0; simp at hs0
        · cases z
end
end DL
namespace DL
open PySem PySem.Spec PyProof.Rows L2 SX
/-- a value of any kind -/
inductive AV where
  | non | bl (b : Bool) | int (i : Int) | str (x : Str) | tup (l : List AV) | lst (l : List AV) | dic | dct (x y : Str) (n : Int)
mutual
def avD : AV → D
  | .non => .non
  | .bl b => .bl b
  | .int i => .int i
  | .str x => .str x
  | .tup l => .tup (avsD l)
  | .lst l => .lst (avsD l)
  | .dic => .dK []
  | .dct x y n => dctD x y n
def avsD : List AV → List D
  | [] => []
  | v :: l => avD v :: avsD l
end
theorem avsD_map : ∀ l : List AV, avsD l = l.map avD
  | [] => by rw [avsD]; rfl
  | v :: l => by rw [avsD, avsD_map l, List.map_cons]
theorem avsD_get {l : List AV} {i : Nat} {x : D} (h : (avsD l)[i]? = some x) : ∃ v, l[i]? = some v ∧ x = avD v := by
  rw [avsD_map, List.getElem?_map] at h
  obtain ⟨v, h1, rfl⟩ := Option.map_eq_some_iff.mp h
  exact ⟨v, h1, rfl⟩
theorem avsD_len (l : List AV) : (avsD l).length = l.length := by rw [avsD_map, List.length_map]
def avT : AV → String
  | .non => "NoneType"
  | .bl _ => "bool"
  | .int _ => "int"
  | .str _ => "str"
  | .tup _ => "tuple"
  | .lst _ => "list"
  | .dic => "dict"
  | .dct _ _ _ => "dict"
theorem avTy (M : Mp) (v : AV) : TyD M (avD v) (.type (avT v)) := by
  cases v <;> (rw [avD]; rfl)
mutual
def avP : AV → PyData
  | .non => .none
  | .bl b => .bool b
  | .int i => .int i
  | .str x => .str x
  | .tup l => .tuple (avsP l)
  | .lst l => .list (avsP l)
  | .dic => .dict []
  | .dct x y n => dctP x y n
def avsP : List AV → List PyData
  | [] => []
  | v :: l => avP v :: avsP l
end
section
variable {X : Cx} {ρ : Rho} {M : Mp} {Φ : D → Mp → Prop} {e : Expr} {pos p : Pos}
theorem cr_reprA (hg : X.A.guards = some []) (hu : X.A.units + 64 < cLine) : CallR X (.builtin "repr") (fun xs H Q => (∃ v q, xs = [v] ∧ Dp X.K H v q ∧ q.showable = true ∧ q.canLay0 = true ∧ q.depth ≤ 60 ∧ q.shown.length ≤ sizeLine ∧ Q (.str q.shown) H) ∨ (∃ a, xs = [.ref a] ∧ H a = some (.dK []) ∧ Q (.str (PyData.dict []).shown) H) ∨ ∃ x y n, (dctP x y n).showable = true ∧ (dctP x y n).shown.length ≤ sizeLine ∧ (dctP x y n).depth ≤ 8 ∧ ∃ a, xs = [.ref a] ∧ H a = some (.dT [([.inr x, .inr y], .int n)]) ∧ Q (.str (dctP x y n).shown) H) := by
  intro pins s σ H xs us Q I r h
  rcases h with h | ⟨a, rfl, ha, h⟩ | ⟨x, y, n, g1, g2, g3, h⟩
  · exact cr_reprD hg hu pins s σ H xs us Q I r h
  rotate_left
  · exact cr_reprT hg hu g1 g2 g3 pins s σ H xs us Q I r h
  · obtain ⟨u, rfl, ru⟩ := vals1 r
    obtain rfl : u = Value.ref a := ru
    obtain ⟨_, hs, vs, kv, o, es, ep, ho, hx, hd, hk, hp, _⟩ := I.hok a _ ha
    cases kv
    have e0 : es.toList = [] := by
      cases hp' : es.toList with
      | nil => rfl
      | cons q r => rw [hp'] at hp; cases hp
    have rd : Reads s.heap (.ref a) (PyData.dict []) (a :: [] ++ []) := Reads.dict ho hx.1 hd (by rw [e0]; exact .nil) (by rw [e0]; exact .nil)
    refine repr_of_reads' rd (by decide) (fun _ => ?_) hg (by show X.A.units + (1 + 1) < cLine; omega) (fun _ _ z => z) (fun h' t tk kp => ⟨.str _, H, I.kept kp, ⟨t, rfl⟩, h⟩) (by decide +kernel)
    intro z
    rcases List.mem_cons.mp z with z | z
    · rw [← z] at hs; simp at hs
    · cases z
/-- repr(e), e any value -/
theorem we_reprA (hm : X.mg "repr" = none) (hg0 : X.A.guards = some []) (hu : X.A.units + 64 < cLine) (h : WE X ρ M e fun d M1 => ((∃ q k, CmpD d q k ∧ k ≤ 60 ∧ q.showable = true ∧ q.shown.length ≤ sizeLine ∧ Φ (.str q.shown) M1) ∨ (d = .dK [] ∧ Φ (.str (PyData.dict []).shown) M1) ∨ ∃ x y n, d = dctD x y n ∧ (dctP x y n).showable = true ∧ (dctP x y n).shown.length ≤ sizeLine ∧ (dctP x y n).depth ≤ 8 ∧ Φ (.str (dctP x y n).shown) M1)) (hg : Gl X "repr" := by rfl)
    (he : starEach [e] X.env = (false, eval e X.env) :: starEach [] X.env := by rfl) (hpl : (backTo pos (starEach [] X.env)).any (·.1) = false := by rfl) : WE X ρ M (.Call (.Name "repr" p) [e] [] pos) Φ :=
  we_callB (cr_reprA hg0 hu) hm (by decide +kernel) (wa_cons (h.imp fun d M1 h => wa_nil fun Z vs H Q w rr k => by
    obtain ⟨v, rfl, r⟩ := rr.one
    rcases h with ⟨q, j, c, hj, h1, h2, h⟩ | ⟨rfl, h⟩ | ⟨x, y, n, rfl, g1, g2, g3, h⟩
    · exact .inl ⟨v, q, rfl, r.dp c.eq, h1, c.lay, Nat.le_trans c.dep hj, h2, k.now w (.str _) h⟩
    · cases r with
      | dK h1 m r =>
        cases r
        exact .inr (.inl ⟨_, rfl, h1, k.now w (.str _) h⟩)
    · cases r with
      | dT h1 m r =>
        cases r with
        | cons r1 t =>
          cases t
          cases r1
          exact .inr (.inr ⟨x, y, n, g1, g2, g3, _, rfl, h1, k.now w (.str _) h⟩)) he) hg (he := he) (hpl := hpl)
end
/-- how a value is shown, where it can be -/
def RpD (v : AV) : Prop := (∃ k, CmpD (avD v) (avP v) k ∧ k ≤ 60 ∧ (avP v).showable = true ∧ (avP v).shown.length ≤ sizeLine) ∨ v = .dic ∨ ∃ x y n, v = .dct x y n ∧ (dctP x y n).showable = true ∧ (dctP x y n).shown.length ≤ sizeLine ∧ (dctP x y n).depth ≤ 8
theorem we_reprV {X : Cx} {ρ : Rho} {M : Mp} {Φ : D → Mp → Prop} {e : Expr} {pos p : Pos} (hm : X.mg "repr" = none) (hg0 : X.A.guards = some []) (hu : X.A.units + 64 < cLine) (h : WE X ρ M e fun d M1 => ∃ v, d = avD v ∧ RpD v ∧ Φ (.str (avP v).shown) M1) (hg : Gl X "repr" := by rfl)
    (he : starEach [e] X.env = (false, eval e X.env) :: starEach [] X.env := by rfl) (hpl : (backTo pos (starEach [] X.env)).any (·.1) = false := by rfl) : WE X ρ M (.Call (.Name "repr" p) [e] [] pos) Φ :=
  we_reprA hm hg0 hu (h.imp fun d M1 ⟨v, e1, hv, hz⟩ => by
    subst e1
    rcases hv with ⟨k, c, h1, h2, h3⟩ | rfl | ⟨x, y, n, rfl, g1, g2, g3⟩
    · exact .inl ⟨_, k, c, h1, h2, h3, hz⟩
    · exact .inr (.inl ⟨by rw [avD], by rw [avP] at hz; exact hz⟩)
    · exact .inr (.inr ⟨x, y, n, by rw [avD], g1, g2, g3, by rw [avP] at hz; exact hz⟩)) hg he hpl
theorem sh_natW {n : Nat} (h : n < 10 ^ 40) : ShD (.int (n : Nat)) 41 := by
  refine ⟨?_, ?_⟩
  · simp only [PyData.showable, decide_eq_true_eq, Int.natAbs_natCast]
    by_cases h0 : n = 0
    · rw [h0]; decide
    · have : n < 2 ^ 140 := Nat.lt_trans h (by decide)
      have := (Nat.log2_lt h0).mpr this; omega
  · simp only [PyData.shown]
    rw [num_S, S_len]
    exact Nat.le_succ_of_le (TL.numL_len (k := 40) (by decide) h)
mutual
def avDp : AV → Nat
  | .tup l => avsDp l + 1
  | .lst l => avsDp l + 1
  | .non => 0
  | .bl _ => 0
  | .int _ => 0
  | .str _ => 0
  | .dic => 0
  | .dct _ _ _ => 0
def avsDp : List AV → Nat
  | [] => 0
  | v :: l => max (avDp v) (avsDp l)
end
mutual
def avLn : AV → Nat
  | .tup l => avsLn l + 3
  | .lst l => avsLn l + 3
  | .non => 41
  | .bl _ => 41
  | .int _ => 41
  | .str _ => 41
  | .dic => 41
  | .dct _ _ _ => 41
def avsLn : List AV → Nat
  | [] => 0
  | v :: l => avLn v + 2 + avsLn l
end
def StG (x : Str) : Prop := (∀ c ∈ x.cps.toList, c < 0x110000) ∧ ShD (.str x) 41
mutual
/-- its parts can be shown, and are short; a dict is nowhere within -/
def AvG : AV → Prop
  | .int i => (∃ n : Nat, i = n ∧ n < 10 ^ 40) ∨ i = -1
  | .str x => StG x
  | .tup l => AvsG l
  | .lst l => AvsG l
  | .dic => False
  | .dct _ _ _ => False
  | _ => True
def AvsG : List AV → Prop
  | [] => True
  | v :: l => AvG v ∧ AvsG l
end
theorem avsG_all : ∀ {l : List AV}, AvsG l ↔ ∀ v ∈ l, AvG v
  | [] => by simp [AvsG]
  | v :: l => by simp [AvsG, avsG_all (l := l)]
theorem avsLn_sum : ∀ l : List AV, avsLn l = (l.map fun v => avLn v + 2).sum
  | [] => by rw [avsLn]; rfl
  | v :: l => by rw [avsLn, avsLn_sum l, List.map_cons, List.sum_cons]
theorem sh_non : ShD .none 41 := ⟨by decide +kernel, by decide +kernel⟩
theorem sh_bl (b : Bool) : ShD (.bool b) 41 := ⟨by cases b <;> decide +kernel, by cases b <;> decide +kernel⟩
theorem sh_m1 : ShD (.int (-1)) 41 := ⟨by decide +kernel, by decide +kernel⟩
mutual
theorem avG_ok : ∀ {v : AV}, AvG v → CmpD (avD v) (avP v) (avDp v) ∧ ShD (avP v) (avLn v)
  | .non, _ => by rw [avD, avP, avDp, avLn]; exact ⟨cmp_non, sh_non⟩
  | .bl b, _ => by rw [avD, avP, avDp, avLn]; exact ⟨cmp_bl b, sh_bl b⟩
  | .int i, h => by
    rw [avD, avP, avDp, avLn]
    refine ⟨cmp_int i, ?_⟩
    rcases h with ⟨n, rfl, hn⟩ | rfl
    · exact sh_natW hn
    · exact sh_m1
  | .str x, h => by rw [avD, avP, avDp, avLn]; exact ⟨cmp_str h.1, h.2⟩
  | .tup l, h => by
    obtain ⟨h1, h2, h3⟩ := avsG_ok (l := l) h
    rw [avD, avP, avDp, avLn]
    exact ⟨cmp_tup h1, ⟨by simp only [PyData.showable]; exact h2, by
      simp only [PyData.shown]
      have q := tupleText_len_le (PyData.shownAll (avsP l))
      omega⟩⟩
  | .lst l, h => by
    obtain ⟨h1, h2, h3⟩ := avsG_ok (l := l) h
    rw [avD, avP, avDp, avLn]
    exact ⟨cmp_lst h1, ⟨by simp only [PyData.showable]; exact h2, by
      simp only [PyData.shown]
      have q := listText_len_le (PyData.shownAll (avsP l))
      omega⟩⟩
  | .dic, h => h.elim
  | .dct _ _ _, h => h.elim
theorem avsG_ok : ∀ {l : List AV}, AvsG l → CmpDs (avsD l) (avsP l) (avsDp l) ∧ PyData.showableAll (avsP l) = true ∧ ((PyData.shownAll (avsP l)).map (·.length)).sum + 2 * (PyData.shownAll (avsP l)).length ≤ avsLn l
  | [], _ => by rw [avsD, avsP, avsDp, avsLn]; exact ⟨cmps_nil, by simp [PyData.showableAll], by simp [PyData.shownAll]⟩
  | v :: l, h => by
    obtain ⟨a1, a2⟩ := avG_ok (v := v) h.1
    obtain ⟨b1, b2, b3⟩ := avsG_ok (l := l) h.2
    rw [avsD, avsP, avsDp, avsLn]
    refine ⟨cmps_cons ⟨a1.eq, a1.lay, Nat.le_refl _⟩ (Nat.le_trans a1.dep (Nat.le_max_left _ _)) ⟨b1.eq, b1.lay, Nat.le_trans b1.dep (Nat.le_max_right _ _)⟩, ?_, ?_⟩
    · simp only [PyData.showableAll, a2.ok, b2, Bool.and_self]
    · simp only [PyData.shownAll, List.map_cons, List.sum_cons, List.length_cons]
      have := a2.le
      omega
end
theorem rp_of {v : AV} (h : AvG v) (hd : avDp v ≤ 60) (hl : avLn v ≤ sizeLine) : RpD v := by
  obtain ⟨a, b⟩ := avG_ok h
  exact .inl ⟨_, a, hd, b.ok, Nat.le_trans b.le hl⟩
end DL
namespace DL
open PySem PySem.Spec PyProof.Rows L2
def GoodZ (w : World) (e : Int × Value) : Prop := ∃ x t, e.2 = Value.str x t ∧ e.1 = hashStr w x
/-- the set of texts at a: L its members, none twice -/
def SetZ (w : World) (h : Heap) (a : Addr) (L : List Str) : Prop :=
  ∃ o es ep t, h.get? a = some o ∧ (o.ExactSet ∧ o.data = .set es ep t) ∧ ((∀ e ∈ es.toList, GoodZ w e) ∧ (es.toList.map fun e => strOf e.2).Perm L ∧ L.Nodup) ∧ (es.size < scanBound ∧ t.fits es.size = true) ∧ Ris t.place.toList ∧ (w.params.followText "set-order" = true ∨ t.led = true)
section
variable {P : Program} {w : World} {h h' : Heap} {a : Addr} {L : List Str}
theorem SetZ.keep (R : SetZ w h a L) (k : ∀ o, h.get? a = some o → h'.get? a = some o) : SetZ w h' a L := by
  obtain ⟨o, es, ep, t, ho, r⟩ := R
  exact ⟨o, es, ep, t, k o ho, r⟩
theorem goodZ_elems {l : List (Int × Value)} (g : ∀ e ∈ l, GoodZ w e) : ElemsOf (PySem.strKind P w) l := fun e he => by
  obtain ⟨x, t, h1, h2⟩ := g e he
  exact ⟨⟨x, by rw [h1]; exact strKind_is P w x t, h2⟩, by rw [h1]; rfl⟩
theorem goodZ_is {e : Int × Value} (g : GoodZ w e) (x : Str) : (PySem.strKind P w).is x e.2 = true ↔ strOf e.2 = x := by
  obtain ⟨y, t, h1, _⟩ := g
  rw [h1]
  have q := strKind_is P w y t
  refine ⟨fun z => ((PySem.strKind P w).inj _ _ _ z q).symm, fun z => ?_⟩
  have z' : y = x := z
  rw [← z']; exact q
theorem goodZ_mem {l : List (Int × Value)} (g : ∀ e ∈ l, GoodZ w e) (x : Str) : (∃ e ∈ l, (PySem.strKind P w).is x e.2 = true) ↔ x ∈ l.map fun e => strOf e.2 := by
  rw [List.mem_map]
  exact ⟨fun ⟨e, he, q⟩ => ⟨e, he, (goodZ_is (g e he) x).mp q⟩, fun ⟨e, he, q⟩ => ⟨e, he, (goodZ_is (g e he) x).mpr q⟩⟩
end
section
variable {P : Program} {w : World} {A : Around} {E : Value → Shared → Prop} {s : Shared} {a : Addr} {L : List Str}
theorem setZ_tail {g : Bool → Sem Unit} (hg : ∀ (b : Bool) (s1 : Shared) (Q' : Unit → Shared → Prop), Q' () s1 → wpAny (model P w) A (g b) Q' E s1) {o : Obj} {es es1 : Array (Int × Value)} {ep : Nat} {t t2 : SetTable} {L' : List Str} {wd : Bool} {R : Option Bool → Shared → Prop}
    (ho : s.heap.get? a = some o) (hex : o.ExactSet) (hd : o.data = .set es ep t) (g1 : (∀ e ∈ es1.toList, GoodZ w e) ∧ (es1.toList.map fun e => strOf e.2).Perm L' ∧ L'.Nodup) (hb : es1.size < scanBound) (hf : t2.fits es1.size = true) (hr : Ris t2.place.toList) (hl : w.params.followText "set-order" = true ∨ t2.led = true)
    (hR : ∀ h', Heap.SameBut a s.heap h' → SetZ w h' a L' → R (some true) { s with heap := h' }) :
    wpAny (model P w) A (do
      storeSet a es1 t2
      if (!wd && t2.tooFull) = true then do
          g (relayAll t2 es1 (SetTable.grown es1.size)).2.2
          storeSet a (relayAll t2 es1 (SetTable.grown es1.size)).1 (relayAll t2 es1 (SetTable.grown es1.size)).2.1
          pure (some true)
        else pure (some true)) R E s := by
  have ho1 := store_at (es' := es1) (t' := t2) ho hd
  have sb := Heap.SameBut.update s.heap a (Obj.putSet es1 t2)
  refine wpAny_bind (wpAny_storeSet_of ho hd ?_ (fits_of_scanBound hb))
  by_cases hc : (!wd && t2.tooFull) = true
  · rw [if_pos hc]
    have q1 := relayAll_perm t2 es1 (SetTable.grown es1.size)
    have q2 := relayAll_fits t2 es1 (SetTable.grown es1.size)
    have q3 := relayAll_ris t2 es1 (SetTable.grown es1.size)
    have q4 := relayAll_led t2 es1 (SetTable.grown es1.size)
    generalize relayAll t2 es1 (SetTable.grown es1.size) = Y at q1 q2 q3 q4 ⊢
    obtain ⟨es2, t3, gv⟩ := Y
    dsimp only at q1 q2 q3 q4 ⊢
    have hb2 : es2.size < scanBound := by
      have : es2.size = es1.size := by rw [← Array.length_toList, q1.length_eq, Array.length_toList]
      omega
    refine wpAny_bind (hg _ _ _ (wpAny_bind (wpAny_storeSet_of ho1 rfl ?_ (fits_of_scanBound hb2))))
    refine wpAny_pure (hR _ (sb.trans (Heap.SameBut.update _ a _)) ⟨_, es2, _, t3, store_at (es' := es2) (t' := t3) ho1 rfl, ⟨hex, rfl⟩, ⟨fun e he => g1.1 e (q1.mem_iff.mp he), (q1.map _).trans g1.2.1, g1.2.2⟩, ⟨hb2, q2⟩, q3, ?_⟩)
    rw [q4]; exact hl
  · rw [if_neg hc]
    exact wpAny_pure (hR _ sb ⟨_, es1, _, t2, ho1, ⟨hex, rfl⟩, g1, ⟨hb, hf⟩, hr, hl⟩)
theorem setZ_add {x : Str} {tk : Tok} {Q : Bool → Shared → Prop} (R : SetZ w s.heap a L) (room : L.length + 1 < scanBound)
    (hQ : ∀ h' b, Heap.SameBut a s.heap h' → SetZ w h' a (if x ∈ L then L else x :: L) → Q b { s with heap := h' }) : wpAny (model P w) A (setAddHashed a (.str x tk) ((PySem.strKind P w).hash x)) Q E s := by
  obtain ⟨o, es, ep, t, ho, ⟨hex, hd⟩, ⟨g, pm, nd⟩, ⟨hb, hf⟩, hr, hl⟩ := R
  have hel : ElemsOf (PySem.strKind P w) es.toList := goodZ_elems g
  have hsc : (Value.str x tk).scannable = true := rfl
  unfold setAddHashed setAddHashedIn
  refine wpAny_holding (wpAny_bind (wpAny_setState_of ho hd hf ?_))
  dsimp only
  rw [byScan_of hsc hb hel]
  simp only [↓reduceIte]
  unfold setAddByScan
  refine wpAny_bind (wpAny_bind (wpAny_rule (wpAny_bind (wpAny_setScan_of (strKind_is P w x tk) ho hd hf hel ?_))))
  by_cases hx : x ∈ L
  · cases hfi : List.findIdx? (fun e => (PySem.strKind P w).is x e.2) es.toList with
    | none =>
      exfalso
      obtain ⟨e, he, q⟩ := (goodZ_mem (P := P) g x).mpr (pm.mem_iff.mpr hx)
      have c := List.findIdx?_eq_none_iff.mp hfi e he
      rw [q] at c; cases c
    | some j =>
      dsimp only
      have q := hQ s.heap false (Heap.SameBut.refl a s.heap)
      rw [if_pos hx] at q
      exact wpAny_pure (wpAny_pure (q ⟨o, es, ep, t, ho, ⟨hex, hd⟩, ⟨g, pm, nd⟩, ⟨hb, hf⟩, hr, hl⟩))
  · cases hfi : List.findIdx? (fun e => (PySem.strKind P w).is x e.2) es.toList with
    | some j =>
      exfalso
      obtain ⟨hj, pj, _⟩ := List.findIdx?_eq_some_iff_getElem.mp hfi
      exact hx (pm.mem_iff.mp ((goodZ_mem (P := P) g x).mp ⟨es.toList[j], List.getElem_mem hj, pj⟩))
    | none =>
      dsimp only
      have gw : ∀ (b : Bool) {s1 : Shared} {Q' : Unit → Shared → Prop}, Q' () s1 → wpAny (model P w) A (match b with | true => rule "set.scan.the-table-gave-way" | false => pure ()) Q' E s1 := fun b s1 Q' q => by
        cases b <;> first | exact wpAny_pure q | exact wpAny_rule q
      have p1 := layNew_perm t es ((PySem.strKind P w).hash x) (.str x tk)
      have p2 := layNew_fits t es ((PySem.strKind P w).hash x) (.str x tk)
      have p3 := layNew_ris t es ((PySem.strKind P w).hash x) (.str x tk) hr
      have p4 := layNew_led t es ((PySem.strKind P w).hash x) (.str x tk)
      generalize layNew t es ((PySem.strKind P w).hash x) (.str x tk) = Y at p1 p2 p3 p4 ⊢
      obtain ⟨es1, t1, wd, gv⟩ := Y
      dsimp only at p1 p2 p3 p4 ⊢
      rw [Array.toList_push] at p1
      have pc := p1.trans (List.perm_append_singleton _ _)
      have gN : (∀ e ∈ es1.toList, GoodZ w e) ∧ (es1.toList.map fun e => strOf e.2).Perm (x :: L) ∧ (x :: L).Nodup := by
        refine ⟨fun e he => ?_, (pc.map _).trans (pm.cons _), List.nodup_cons.mpr ⟨hx, nd⟩⟩
        rcases List.mem_cons.mp (pc.mem_iff.mp he) with z | z
        · rw [z]; exact ⟨x, tk, rfl, rfl⟩
        · exact g e z
      have hb1 : es1.size < scanBound := by
        have := gN.2.1.length_eq
        rw [List.length_map, Array.length_toList, List.length_cons] at this
        omega
      have hled : w.params.followText "set-order" = true ∨ t1.led = true := by rw [p4]; exact hl
      have fin : ∀ h', Heap.SameBut a s.heap h' → SetZ w h' a (x :: L) → Q true { s with heap := h' } := fun h' sb r => hQ h' true sb (by rw [if_neg hx]; exact r)
      refine wpAny_bind (gw _ ?_)
      split
      · refine wpAny_bind ?_
        rw [hashByValue_scannable 8 hsc]
        refine wpAny_pure (setZ_tail ?_ ho hex hd gN hb1 ?_ ?_ ?_ ?_)
        · intro b s1 Q' q
          cases b <;> first | exact wpAny_pure q | exact wpAny_rule q
        · first | (split <;> first | exact p2 | exact SetTable.fits_plain_off p2) | exact p2
        · first | (split <;> exact p3) | exact p3
        · first | (split <;> exact hled) | exact hled
        · intro h' sb r
          dsimp only
          exact wpAny_pure (fin h' sb r)
      · refine wpAny_bind (wpAny_pure ?_)
        simp only [↓reduceIte]
        refine setZ_tail ?_ ho hex hd gN hb1 p2 p3 hled ?_
        · intro b s1 Q' q
          cases b <;> first | exact wpAny_pure q | exact wpAny_rule q
        · intro h' sb r
          dsimp only
          exact wpAny_pure (fin h' sb r)
end
/-- the members behind the adds of some texts -/
def dedZ : List Str → List Str → List Str
  | L, [] => L
  | L, x :: r => dedZ (if x ∈ L then L else x :: L) r
theorem dedZ_snoc : ∀ (L r : List Str) (x : Str), dedZ L (r ++ [x]) = if x ∈ dedZ L r then dedZ L r else x :: dedZ L r
  | L, [], x => rfl
  | L, y :: r, x => dedZ_snoc _ r x
theorem dedZ_len : ∀ (L r : List Str), (dedZ L r).length ≤ L.length + r.length
  | L, [] => Nat.le_refl _
  | L, y :: r => by
    have := dedZ_len (if y ∈ L then L else y :: L) r
    unfold dedZ
    split at this <;> simp only [List.length_cons] at this ⊢ <;> split <;> simp_all <;> omega
theorem dedZ_mem : ∀ (L r : List Str) (k : Str), k ∈ dedZ L r ↔ k ∈ L ∨ k ∈ r
  | L, [], k => by simp [dedZ]
  | L, y :: r, k => by
    unfold dedZ
    rw [dedZ_mem, List.mem_cons]
    split
    · rename_i h
      constructor
      · rintro (z | z)
        · exact .inl z
        · exact .inr (.inr z)
      · rintro (z | z | z)
        · exact .inl z
        · exact .inl (z ▸ h)
        · exact .inr z
    · rw [List.mem_cons]
      constructor
      · rintro ((z | z) | z)
        · exact .inr (.inl z)
        · exact .inl z
        · exact .inr (.inr z)
      · rintro (z | z | z)
        · exact .inl (.inr z)
        · exact .inl (.inl z)
        · exact .inr z
theorem dedZ_nd : ∀ (L r : List Str), L.Nodup → (dedZ L r).Nodup
  | L, [], h => h
  | L, y :: r, h => by
    unfold dedZ
    refine dedZ_nd _ r ?_
    split
    · exact h
    · exact List.nodup_cons.mpr ⟨by assumption, h⟩
theorem setZ_new {w : World} {h : Heap} {a : Addr} (ho : h.get? a = some (eSet w)) : SetZ w h a [] :=
  ⟨_, #[], 0, _, ho, ⟨⟨rfl, rfl, rfl⟩, rfl⟩, ⟨fun e he => by simp at he, .nil, .nil⟩, ⟨by decide, by rfl⟩, List.Pairwise.nil, by
    show _ ∨ (!w.params.followText "set-order") = true
    cases w.params.followText "set-order"
    · exact .inr rfl
    · exact .inl rfl⟩
section
variable {P : Program} {w : World} {A : Around} {E : Value → Shared → Prop} {s : Shared}
theorem setZ_update {I : Addr} {fp wr : List Addr} {G : Array GenState → Array GenState → Prop} {n : Nat} {Pv : Nat → Value → Prop} {St : Nat → Shared → Prop} {R : Result → Shared → Prop}
    (W : WalksS P w A.in1 I fp wr G n Pv St) (S : Addr) (hSf : S ∉ fp) (zs : List Str) (hn : n = zs.length) (hb : zs.length + 1 < scanBound) (hv : ∀ i v, Pv i v → ∃ x t, zs[i]? = some x ∧ v = .str x t) :
    ∀ (k i : Nat) (s : Shared), n - i = k → i ≤ n → St i s → SetZ w s.heap S (dedZ [] (zs.take i)) → (∀ s', Moved (S :: wr) G s s' → SetZ w s'.heap S (dedZ [] zs) → R (.ok (.ret .none)) s') →
      codeAny (model P w) A (.builtin "set.update.loop" ⟨[.ref S, .ref I], []⟩) R s := by
  have nw : S ∉ wr := fun z => hSf (W.sub _ z)
  have sub : ∀ b ∈ wr, b ∈ S :: wr := fun b => List.mem_cons_of_mem _
  intro k
  induction k with
  | zero =>
    intro i s hk hi st hS hR
    refine codeAny_builtin PyProof.Rows.F.entry_set_update_loop ?_
    rw [Around.under_plainId PyProof.Rows.F.plain_set_update_loop _]
    obtain rfl : i = n := by omega
    refine wpAny_bind (m := pyNext _) (W.done s _ _ st fun s' hm => wpAny_pure (hR s' (hm.mono sub) ?_))
    have := hS.keep (h' := s'.heap) fun o e => hm.heap S o nw e
    rwa [List.take_of_length_le (Nat.le_of_eq hn.symm)] at this
  | succ k ih =>
    intro i s hk hi st hS hR
    refine codeAny_builtin PyProof.Rows.F.entry_set_update_loop ?_
    rw [Around.under_plainId PyProof.Rows.F.plain_set_update_loop _]
    refine wpAny_bind (m := pyNext _) (W.item i s _ _ (by omega) st fun v s' hP st' hm => ?_)
    obtain ⟨x, t, hz, rfl⟩ := hv i v hP
    have hS' := hS.keep (h' := s'.heap) fun o e => hm.heap S o nw e
    refine wpAny_bind (m := holding [Value.str x t] (setAdd S (.str x t))) (wpAny_holding ?_)
    unfold setAdd
    have hlen := dedZ_len [] (zs.take i)
    rw [List.length_nil, List.length_take] at hlen
    refine wpAny_holding (wpAny_bind ((PySem.strKind P w).pyHash (k := x) (strKind_is _ _ _ _) (setZ_add (s := { s' with toks := s'.toks + 1 }) hS' (by omega) fun h' b sb hS2 => ?_)))
    have hS3 : SetZ w h' S (dedZ [] (zs.take (i + 1))) := by
      rw [List.take_add_one, hz]
      show SetZ w h' S (dedZ [] (zs.take i ++ [x]))
      rw [dedZ_snoc]; exact hS2
    refine wpAny_pure ⟨plainId_quiet PyProof.Rows.F.plain_set_update_loop _, ih (i + 1) _ (by omega) (by omega) (W.frame _ s' _ _ st' (Nat.le_succ _) fun b hb o e => ?_) hS3 fun s2 hm2 hS4 => hR s2 (Moved.trans W.gtrans ((hm.mono sub).then_heap (Nat.le_succ _) fun b o hb e => ?_) hm2) hS4⟩
    · rw [sb.2 b fun q : b = S => hSf (q ▸ hb)]; exact e
    · rw [sb.2 b fun q : b = S => hb (q ▸ List.mem_cons_self)]; exact e
theorem set_of_texts {l : Addr} {its : Array Value} (zs : List Str) {Q : Value → Shared → Prop} (hh : A.handled = none) (hl : s.heap.IsList l its) (hit : StrsAre its.toList zs) (hb : zs.length + 1 < scanBound)
    (hQ : ∀ (h' : Heap) (tk : Nat), SetZ w h' s.heap.objs.size (dedZ [] zs) → (∀ b o, s.heap.get? b = some o → h'.get? b = some o) → Q (.ref s.heap.objs.size) { s with heap := h', toks := tk }) : wpAny (model P w) A (call (.type "set") [.ref l]) Q E s := by
  have size : its.size = zs.length := by have q := StrsAre.length hit; rwa [Array.length_toList] at q
  obtain ⟨c, tl, hmro⟩ := F.called_set.mro
  have f1 := F.called_set.made
  have f2 := F.called_set.sub
  have f3 := F.called_set.notType
  have f4 := F.called_set.canCreate
  have f5 := F.typeCall_set_1 (.ref l)
  refine wpAny_call (codeAny_of_tree (show wpAny _ _ (callAny (.type "set") _) _ _ _ from wpAny_pure ⟨Code.quiet_builtin _ (by decide +kernel), codeAny_builtin F.entry_type_call ?_⟩))
  rw [Around.under_plain (weight_type_call_type "set" [.ref l] []) rfl]
  repeat any_goals first | assumption | wp_step
  refine codeAny_mono (code_set_led1 (.ref l) (E := E) (Q₁ := fun x s1 => x = .ref s.heap.objs.size ∧ s1 = { s with heap := s.heap.push (eSet w) }) ⟨rfl, rfl⟩) fun r s1 hr => ?_
  cases r with
  | error e => exact hr
  | ok fl =>
    cases fl with
    | ret obj =>
      obtain ⟨rfl, rfl⟩ := hr
      have at0 : (s.heap.push (eSet w)).get? s.heap.objs.size = some (eSet w) := Heap.get?_push_size _ rfl
      have ty0 : Shared.TypeIs { s with heap := s.heap.push (eSet w) } (.ref s.heap.objs.size) "set" := ⟨_, at0, rfl⟩
      have g1 := F.called_set.init.lookup
      have g2 := F.called_set.init.bind (.ref s.heap.objs.size)
      repeat any_goals first | assumption | wp_step
      refine codeAny_mono (codeAny_call_builtin (R := wants (fun r s2 => r = .none ∧ ∃ h' tk, s2 = { s with heap := h', toks := tk } ∧ SetZ w h' s.heap.objs.size (dedZ [] zs) ∧ (∀ b o, s.heap.get? b = some o → h'.get? b = some o)) E) F.called_set.init.plain F.entry_set_init (check_set_init_1 ty0 ?_)) fun r2 s2 hr2 => ?_
      · obtain ⟨ol, hol, hcl, nl, hdl⟩ := hl
        obtain ⟨c1, c2, c3, c4⟩ := ol
        simp only at hcl hdl
        subst hcl hdl
        have hol1 : (s.heap.push (eSet w)).get? l = some { cls := .type "list", dict := c2, data := .seq its nl, slots := c4 } := Heap.get?_push_of_some _ hol
        have k1 := F.sub_list_set
        have k2 := F.sub_list_frozenset
        have k3 : (Value.type "list" == Value.type "dict") = false := by decide
        have hl1 : (s.heap.push (eSet w)).IsList l its := ⟨_, hol1, rfl, nl, rfl⟩
        unfold Builtin.«set.__init__» noKeywords Builtin.Frozenset.updateFrom
        generalize hPI : pyIter = PI
        wp_walk
        subst hPI
        refine wpAny_pyIter_list hl1 (wpAny_bind (wpAny_runValue ?_))
        have ll : l < s.heap.objs.size := Heap.lt_size hol
        have hh3 : A.in1.in1.in1.handled = none := by simp [hh]
        have z1 : (s.heap.push (eSet w)).objs.size = s.heap.objs.size + 1 := Heap.size_push ..
        have ne1 : l ≠ (s.heap.push (eSet w)).objs.size := by rw [z1]; exact Nat.ne_of_lt (Nat.lt_succ_of_lt ll)
        have ne2 : s.heap.objs.size ∉ [(s.heap.push (eSet w)).objs.size, l] := by
          rw [z1]; simp only [List.mem_cons, List.not_mem_nil, or_false, not_or]; exact And.intro (Nat.ne_of_lt (Nat.lt_succ_self _)) (Nat.ne_of_gt ll)
        have vals : ∀ (i : Nat) (v : Value), its[i]? = some v → ∃ x t, zs[i]? = some x ∧ v = .str x t := fun i v hv => by
          obtain ⟨y, t, e1, e2⟩ := StrsAre.item hit i v (by rw [Array.getElem?_toList]; exact hv)
          exact ⟨y, t, e2, e1⟩
        refine setZ_update ((Walks.list hh3 _ l ne1 its).toS) s.heap.objs.size ne2 zs size hb vals (its.size - 0) 0 _ (by omega) (Nat.zero_le _) ⟨⟨_, Heap.get?_push_size _ rfl, rfl, rfl⟩, (hl1.push _)⟩ (setZ_new (Heap.get?_push_of_some _ at0)) ?_
        intro s' hm hS'
        obtain ⟨h', g', d', t', o'⟩ := s'
        have e1 : g' = s.gens := hm.gens
        have e2 : d' = s.drawn := hm.drawn
        have e3 : o' = s.os := hm.os
        subst e1 e2 e3
        refine wpAny_pure (show wpAny _ _ (ret Value.none) _ _ _ from wpAny_pure ⟨rfl, h', t', rfl, hS', fun b o e => ?_⟩)
        have b0 : b < s.heap.objs.size := Heap.lt_size e
        exact hm.heap b o (by rw [z1]; simp only [List.mem_cons, List.not_mem_nil, or_false, not_or]; exact And.intro (Nat.ne_of_lt b0) (Nat.ne_of_lt (Nat.lt_succ_of_lt b0))) (Heap.get?_push_of_some _ (Heap.get?_push_of_some _ e))
      · cases r2 with
        | error e => exact hr2
        | ok fl2 =>
          cases fl2 with
          | ret r =>
            obtain ⟨rfl, h', tk, rfl, q1, q2⟩ := hr2
            repeat any_goals first | assumption | wp_step
            exact hQ _ _ q1 q2
          | _ => exact hr2.elim
    | _ => exact hr.elim
/-- sorted(a set of texts) -/
theorem sorted_setZ {a : Addr} {L : List Str} {Q : Value → Shared → Prop} (R : SetZ w s.heap a L) (hh : A.handled = none)
    (hQ : ∀ s' p (out : Array Value) (c : Nat) (zs : List Str), (∀ b o, s.heap.get? b = some o → s'.heap.get? b = some o) → s'.gens = s.gens → s'.os = s.os → s.heap.objs.size ≤ p →
      s'.heap.get? p = some (seqObj "list" out c) → StrsAre out.toList zs → zs.Perm L → sortedS zs = true → Q (.ref p) s') :
    wpAny (model P w) A (call (.builtin "sorted") [.ref a]) Q E s := by
  obtain ⟨o, es, ep, t, ho, ⟨hex, hd⟩, ⟨g, pm, nd⟩, ⟨hb, hf⟩, hr, hl⟩ := R
  refine Calls.call_function_entry kind_sorted plain_sorted entry_sorted (args_sorted1 _) ?_
  unfold Builtin.«sorted»
  refine wpAny_bind (m := checkCount "sorted" 1 1 _) (wpAny_pure ?_)
  refine wpAny_bind (collect_set (A := A.in1) hh ⟨o, ho, hex.1, hd⟩ hf hb hr hl fun s1 vs k1 hz g1 o1 pv => ?_)
  have hI : StrsAre vs (vs.map strOf) := strsAre_map vs fun v hv => by
    obtain ⟨e, he, rfl⟩ := List.mem_map.mp (pv.mem_iff.mp hv)
    obtain ⟨x, tk, h1, _⟩ := g e he
    exact ⟨x, tk, h1⟩
  have hvl : vs.length ≤ sizeLine := by
    rw [pv.length_eq, List.length_map, Array.length_toList]
    exact fits_of_scanBound hb
  have pz : (vs.map strOf).Perm L := by
    have q := pv.map strOf
    rw [List.map_map] at q
    exact q.trans pm
  refine wpAny_bind (wpAny_newList ?_ hvl)
  have hoL : (s1.heap.push (seqObj "list" vs.toArray 0)).get? s1.heap.objs.size = some (seqObj "list" vs.toArray 0) := Heap.get?_push_size _ rfl
  refine wpAny_bind (wpAny_holding (wpAny_call_entry slot_list_sort ⟨_, hoL, rfl⟩ entry_list_sort (list_sort_treeKAny strKind_oneLt hoL hI.keysOf (fun v1 v2 rest e => keyKind_strs (by rw [← e]; exact hI)) hvl fun st' hp hs => ⟨_, rfl, ?_⟩) (args_list_sort _)))
  obtain ⟨zs, q1, q2, q3⟩ := sorted_out_str hI hp hs
  obtain ⟨c, hc⟩ := sortedHeap_at (vs := vs) (out := (arrOf st').map (·.2)) hoL
  refine wpAny_pure ⟨_, rfl, hQ _ s1.heap.objs.size _ c zs (fun b u e => ?_) g1 o1 hz hc q1 (q2.trans pz) q3⟩
  have q := k1 b u e
  have hlt := Heap.lt_size q
  refine (sortedHeap_old (Nat.ne_of_lt hlt) (by rw [size_push']; exact Nat.lt_succ_of_lt hlt)).trans ?_
  exact Heap.get?_push_of_some _ q
end
end DL
namespace DL
open PySem PySem.Spec PyProof.Rows L2
/-- the set of texts at a -/
def SetZO (w : World) (a : Addr) (L : List Str) : HO := .ext fun h => SetZ w h a L
theorem setZO_new {w : World} {P : Program} {H : Hp} {h : Heap} {a : Addr} {L : List Str} (R : SetZ w h a L) : ObjOk P w H h a (SetZO w a L) := by
  have ⟨o, _, _, _, ho, _⟩ := R
  exact ⟨R, ⟨o, ho⟩, fun h1 h2 p k => SetZ.keep p k⟩
theorem vals_of_strs : ∀ {us : List Value} {zs : List Str}, StrsAre us zs → Vals (zs.map V.str) us
  | _, _, .nil => .nil
  | _, _, .cons x t h => .cons (a := V.str x) ⟨t, rfl⟩ (vals_of_strs h)
section
variable {X : Cx} {ρ : Rho} {M : Mp} {Φ : D → Mp → Prop} {e : Expr} {pos p p2 pos2 : Pos}
def rSetZ (K : PySem.W.Frag) (w : World) : List V → Hp → VK → Prop := fun xs H Q => ∃ (l : Addr) (zs : List Str), xs = [V.ref l] ∧ SqL K H l (zs.map V.str) ∧ zs.length + 1 < scanBound ∧ ∀ p : Addr, H p = none → Q (.ref p) (upd H p (SetZO w p (dedZ [] zs)))
theorem cr_setZ (hc : X.calm = true) : CallR X (.type "set") (rSetZ X.K X.w) := by
  intro pins s σ H vs us Q I r h
  obtain ⟨l, zs, rfl, hq, hl, q⟩ := h
  rw [Vals.ref1 r]
  obtain ⟨its, rv, pl, hz⟩ := I.list hq
  refine set_of_texts zs (I.ok.hd hc) pl.isList (by simpa using strsAre_of rv) hl fun h' tk R k => ?_
  exact ⟨.ref s.heap.objs.size, _, I.laid k (Nat.le_refl _) (setZO_new R), rfl, q _ (I.hok.fresh (Nat.le_refl _))⟩
def rSortZ (w : World) : List V → Hp → VK → Prop := fun vs H Q => ∃ (a : Addr) (L : List Str), vs = [V.ref a] ∧ H a = some (SetZO w a L) ∧ L.length ≤ sizeLine ∧ ∀ (zs : List Str) (p : Addr), zs.Perm L → sortedS zs = true → H p = none → Q (.ref p) (upd H p (.lst (zs.map V.str)))
theorem cr_sortZ (hc : X.calm = true) : CallR X (.builtin "sorted") (rSortZ X.w) := by
  intro pins s σ H vs us Q I r h
  obtain ⟨a, L, rfl, ha, hl, q⟩ := h
  have R : SetZ X.w s.heap a L := (I.hok a _ ha).1
  rw [Vals.ref1 r]
  refine sorted_setZ R (I.ok.hd hc) fun s' p out c zs k g o hp hg hi pm hs => ?_
  have hlen : (zs.map V.str).length ≤ sizeLine := by rw [List.length_map, pm.length_eq]; exact hl
  have hn : H p = none := I.hok.fresh hp
  have J : Inv X pins σ (upd H p (.lst (zs.map V.str))) { s with heap := s'.heap, gens := s'.gens, drawn := s'.drawn, toks := s'.toks } :=
    I.call (ch := []) (Un.laid k hp hn) (I.hok.laid k hp ⟨hlen, out.toList, c, vals_of_strs hi, hg⟩) (by rw [g]; exact I.bare) (fun _ z => nomatch z)
  have e : s' = { s with heap := s'.heap, gens := s'.gens, drawn := s'.drawn, toks := s'.toks } := by
    cases s'; cases s; cases o; rfl
  rw [e]
  exact ⟨.ref p, _, J, rfl, q zs p pm hs hn⟩
/-- sorted(set(e)), e a list of texts -/
theorem we_sortedSetS (hm : X.mg "sorted" = none) (hm2 : X.mg "set" = none) (h : WE X ρ M e fun d M1 => ∃ zs : List Str, LstOf M1 d (zs.map D.str) ∧ zs.length < 1000 ∧ ∀ ys : List Str, ys.Perm (dedZ [] zs) → sortedS ys = true → Φ (.lst (ys.map D.str)) M1) (hc : X.calm = true := by rfl)
    (hg : Gl X "sorted" := by rfl) (hg2 : Gl X "set" := by rfl) (he : starEach [.Call (.Name "set" p2) [e] [] pos2] X.env = (false, eval (.Call (.Name "set" p2) [e] [] pos2) X.env) :: starEach [] X.env := by rfl) (hpl : (backTo pos (starEach [] X.env)).any (·.1) = false := by rfl)
    (he2 : starEach [e] X.env = (false, eval e X.env) :: starEach [] X.env := by rfl) (hpl2 : (backTo pos2 (starEach [] X.env)).any (·.1) = false := by rfl) : WE X ρ M (.Call (.Name "sorted" p) [.Call (.Name "set" p2) [e] [] pos2] [] pos) Φ := .mk fun {Z} σ H Q en w k =>
  eOf (pe_callB (cr_sortZ hc) hg hm (by decide +kernel) (pa_cons (pe_callTy (cr_setZ hc) hg2 hm2 (by decide +kernel) pa_sem (by decide) (by decide) he2 hpl2) pa_nil he) (by decide) (by decide) he hpl)
    ((wa_cons (ΦA := fun ds M2 => ∃ d, ∃ zs : List Str, ds = [d] ∧ LstOf M2 d (zs.map D.str) ∧ zs.length < 1000 ∧ ∀ ys : List Str, ys.Perm (dedZ [] zs) → sortedS ys = true → Φ (.lst (ys.map D.str)) M2) (h.imp fun d M1 ⟨zs, h1, h2, h3⟩ => wa_nil ⟨d, zs, rfl, h1, h2, h3⟩) he2).run σ H _ en w fun vs ds H1 M1 e1 w1 r1 hz => by
      obtain ⟨d, zs, rfl, hl, hn, hz⟩ := hz
      cases r1 with
      | cons r1 r2 =>
        cases r2
        obtain ⟨l, us, rfl, hq, rs⟩ := r1.asLst w1 hl
        obtain rfl := rs.strs
        have hd := dedZ_len [] zs
        rw [List.length_nil] at hd
        refine ⟨l, zs, rfl, hq, by unfold scanBound; omega, fun q hq0 => ⟨q, _, rfl, upd_same, by rw [sizeLine_eq]; omega, fun ys q2 pm hs hq2 => ?_⟩⟩
        have x1 := Ext.new (o := SetZO X.w q (dedZ [] zs)) w1 hq0
        exact (k.step (e1.trans x1)).new (w1.new hq0) hq2 (.lst upd_same ((w1.new hq0).fresh hq2) (Reps.ofStrs ys)) (hz ys pm hs))
end
end DL
namespace PL
open PySem PySem.Spec SX TL PyProof.Rows DL
def leZ (a b : Str) : Bool := !ltCps b.cps.toList a.cps.toList
theorem leZ_iff (a b : Str) : leZ a b = true ↔ a.cps.toList ≤ b.cps.toList := by
  unfold leZ
  rw [ltCps_eq, Bool.not_eq_true', decide_eq_false_iff_not]
  exact List.not_lt
theorem str_ext {a b : Str} (h : a.cps.toList = b.cps.toList) : a = b := by
  obtain ⟨⟨a⟩⟩ := a
  obtain ⟨⟨b⟩⟩ := b
  simp only at h
  subst h; rfl
theorem leZ_trans {a b c : Str} (h : leZ a b = true) (g : leZ b c = true) : leZ a c = true := (leZ_iff _ _).mpr (List.le_trans ((leZ_iff _ _).mp h) ((leZ_iff _ _).mp g))
theorem leZ_total (a b : Str) : leZ a b = true ∨ leZ b a = true := (List.le_total a.cps.toList b.cps.toList).imp (leZ_iff _ _).mpr (leZ_iff _ _).mpr
theorem leZ_anti {a b : Str} (h : leZ a b = true) (g : leZ b a = true) : a = b := str_ext (List.le_antisymm ((leZ_iff _ _).mp h) ((leZ_iff _ _).mp g))
theorem rising_pw : ∀ (p : Str) (l : List Str), risingS p l = true → (p :: l).Pairwise fun a b => leZ a b = true
  | p, [], _ => List.pairwise_cons.mpr ⟨fun _ h => (nomatch h), List.Pairwise.nil⟩
  | p, x :: r, h => by
    obtain ⟨h1, h2⟩ := Bool.and_eq_true_iff.mp (show (leZ p x && risingS x r) = true from h)
    have ih := rising_pw x r h2
    refine List.pairwise_cons.mpr ⟨fun y hy => ?_, ih⟩
    rcases List.mem_cons.mp hy with rfl | hy
    · exact h1
    · exact leZ_trans h1 (List.rel_of_pairwise_cons ih hy)
theorem sorted_pw : ∀ (l : List Str), sortedS l = true → l.Pairwise fun a b => leZ a b = true
  | [], _ => .nil
  | x :: r, h => rising_pw x r h
def insZ (x : Str) : List Str → List Str
  | [] => [x]
  | y :: r => if leZ x y = true then x :: y :: r else y :: insZ x r
theorem insZ_perm (x : Str) : ∀ l : List Str, (insZ x l).Perm (x :: l)
  | [] => .refl _
  | y :: r => by
    unfold insZ
    split
    · exact .refl _
    · exact ((insZ_perm x r).cons y).trans (.swap x y r)
theorem insZ_pw (x : Str) : ∀ l : List Str, (l.Pairwise fun a b => leZ a b = true) → (insZ x l).Pairwise fun a b => leZ a b = true
  | [], _ => List.pairwise_cons.mpr ⟨fun _ h => (nomatch h), List.Pairwise.nil⟩
  | y :: r, h => by
    obtain ⟨h1, h2⟩ := List.pairwise_cons.mp h
    unfold insZ
    split
    · rename_i q
      refine List.pairwise_cons.mpr ⟨fun z hz => ?_, h⟩
      rcases List.mem_cons.mp hz with rfl | hz
      · exact q
      · exact leZ_trans q (h1 z hz)
    · rename_i q
      refine List.pairwise_cons.mpr ⟨fun z hz => ?_, insZ_pw x r h2⟩
      rcases List.mem_cons.mp ((insZ_perm x r).mem_iff.mp hz) with rfl | hz
      · exact (leZ_total z y).resolve_left q
      · exact h1 z hz
def srtZ (l : List Str) : List Str := l.foldr insZ []
theorem srtZ_perm : ∀ l : List Str, (srtZ l).Perm l
  | [] => .refl _
  | x :: l => (insZ_perm x (srtZ l)).trans ((srtZ_perm l).cons x)
theorem srtZ_pw : ∀ l : List Str, (srtZ l).Pairwise fun a b => leZ a b = true
  | [] => .nil
  | x :: l => insZ_pw x _ (srtZ_pw l)
/-- ascending, none twice -/
def nmsOf (zs : List Str) : List Str := srtZ (dedZ [] zs)
theorem pw_perm_eq : ∀ {l m : List Str}, (l.Pairwise fun a b => leZ a b = true) → (m.Pairwise fun a b => leZ a b = true) → l.Perm m → l = m
  | [], m, _, _, p => (List.Perm.nil_eq p)
  | x :: l, [], _, _, p => absurd p.length_eq (by simp)
  | x :: l, y :: m, h, g, p => by
    obtain ⟨h1, h2⟩ := List.pairwise_cons.mp h
    obtain ⟨g1, g2⟩ := List.pairwise_cons.mp g
    have e : x = y := by
      rcases List.mem_cons.mp (p.mem_iff.mp List.mem_cons_self) with e | hx
      · exact e
      · rcases List.mem_cons.mp (p.mem_iff.mpr List.mem_cons_self) with e | hy
        · exact e.symm
        · exact leZ_anti (h1 y hy) (g1 x hx)
    subst e
    rw [pw_perm_eq h2 g2 ((List.perm_cons x).mp p)]
theorem nmsOf_uniq {zs ys : List Str} (p : ys.Perm (dedZ [] zs)) (h : sortedS ys = true) : ys = nmsOf zs := pw_perm_eq (sorted_pw ys h) (srtZ_pw _) (p.trans (srtZ_perm _).symm)
theorem nmsOf_mem (zs : List Str) (k : Str) : k ∈ nmsOf zs ↔ k ∈ zs := by
  unfold nmsOf
  rw [(srtZ_perm _).mem_iff, dedZ_mem]
  simp
theorem nmsOf_nd (zs : List Str) : (nmsOf zs).Nodup := (srtZ_perm _).nodup_iff.mpr (dedZ_nd [] zs .nil)
theorem nmsOf_len (zs : List Str) : (nmsOf zs).length ≤ zs.length := by
  unfold nmsOf
  rw [(srtZ_perm _).length_eq]
  have := dedZ_len [] zs
  simpa using this
theorem nmsOf_congr {zs ws : List Str} (h : ∀ k, k ∈ zs ↔ k ∈ ws) : nmsOf zs = nmsOf ws :=
  pw_perm_eq (srtZ_pw _) (srtZ_pw _) ((List.perm_ext_iff_of_nodup (nmsOf_nd zs) (nmsOf_nd ws)).mpr fun k => by rw [nmsOf_mem, nmsOf_mem]; exact h k)
mutual
/-- the names, as they stand in the text -/
def lv : T → List Str
  | .one => []
  | .name x => [S x]
  | .cop _ _ t => lv t
  | .row _ ts => lvL ts
def lvL : List T → List Str
  | [] => []
  | t :: ts => lv t ++ lvL ts
end
theorem lvL_flat : ∀ ts : List T, lvL ts = ts.flatMap lv
  | [] => rfl
  | t :: ts => by rw [lvL, lvL_flat ts, List.flatMap_cons]
def nmT (t : T) : List Str := nmsOf (lv t)
theorem lv_kids {t : T} (h : ∀ x, t ≠ .name x) : lv t = (kids t).flatMap fun q => lv q.2 := by
  cases t with
  | one => rw [lv]; rfl
  | name x => exact absurd rfl (h x)
  | cop s n u => rw [lv]; simp [kids]
  | row s ts => rw [lv, lvL_flat, kids, List.flatMap_map]
theorem lv_told : ∀ {t : T}, Told t → lv t = []
  | .one, _ => by rw [lv]
  | .name x, h => h.elim
  | .cop s n u, h => by rw [lv]; exact lv_told h
  | .row s ts, h => by
    rw [lv, lvL_flat]
    exact List.flatMap_eq_nil_iff.mpr fun u hu => lv_told (tolds_all.mp h u hu)
theorem nmT_told {t : T} (h : Told t) : nmT t = [] := by unfold nmT; rw [lv_told h]; rfl
theorem nmT_mem (t : T) (k : Str) : k ∈ nmT t ↔ k ∈ lv t := nmsOf_mem _ _
theorem nmT_len (t : T) : (nmT t).length ≤ (lv t).length := nmsOf_len _
/-- the names of the parts, put together -/
theorem nmT_kids {t : T} (h : ∀ x, t ≠ .name x) : nmsOf ((kids t).flatMap fun q => nmT q.2) = nmT t := by
  unfold nmT
  rw [lv_kids h]
  refine nmsOf_congr fun k => ?_
  simp only [List.mem_flatMap, nmsOf_mem]
theorem flat_len {α : Type} (f g : α → List Str) (h : ∀ x, (f x).length ≤ (g x).length) : ∀ l : List α, (l.flatMap f).length ≤ (l.flatMap g).length
  | [] => Nat.le_refl _
  | x :: l => by
    rw [List.flatMap_cons, List.flatMap_cons, List.length_append, List.length_append]
    have := h x
    have := flat_len f g h l
    omega
theorem kid_names {t : T} {q : Nat × T} (hq : q ∈ kids t) : (nmT q.2).length ≤ (nmT t).length ∧ (lv q.2).length ≤ (lv t).length := by
  have hn : ∀ x, t ≠ .name x := fun x e => by rw [e] at hq; simp [kids] at hq
  have e := lv_kids hn
  constructor
  · refine List.Nodup.length_le_of_subset (nmsOf_nd _) fun k hk => ?_
    rw [nmT_mem] at hk ⊢
    rw [e]
    exact List.mem_flatMap.mpr ⟨q, hq, hk⟩
  · rw [e]
    generalize kids t = l at hq
    induction l with
    | nil => cases hq
    | cons a r ih =>
      rw [List.flatMap_cons, List.length_append]
      rcases List.mem_cons.mp hq with rfl | hq
      · omega
      · have := ih hq
        omega
end PL
namespace W
open PySem PySem.Spec PyProof.Rows L2 DL SX PL
section
variable {P : Program} {w : World} {K : PySem.W.Frag} {mg : Str → Option Value} {base : Heap}
def cNamesN (h : Nat) : Con := fun ds M Φ => ∃ t, ds = [tS (txt t)] ∧ Good t ∧ (lv t).length < 1000 ∧ (txt t).length ≤ 1000000 ∧ ht t ≤ h ∧ Φ (.lst ((nmT t).map D.str)) M
theorem wordT_nn {t : T} (h : ∀ x, t ≠ .name x) : decide (wordT t = ("name" : Str)) = false := by
  cases t with
  | one => decide +kernel
  | name x => exact absurd rfl (h x)
  | cop s n u =>
    show decide (wrd s = ("name" : Str)) = false
    cases s <;> decide +kernel
  | row s ts =>
    show decide (wrd s = ("name" : Str)) = false
    cases s <;> decide +kernel
theorem nmT_name (x : List Nat) : nmT (.name x) = [S x] := by
  unfold nmT
  rw [lv]; rfl
abbrev nNin : List Str := ["text", "word", "groups", "found", "many", "part", "name"]
theorem ok_names_n (h : Nat) (F : Fx w K mg) (F1 : Fc P w K mg base "groups_in" [] 3 1 cGroupsIn) (F2 : ∀ j, h = j + 1 → Fc P w K mg base "names_in" [] (j + 4) 1 (cNamesN j)) :
    BodyOk P w K mg base "names_in" s_names_in nNin 1 (h + 3) (cNamesN h) := by
  intro f cdv A outer s H E hr ds M Φ hl hc
  obtain ⟨t, rfl, hg, hlv, hl, hh, hc⟩ := hc
  have nd : nNin.Nodup := by decide +kernel
  refine wss_cons (ws_asg (we_call F1 (hr.mono (by omega)) (wa_cons (we_var 0 rfl (wa_nil ⟨rfl, _, rfl, hg, hl, ?_⟩)))))
  refine wg_tup ⟨rfl, rfl, wgs_cons (wg_name 1 (wgs_cons (wg_name 2 (wgs_nil ⟨rfl, ?_⟩) nd)) nd)⟩
  refine wss_cons (ws_if (wt_eqS (we_var 1 rfl (we_gstr F.gNAME ⟨_, rfl, ?_⟩))))
  by_cases hn : ∃ x, t = .name x
  · obtain ⟨x, rfl⟩ := hn
    rw [show decide (wordT (.name x) = ("name" : Str)) = true from rfl]
    rw [nmT_name] at hc
    exact wss_cons (ws_ret (we_lst (wa_cons (we_var 0 rfl (wa_nil ⟨sz1, Lets.of (by rw [txt] at *; exact hc)⟩)))))
  have hn : ∀ x, t ≠ .name x := fun x e => hn ⟨x, e⟩
  rw [wordT_nn hn]
  have hk := kids_len hg
  have tot : ∀ i, (((kids t).take i).flatMap fun q => nmT q.2).length < 1000 := fun i => by
    have h1 := flat_len (fun q : Nat × T => nmT q.2) (fun q => lv q.2) (fun q => nmT_len q.2) (kids t)
    rw [← lv_kids hn] at h1
    have h2 : (((kids t).take i).flatMap fun q => nmT q.2).length ≤ ((kids t).flatMap fun q => nmT q.2).length := by
      conv => rhs; rw [← List.take_append_drop i (kids t)]
      rw [List.flatMap_append, List.length_append]
      omega
    omega
  refine wss_nil (wss_cons (ws_set 3 nd (we_lstM (wa_nil ⟨Nat.zero_le _, fun p hp => ?_⟩))))
  refine wss_cons (ws_for PassesOwn.never (wi_list (we_var 2 rfl ⟨_, .inl rfl, ?_⟩)))
  refine ⟨fun i ρ' M' => ∃ o1 o2, ρ' = [some (tS (txt t)), some (.str (wordT t)), some (.lst (grpD t)), some (.ob p), o1, o2, none] ∧ M' = mset M p (.lst ((((kids t).take i).flatMap fun q => nmT q.2).map D.str)), ⟨_, _, rfl, rfl⟩, ?_, ?_⟩
  · rintro i x ρ' M' hx ⟨o1, o2, rfl, rfl⟩
    rw [grpD, List.getElem?_map] at hx
    obtain ⟨q, hq, rfl⟩ := Option.map_eq_some_iff.mp hx
    have hm := List.mem_of_getElem? hq
    obtain ⟨g1, g2, g3, g4, g5⟩ := kids_ok hm hg
    obtain ⟨n1, n2⟩ := kid_names hm
    refine wg_tup ⟨rfl, rfl, wgs_cons (wg_name 4 (wgs_cons (wg_name 5 (wgs_nil ⟨rfl, ?_⟩) nd)) nd)⟩
    obtain ⟨j, rfl⟩ : ∃ j, h = j + 1 := ⟨h - 1, by omega⟩
    have e : ((kids t).take (i + 1)).flatMap (fun q => nmT q.2) = ((kids t).take i).flatMap (fun q => nmT q.2) ++ nmT q.2 := by
      rw [take_snoc hq, List.flatMap_append]; simp
    have h1000 := tot (i + 1)
    rw [e, List.length_append] at h1000
    refine wss_cons (ws_expr (we_extend (we_var 3 rfl ⟨p, _, rfl, mset_same, we_call (F2 j rfl) (hr.mono (by omega)) (wa_cons (we_var 5 rfl (wa_nil ⟨rfl, q.2, rfl, g1, by omega, by omega, by omega, _, _, mset_same, rfl, ?_, ?_⟩)))⟩)))
    · rw [List.length_map, List.length_map, sizeLine_eq]; omega
    rw [mset_mset, ← List.map_append, ← e]
    exact wss_nil ⟨_, _, rfl, rfl⟩
  · rintro ρ' M' ⟨o1, o2, rfl, rfl⟩
    have el : (grpD t).length = (kids t).length := by rw [grpD, List.length_map]
    rw [el, List.take_length]
    have h1000 := tot (kids t).length
    rw [List.take_length] at h1000
    refine wss_let (M' := M) (ρ' := [some (tS (txt t)), some (.str (wordT t)), some (.lst (grpD t)), some (.lst (((kids t).flatMap fun q => nmT q.2).map D.str)), none, none, none]) (les_new hp) ?_ ?_
    · exact .val (.same _) (.val (.same _) (.val (.same _) (.val (.lst mset_same hp) (.drop (.drop (.drop .nil))))))
    refine wss_cons (ws_ret (we_sortedSetS (F.bn _ (by decide +kernel)) (F.bn _ (by decide +kernel)) (we_lc nd (blkOk_by (N := nNin) (sc := defScope s_names_in) (own := [("name", 6)]) (by decide +kernel)) (fun _ _ _ _ _ => pg_name (i := 6) nd rfl (Or.inl rfl)) (gt_name (by decide)) (fun _ _ _ _ _ => pts_nil) tk_nil
      (wi_list (we_var 3 rfl ⟨_, .inl rfl, ?_⟩)))))
    refine ⟨by rw [List.length_map, sizeLine_eq]; omega, fun i acc M' => M' = M ∧ acc = (((kids t).flatMap fun q => nmT q.2).take i).map D.str, ⟨rfl, rfl⟩, ?_, ?_⟩
    · rintro i x acc M' hx ⟨rfl, rfl⟩
      rw [List.getElem?_map] at hx
      obtain ⟨z, hz, rfl⟩ := Option.map_eq_some_iff.mp hx
      intro s1 H1 C' cl fp
      refine we_strS (F.bn _ (by decide +kernel)) (we_var 6 rfl ⟨z, rfl, rfl, ?_⟩)
      rw [take_snoc hz, List.map_append]; rfl
    · rintro acc M' ⟨rfl, rfl⟩
      refine ⟨(kids t).flatMap fun q => nmT q.2, by rw [List.length_map, List.take_length]; rfl, by omega, fun ys hy hs => Lets.of ?_⟩
      rw [nmsOf_uniq hy hs, nmT_kids hn]
      exact hc
end
mutual
/-- the plan as an instance of the class at C, with its names -/
def planN (C : Addr) : T → D
  | .one => .ins C (six (tS (txt .one)) (.tup []) (.str (wordT .one)) (.lst []) (.bl false) (.int (ppl .one : Nat)))
  | .name x => .ins C (six (tS (txt (.name x))) (.tup ((nmT (.name x)).map D.str)) (.str (wordT (.name x))) (.lst []) (.bl false) (.int (ppl (.name x) : Nat)))
  | .cop s n t => .ins C (six (tS (txt (.cop s n t))) (.tup ((nmT (.cop s n t)).map D.str)) (.str (wordT (.cop s n t))) (.lst [.tup [.int (n : Nat), planN C t]]) (.bl true) (.int (ppl (.cop s n t) : Nat)))
  | .row s ts => .ins C (six (tS (txt (.row s ts))) (.tup ((nmT (.row s ts)).map D.str)) (.str (wordT (.row s ts))) (.lst (plansN C ts)) (.bl false) (.int (ppl (.row s ts) : Nat)))
def plansN (C : Addr) : List T → List D
  | [] => []
  | t :: ts => .tup [.int ((1 : Nat) : Int), planN C t] :: plansN C ts
end
theorem plansN_map (C : Addr) : ∀ ts : List T, plansN C ts = ts.map fun t => .tup [.int ((1 : Nat) : Int), planN C t]
  | [] => by rw [plansN]; rfl
  | t :: ts => by rw [plansN, plansN_map C ts, List.map_cons]
def subsN (C : Addr) (t : T) : List D := (kids t).map fun q => .tup [.int (q.1 : Nat), planN C q.2]
def fldsN (C : Addr) (t : T) : List (Str × D) := six (tS (txt t)) (.tup ((nmT t).map D.str)) (.str (wordT t)) (.lst (subsN C t)) (.bl (isCop t)) (.int (ppl t : Nat))
theorem planN_ins (C : Addr) (t : T) : planN C t = .ins C (fldsN C t) := by
  cases t with
  | one =>
    rw [planN]; unfold fldsN
    rw [nmT_told (t := .one) trivial]; rfl
  | name x => rw [planN]; rfl
  | cop s n t => rw [planN]; rfl
  | row s ts =>
    rw [planN, plansN_map]
    unfold fldsN subsN kids
    rw [List.map_map]; rfl
mutual
theorem planN_told (C : Addr) : ∀ {t : T}, Told t → planN C t = planD C t
  | .one, _ => by rw [planN, planD]
  | .name x, h => h.elim
  | .cop s n t, h => by
    have h' : Told t := h
    rw [planN, planD, planN_told C h', nmT_told (t := .cop s n t) h]; rfl
  | .row s ts, h => by
    have h' : Tolds ts := h
    rw [planN, planD, plansN_told C h', nmT_told (t := .row s ts) h]; rfl
theorem plansN_told (C : Addr) : ∀ {ts : List T}, Tolds ts → plansN C ts = plansD C ts
  | [], _ => by rw [plansN, plansD]
  | t :: ts, h => by rw [plansN, plansD, planN_told C h.1, plansN_told C h.2]
end
end W
namespace W
open PySem PySem.Spec PyProof.Rows L2 DL SX PL
section
variable {P : Program} {w : World} {K : PySem.W.Frag} {mg : Str → Option Value} {base : Heap} {C : Addr}
def cInitN (C : Addr) (h : Nat) : Con := fun ds M Φ => ∃ a t, ds = [.ob a, tS (txt t)] ∧ Good t ∧ (lv t).length < 1000 ∧ (nmT t).length ≤ 3 ∧ (txt t).length ≤ 100000 ∧ ht t ≤ h ∧ ht t ≤ 60 ∧ M a = some (.ins C []) ∧ Φ .non (mset M a (.ins C (fldsN C t)))
/-- Plan(e) -/
theorem we_plan_n {X : Cx} {ρ : Rho} {M : Mp} {Φ : D → Mp → Prop} {e : Expr} {p pos : Pos} {h k : Nat} (F : Kc X.prog X.w X.K X.mg X.base "Plan" C [] k 2 (cInitN C h)) (hr : Room (k + 1) X.A)
    (q : WE X ρ M e fun d M1 => ∃ t, d = tS (txt t) ∧ Good t ∧ (lv t).length < 1000 ∧ (nmT t).length ≤ 3 ∧ (txt t).length ≤ 100000 ∧ ht t ≤ h ∧ ht t ≤ 60 ∧ Φ (planN C t) M1) (hg : Gl X "Plan" := by rfl)
    (he : starEach [e] X.env = (false, eval e X.env) :: starEach [] X.env := by rfl) (hpl : (backTo pos (starEach [] X.env)).any (·.1) = false := by rfl) : WE X ρ M (.Call (.Name "Plan" p) [e] [] pos) Φ :=
  we_make F hr (wa_cons (q.imp fun d M1 ⟨t, e1, h1, h2, h3, h4, h5, h6, h7⟩ => wa_nil fun a ha => ⟨rfl, a, t, by rw [e1]; rfl, h1, h2, h3, h4, h5, h6, mset_same, rfl, by
    rw [mset_mset]
    exact ⟨_, M1, les_new ha, .ins mset_same ha, by rw [← planN_ins]; exact h7⟩⟩) he) hg (he := he) (hpl := hpl)
theorem ok_init_n (h : Nat) (F : Fx w K mg) (X : Px K mg C) (F1 : Fc P w K mg base "is_plan_text" [] (h + 4) 2 (cPlanText h)) (F2 : Fc P w K mg base "names_in" [] (h + 4) 1 (cNamesN h)) (F3 : Fc P w K mg base "groups_in" [] 3 1 cGroupsIn)
    (F4 : ∀ j, h = j + 1 → Kc P w K mg base "Plan" C [] (2 * j + 6) 2 (cInitN C j)) : BodyOk P w K mg base "Plan.__init__" s_Plan___init__ nInit 2 (2 * h + 5) (cInitN C h) := by
  intro f cdv A outer s H E hr ds M Φ hl hc
  obtain ⟨a, t, rfl, hg, hlv, hn3, hl, hh, h60, hM, hc⟩ := hc
  have nd : nInit.Nodup := by decide +kernel
  have hk := kids_len hg
  obtain ⟨ps, hcmp⟩ := grp_cmp hg
  -- nothing is wrong
  refine wss_cons (ws_if (wt_ww (ww_or (wt_not (wt_val (we_isi (F.bn _ (by decide +kernel)) (we_var 1 rfl (we_bty (F.bn _ (by decide +kernel)) rfl ⟨_, _, true, rfl, rfl, (by intro C h; cases h), rfl, _, rfl, ?_⟩))))))))
  refine ww_or (wt_not (wt_val (we_call F1 (hr.mono (by omega)) (wa_cons (we_var 1 rfl (wa_cons (we_int (wa_nil ⟨rfl, t, 0, rfl, hg, by omega, hh, by omega, _, rfl, ?_⟩))))))))
  refine ww_or1 (wt_gtI (we_len (F.bn _ (by decide +kernel)) (we_call F2 (hr.mono (by omega)) (wa_cons (we_var 1 rfl (wa_nil ⟨rfl, t, rfl, hg, hlv, by omega, hh, _, lenL, we_gint F.gMOST_NAMES ⟨_, _, rfl, rfl, ?_⟩⟩))))))
  rw [decide_eq_false (show ¬ (3 : Int) < ((((nmT t).map D.str).length : Nat) : Int) by rw [List.length_map]; omega)]
  refine wss_nil ?_
  -- the fields
  refine wss_cons (ws_fld (C := C) (we_var 1 rfl (we_var 0 rfl ⟨a, _, rfl, hM, X.cl, X.na _ (by decide +kernel), by decide, ?_⟩)))
  rw [put1]
  refine wss_cons (ws_fld (C := C) (we_tupleOf (F.bn _ (by decide +kernel)) (we_call F2 (hr.mono (by omega)) (wa_cons (we_var 1 rfl (wa_nil ⟨rfl, t, rfl, hg, hlv, by omega, hh, _, .inl rfl, we_var 0 rfl ⟨a, _, rfl, mset_same, X.cl, X.na _ (by decide +kernel), sl1, ?_⟩⟩))))))
  rw [mset_mset, put2]
  refine wss_cons (ws_asg (we_call F3 (hr.mono (by omega)) (wa_cons (we_var 1 rfl (wa_nil ⟨rfl, t, rfl, hg, by omega, ?_⟩)))))
  refine wg_tup ⟨rfl, rfl, wgs_cons (wg_fld (C := C) (we_var 0 rfl ⟨a, _, rfl, mset_same, X.cl, X.na _ (by decide +kernel), sl2, wgs_cons (wg_name 2 (wgs_nil ⟨rfl, ?_⟩) nd)⟩))⟩
  rw [mset_mset, put3]
  refine wss_cons (ws_fld (C := C) (we_lc nd (blkOk_by (N := nInit) (sc := defScope s_Plan___init__) (own := [("many", 3), ("part", 4)]) (by decide +kernel)) (fun _ _ _ _ _ => pg_tup rfl (pgs_cons (pg_name (i := 3) nd rfl (Or.inl rfl)) (pgs_cons (pg_name (i := 4) nd rfl (Or.inl rfl)) pgs_nil)) rfl rfl) (gt_two (by decide) (by decide)) (fun _ _ _ _ _ => pts_nil) tk_nil
    (wi_list (we_var 2 rfl ⟨_, .inl rfl, ?_⟩))))
  refine ⟨by rw [grpD, List.length_map, sizeLine_eq]; omega, fun i acc M' => M' = mset M a (.ins C (f3 (tS (txt t)) (.tup ((nmT t).map D.str)) (.str (wordT t)))) ∧ acc = ((kids t).take i).map fun q => .tup [.int (q.1 : Nat), planN C q.2], ⟨rfl, rfl⟩, ?_, ?_⟩
  · rintro i x acc M' hx ⟨rfl, rfl⟩
    rw [grpD, List.getElem?_map] at hx
    obtain ⟨q, hq, rfl⟩ := Option.map_eq_some_iff.mp hx
    have hm := List.mem_of_getElem? hq
    obtain ⟨g1, g2, g3, g4, g5⟩ := kids_ok hm hg
    obtain ⟨n1, n2⟩ := kid_names hm
    refine ⟨_, _, rfl, ?_⟩
    intro s1 H1 C' cl fp
    obtain ⟨j, rfl⟩ : ∃ j, h = j + 1 := ⟨h - 1, by omega⟩
    refine we_tup (wa_cons (we_var 3 rfl (wa_cons (we_plan_n (F4 j rfl) (hr.mono (by omega)) (we_var 4 rfl ⟨q.2, rfl, g1, by omega, by omega, by omega, by omega, by omega, wa_nil ⟨sz2, rfl, ?_⟩⟩)))))
    rw [take_snoc hq, List.map_append]; rfl
  rintro acc M' ⟨rfl, rfl⟩
  refine we_var 0 rfl ⟨a, _, rfl, mset_same, X.cl, X.na _ (by decide +kernel), sl3, ?_⟩
  have el : (grpD t).length = (kids t).length := by rw [grpD, List.length_map]
  rw [mset_mset, put4, el, List.take_length]
  obtain ⟨c, r, ec, hcop⟩ := cop_in hg
  refine wss_cons (ws_fld (C := C) (we_inS (we_slice (we_var 1 rfl (we_int ⟨1, rfl, _, .inr (.inr ⟨_, rfl, by rw [S_len, sizeLine_eq]; omega, rfl⟩), we_txts ⟨_, _, rfl, .inl rfl, we_var 0 rfl ⟨a, _, rfl, mset_same, X.cl, X.na _ (by decide +kernel), sl4, ?_⟩⟩⟩)))))
  rw [mset_mset, put5, show cutS (S (txt t)) none (some 1) = S [c] by rw [ec, cut_1], hcop]
  -- people
  have fin : ∀ n : Int, n = (ppl t : Nat) → Φ .non (mset (mset M a (.ins C (f5 (tS (txt t)) (.tup ((nmT t).map D.str)) (.str (wordT t)) (.lst (subsN C t)) (.bl (isCop t))))) a (.ins C (putD "own_people" (.int n) (f5 (tS (txt t)) (.tup ((nmT t).map D.str)) (.str (wordT t)) (.lst (subsN C t)) (.bl (isCop t)))))) := fun n hn => by
    rw [mset_mset, put6, hn]
    exact hc
  refine wss_cons (ws_fld (C := C) (we_if (wt_neNil hr.units (we_var 2 rfl ⟨_, ps, 1, rfl, hcmp, by decide, ?_⟩))))
  by_cases hk0 : kids t = []
  · 
    have e1 : (grpD t).isEmpty = true := by unfold grpD; rw [hk0]; rfl
    rw [e1]
    refine we_int (we_var 0 rfl ⟨a, _, rfl, mset_same, X.cl, X.na _ (by decide +kernel), sl5, ?_⟩)
    exact wss_nil (fin 1 (by rw [ppl_none hk0 hg]; rfl))
  · have e1 : (grpD t).isEmpty = false := by
      unfold grpD
      cases hh2 : kids t with
      | nil => exact absurd hh2 hk0
      | cons q qs => rfl
    rw [e1]
    refine we_sum (F.bn _ (by decide +kernel)) (we_lc nd (blkOk_by (N := nInit) (sc := defScope s_Plan___init__) (own := [("many", 3), ("part", 4)]) (by decide +kernel)) (fun _ _ _ _ _ => pg_tup rfl (pgs_cons (pg_name (i := 3) nd rfl (Or.inl rfl)) (pgs_cons (pg_name (i := 4) nd rfl (Or.inl rfl)) pgs_nil)) rfl rfl) (gt_two (by decide) (by decide)) (fun _ _ _ _ _ => pts_nil) tk_nil
      (wi_list (we_fld (C := C) (we_var 0 rfl ⟨_, _, mset_same, X.cl, X.na _ (by decide +kernel), lk5_groups, _, .inl rfl, ?_⟩))))
    refine ⟨by rw [List.length_map, sizeLine_eq]; omega, fun i acc M' => M' = mset M a (.ins C (f5 (tS (txt t)) (.tup ((nmT t).map D.str)) (.str (wordT t)) (.lst (subsN C t)) (.bl (isCop t)))) ∧ acc = (((kids t).take i).map fun q => ((q.1 * ppl q.2 : Nat) : Int)).map D.int, ⟨rfl, rfl⟩, ?_, ?_⟩
    · rintro i x acc M' hx ⟨rfl, rfl⟩
      rw [List.getElem?_map] at hx
      obtain ⟨q, hq, rfl⟩ := Option.map_eq_some_iff.mp hx
      have hm := List.mem_of_getElem? hq
      obtain ⟨g1, g2, g3, g4, g5⟩ := kids_ok hm hg
      refine ⟨_, _, rfl, ?_⟩
      intro s1 H1 C' cl fp
      refine we_mulI (we_var 3 rfl (we_fld (C := C) (we_var 4 rfl ⟨_, _, by rw [planN_ins]; exact ⟨rfl, rfl⟩, X.cl, X.na _ (by decide +kernel), lk_people, _, _, rfl, rfl, mul_ok g5 (ppl_lt g1) (by omega), rfl, ?_⟩)))
      rw [take_snoc hq, List.map_append, List.map_append, ← Int.natCast_mul]; rfl
    · rintro acc M' ⟨rfl, rfl⟩
      refine ⟨_, rfl, we_var 0 rfl ⟨a, _, rfl, mset_same, X.cl, X.na _ (by decide +kernel), sl5, ?_⟩⟩
      rw [List.length_map, List.take_length]
      refine wss_nil (fin _ ?_)
      rw [ppl_kids hk0, sum_cast]
/-- told plans are among them -/
theorem init_told {h : Nat} {ds : List D} {M : Mp} {Φ : D → Mp → Prop} (c : cInit C h ds M Φ) : cInitN C h ds M Φ := by
  obtain ⟨a, t, e, hg, htd, hl, hh, h60, hM, hc⟩ := c
  have e0 := lv_told htd
  have e1 := nmT_told htd
  refine ⟨a, t, e, hg, by rw [e0]; decide, by rw [e1]; decide, hl, hh, h60, hM, ?_⟩
  have : fldsN C t = fldsD C t := by
    have q := planN_told C htd
    rw [planN_ins, planD_told htd] at q
    injection q
  rw [this]; exact hc
end
end W
namespace W
open PySem PySem.Spec PyProof.Rows L2 DL SX PL
theorem kids_ht {t : T} {q : Nat × T} (h : q ∈ kids t) : ht q.2 < ht t := by
  cases t with
  | one => simp [kids] at h
  | name x => simp [kids] at h
  | cop b n v =>
    simp [kids] at h
    subst h
    exact piece_ht (t := .cop b n v) (i := 0) rfl
  | row b ts =>
    unfold kids at h
    obtain ⟨u, hu, rfl⟩ := List.mem_map.mp h
    obtain ⟨i, hi, rfl⟩ := List.getElem_of_mem hu
    exact piece_ht (t := .row b ts) (i := i) (List.getElem?_eq_getElem hi)
end W
namespace PL
open PySem SX TL
theorem flat_const {β : Type} {m : Nat} (f : Nat → List β) (hf : ∀ i, (f i).length = m) : ∀ (n : Nat) {l : Nat}, l < n * m → ((List.range n).flatMap f)[l]? = (f (l / m))[l % m]?
  | 0, l, h => by simp at h
  | n + 1, l, h => by
    rw [List.range_succ, List.flatMap_append]
    have hlen : ((List.range n).flatMap f).length = n * m := by
      clear h
      induction n with
      | zero => simp
      | succ n ih => rw [List.range_succ, List.flatMap_append, List.length_append, ih]; simp [hf, Nat.succ_mul]
    by_cases hl : l < n * m
    · rw [List.getElem?_append_left (by rw [hlen]; exact hl)]
      exact flat_const f hf n hl
    · have hm : 0 < m := by
        rcases Nat.eq_zero_or_pos m with h0 | h0
        · subst h0; simp at h
        · exact h0
      rw [List.getElem?_append_right (by rw [hlen]; omega), hlen]
      have e1 : l = n * m + (l - n * m) := by omega
      have e2 : l - n * m < m := by rw [Nat.succ_mul] at h; omega
      have e3 : l / m = n := by rw [e1, Nat.add_comm, Nat.add_mul_div_right _ _ hm, Nat.div_eq_of_lt e2]; omega
      have e4 : l % m = l - n * m := by rw [e1, Nat.add_comm, Nat.add_mul_mod_self_right]; simp; exact Nat.mod_eq_of_lt e2
      rw [e3, e4]; simp
mutual
theorem persL_len : ∀ {t : T}, Told t → (persL t).length = ppl t
  | .one, _ => by rw [persL, ppl]; rfl
  | .name x, h => h.elim
  | .cop s n t, h => by
    rw [persL, ppl]
    have ih := persL_len (t := t) h
    have : ∀ m : Nat, ((List.range m).flatMap fun i => (persL t).map (i :: ·)).length = m * (persL t).length := by
      intro m
      induction m with
      | zero => simp
      | succ m ih => rw [List.range_succ, List.flatMap_append, List.length_append, ih]; simp [Nat.succ_mul]
    rw [this, ih]
  | .row s ts, h => by rw [persL, ppl]; exact persR_len 0 h
theorem persR_len : ∀ (k : Nat) {ts : List T}, Tolds ts → (persR k ts).length = ppls ts
  | k, [], _ => by rw [persR, ppls]; rfl
  | k, t :: ts, h => by rw [persR, ppls, List.length_append, List.length_map, persL_len h.1, persR_len (k + 1) h.2]
end
/-- how many people stand ahead of the part j -/
def ahead (t : T) (j : Nat) : Nat := match t with
  | .cop _ _ u => j * ppl u
  | .row _ ts => ((ts.take j).map ppl).sum
  | _ => 0
/-- the part in which the l-th of a row stands, and its number there -/
def spotR : List T → Nat → Nat × Nat
  | [], l => (0, l)
  | t :: ts, l => if l < ppl t then (0, l) else ((spotR ts (l - ppl t)).1 + 1, (spotR ts (l - ppl t)).2)
def spotT : T → Nat → Nat × Nat
  | .cop _ _ u, l => (l / ppl u, l % ppl u)
  | .row _ ts, l => spotR ts l
  | _, l => (0, l)
theorem spotR_ok : ∀ {ts : List T} {l k : Nat}, Tolds ts → l < ppls ts → ∃ v q, ts[(spotR ts l).1]? = some v ∧ (persL v)[(spotR ts l).2]? = some q ∧ (persR k ts)[l]? = some ((k + (spotR ts l).1) :: q) ∧ l = ((ts.take (spotR ts l).1).map ppl).sum + (spotR ts l).2 ∧ (spotR ts l).2 < ppl v
  | [], l, k, _, h => by rw [ppls] at h; omega
  | t :: ts, l, k, hT, h => by
    have hl := persL_len hT.1
    rw [spotR]
    by_cases hc : l < ppl t
    · rw [if_pos hc]
      have hq : (persL t)[l]? = some (persL t)[l] := List.getElem?_eq_getElem (by omega)
      refine ⟨t, _, rfl, hq, ?_, by simp, hc⟩
      rw [persR, List.getElem?_append_left (by rw [List.length_map]; omega), List.getElem?_map, hq]; rfl
    · rw [if_neg hc]
      rw [ppls] at h
      obtain ⟨v, q, h1, h2, h3, h4, h5⟩ := spotR_ok (ts := ts) (l := l - ppl t) (k := k + 1) hT.2 (by omega)
      refine ⟨v, q, by simpa using h1, h2, ?_, ?_, h5⟩
      · rw [persR, List.getElem?_append_right (by rw [List.length_map]; omega), List.length_map, hl, h3]
        congr 2; omega
      · show l = ((List.take ((spotR ts (l - ppl t)).1 + 1) (t :: ts)).map ppl).sum + _
        rw [List.take_succ_cons, List.map_cons, List.sum_cons]
        show l = ppl t + _ + (spotR ts (l - ppl t)).2
        omega
theorem spotT_ok {t : T} {l : Nat} (hT : Told t) (h1 : isOneT t = false) (h : l < ppl t) : ∃ v q, (spotT t l).1 < cnt t ∧ piece t (spotT t l).1 = some v ∧ (persL v)[(spotT t l).2]? = some q ∧ (persL t)[l]? = some ((spotT t l).1 :: q) ∧ l = ahead t (spotT t l).1 + (spotT t l).2 ∧ (spotT t l).2 < ppl v := by
  cases t with
  | one => cases h1
  | name x => exact hT.elim
  | cop s n u =>
    rw [ppl] at h
    have hu := persL_len (t := u) hT
    have hm : 0 < ppl u := by
      rcases Nat.eq_zero_or_pos (ppl u) with h0 | h0
      · rw [h0] at h; omega
      · exact h0
    have h2 : l % ppl u < ppl u := Nat.mod_lt _ hm
    have h3 : l / ppl u < n := (Nat.div_lt_iff_lt_mul hm).mpr h
    have hq : (persL u)[l % ppl u]? = some (persL u)[l % ppl u] := List.getElem?_eq_getElem (by omega)
    refine ⟨u, _, by rw [cnt_cop]; exact h3, rfl, hq, ?_, ?_, h2⟩
    · rw [persL, flat_const (m := ppl u) _ (fun i => by rw [List.length_map, hu]) n h]
      show (List.map (l / ppl u :: ·) (persL u))[l % ppl u]? = _
      rw [List.getElem?_map, hq]; rfl
    · show l = l / ppl u * ppl u + l % ppl u
      rw [Nat.mul_comm]; exact (Nat.div_add_mod l (ppl u)).symm
  | row s ts =>
    rw [ppl] at h
    obtain ⟨v, q, h1, h2, h3, h4, h5⟩ := spotR_ok (k := 0) (ts := ts) hT h
    refine ⟨v, q, ?_, h1, h2, ?_, h4, h5⟩
    · rw [cnt_row]; exact (List.getElem?_eq_some_iff.mp h1).1
    · rw [persL, h3, Nat.zero_add]; rfl
end PL
namespace PL
open PySem SX TL
theorem not_one {t : T} {i : Nat} (hi : i < cnt t) : isOneT t = false := by
  cases t with
  | one => simp [cnt, kids] at hi
  | _ => rfl
theorem ahead_succ {t u : T} {i : Nat} (hp : piece t i = some u) : ahead t (i + 1) = ahead t i + ppl u := by
  cases t with
  | one => cases hp
  | name x => cases hp
  | cop s n v =>
    obtain rfl : v = u := Option.some.inj hp
    show (i + 1) * ppl v = i * ppl v + ppl v
    rw [Nat.succ_mul]
  | row s ts =>
    have h : ts[i]? = some u := hp
    show ((ts.take (i + 1)).map ppl).sum = ((ts.take i).map ppl).sum + ppl u
    rw [List.take_add_one, h]
    simp
theorem piece_upto {t u : T} {i : Nat} (hp : piece t i = some u) {j : Nat} (h : j ≤ i) : ∃ v, piece t j = some v := by
  cases t with
  | one => cases hp
  | name x => cases hp
  | cop s n v => exact ⟨v, rfl⟩
  | row s ts =>
    have h1 : ts[i]? = some u := hp
    have := (List.getElem?_eq_some_iff.mp h1).1
    exact ⟨ts[j], List.getElem?_eq_getElem (by omega)⟩
theorem piece_told {t u : T} {i : Nat} (h : piece t i = some u) (ok : Ok t) : Told u := (piece_Ok h ok).2.1
theorem upTo_len {t v : T} {i : Nat} (ok : Ok t) (hv : piece t i = some v) : (upTo t i).length = ahead t i := by
  induction i generalizing v with
  | zero =>
    cases t with
    | cop s n v => show 0 = 0 * ppl v; simp
    | _ => rfl
  | succ i ih =>
    obtain ⟨x, hx⟩ := piece_upto hv (Nat.le_succ i)
    rw [upTo_succ hx, List.length_append, List.length_map, ahead_succ hx, persL_len (piece_told hx ok), ih hx]
theorem upTo_rest {t : T} {i : Nat} : ∀ {n : Nat}, i + 1 ≤ n → ∃ B, upTo t n = upTo t (i + 1) ++ B ∧ ∀ x ∈ B, ∃ j q, x = j :: q ∧ j ≠ i
  | 0, h => by omega
  | n + 1, h => by
    rcases Nat.eq_or_lt_of_le h with e | e
    · exact ⟨[], by rw [← e]; simp, fun x hx => nomatch hx⟩
    · obtain ⟨B, h1, h2⟩ := upTo_rest (t := t) (n := n) (i := i) (by omega)
      refine ⟨B ++ pieceP t n, ?_, fun x hx => ?_⟩
      · have : upTo t (n + 1) = upTo t n ++ pieceP t n := by
          unfold upTo
          rw [List.range_succ, List.flatMap_append]
          simp
        rw [this, h1, List.append_assoc]
      · rcases List.mem_append.mp hx with y | y
        · exact h2 x y
        · unfold pieceP at y
          cases e2 : piece t n with
          | none => rw [e2] at y; simp at y
          | some u =>
            rw [e2] at y
            obtain ⟨q, _, rfl⟩ := List.mem_map.mp y
            exact ⟨n, q, rfl, by omega⟩
/-- the people of a part stand together -/
theorem pers_split {t u : T} {i : Nat} (ok : Ok t) (hi : i < cnt t) (hp : piece t i = some u) : ∃ A B, persL t = A ++ ((persL u).map (i :: ·) ++ B) ∧ A.length = ahead t i ∧ (∀ x ∈ A, ∃ j q, x = j :: q ∧ j ≠ i) ∧ ∀ x ∈ B, ∃ j q, x = j :: q ∧ j ≠ i := by
  obtain ⟨B, h1, h2⟩ := upTo_rest (t := t) (i := i) (n := cnt t) hi
  refine ⟨upTo t i, B, ?_, upTo_len ok hp, fun x hx => ?_, h2⟩
  · rw [persL_upTo (not_one hi), h1, upTo_succ hp, List.append_assoc]
  · obtain ⟨j, _, q, h3, _, _, rfl⟩ := mem_upTo hx
    exact ⟨j, q, rfl, by omega⟩
end PL
namespace PL
open PySem SX TL
mutual
/-- the fewest rows -/
def rws : T → Nat
  | .one => 1
  | .name _ => 1
  | .cop s n t => if s = true then max 1 (rws t + ppl t - n * ppl t) else n * rws t
  | .row s ts => if s = true then max 1 (exs ts - ppls ts) else rwss ts
def rwss : List T → Nat
  | [] => 0
  | t :: ts => rws t + rwss ts
def exs : List T → Nat
  | [] => 0
  | t :: ts => max (rws t + ppl t) (exs ts)
end
theorem piece_le' {t u : T} {i : Nat} (h : piece t i = some u) (hg : Good t) : ppl u ≤ ppl t ∧ Good u := by
  cases t with
  | one => cases h
  | name x => cases h
  | cop s n v =>
    obtain rfl : v = u := Option.some.inj h
    rw [show ppl (.cop s n v) = n * ppl v by rw [ppl]]
    exact ⟨Nat.le_mul_of_pos_left _ (by have := hg.1; omega), hg.2.2⟩
  | row s ts =>
    have hm := List.mem_of_getElem? (show ts[i]? = some u from h)
    refine ⟨?_, goods_all.mp hg.2 u hm⟩
    rw [ppl, ppls_sum]
    exact mem_le_sum (List.mem_map_of_mem hm)
mutual
theorem rws_le : ∀ {t : T}, Good t → rws t ≤ ppl t
  | .one, _ => by rw [rws, ppl]; exact Nat.le_refl _
  | .name x, _ => by rw [rws, ppl]; exact Nat.le_refl _
  | .cop s n t, h => by
    have h1 := rws_le h.2.2
    have h2 := ppl_pos h.2.2
    have h3 : 1 * ppl t ≤ n * ppl t := Nat.mul_le_mul_right _ (by have := h.1; omega)
    rw [rws, ppl]
    split
    · refine Nat.max_le.mpr ⟨by omega, by omega⟩
    · exact Nat.mul_le_mul_left _ h1
  | .row s ts, h => by
    have h1 := rwss_le h.2
    have h2 := exs_le h.2
    have h3 := ppls_pos h.2
    have h4 := h.1
    rw [rws, ppl]
    split
    · refine Nat.max_le.mpr ⟨by omega, by omega⟩
    · exact h1
theorem rwss_le : ∀ {ts : List T}, Goods ts → rwss ts ≤ ppls ts
  | [], _ => by rw [rwss]; exact Nat.zero_le _
  | t :: ts, h => by
    have h1 := rws_le h.1
    have h2 := rwss_le h.2
    rw [rwss, ppls]; omega
theorem exs_le : ∀ {ts : List T}, Goods ts → exs ts ≤ 2 * ppls ts
  | [], _ => by rw [exs]; exact Nat.zero_le _
  | t :: ts, h => by
    have h1 := rws_le h.1
    have h2 := exs_le h.2
    rw [exs, ppls]
    refine Nat.max_le.mpr ⟨by omega, by omega⟩
end
mutual
def pcs : T → Nat
  | .one => 1
  | .name _ => 1
  | .cop s n t => if s = true then 1 else n * pcs t
  | .row s ts => if s = true then 1 else pcss ts
def pcss : List T → Nat
  | [] => 0
  | t :: ts => pcs t + pcss ts
end
mutual
theorem pcs_le : ∀ {t : T}, Good t → pcs t ≤ rws t
  | .one, _ => by rw [rws, pcs]; exact Nat.le_refl _
  | .name x, _ => by rw [rws, pcs]; exact Nat.le_refl _
  | .cop s n t, h => by
    rw [rws, pcs]
    by_cases hs : s = true
    · rw [if_pos hs, if_pos hs]; exact Nat.le_max_left _ _
    · rw [if_neg hs, if_neg hs]; exact Nat.mul_le_mul_left _ (pcs_le h.2.2)
  | .row s ts, h => by
    rw [rws, pcs]
    by_cases hs : s = true
    · rw [if_pos hs, if_pos hs]; exact Nat.le_max_left _ _
    · rw [if_neg hs, if_neg hs]; exact pcss_le h.2
theorem pcss_le : ∀ {ts : List T}, Goods ts → pcss ts ≤ rwss ts
  | [], _ => by rw [rwss, pcss]; exact Nat.le_refl _
  | t :: ts, h => by
    have h1 := pcs_le h.1
    have h2 := pcss_le h.2
    rw [rwss, pcss]; omega
end
inductive Bar where
  | nil | at_ (i : Nat) (b : Bar) | bes (bs : List Bar)
mutual
/-- b is a bar of t: f pieces stay, l people leave -/
inductive Lb : T → Bar → Nat → Nat → Prop where
  | nil (t : T) : Lb t .nil (pcs t) 0
  | at_ {t u : T} {i f l : Nat} {b : Bar} (hI : intr t = true) (hi : i < cnt t) (hp : piece t i = some u) (h : Lb u b f l) : Lb t (.at_ i b) f (l + (ppl t - ppl u))
  | cop {t : T} {n f l : Nat} {b : Bar} (h : Lb t b f l) : Lb (.cop false n t) (.bes [b]) (n * f) (n * l)
  | row {ts : List T} {bs : List Bar} {f l : Nat} (h : Lbs ts bs f l) : Lb (.row false ts) (.bes bs) f l
inductive Lbs : List T → List Bar → Nat → Nat → Prop where
  | nil : Lbs [] [] 0 0
  | cons {t : T} {ts : List T} {b : Bar} {bs : List Bar} {f l f' l' : Nat} (h : Lb t b f l) (r : Lbs ts bs f' l') : Lbs (t :: ts) (b :: bs) (f + f') (l + l')
end
mutual
theorem Lb.sum : ∀ {t : T} {b : Bar} {f l : Nat}, Lb t b f l → Good t → f + l ≤ ppl t
  | _, _, _, _, .nil t, g => by
    have h1 := pcs_le g
    have h2 := rws_le g
    omega
  | _, _, _, _, .at_ hI hi hp h, g => by
    obtain ⟨h1, h2⟩ := piece_le' hp g
    have := Lb.sum h h2
    omega
  | _, _, _, _, .cop (n := n) h, g => by
    have := Lb.sum h g.2.2
    rw [ppl, ← Nat.mul_add]
    exact Nat.mul_le_mul_left _ this
  | _, _, _, _, .row h, g => by rw [ppl]; exact Lbs.sum h g.2
theorem Lbs.sum : ∀ {ts : List T} {bs : List Bar} {f l : Nat}, Lbs ts bs f l → Goods ts → f + l ≤ ppls ts
  | _, _, _, _, .nil, _ => Nat.zero_le _
  | _, _, _, _, .cons h r, g => by
    have h1 := Lb.sum h g.1
    have h2 := Lbs.sum r g.2
    rw [ppls]; omega
end
theorem Lbs.len : ∀ {ts : List T} {bs : List Bar} {f l : Nat}, Lbs ts bs f l → bs.length = ts.length
  | _, _, _, _, .nil => rfl
  | _, _, _, _, .cons h r => by rw [List.length_cons, List.length_cons, Lbs.len r]
end PL
namespace DL
open PySem PySem.Spec PyProof.Rows L2
abbrev prP (q : Int × Int) : PyData := .tuple [.int q.1, .int q.2]
section
variable {X : Cx} {ρ : Rho} {M : Mp} {Φ : D → Mp → Prop} {Θ : Bool → Mp → Prop} {a b e o : Expr} {es : List Expr} {pos p apos : Pos}
theorem wg_unl {d : D} {ds : List D} {k1 n : Nat} {Ω : Rho → Mp → Prop} (h : d = .lst ds ∧ ds.length = n ∧ WGs X es ds ρ M Ω) (hc : X.calm = true := by rfl) (hn : (assignEach es X.env).length = n := by rfl) (hst : (assignEach es X.env).findIdx? (·.1) = none := by rfl) : WG X (.Tuple es k1 pos) d ρ M Ω := .mk fun {Z} σ H v Q en w r k => by
  obtain ⟨rfl, hl, h⟩ := h
  obtain ⟨a, vs, rfl, hq, rs⟩ := r.asLst (ds := ds) w rfl
  exact gOf (L2.pg_unl hc pgs_sem hn hst) ⟨a, vs, rfl, hq, by rw [rs.length]; exact hl, h.run σ H vs Q en w rs k⟩
theorem we_dict0 (h : Φ (.dK []) M) : WE X ρ M (.Dict [] [] pos) Φ := .mk fun σ H Q en w k => eOf pe_dnewK fun p hp => k.new w hp (.dK upd_same (w.fresh hp) .nil) h
end
end DL
namespace W
open PySem PySem.Spec PyProof.Rows L2 DL SX PL SlX
theorem wrd_intr (b : Bool) : decide (wrd b = ("introduced" : Str)) = b := by cases b <;> decide +kernel
end W
namespace W
open PySem PySem.Spec PyProof.Rows L2 DL SX PL SlX
section
variable {P : Program} {w : World} {K : PySem.W.Frag} {mg : Str → Option Value} {base : Heap} {C G : Addr}
def cIsTup : Con := fun ds M Φ => ∃ (xs : List D) (m : Int), ds = [.tup xs, .int m] ∧ Φ (.bl (decide (((xs.length : Nat) : Int) = m))) M
theorem ok_is_tuple (F : Fx w K mg) : BodyOk P w K mg base "is_tuple" s_is_tuple ["value", "many"] 2 0 cIsTup := by
  intro f cdv A outer s H E hr ds M Φ hl hc
  obtain ⟨xs, m, rfl, hc⟩ := hc
  refine wss_cons (ws_ret (we_and (we_isi (F.bn _ (by decide +kernel)) (we_var 0 rfl (we_bty (F.bn _ (by decide +kernel)) rfl ⟨_, _, true, rfl, rfl, (by intro C h; cases h), rfl, _, rfl, ?_⟩)))))
  exact we_one (we_eqS (we_len (F.bn _ (by decide +kernel)) (we_var 0 rfl ⟨_, lenT, we_var 1 rfl ⟨_, rfl, Lets.of hc⟩⟩)))
end
end W
namespace W
open PySem PySem.Spec PyProof.Rows L2 DL SX PL SlX
section
variable {P : Program} {w : World} {K : PySem.W.Frag} {mg : Str → Option Value} {base : Heap} {C G : Addr}
/-- is it an int from l to h -/
def whB (v : AV) (l h : Int) : Bool := match v with
  | .int i => decide (l ≤ i) && decide (i ≤ h)
  | _ => false
def cIsIntA : Con := fun ds M Φ => ∃ v l h, ds = [avD v, .int l, .int h] ∧ Φ (.bl (whB v l h)) M
theorem ok_is_integer_a (F : Fx w K mg) : BodyOk P w K mg base "is_integer" s_is_integer ["value", "low", "high"] 3 0 cIsIntA := by
  intro f cdv A outer s H E hr ds M Φ hl hc
  obtain ⟨v, l, h, rfl, hc⟩ := hc
  by_cases hi : ∃ i, v = .int i
  · obtain ⟨i, rfl⟩ := hi
    exact ok_is_integer F f cdv A outer s H E hr _ M Φ rfl ⟨i, l, h, by rw [avD], hc⟩
  by_cases hb : ∃ b, v = .bl b
  · obtain ⟨b, rfl⟩ := hb
    rw [avD]
    refine wss_cons (ws_if (wt_ww (ww_or (wt_not (wt_val (we_isi (F.bn _ (by decide +kernel)) (we_var 0 rfl (we_bty (F.bn _ (by decide +kernel)) rfl ⟨_, _, true, rfl, rfl, (by intro C h; cases h), rfl, _, rfl, ?_⟩))))))))
    refine ww_or1 (wt_val (we_isi (F.bn _ (by decide +kernel)) (we_var 0 rfl (we_bty (F.bn _ (by decide +kernel)) rfl ⟨_, _, true, rfl, rfl, (by intro C h; cases h), rfl, _, rfl, ?_⟩))))
    exact wss_cons (ws_ret (we_bl (Lets.of hc)))
  · have e : whB v l h = false := by
      cases v with
      | int i => exact absurd ⟨i, rfl⟩ hi
      | _ => rfl
    rw [e] at hc
    have key : ∀ t : String, TyD M (avD v) (.type t) → PySem.W.kitOne K (.type t) (.type "int") = some false →
        WSs (bx P w K mg base ["value", "low", "high"] "is_integer" (defScope s_is_integer) f cdv A outer s H E) (DL.start ["value", "low", "high"] [avD v, .int l, .int h]) M (defBody s_is_integer) { nx := fun _ M' => Φ .non M', rt := Lets Φ } := fun t ht hk => by
      refine wss_cons (ws_if (wt_ww (ww_or (wt_not (wt_val (we_isi (F.bn _ (by decide +kernel)) (we_var 0 rfl (we_bty (F.bn _ (by decide +kernel)) rfl ⟨_, _, false, ht, rfl, (by intro C h; cases h), hk, _, rfl, ?_⟩))))))))
      exact wss_cons (ws_ret (we_bl (Lets.of hc)))
    refine key _ (avTy M v) ?_
    cases v with
    | int i => exact absurd ⟨i, rfl⟩ hi
    | bl b => exact absurd ⟨b, rfl⟩ hb
    | _ => rfl
def natV (n : Nat) : AV := .int (n : Int)
def persV (p : List Nat) : AV := .tup (p.map natV)
theorem natV_D (n : Nat) : avD (natV n) = .int (n : Nat) := by unfold natV; rw [avD]
theorem persV_D (p : List Nat) : avD (persV p) = perD p := by
  unfold persV
  rw [avD, avsD_map, List.map_map]
  exact congrArg D.tup (List.map_congr_left fun n _ => natV_D n)
/-- the part a value names -/
def stepA (t : T) (v : AV) : Option T := match v with
  | .int i => if 0 ≤ i ∧ i < (cnt t : Int) then piece t i.toNat else none
  | _ => none
def descA : T → List AV → Option T
  | t, [] => some t
  | t, v :: l => (stepA t v).bind fun u => descA u l
theorem descA_snoc : ∀ {t : T} {l : List AV} {v : AV}, descA t (l ++ [v]) = (descA t l).bind fun u => stepA u v
  | t, [], v => by
    simp only [List.nil_append, descA, Option.bind_some]
    cases stepA t v <;> rfl
  | t, x :: l, v => by
    simp only [List.cons_append, descA]
    cases stepA t x with
    | none => rfl
    | some u => exact descA_snoc (t := u)
theorem descA_none {t : T} {l m : List AV} (h : descA t l = none) : descA t (l ++ m) = none := by
  induction l generalizing t with
  | nil => cases h
  | cons v l ih =>
    simp only [List.cons_append, descA] at h ⊢
    cases e : stepA t v with
    | none => rfl
    | some u => rw [e] at h; exact ih h
theorem descA_Ok {t u : T} : ∀ {l : List AV}, descA t l = some u → Ok t → Ok u := fun {l} => by
  induction l generalizing t with
  | nil => intro h ok; cases h; exact ok
  | cons v l ih =>
    intro h ok
    simp only [descA] at h
    obtain ⟨x, h1, h2⟩ := Option.bind_eq_some_iff.mp h
    refine ih h2 ?_
    unfold stepA at h1
    split at h1
    · split at h1
      · exact piece_Ok h1 ok
      · cases h1
    · cases h1
def isPersA (t : T) (v : AV) : Bool := match v with
  | .tup l => (match descA t l with
    | some u => isOneT u
    | none => false)
  | _ => false
/-- who is a person is told by numbers -/
theorem descA_nat : ∀ {l : List AV} {t u : T}, descA t l = some u → ∃ p : List Nat, l = p.map natV ∧ desc t p = some u
  | [], t, u, h => by cases h; exact ⟨[], rfl, rfl⟩
  | v :: l, t, u, h => by
    simp only [descA] at h
    obtain ⟨x, h1, h2⟩ := Option.bind_eq_some_iff.mp h
    obtain ⟨p, rfl, h3⟩ := descA_nat h2
    unfold stepA at h1
    split at h1
    · rename_i i
      split at h1
      · rename_i hi
        refine ⟨i.toNat :: p, ?_, ?_⟩
        · show _ = natV i.toNat :: p.map natV
          unfold natV
          rw [Int.toNat_of_nonneg hi.1]
        · simp only [desc]
          rw [if_pos (by omega), h1]; exact h3
      · cases h1
    · cases h1
theorem isPersA_nat {t : T} {v : AV} (h : isPersA t v = true) : ∃ p : List Nat, v = persV p ∧ isPers t p = true := by
  unfold isPersA at h
  split at h
  · rename_i l
    split at h
    · rename_i u hu
      obtain ⟨p, rfl, h2⟩ := descA_nat hu
      exact ⟨p, rfl, by unfold isPers; rw [h2]; exact h⟩
    · cases h
  · cases h
def cIsPersonA (C : Addr) : Con := fun ds M Φ => ∃ t v, ds = [planD C t, avD v] ∧ Ok t ∧ Φ (.bl (isPersA t v)) M
theorem ok_is_person_a (F : Fx w K mg) (F1 : Fc P w K mg base "is_integer" [] 1 3 cIsIntA) (F2 : Pc P w K mg base C "many" 1 (cGet C fun t => .int (cnt t : Nat))) (F3 : Fc P w K mg base "part_at" [] 1 2 (cPartAt C)) (F4 : Pc P w K mg base C "word" 1 (cGet C fun t => .str (wordT t))) :
    BodyOk P w K mg base "is_person" s_is_person ["plan", "value", "here", "number"] 2 2 (cIsPersonA C) := by
  intro f cdv A outer s H E hr ds M Φ hl hc
  obtain ⟨t, v, rfl, ok, hc⟩ := hc
  have nd : (["plan", "value", "here", "number"] : List Str).Nodup := by decide +kernel
  by_cases htup : ∃ l, v = .tup l
  · obtain ⟨l, rfl⟩ := htup
    have eD : avD (.tup l) = .tup (avsD l) := by rw [avD]
    refine wss_cons (ws_if (wt_not (wt_val (we_isi (F.bn _ (by decide +kernel)) (we_var 1 rfl (we_bty (F.bn _ (by decide +kernel)) rfl ⟨_, _, true, avTy M (.tup l), rfl, (by intro C h; cases h), rfl, _, rfl, ?_⟩))))))
    refine wss_nil (wss_cons (ws_set 2 nd (we_var 0 rfl ?_)))
    refine wss_cons (ws_for PassesOwn.never (wi_tup (we_var 1 rfl ⟨avsD l, eD, ?_⟩)))
    refine ⟨fun i ρ' M' => ∃ o u, ρ' = [some (planD C t), some (avD (.tup l)), some (planD C u), o] ∧ M' = M ∧ descA t (l.take i) = some u, ⟨_, t, rfl, rfl, rfl⟩, ?_, ?_⟩
    · rintro i x ρ' M' hx ⟨o, u, rfl, rfl, hd⟩
      obtain ⟨n, hn, rfl⟩ := avsD_get hx
      have oku := descA_Ok hd ok
      refine wg_name 3 ?_ nd
      refine wss_cons (ws_if (wt_not (wt_val (we_call F1 (hr.mono (by decide)) (wa_cons (we_var 3 rfl (wa_cons (we_int (wa_cons (we_subI (we_prop F2 (hr.mono (by decide)) (we_var 2 rfl ⟨_, insP oku.2.1, u, rfl, oku, we_int ⟨_, _, rfl, rfl, wa_nil ⟨rfl, n, _, _, rfl, _, rfl, ?_⟩⟩⟩))))))))))))
      have ed : descA t (l.take (i + 1)) = stepA u n := by rw [take_snoc hn, descA_snoc, hd]; rfl
      by_cases hw : whB n 0 ((cnt u : Nat) - 1) = true
      · rw [hw]
        obtain ⟨z, rfl⟩ : ∃ z, n = .int z := by
          cases n with
          | int z => exact ⟨z, rfl⟩
          | _ => cases hw
        have hz : 0 ≤ z ∧ z ≤ (cnt u : Nat) - 1 := by
          obtain ⟨h1, h2⟩ := Bool.and_eq_true_iff.mp (show (decide ((0 : Int) ≤ z) && decide (z ≤ (cnt u : Nat) - 1)) = true from hw)
          exact ⟨of_decide_eq_true h1, of_decide_eq_true h2⟩
        have hlt : z.toNat < cnt u := by omega
        obtain ⟨x, hx2⟩ := piece_some hlt
        have es : stepA u (.int z) = some x := by
          show (if 0 ≤ z ∧ z < (cnt u : Int) then piece u z.toNat else none) = some x
          rw [if_pos ⟨hz.1, by omega⟩]; exact hx2
        refine wss_nil (wss_cons (ws_set 2 nd (we_call F3 (hr.mono (by decide)) (wa_cons (we_var 2 rfl (wa_cons (we_var 3 rfl (wa_nil ⟨rfl, u, z.toNat, x, by rw [Int.toNat_of_nonneg hz.1, avD]; rfl, oku, hx2, wss_nil ⟨_, x, rfl, rfl, ed.trans es⟩⟩))))))))
      · rw [Bool.not_eq_true] at hw
        rw [hw]
        refine wss_cons (ws_ret (we_bl (Lets.of ?_)))
        have es : stepA u n = none := by
          unfold stepA
          split
          · rename_i z
            refine if_neg fun hz => ?_
            have : whB (.int z) 0 ((cnt u : Nat) - 1) = true := by
              show (decide ((0 : Int) ≤ z) && decide (z ≤ (cnt u : Nat) - 1)) = true
              rw [decide_eq_true hz.1, decide_eq_true (by omega)]; rfl
            rw [this] at hw; cases hw
          · rfl
        have : isPersA t (.tup l) = false := by
          show (match descA t l with | some u => isOneT u | none => false) = false
          have e2 := descA_none (m := l.drop (i + 1)) (ed.trans es)
          rw [List.take_append_drop] at e2
          rw [e2]
        rw [this] at hc
        exact hc
    · rintro ρ' M' ⟨o, u, rfl, rfl, hd⟩
      rw [avsD_len, List.take_length] at hd
      have oku := descA_Ok hd ok
      refine wss_cons (ws_ret (we_eqS (we_prop F4 (hr.mono (by decide)) (we_var 2 rfl ⟨_, insP oku.2.1, u, rfl, oku, we_gstr F.gONE ⟨_, rfl, Lets.of ?_⟩⟩))))
      rw [one_word oku.2.1]
      have : isPersA t (.tup l) = isOneT u := by
        show (match descA t l with | some u => isOneT u | none => false) = _
        rw [hd]
      rw [← this]; exact hc
  · have e : isPersA t v = false := by
      cases v with
      | tup l => exact absurd ⟨l, rfl⟩ htup
      | _ => rfl
    rw [e] at hc
    have hk : PySem.W.kitOne K (.type (avT v)) (.type "tuple") = some false := by
      cases v with
      | tup l => exact absurd ⟨l, rfl⟩ htup
      | _ => rfl
    refine wss_cons (ws_if (wt_not (wt_val (we_isi (F.bn _ (by decide +kernel)) (we_var 1 rfl (we_bty (F.bn _ (by decide +kernel)) rfl ⟨_, _, false, avTy M v, rfl, (by intro C h; cases h), hk, _, rfl, ?_⟩))))))
    exact wss_cons (ws_ret (we_bl (Lets.of hc)))
theorem descA_of : ∀ {q : List Nat} {t : T}, descA t (q.map natV) = desc t q
  | [], t => rfl
  | n :: q, t => by
    rw [List.map_cons]
    simp only [descA, desc]
    have e : stepA t (natV n) = if n < PL.cnt t then piece t n else none := by
      show (if 0 ≤ ((n : Nat) : Int) ∧ ((n : Nat) : Int) < (PL.cnt t : Int) then piece t ((n : Nat) : Int).toNat else none) = _
      rw [Int.toNat_natCast]
      by_cases h : n < PL.cnt t
      · rw [if_pos ⟨by omega, by omega⟩, if_pos h]
      · rw [if_neg (fun z => h (by omega)), if_neg h]
    rw [e]
    by_cases h : n < PL.cnt t
    · rw [if_pos h, if_pos h]
      congr 1
      funext u
      exact descA_of
    · rw [if_neg h, if_neg h]; rfl
theorem isPersA_of {t : T} {q : List Nat} (h : isPers t q = true) : isPersA t (persV q) = true := by
  show (match descA t (q.map natV) with | some u => isOneT u | none => false) = true
  rw [descA_of]
  exact h
def tupB (v : AV) (m : Int) : Bool := match v with
  | .tup l => decide (((l.length : Nat) : Int) = m)
  | _ => false
def cIsTupA : Con := fun ds M Φ => ∃ v m, ds = [avD v, .int m] ∧ Φ (.bl (tupB v m)) M
theorem ok_is_tuple_a (F : Fx w K mg) : BodyOk P w K mg base "is_tuple" s_is_tuple ["value", "many"] 2 0 cIsTupA := by
  intro f cdv A outer s H E hr ds M Φ hl hc
  obtain ⟨v, m, rfl, hc⟩ := hc
  by_cases ht : ∃ l, v = .tup l
  · obtain ⟨l, rfl⟩ := ht
    exact ok_is_tuple F f cdv A outer s H E hr _ M Φ rfl ⟨avsD l, m, by rw [avD], by rw [avsD_len]; exact hc⟩
  · have e : tupB v m = false := by
      cases v with
      | tup l => exact absurd ⟨l, rfl⟩ ht
      | _ => rfl
    rw [e] at hc
    have key : ∀ t : String, TyD M (avD v) (.type t) → PySem.W.kitOne K (.type t) (.type "tuple") = some false →
        WSs (bx P w K mg base ["value", "many"] "is_tuple" (defScope s_is_tuple) f cdv A outer s H E) (DL.start ["value", "many"] [avD v, .int m]) M (defBody s_is_tuple) { nx := fun _ M' => Φ .non M', rt := Lets Φ } := fun t ht hk =>
      wss_cons (ws_ret (we_and (we_isi (F.bn _ (by decide +kernel)) (we_var 0 rfl (we_bty (F.bn _ (by decide +kernel)) rfl ⟨_, _, false, ht, rfl, (by intro C h; cases h), hk, _, rfl, Lets.of hc⟩)))))
    refine key _ (avTy M v) ?_
    cases v with
    | tup l => exact absurd ⟨l, rfl⟩ ht
    | _ => rfl
theorem tupB_len {v : AV} {n : Nat} (h : tupB v (n : Nat) = true) : ∃ l, v = .tup l ∧ l.length = n := by
  cases v with
  | tup l => exact ⟨l, rfl, Int.ofNat_inj.mp (of_decide_eq_true h)⟩
  | _ => cases h
def isT : AV → Bool
  | .tup _ => true
  | _ => false
theorem kit_tup (v : AV) : PySem.W.kitOne K (.type (avT v)) (.type "tuple") = some (isT v) := by cases v <;> rfl
end
end W
namespace W
open PySem PySem.Spec PyProof.Rows L2 DL SX PL
section
variable {P : Program} {w : World} {K : PySem.W.Frag} {mg : Str → Option Value} {base : Heap} {C : Addr}
abbrev potL (a c d : Int) : MO := .lst [.int a, .int c, .int d]
def cOk (c : Int) : Prop := 0 ≤ c ∧ c < 2305843009213693921
def cTake : Con := fun ds M Φ => ∃ p u a c d, ds = [.ob p, .int u] ∧ 1 ≤ u ∧ u ≤ 10 ^ 40 ∧ M p = some (potL a c d) ∧ cOk c ∧ 0 ≤ d ∧ d < 100000 ∧ ∀ r a' d', 0 ≤ r → r < u → d ≤ d' → d' ≤ d + 1 → Φ (.int r) (mset M p (potL a' c d'))
theorem at0 {a c d : Int} : atI [D.int a, D.int c, D.int d] 0 = some (.int a) := atI_nat (j := 0) rfl
theorem at1 {a c d : Int} : atI [D.int a, D.int c, D.int d] 1 = some (.int c) := atI_nat (j := 1) rfl
theorem at2 {a c d : Int} : atI [D.int a, D.int c, D.int d] 2 = some (.int d) := atI_nat (j := 2) rfl
def primes : List Int := [2147483647, 2147483629, 2147483587, 2147483579, 2147483563]
theorem prime_at {i : Int} (h0 : 0 ≤ i) (h5 : i < 5) : ∃ q, atI (primes.map D.int) i = some (.int q) ∧ 2147483563 ≤ q ∧ q ≤ 2147483647 := by
  obtain ⟨n, rfl⟩ := Int.eq_ofNat_of_zero_le h0
  have : n < 5 := by omega
  match n, this with
  | 0, _ => exact ⟨2147483647, atI_nat (j := 0) rfl, by decide, by decide⟩
  | 1, _ => exact ⟨2147483629, atI_nat (j := 1) rfl, by decide, by decide⟩
  | 2, _ => exact ⟨2147483587, atI_nat (j := 2) rfl, by decide, by decide⟩
  | 3, _ => exact ⟨2147483579, atI_nat (j := 3) rfl, by decide, by decide⟩
  | 4, _ => exact ⟨2147483563, atI_nat (j := 4) rfl, by decide, by decide⟩
theorem log40 {u : Int} (h1 : 1 ≤ u) (h2 : u ≤ 10 ^ 40) : u.natAbs.log2 < 9000 := by
  have e : u.natAbs < 16 ^ 40 := by
    have : (10 : Int) ^ 40 < 16 ^ 40 := by decide +kernel
    have e2 : ((16 ^ 40 : Nat) : Int) = 16 ^ 40 := by decide +kernel
    omega
  have := log16 e
  omega
abbrev nTake : List Str := ["_law_pot_here", "_law_upto", "_law_digit", "_law_prime", "_law_stirred"]
theorem sq_le {d : Int} (h0 : 0 ≤ d) (h : d ≤ 100000) : 0 ≤ 100237 * d * d ∧ 100237 * d * d ≤ 100237 * 100000 * 100000 := by
  have h1 : 0 ≤ d * d := Int.mul_nonneg h0 h0
  have h2 : d * d ≤ 100000 * 100000 := Int.mul_le_mul h h h0 (by decide)
  rw [Int.mul_assoc]
  omega
theorem ok_take (F : Fx w K mg) : BodyOk P w K mg base "_law_take" s__law_take nTake 2 0 cTake := by
  intro f cdv A outer s H E hr ds M Φ hl hc
  obtain ⟨p, u, a, c, d, rfl, hu, hu2, hM, ⟨c0, c1⟩, d0, d1, hc⟩ := hc
  have nd : nTake.Nodup := by decide +kernel
  refine wss_cons (ws_if (wt_gtI (we_ix (we_var 0 rfl (we_int ⟨0, _, rfl, ixO hM at0, we_int ⟨_, _, rfl, rfl, ?_⟩⟩)))))
  refine ite_dec (fun ha => ?_) fun ha => ?_
  · refine wss_cons (ws_set 2 nd (we_modI (we_intN (F.bn _ (by decide +kernel)) (we_ix (we_var 0 rfl (we_int ⟨0, _, rfl, ixO hM at0, .inl ⟨_, rfl, we_var 1 rfl ⟨_, _, rfl, rfl, by omega, ?_⟩⟩⟩))))))
    refine wss_cons (ws_asg (we_divI (we_ix (we_var 0 rfl (we_int ⟨0, _, rfl, ixO hM at0, we_var 1 rfl ⟨_, _, rfl, rfl, ⟨by omega, ?_⟩, ?_⟩⟩)))))
    · exact log40 hu hu2
    · refine wg_sub (we_var 0 rfl (we_int ⟨p, _, 0, 0, rfl, rfl, hM, rfl, ?_⟩))
      refine wss_cons (ws_ret (we_var 2 rfl (Lets.of ?_)))
      exact hc _ _ _ (Int.emod_nonneg _ (by omega)) (Int.emod_lt_of_pos _ (by omega)) (Int.le_refl _) (by omega)
  · refine wss_nil ?_
    refine wss_cons (ws_asg (we_addI (we_ix (we_var 0 rfl (we_int ⟨2, _, rfl, ixO hM at2, we_int ⟨_, _, rfl, rfl, ?_⟩⟩)))))
    refine wg_sub (we_var 0 rfl (we_int ⟨p, _, 2, 2, rfl, rfl, hM, rfl, ?_⟩))
    show WSs _ _ (mset M p (potL a c (d + 1))) _ _
    have hM2 : mset M p (potL a c (d + 1)) p = some (potL a c (d + 1)) := mset_same
    obtain ⟨q, hq, q1, q2⟩ := prime_at (i := (d + 1) % 5) (Int.emod_nonneg _ (by decide)) (Int.emod_lt_of_pos _ (by decide))
    refine wss_cons (ws_set 3 nd (we_ix (we_lst (wa_cons (we_int (wa_cons (we_int (wa_cons (we_int (wa_cons (we_int (wa_cons (we_int (wa_nil ⟨by show 5 ≤ sizeLine; decide, ?_⟩))))))))))))))
    refine we_modI (we_intN (F.bn _ (by decide +kernel)) (we_ix (we_var 0 rfl (we_int ⟨2, _, rfl, ixO hM2 at2, .inl ⟨_, rfl, we_int ⟨_, _, rfl, rfl, by decide, _, _, rfl, ixL hq, ?_⟩⟩⟩))))
    obtain ⟨s1, s2⟩ := sq_le (d := d + 1) (by omega) (by omega)
    refine wss_cons (ws_set 4 nd (we_modI (we_intN (F.bn _ (by decide +kernel)) (we_powI (we_intN (F.bn _ (by decide +kernel)) (we_addI (we_addI (we_ix (we_var 0 rfl (we_int ⟨1, _, rfl, ixO hM2 at1, ?_⟩))))))))))
    refine we_mulS (we_mulS (we_int (we_ix (we_var 0 rfl (we_int ⟨2, _, rfl, ixO hM2 at2, _, _, rfl, rfl, .inl ⟨by decide, by decide⟩, we_ix (we_var 0 rfl (we_int ⟨2, _, rfl, ixO hM2 at2, _, _, rfl, rfl, .inr ⟨by omega, by omega⟩, _, _, rfl, rfl, ?_⟩))⟩)))))
    refine we_int ⟨_, _, rfl, rfl, .inl ⟨_, rfl, we_int ⟨_, _, rfl, rfl, ⟨by decide, by decide, ?_⟩, .inl ⟨_, rfl, we_var 3 rfl ⟨_, _, rfl, rfl, by omega, ?_⟩⟩⟩⟩⟩
    · omega
    generalize hm : ((c + 100237 * (d + 1) * (d + 1) + 59) ^ (3 : Int).toNat) % q = m
    have m0 : 0 ≤ m := by rw [← hm]; exact Int.emod_nonneg _ (by omega)
    have m1 : m < q := by rw [← hm]; exact Int.emod_lt_of_pos _ (by omega)
    refine wss_cons (ws_set 4 nd (we_modI (we_intN (F.bn _ (by decide +kernel)) (we_mulS (we_var 4 rfl (we_addI (we_modI (we_intN (F.bn _ (by decide +kernel)) (we_var 4 rfl (.inl ⟨_, rfl, we_int ⟨_, _, rfl, rfl, by decide, ?_⟩⟩))))))))))
    refine we_mulS (we_int (we_ix (we_var 0 rfl (we_int ⟨2, _, rfl, ixO hM2 at2, _, _, rfl, rfl, .inl ⟨by decide, by decide⟩, _, _, rfl, rfl, _, _, rfl, rfl, .inl ⟨by omega, by omega⟩, .inl ⟨_, rfl, we_int ⟨_, _, rfl, rfl, by decide, ?_⟩⟩⟩))))
    refine wss_cons (ws_ret (we_modI (we_intN (F.bn _ (by decide +kernel)) (we_divI (we_var 4 rfl (we_int ⟨_, _, rfl, rfl, ⟨by decide, by decide⟩, .inl ⟨_, rfl, we_var 1 rfl ⟨_, _, rfl, rfl, by omega, Lets.of ?_⟩⟩⟩))))))
    exact hc _ _ _ (Int.emod_nonneg _ (by omega)) (Int.emod_lt_of_pos _ (by omega)) (by omega) (by omega)
end
end W
namespace W
open PySem PySem.Spec PyProof.Rows L2 DL SX PL
section
variable {P : Program} {w : World} {K : PySem.W.Frag} {mg : Str → Option Value} {base : Heap} {C : Addr}
def cOf : Con := fun ds M Φ => ∃ p xs a c d, ds = [.ob p, .lst xs] ∧ xs ≠ [] ∧ xs.length ≤ 1000000 ∧ M p = some (potL a c d) ∧ cOk c ∧ 0 ≤ d ∧ d < 100000 ∧ ∀ x a' d', x ∈ xs → d ≤ d' → d' ≤ d + 1 → Φ x (mset M p (potL a' c d'))
theorem ok_of (F : Fx w K mg) (F1 : Fc P w K mg base "_law_take" [] 1 2 cTake) : BodyOk P w K mg base "_law_of" s__law_of ["_law_pot_here", "_law_some_here"] 2 1 cOf := by
  intro f cdv A outer s H E hr ds M Φ hl hc
  obtain ⟨p, xs, a, c, d, rfl, hx, hx2, hM, co, d0, d1, hc⟩ := hc
  have hpos : 0 < xs.length := List.length_pos_iff.mpr hx
  refine wss_cons (ws_ret (we_ix (we_var 1 rfl (we_call F1 (hr.mono (by decide)) (wa_cons (we_var 0 rfl (wa_cons (we_len (F.bn _ (by decide +kernel)) (we_var 1 rfl ⟨_, lenL, wa_nil ⟨rfl, p, _, a, c, d, rfl, by omega, ?_, hM, co, d0, d1, ?_⟩⟩)))))))))
  · have : (1000000 : Int) ≤ 10 ^ 40 := by decide +kernel
    omega
  · intro r a' d' r0 r1 h1 h2
    obtain ⟨n, rfl⟩ := Int.eq_ofNat_of_zero_le r0
    have hn : n < xs.length := by omega
    exact ⟨_, _, rfl, ixL (atI_nat (List.getElem?_eq_getElem hn)), Lets.of (hc _ _ _ (List.getElem_mem hn) h1 h2)⟩
/-- the script -/
abbrev scrD (ns : List Int) : D := .rol (ns.map D.int)
theorem bb (c : Bool) : -(2 ^ 64) < (if c = true then (1 : Int) else 0) ∧ (if c = true then (1 : Int) else 0) < 2 ^ 64 := by cases c <;> decide
theorem join_sum (b : Bool) : ∀ ps : List (List Nat), (ps.map (·.length)).sum + ps.length * 3 ≤ (TL.joinL (sep b) ps).length + 3
  | [] => by simp
  | [p] => by rw [TL.joinL]; simp
  | p :: q :: r => by
    have ih := join_sum b (q :: r)
    rw [TL.joinL, List.length_append, List.length_append, sep_len, List.map_cons, List.sum_cons, List.length_cons]
    omega
def cCells : Con := fun ds M Φ => ∃ ns m, ds = [scrD ns, .int (m : Nat)] ∧ 1 ≤ m ∧ m ≤ 1000 ∧ ∀ n : Nat, n ≤ m → Φ (.lst (rngD 0 n)) M
theorem ok_cells (F : Fx w K mg) : BodyOk P w K mg base "_law_cells" s__law_cells ["_law_script", "_law_most"] 2 0 cCells := by
  intro f cdv A outer s H E hr ds M Φ hl hc
  obtain ⟨ns, m, rfl, h1, h2, hc⟩ := hc
  refine wss_cons (ws_ret (we_listRg1 (F.bn _ (by decide +kernel)) (F.bn _ (by decide +kernel)) (we_max2 (F.bn _ (by decide +kernel)) (we_int (we_min2 (F.bn _ (by decide +kernel)) (we_var 1 rfl (we_len (F.bn _ (by decide +kernel)) (we_var 0 rfl ⟨_, lenR, _, _, rfl, rfl, _, _, rfl, rfl, _, rfl, ?_, Lets.of (hc _ ?_)⟩))))))))
  · unfold RgOk; split <;> split <;> omega
  · split <;> split <;> omega
end
end W
namespace W
open PySem PySem.Spec PyProof.Rows L2 DL SX PL SlX
theorem stG_of {x : Str} (h1 : x.cps.toList.all (fun c => decide (c < 0x110000)) = true) (h2 : (PyData.str x).showable = true) (h3 : (PyData.str x).shown.length ≤ 41) : StG x := ⟨fun c hc => of_decide_eq_true (List.all_eq_true.mp h1 c hc), h2, h3⟩
theorem avD_lst (l : List AV) : avD (.lst l) = .lst (l.map avD) := by rw [avD, avsD_map]
section
variable {P : Program} {w : World} {K : PySem.W.Frag} {mg : Str → Option Value} {base : Heap} {C G : Addr}
def odds1 : List AV := [.non, .bl true, .bl false, .int 0, .int 1, .int (-1), .int (10 ^ 31), .str "", .str "1", .str "rows", .str "comes", .tup [], .lst [], .dic, .tup [.int 0], .lst [.int 0], .tup [.bl true], .tup [.tup []]]
def odds2 : List AV := [.tup [.int 0, .int 0, .int 0, .int 0, .int 0, .int 0, .int 0], .tup [.non], .tup [.str "0"], .int 2, .str "beside"]
def odds : List AV := odds1 ++ odds2
theorem odds_D : odds.map avD = [.non, .bl true, .bl false, .int 0, .int 1, .int (-1), .int (10 ^ 31), .str "", .str "1", .str "rows", .str "comes", .tup [], .lst [], .dK [], .tup [.int 0], .lst [.int 0], .tup [.bl true], .tup [.tup []]] ++ [.tup [.int 0, .int 0, .int 0, .int 0, .int 0, .int 0, .int 0], .tup [.non], .tup [.str "0"], .int 2, .str "beside"] := by
  simp only [odds, odds1, odds2, List.map_append, List.map_cons, List.map_nil, avD, avsD]
def cOdd : Con := fun ds M Φ => ∃ p a c d, ds = [.ob p] ∧ M p = some (potL a c d) ∧ cOk c ∧ 0 ≤ d ∧ d < 100000 ∧ ∀ v a' d', v ∈ odds → d ≤ d' → d' ≤ d + 1 → Φ (avD v) (mset M p (potL a' c d'))
theorem ok_odd (F : Fx w K mg) (F1 : Fc P w K mg base "_law_of" [] 2 2 cOf) : BodyOk P w K mg base "_law_odd" s__law_odd ["_law_pot_here", "_law_some_here"] 1 2 cOdd := by
  intro f cdv A outer s H E hr ds M Φ hl hc
  obtain ⟨p, a, c, d, rfl, hM, co, d0, d1, hc⟩ := hc
  have nd : (["_law_pot_here", "_law_some_here"] : List Str).Nodup := by decide +kernel
  refine wss_cons (ws_set 1 nd (we_lst (wa_cons (we_non (wa_cons (we_bl (wa_cons (we_bl (wa_cons (we_int (wa_cons (we_int (wa_cons (we_negI (we_int ⟨1, rfl, wa_cons (we_powI (we_int (we_int ⟨_, _, rfl, rfl, ⟨by decide, by decide, by decide⟩, wa_cons (we_str (wa_cons (we_str (wa_cons (we_str (wa_cons (we_str (wa_cons (we_tup (wa_nil ⟨by decide, wa_cons (we_lst (wa_nil ⟨by decide, wa_cons (we_dict0 (wa_cons (we_tup (wa_cons (we_int (wa_nil ⟨by decide, wa_cons (we_lst (wa_cons (we_int (wa_nil ⟨by decide, wa_cons (we_tup (wa_cons (we_bl (wa_nil ⟨by decide, wa_cons (we_tup (wa_cons (we_tup (wa_nil ⟨by decide, wa_nil ⟨by decide, wa_nil ⟨by decide, wss_cons (ws_ret (we_call F1 (hr.mono (by decide)) (wa_cons (we_var 0 rfl (wa_cons (we_addL (we_var 1 rfl (we_lst (wa_cons (we_tup (wa_cons (we_int (wa_cons (we_int (wa_cons (we_int (wa_cons (we_int (wa_cons (we_int (wa_cons (we_int (wa_cons (we_int (wa_nil ⟨by decide, wa_cons (we_tup (wa_cons (we_non (wa_nil ⟨by decide, wa_cons (we_tup (wa_cons (we_str (wa_nil ⟨by decide, wa_cons (we_int (wa_cons (we_str (wa_nil ⟨by decide, ⟨_, _, rfl, rfl, by decide, wa_nil ⟨rfl, p, _, a, c, d, rfl, by simp, by decide, hM, co, d0, d1, fun x a' d' hx k1 k2 => Lets.of ?_⟩⟩⟩))))⟩))))⟩))))⟩)))))))))))))))))))))))))⟩⟩⟩))))⟩))))⟩))))⟩))))))⟩))⟩))))))))))⟩)))⟩)))))))))))))))
  have hx : x ∈ odds.map avD := by rw [odds_D]; exact hx
  obtain ⟨v, hv, rfl⟩ := List.mem_map.mp hx
  exact hc v a' d' hv k1 k2
end
end W
namespace W
open PySem PySem.Spec PyProof.Rows L2 DL SX PL
section
variable {P : Program} {w : World} {K : PySem.W.Frag} {mg : Str → Option Value} {base : Heap} {C : Addr}
theorem cut_to {α : Type} (xs : List α) (j : Nat) : DL.cutD xs none (some (j : Int)) = xs.take j := by
  unfold DL.cutD
  rw [HT.sIx_nat, HT.sIx_none, List.drop_zero, Nat.sub_zero]
  by_cases h : j ≤ xs.length
  · rw [Nat.min_eq_left h]
  · rw [Nat.min_eq_right (by omega), List.take_of_length_le (Nat.le_refl _), List.take_of_length_le (by omega)]
def cSpot (C : Addr) : Con := fun ds M Φ => ∃ t l, ds = [planD C t, .int (l : Nat)] ∧ Ok t ∧ isOneT t = false ∧ l < ppl t ∧ ppl t ≤ 10 ^ 40 ∧ Φ (.tup [.int ((spotT t l).1 : Nat), .int ((spotT t l).2 : Nat)]) M
theorem ok_spot_of (X : Px K mg C) : BodyOk P w K mg base "spot_of" s_spot_of ["plan", "number", "size", "spot", "left"] 2 0 (cSpot C) := by
  intro f cdv A outer s H E hr ds M Φ hl hc
  obtain ⟨t, l, rfl, ok, h1, hlt, hbig, hc⟩ := hc
  have nd : (["plan", "number", "size", "spot", "left"] : List Str).Nodup := by decide +kernel
  refine wss_cons (ws_if (wt_val (we_fld (C := C) (we_var 0 rfl ⟨_, _, insP ok.2.1, X.cl, X.na _ (by decide +kernel), lk_copies, _, rfl, ?_⟩))))
  cases t with
  | one => cases h1
  | name x => exact ok.2.1.elim
  | cop b n v =>
    have okv : Ok v := kids_Ok (q := (n, v)) (by simp [kids]) ok
    have hpos := ppl_pos okv.1
    have hp0 : (0 : Int) < ((ppl v : Nat) : Int) := by omega
    have hle : ppl v ≤ 10 ^ 40 := by
      rw [ppl] at hbig
      exact Nat.le_trans (Nat.le_mul_of_pos_left _ (by have := ok.1.1; omega)) hbig
    have hle2 : ((ppl v : Nat) : Int) ≤ 10 ^ 40 := by
      have e : ((10 ^ 40 : Nat) : Int) = 10 ^ 40 := by decide +kernel
      omega
    refine wss_cons (ws_set 2 nd (we_fld (C := C) (we_ix (we_ix (we_fld (C := C) (we_var 0 rfl ⟨_, _, insP ok.2.1, X.cl, X.na _ (by decide +kernel), lk_groups, we_int ⟨0, _, rfl, ixL (atI_nat (j := 0) rfl), we_int ⟨1, _, rfl, ixT (atI_nat (j := 1) rfl), _, _, insP okv.2.1, X.cl, X.na _ (by decide +kernel), lk_people, ?_⟩⟩⟩))))))
    refine wss_cons (ws_ret (we_tup (wa_cons (we_divI (we_var 1 rfl (we_var 2 rfl ⟨_, _, rfl, rfl, ⟨hp0, log40 hp0 hle2⟩, wa_cons (we_modI (we_var 1 rfl (we_var 2 rfl ⟨_, _, rfl, rfl, hp0, wa_nil ⟨sz2, Lets.of ?_⟩⟩)))⟩))))))
    have q1 : ((l : Nat) : Int) / (ppl v : Nat) = ((l / ppl v : Nat) : Int) := (Int.natCast_ediv l (ppl v)).symm
    have q2 : ((l : Nat) : Int) % (ppl v : Nat) = ((l % ppl v : Nat) : Int) := (Int.natCast_emod l (ppl v)).symm
    rw [q1, q2]; exact hc
  | row b ts =>
    rw [ppl] at hlt
    refine wss_nil (wss_cons (ws_par 3 4 nd (wa_cons (we_int (wa_cons (we_var 1 rfl (wa_nil ⟨_, _, rfl, ?_⟩)))))))
    have at_ : ∀ {M : Mp} {i : Nat} {u : T}, ts[i]? = some u → IxD M (.lst (subsD C (.row b ts))) (i : Nat) (.tup [.int ((1 : Nat) : Int), planD C u]) := fun {M i u} h => by
      refine ixL (atI_nat ?_)
      show ((ts.map fun t => (1, t)).map fun q : Nat × T => D.tup [.int (q.1 : Nat), planD C q.2])[i]? = _
      rw [List.map_map, List.getElem?_map, h]; rfl
    have hT : Tolds ts := ok.2.1
    refine wss_cons (ws_while PassesOwn.never (fun n ρ' M' => ∃ i x : Nat, ρ' = [some (planD C (.row b ts)), some (.int (l : Nat)), none, some (.int (i : Nat)), some (.int (x : Nat))] ∧ M' = M ∧ n = ts.length - i ∧ i ≤ ts.length ∧ x < ppls (ts.drop i) ∧ spotR ts l = (i + (spotR (ts.drop i) x).1, (spotR (ts.drop i) x).2)) ts.length ⟨0, l, rfl, rfl, by omega, by omega, by simpa using hlt, by simp⟩ ?_)
    rintro n ρ' M' ⟨i, x, rfl, rfl, rfl, hi, hx, he⟩
    have hi2 : i < ts.length := by
      rcases Nat.lt_or_ge i ts.length with h | h
      · exact h
      · rw [List.drop_eq_nil_of_le h, ppls] at hx; omega
    obtain ⟨u, hu⟩ : ∃ u, ts[i]? = some u := ⟨ts[i], List.getElem?_eq_getElem hi2⟩
    have oku : Ok u := kids_Ok (q := (1, u)) (by unfold kids; exact List.mem_map.mpr ⟨u, List.mem_of_getElem? hu, rfl⟩) ok
    have ed : ts.drop i = u :: ts.drop (i + 1) := by
      rw [List.drop_eq_getElem_cons hi2]
      rw [List.getElem?_eq_getElem hi2] at hu
      rw [Option.some.inj hu]
    rw [ed, ppls] at hx
    rw [ed, spotR] at he
    refine wt_geI (we_var 4 rfl (we_fld (C := C) (we_ix (we_ix (we_fld (C := C) (we_var 0 rfl ⟨_, _, insP ok.2.1, X.cl, X.na _ (by decide +kernel), lk_groups, we_var 3 rfl ⟨_, _, rfl, at_ hu, we_int ⟨1, _, rfl, ixT (atI_nat (j := 1) rfl), _, _, insP oku.2.1, X.cl, X.na _ (by decide +kernel), lk_people, _, _, rfl, rfl, ?_⟩⟩⟩))))))
    refine ite_dec (fun hge => ?_) fun hge => ?_
    · rw [if_neg (by omega)] at he
      refine wss_cons (ws_aug 4 ip_sub rfl nd (we_fld (C := C) (we_ix (we_ix (we_fld (C := C) (we_var 0 rfl ⟨_, _, insP ok.2.1, X.cl, X.na _ (by decide +kernel), lk_groups, we_var 3 rfl ⟨_, _, rfl, at_ hu, we_int ⟨1, _, rfl, ixT (atI_nat (j := 1) rfl), _, _, insP oku.2.1, X.cl, X.na _ (by decide +kernel), lk_people, rd_I0 (g := fun i j => i - j) ⟨_, _, rfl, rfl, ?_⟩⟩⟩⟩))))))
      refine wss_cons (ws_aug 3 ip_add rfl nd (we_int (rd_I0 (g := fun i j => i + j) ⟨_, _, rfl, rfl, wss_nil ⟨ts.length - (i + 1), by omega, i + 1, x - ppl u, ?_, rfl, rfl, by omega, by omega, ?_⟩⟩)))
      · rw [show ((x : Nat) : Int) - (ppl u : Nat) = ((x - ppl u : Nat) : Int) by omega]; rfl
      · rw [he]
        congr 1
        omega
    · rw [if_pos (by omega)] at he
      refine wss_cons (ws_ret (we_tup (wa_cons (we_var 3 rfl (wa_cons (we_var 4 rfl (wa_nil ⟨sz2, Lets.of ?_⟩)))))))
      have e2 : spotT (.row b ts) l = (i, x) := by show spotR ts l = _; rw [he]; rfl
      rw [e2] at hc
      exact hc
abbrev nNth : List Str := ["plan", "number", "found", "here", "left", "spot"]
def cNth (C : Addr) : Con := fun ds M Φ => ∃ t l p, ds = [planD C t, .int (l : Nat)] ∧ Ok t ∧ ppl t ≤ 10 ^ 40 ∧ ht t ≤ 60 ∧ (persL t)[l]? = some p ∧ Φ (perD p) M
theorem piece_le {t u : T} {i : Nat} (h : piece t i = some u) (hg : Good t) : ppl u ≤ ppl t := by
  cases t with
  | one => cases h
  | name x => cases h
  | cop s n v =>
    obtain rfl : v = u := Option.some.inj h
    rw [show ppl (.cop s n v) = n * ppl v by rw [ppl]]
    exact Nat.le_mul_of_pos_left _ (by have := hg.1; omega)
  | row s ts =>
    rw [ppl, ppls_sum]
    exact mem_le_sum (List.mem_map_of_mem (List.mem_of_getElem? (show ts[i]? = some u from h)))
theorem ok_nth_person (F : Fx w K mg) (F1 : Pc P w K mg base C "word" 1 (cGet C fun t => .str (wordT t))) (F2 : Fc P w K mg base "spot_of" [] 1 2 (cSpot C)) (F3 : Fc P w K mg base "part_at" [] 1 2 (cPartAt C)) : BodyOk P w K mg base "nth_person" s_nth_person nNth 2 2 (cNth C) := by
  intro f cdv A outer s H E hr ds M Φ hl hc
  obtain ⟨t, l, p, rfl, ok, hbig, h60, hp, hc⟩ := hc
  have nd : nNth.Nodup := by decide +kernel
  refine wss_cons (ws_par3 2 3 4 nd (wa_cons (we_lstM (wa_nil ⟨Nat.zero_le _, fun q hq => wa_cons (we_var 0 rfl (wa_cons (we_var 1 rfl (wa_nil ⟨_, _, _, rfl, ?_⟩))))⟩))))
  refine wss_cons (ws_while PassesOwn.never (fun n ρ' M' => ∃ (o : Option D) (u : T) (y : Nat) (fo r : List Nat), ρ' = [some (planD C t), some (.int (l : Nat)), some (.ob q), some (planD C u), some (.int (y : Nat)), o] ∧ M' = mset M q (.lst (fo.map fun (i : Nat) => D.int (i : Nat))) ∧ n = ht u ∧ Ok u ∧ ppl u ≤ 10 ^ 40 ∧ (persL u)[y]? = some r ∧ p = fo ++ r ∧ fo.length + ht u ≤ 60) (ht t) ⟨none, t, l, [], p, rfl, rfl, rfl, ok, hbig, hp, rfl, by simpa using h60⟩ ?_)
  rintro n ρ' M' ⟨o, u, y, fo, r, rfl, rfl, rfl, oku, hub, hy, hpr, hfo⟩
  refine wt_neS (we_prop F1 (hr.mono (by decide)) (we_var 3 rfl ⟨_, insP oku.2.1, u, rfl, oku, we_gstr F.gONE ⟨_, rfl, ?_⟩⟩))
  rw [one_word oku.2.1]
  cases h1 : isOneT u with
  | true =>
    have hr0 : r = [] := by
      cases u with
      | one => rw [persL] at hy; cases y with
        | zero => simp at hy; exact hy
        | succ n => simp at hy
      | _ => cases h1
    refine wss_cons (ws_ret (we_tupleOf (F.bn _ (by decide +kernel)) (we_var 2 rfl ⟨_, .inl mset_same, ⟨_, M, les_new hq, .same _, ?_⟩⟩)))
    rw [hpr, hr0, List.append_nil] at hc
    exact hc
  | false =>
    have hlt : y < ppl u := by
      have := (List.getElem?_eq_some_iff.mp hy).1
      rw [persL_len oku.2.1] at this; exact this
    obtain ⟨v, q', a1, a2, a3, a4, a5, a6⟩ := spotT_ok oku.2.1 h1 hlt
    have hv := piece_ht a2
    rw [hy] at a4
    have er : r = (spotT u y).1 :: q' := Option.some.inj a4
    refine wss_cons (ws_asg (we_call F2 (hr.mono (by decide)) (wa_cons (we_var 3 rfl (wa_cons (we_var 4 rfl (wa_nil ⟨rfl, u, y, rfl, oku, h1, hlt, hub, ?_⟩)))))))
    refine wg_tup ⟨rfl, rfl, wgs_cons (wg_name 5 (wgs_cons (wg_name 4 (wgs_nil ⟨rfl, ?_⟩) nd)) nd)⟩
    refine wss_cons (ws_expr (we_append (we_var 2 rfl ⟨q, _, rfl, mset_same, we_var 5 rfl ⟨_, mset_same, by rw [List.length_map, sizeLine_eq]; omega, ?_⟩⟩)))
    rw [mset_mset]
    refine wss_cons (ws_set 3 nd (we_call F3 (hr.mono (by decide)) (wa_cons (we_var 3 rfl (wa_cons (we_var 5 rfl (wa_nil ⟨rfl, u, (spotT u y).1, v, rfl, oku, a2, wss_nil ⟨ht v, hv, some (.int ((spotT u y).1 : Nat)), v, (spotT u y).2, fo ++ [(spotT u y).1], q', rfl, ?_, rfl, piece_Ok a2 oku, Nat.le_trans (piece_le a2 oku.1) hub, a3, ?_, ?_⟩⟩)))))))
    · rw [List.map_append]; rfl
    · rw [hpr, er]; simp
    · rw [List.length_append, List.length_singleton]; omega
end
end W
namespace W
open PySem PySem.Spec PyProof.Rows L2 DL SX PL SlX
theorem avTup (l : List AV) : avD (.tup l) = .tup (l.map avD) := by rw [avD, avsD_map]
theorem avsDp_get : ∀ {l : List AV} {k : Nat} {v : AV}, l[k]? = some v → avDp v ≤ avsDp l
  | [], k, v, h => by simp at h
  | w :: l, 0, v, h => by
    cases Option.some.inj h
    rw [avsDp]; exact Nat.le_max_left _ _
  | w :: l, k + 1, v, h => by
    rw [avsDp]
    exact Nat.le_trans (avsDp_get (l := l) (k := k) h) (Nat.le_max_right _ _)
theorem avsLn_app (a b : List AV) : avsLn (a ++ b) = avsLn a + avsLn b := by
  rw [avsLn_sum, avsLn_sum, avsLn_sum, List.map_append, List.sum_append]
theorem avsDp_app : ∀ (a b : List AV), avsDp (a ++ b) = max (avsDp a) (avsDp b)
  | [], b => by rw [List.nil_append, avsDp, Nat.zero_max]
  | v :: a, b => by rw [List.cons_append, avsDp, avsDp, avsDp_app a b, Nat.max_assoc]
theorem avsG_app {a b : List AV} : AvsG (a ++ b) ↔ AvsG a ∧ AvsG b := by
  rw [avsG_all, avsG_all, avsG_all]
  constructor
  · intro h; exact ⟨fun v hv => h v (List.mem_append_left _ hv), fun v hv => h v (List.mem_append_right _ hv)⟩
  · rintro ⟨h1, h2⟩ v hv
    rcases List.mem_append.mp hv with h | h
    · exact h1 v h
    · exact h2 v h
theorem cutD_map (l : List AV) (lo hi : Option Int) : DL.cutD (l.map avD) lo hi = (DL.cutD l lo hi).map avD := by
  unfold DL.cutD
  rw [List.length_map, List.map_take, List.map_drop]
theorem cut_from {α : Type} (xs : List α) {k : Nat} (h : k ≤ xs.length) : DL.cutD xs (some (k : Nat)) none = xs.drop k := by
  unfold DL.cutD
  rw [HT.sIx_none, HT.sIx_nat, Nat.min_eq_left h]
  exact List.take_of_length_le (by rw [List.length_drop]; exact Nat.le_refl _)
/-- what may come of v: as deep and as long -/
structure Bent (v u : AV) : Prop where
  g : AvG u
  dp : avDp u ≤ avDp v + 3
  ln : avLn u ≤ 2 * avLn v + 200
theorem split_at {l : List AV} {k : Nat} {v : AV} (h : l[k]? = some v) : l = l.take k ++ [v] ++ l.drop (k + 1) := by
  obtain ⟨i, e⟩ := List.getElem?_eq_some_iff.mp h
  have h1 : l.drop k = v :: l.drop (k + 1) := by rw [List.drop_eq_getElem_cons i, e]
  have h2 : l.take k ++ l.drop k = l := List.take_append_drop k l
  rw [h1] at h2
  rw [List.append_assoc]; exact h2.symm
theorem Bent.up {l : List AV} {k : Nat} {v u : AV} (hl : AvsG l) (h : l[k]? = some v) (b : Bent v u) : Bent (.tup l) (.tup (l.take k ++ [u] ++ l.drop (k + 1))) := by
  have e := split_at h
  have g := hl
  rw [e, avsG_app, avsG_app] at g
  obtain ⟨⟨g1, g2⟩, g3⟩ := g
  have d : avsDp l = max (max (avsDp (l.take k)) (avDp v)) (avsDp (l.drop (k + 1))) := by
    conv => lhs; rw [e]
    rw [avsDp_app, avsDp_app, avsDp, avsDp, Nat.max_zero]
  have n : avsLn l = avsLn (l.take k) + (avLn v + 2) + avsLn (l.drop (k + 1)) := by
    conv => lhs; rw [e]
    rw [avsLn_app, avsLn_app, avsLn, avsLn, Nat.add_zero]
  have := b.dp
  have := b.ln
  refine ⟨?_, ?_, ?_⟩
  · rw [AvG, avsG_app, avsG_app]
    exact ⟨⟨g1, ⟨b.g, trivial⟩⟩, g3⟩
  · rw [avDp, avDp, avsDp_app, avsDp_app, avsDp, avsDp, d]
    omega
  · rw [avLn, avLn, avsLn_app, avsLn_app, avsLn, avsLn, n]
    omega
theorem cut_sub {α : Type} (l : List α) (lo hi : Option Int) : ∃ a b, l = a ++ DL.cutD l lo hi ++ b := by
  unfold DL.cutD
  refine ⟨l.take (HT.sIx l.length 0 lo), (l.drop (HT.sIx l.length 0 lo)).drop (HT.sIx l.length l.length hi - HT.sIx l.length 0 lo), ?_⟩
  rw [List.append_assoc, List.take_append_drop, List.take_append_drop]
theorem cut_le {l : List AV} (lo hi : Option Int) (g : AvsG l) : AvsG (DL.cutD l lo hi) ∧ avsDp (DL.cutD l lo hi) ≤ avsDp l ∧ avsLn (DL.cutD l lo hi) ≤ avsLn l := by
  obtain ⟨a, b, e⟩ := cut_sub l lo hi
  generalize DL.cutD l lo hi = m at e
  subst e
  rw [avsG_app, avsG_app] at g
  rw [avsDp_app, avsDp_app, avsLn_app, avsLn_app]
  exact ⟨g.1.2, by omega, by omega⟩
theorem stG_num : ∀ n : Nat, n < 31 → StG (toString (n : Int)) := fun n h => by
  have k : (List.range 31).all (fun n => (toString (n : Int) : Str).cps.toList.all (fun c => decide (c < 0x110000)) && ((PyData.str (toString (n : Int))).showable && decide ((PyData.str (toString (n : Int))).shown.length ≤ 41))) = true := by decide +kernel
  have q := List.all_eq_true.mp k n (List.mem_range.mpr h)
  obtain ⟨q1, q2⟩ := Bool.and_eq_true_iff.mp q
  obtain ⟨q2, q3⟩ := Bool.and_eq_true_iff.mp q2
  exact stG_of q1 q2 (of_decide_eq_true q3)
theorem avsLn_get {l : List AV} {k : Nat} {v : AV} (e : l[k]? = some v) : avLn v + 2 ≤ avsLn l := by
  have h := split_at e
  rw [h, avsLn_app, avsLn_app, avsLn, avsLn]; omega
end W
namespace DL
open PySem PySem.Spec PyProof.Rows L2
section
variable {X : Cx} {ρ : Rho} {M : Mp} {Φ : D → Mp → Prop} {Θ : Bool → Mp → Prop} {a b : Expr} {pos : Pos}
def rEqNilTA (K : PySem.W.Frag) : R2 := fun x y H Q => ∃ p q xs, x = V.ref p ∧ y = V.ref q ∧ SqT K H p xs ∧ SqT K H q [] ∧ Q (.bl xs.isEmpty) H
theorem op_eqNilTA (hu : X.A.units + 64 < cLine) : OpR X (compareOp .Eq) (rEqNilTA X.K) := by
  intro pins s σ H x y v u Q I rx ry h
  obtain ⟨p, q, xs, rfl, rfl, h1, h2, hq⟩ := h
  obtain rfl : v = Value.ref p := rx
  obtain rfl : u = Value.ref q := ry
  obtain ⟨i1, r1, l1, _⟩ := I.tuple h1
  obtain ⟨i2, r2, l2, _⟩ := I.tuple h2
  cases r2
  refine SeqAt.eq_tupleAt (e := fun _ => true) l1 l2 (by omega) (fun j h1 h2 => absurd h2 (by simp)) ⟨.bl _, H, I, rfl, ?_⟩
  have e : ((List.range (min i1.toArray.size (#[] : Array Value).size)).all (fun _ => true) && i1.toArray.size == (#[] : Array Value).size) = xs.isEmpty := by
    cases r1 <;> simp
  rw [show (([] : List Value).toArray) = (#[] : Array Value) from rfl, e]
  exact hq
theorem rd_eqNilTA {x y : D} (h : ∃ xs, x = .tup xs ∧ y = .tup [] ∧ Φ (.bl xs.isEmpty) M) : RD X.K (rEqNilTA X.K) x y M Φ := fun Z v u H Q w r1 r2 k => by
  obtain ⟨xs, rfl, rfl, h⟩ := h
  obtain ⟨p, vs, rfl, hp, rs⟩ := r1.asTup
  obtain ⟨q, us, rfl, hq, ts⟩ := r2.asTup
  cases ts
  refine ⟨p, q, vs, rfl, rfl, hp, hq, ?_⟩
  rw [isEmpty_len rs.length]
  exact k.now w (.bl _) h
theorem wt_eqNilTA {lp : Pos} {kk : Nat} (hu : X.A.units + 64 < cLine) (h : WE X ρ M a fun x M1 => ∃ xs, x = .tup xs ∧ Θ xs.isEmpty M1) : WT X ρ M (.Compare a [.Eq] [.Tuple [] kk lp] pos) Θ :=
  wt_cmp (op_eqNilTA hu) (nomark _) (h.imp fun x M1 ⟨xs, e, h⟩ => we_tup (wa_nil ⟨Nat.zero_le _, rd_eqNilTA ⟨xs, e, rfl, _, rfl, h⟩⟩))
end
end DL
namespace DL
open PySem PySem.Spec PyProof.Rows L2
section
variable {X : Cx} {ρ : Rho} {M : Mp} {Φ : D → Mp → Prop} {Θ : Bool → Mp → Prop} {a b : Expr} {pos : Pos}
def rNeNilTA (K : PySem.W.Frag) : R2 := fun x y H Q => ∃ p q xs, x = V.ref p ∧ y = V.ref q ∧ SqT K H p xs ∧ SqT K H q [] ∧ Q (.bl (!xs.isEmpty)) H
theorem op_neNilTA (hu : X.A.units + 64 < cLine) : OpR X (compareOp .NotEq) (rNeNilTA X.K) := by
  intro pins s σ H x y v u Q I rx ry h
  obtain ⟨p, q, xs, rfl, rfl, h1, h2, hq⟩ := h
  obtain rfl : v = Value.ref p := rx
  obtain rfl : u = Value.ref q := ry
  obtain ⟨i1, r1, l1, _⟩ := I.tuple h1
  obtain ⟨i2, r2, l2, _⟩ := I.tuple h2
  cases r2
  refine SeqAt.RcNeAt.tuples (e := fun _ => true) l1 l2 (by omega) (fun j h1 h2 => absurd h2 (by simp)) _ _ _ _ ⟨.bl _, H, I, rfl, ?_⟩
  have e : ((List.range (min i1.toArray.size (#[] : Array Value).size)).all (fun _ => true) && i1.toArray.size == (#[] : Array Value).size) = xs.isEmpty := by
    cases r1 <;> simp
  rw [show (([] : List Value).toArray) = (#[] : Array Value) from rfl, e]
  exact hq
theorem rd_neNilTA {x y : D} (h : ∃ xs, x = .tup xs ∧ y = .tup [] ∧ Φ (.bl (!xs.isEmpty)) M) : RD X.K (rNeNilTA X.K) x y M Φ := fun Z v u H Q w r1 r2 k => by
  obtain ⟨xs, rfl, rfl, h⟩ := h
  obtain ⟨p, vs, rfl, hp, rs⟩ := r1.asTup
  obtain ⟨q, us, rfl, hq, ts⟩ := r2.asTup
  cases ts
  refine ⟨p, q, vs, rfl, rfl, hp, hq, ?_⟩
  rw [isEmpty_len rs.length]
  exact k.now w (.bl _) h
theorem wt_neNilTA {lp : Pos} {kk : Nat} (hu : X.A.units + 64 < cLine) (h : WE X ρ M a fun x M1 => ∃ xs, x = .tup xs ∧ Θ (!xs.isEmpty) M1) : WT X ρ M (.Compare a [.NotEq] [.Tuple [] kk lp] pos) Θ :=
  wt_cmp (op_neNilTA hu) (nomark _) (h.imp fun x M1 ⟨xs, e, h⟩ => we_tup (wa_nil ⟨Nat.zero_le _, rd_neNilTA ⟨xs, e, rfl, _, rfl, h⟩⟩))
end
end DL
namespace DL
open PySem PySem.Spec PyProof.Rows L2
theorem inV_ints (z : Int) : ∀ zs : List Int, inV (.int z) (zs.map V.int) = decide (z ∈ zs)
  | [] => rfl
  | y :: zs => by
    have ih := inV_ints z zs
    unfold inV at ih ⊢
    rw [List.map_cons, List.any_cons, ih]
    show (decide (y = z) || _) = _
    by_cases h : y = z
    · subst h; simp
    · have h' : ¬ z = y := fun q => h q.symm
      simp [h, h']
theorem flat_ints (zs : List Int) : (zs.map V.int).all flatV = true := by
  rw [List.all_map]; exact List.all_eq_true.mpr fun _ _ => rfl
end DL
namespace DL
open PySem PySem.Spec PyProof.Rows L2
section
variable {X : Cx} {ρ : Rho} {M : Mp} {Φ : D → Mp → Prop} {o : Expr} {pos apos : Pos}
theorem we_upper (h : WE X ρ M o fun d M1 => ∃ z, d = .str z ∧ z.length ≤ 5592405 ∧ Φ (.str (Txt.upper z)) M1) (hbase : attributeBase o "upper" X.env (eval o X.env) = eval o X.env := by rfl) (hline : (apos.endLine == pos.line) = true := by rfl) : WE X ρ M (.Call (.Attribute o "upper" apos) [] [] pos) Φ :=
  we_m0 F.slot_str_upper F.type_str_upper mt_upper (h.imp fun d M1 ⟨z, e, hz, h⟩ => ⟨z, e, fun Z H Q w k => ⟨z, rfl, rfl, hz, k.now w (.str _) h⟩⟩) hbase hline
end
end DL
namespace HT
open PySem PySem.Spec PyProof PyProof.Rows
section
variable {prog : Program} {w : World} {A : Around} {E : Value → Shared → Prop} {s : Shared}
theorem sliceApplied_rev {sl : Addr} {vs : Value} {n : Nat} {Q : Int × Int × Nat → Shared → Prop} (hs : s.heap.IsSliceOf sl .none .none vs) (ps : IsPart vs (some (-1)))
    (h : Q ((n : Int) - 1, -1, n) s) : wpAny (model prog w) A (Builtin.Slice.sliceApplied (.ref sl) (pure (n : Int))) Q E s := by
  obtain ⟨os, hos, hcs, hds⟩ := id hs
  unfold Builtin.Slice.sliceApplied Builtin.Slice.sliceFields
  refine wpAny_bind (wpAny_bind (wpAny_field hos hds (x := .none) rfl (wpAny_bind (wpAny_field hos hds (x := .none) rfl (wpAny_bind (wpAny_field hos hds (x := vs) rfl (wpAny_pure ?_)))))))
  refine wpAny_bind (slicePart_ ps ?_)
  show wpAny _ _ (if ((-1 : Int) == 0) = true then _ else _) _ _ s
  rw [if_neg (by decide)]
  refine wpAny_bind (slicePart_none (wpAny_bind (slicePart_none (wpAny_bind (wpAny_pure ?_)))))
  show wpAny _ _ (match Builtin.Slice.sliceAdjust none none (-1) (n : Int) with | (lo, hi) => pure (lo, (-1 : Int), Builtin.Slice.slicePlaces lo hi (-1))) _ _ s
  show wpAny _ _ (pure ((n : Int) - 1, (-1 : Int), Builtin.Slice.slicePlaces ((n : Int) - 1) (-1) (-1))) _ _ s
  have e : Builtin.Slice.slicePlaces ((n : Int) - 1) (-1) (-1) = n := by
    unfold Builtin.Slice.slicePlaces
    have h1 : ¬ ((-1 : Int) > 0) := by omega
    have h2 : (- -1 : Int) = 1 := by decide
    simp only [h1, if_false, h2, Int.ediv_one]
    split <;> omega
  rw [e]
  exact wpAny_pure h
theorem fm_congr {α β : Type} {f g : α → Option β} : ∀ {l : List α}, (∀ x ∈ l, f x = g x) → l.filterMap f = l.filterMap g
  | [], _ => rfl
  | x :: l, h => by rw [List.filterMap_cons, List.filterMap_cons, h x (.head _), fm_congr fun y hy => h y (.tail _ hy)]
theorem pick_rev (xs : Array Value) : ((List.range xs.size).filterMap fun (m : Nat) => xs[((xs.size : Int) - 1 + (m : Int) * (-1)).toNat]?).toArray = xs.toList.reverse.toArray := by
  have e : (List.range xs.size).filterMap (fun (m : Nat) => xs[((xs.size : Int) - 1 + (m : Int) * (-1)).toNat]?) = ((List.range xs.size).map fun k => xs.size - 1 - k).filterMap (xs[·]?) := by
    rw [List.filterMap_map]
    apply fm_congr
    intro m hm
    have := List.mem_range.mp hm
    have e2 : ((xs.size : Int) - 1 + (m : Int) * (-1)).toNat = xs.size - 1 - m := by omega
    simp only [Function.comp, e2]
  rw [e, PySem.W.krv_range, List.filterMap_reverse, PySem.W.krv_all]
theorem getItem_tuple_rev {t sl : Addr} {items : Array Value} {vs : Value} {Q : Value → Shared → Prop} (ht : IsTup s.heap t items) (hs : s.heap.IsSliceOf sl .none .none vs) (ps : IsPart vs (some (-1)))
    (h : Q (.ref s.heap.objs.size) { s with heap := s.heap.push { cls := .type "tuple", data := .seq items.toList.reverse.toArray } })
    (hsz : items.size ≤ sizeLine) : wpAny (model prog w) A (getItem (.ref t) (.ref sl)) Q E s := by
  have htake : sizeOk (.seq items.toList.reverse.toArray) := by
    show items.toList.reverse.toArray.size ≤ sizeLine
    rw [List.size_toArray, List.length_reverse, Array.length_toList]
    exact hsz
  obtain ⟨os, hos, hcs, hds⟩ := id hs
  have hTs : s.TypeIs (.ref sl) "slice" := ⟨os, hos, hcs⟩
  unfold getItem
  try with_reducible refine wpAny_holding ?_
  first | refine wpAny_bind (wpAny_pure ?_) | skip
  refine wpAny_bind (wpAny_sequenceKey ht.typeIs (by decide) ?_)
  refine wpAny_bind (wpAny_callSpecial?_slot (name := Str.ofString "__getitem__") ht.typeIs PyProof.Rows.slot_tuple_getitem
    (wpAny_call_entry PyProof.Rows.slot_tuple_getitem ht.typeIs entry_tuple_getitem ?_ (args_tuple_getitem _ _)))
  show wpAny _ _ (Builtin.Tuple.tupleItemsOf (.ref t) >>= _) _ _ s
  refine wpAny_bind (tupleItemsOf_ ht ?_)
  refine wpAny_bind (wpAny_typeOf hTs ?_)
  rw [if_pos (by decide)]
  refine wpAny_bind (sliceApplied_rev hs ps ?_)
  have hno : ¬ ((((items.size : Int) - 1) == 0 && (-1 : Int) == 1 && items.size == items.size) = true) := by
    intro q
    rw [Bool.and_eq_true, Bool.and_eq_true] at q
    exact absurd q.1.2 (by decide)
  show wpAny _ _ (if (((items.size : Int) - 1) == 0 && (-1 : Int) == 1 && items.size == items.size) = true then _ else _) _ _ s
  rw [if_neg hno, pick_rev]
  first
    | exact wpAny_bind (m := Builtin.Tuple.tupleExact _) (wpAny_newObj_type (wpAny_pure ⟨_, rfl, wpAny_pure h⟩) htake)
    | exact wpAny_bind (m := Builtin.Tuple.tupleExact _) (wpAny_newObj_type (wpAny_bind (wpAny_pure (wpAny_pure ⟨_, rfl, wpAny_pure h⟩))) htake)
    | exact wpAny_bind (wpAny_bind (m := Builtin.Tuple.tupleExact _) (wpAny_newObj_type (wpAny_pure (wpAny_pure ⟨_, rfl, wpAny_pure h⟩)) htake))
    | exact wpAny_bind (wpAny_bind (m := Builtin.Tuple.tupleExact _) (wpAny_newObj_type (wpAny_pure ⟨_, rfl, wpAny_pure h⟩) htake))
end
end HT
namespace DL
open PySem PySem.Spec PyProof.Rows L2
section
variable {X : Cx} {ρ : Rho} {M : Mp} {Φ : D → Mp → Prop}
def tRevT (K : PySem.W.Frag) (te : TE) : TE := fun σ H Q => te σ H fun x H1 => ∃ a xs, x = .ref a ∧ SqT K H1 a xs ∧ ∀ p, H1 p = none → Q (.ref p) (upd H1 p (.tup xs.reverse))
theorem pe_revT {e : Expr} {te : TE} {k : Nat} {p1 p2 p3 pos : Pos} (he : PE X e te) : PE X (.Subscript e (.Slice none none (some (.UnaryOp .USub (.Constant (.int 1) k p1) p2)) p3) pos) (tRevT X.K te) := by
  refine ⟨fun pins s σ H Q I h => ?_⟩
  refine Subscript_ (thn (he.run pins s σ H _ I h) fun v s1 ⟨x, H1, I1, r1, q1⟩ => ?_)
  obtain ⟨a, xs, ex, hx, q⟩ := q1
  subst ex
  cases r1
  have hst : PO X (some (.UnaryOp .USub (.Constant (.int 1) k p1) p2)) (tPart (tUn (rU fun i => .int (-i)) (tC (.int 1)))) := po_some (pe_un un_neg pe_int)
  refine wpAny_Slice (thn (po_none.run pins s1 σ H1 (fun o H2 => o = none ∧ H2 = H1) I1 ⟨rfl, rfl⟩) fun vl s2 ⟨l, H2, I2, pl, el, e2⟩ => ?_)
  subst el e2
  refine thn (po_none.run pins s2 σ H2 (fun o H3 => o = none ∧ H3 = H2) I2 ⟨rfl, rfl⟩) fun vu s3 ⟨u, H3, I3, pu, eu, e3⟩ => ?_
  subst eu e3
  refine thn (hst.run pins s3 σ H3 (fun o H4 => o = some (-1) ∧ H4 = H3) I3 ⟨1, rfl, -1, rfl, rfl, rfl⟩) fun vs s4 ⟨o, H4, I4, ps, eo, e4⟩ => ?_
  subst eo e4
  cases pl
  cases pu
  have I5 : Inv X pins σ H4 { s4 with heap := s4.heap.push { cls := .type "slice", data := .fields #[.none, .none, vs] } } := I4.kept (t' := s4.toks) fun b ob q => Heap.get?_push_of_some _ q
  obtain ⟨its, r, ht, hz⟩ := I5.tuple hx
  have hlen := r.length
  show wpAny (model X.prog X.w) X.A (subscriptTail e (.Slice none none (some (.UnaryOp .USub (.Constant (.int 1) k p1) p2)) p3) (.ref a) (.ref s4.heap.objs.size)) (EP X pins σ Q) X.xe { s4 with heap := s4.heap.push { cls := .type "slice", data := .fields #[.none, .none, vs] } }
  refine tail_any (ops := [.ref a, .ref s4.heap.objs.size]) ht.typeIs (PyProof.Rows.slot_tuple_getitem.lookup) ?_ (by with_unfolding_all rfl)
  refine HT.getItem_tuple_rev ht (Heap.IsSliceOf.new _ .none .none vs) ps ?_ (by rw [List.size_toArray]; omega)
  refine ⟨.ref _, _, I5.laid (t' := s4.toks) (o := .tup xs.reverse) (fun b ob q => Heap.get?_push_of_some _ q) (Nat.le_refl _) ?_, rfl, q _ (I5.hok.fresh (Nat.le_refl _))⟩
  exact ⟨by rw [List.length_reverse]; exact hz, _, r.reverse, IsTup.new _ _⟩
theorem Reps.rev {K : PySem.W.Frag} {M : Mp} {Z : Zn} {H : Hp} : ∀ {vs : List V} {ds : List D}, Reps K M Z H vs ds → Reps K M Z H vs.reverse ds.reverse
  | _, _, .nil => .nil
  | _, _, .cons r rs => by rw [List.reverse_cons, List.reverse_cons]; exact (rs.rev).append (.cons r .nil)
theorem we_revT {a : Expr} {k : Nat} {p1 p2 p3 pos : Pos} (h : WE X ρ M a fun x M1 => ∃ ds, x = .tup ds ∧ Φ (.tup ds.reverse) M1) : WE X ρ M (.Subscript a (.Slice none none (some (.UnaryOp .USub (.Constant (.int 1) k p1) p2)) p3) pos) Φ := .mk fun σ H Q en w k =>
  eOf (pe_revT pe_sem) (h.run σ H _ en w fun v x H1 M1 e1 w1 r1 hz => by
    obtain ⟨ds, rfl, hz⟩ := hz
    obtain ⟨p, vs, rfl, hq, rs⟩ := r1.asTup
    exact ⟨p, vs, rfl, hq, fun q hp => (k.step e1).new w1 hp (.tup (.inl upd_same) (w1.fresh hp) ((rs.rev).mono (Ext.new w1 hp))) hz⟩)
end
end DL
namespace DL
open PySem PySem.Spec PyProof.Rows L2
section
variable {X : Cx} {ρ : Rho} {M : Mp} {Φ : D → Mp → Prop} {Θ : Bool → Mp → Prop} {a b c e : Expr} {pos : Pos}
def valK (kvs : List (Key × D)) (k : Key) : Option D := (kvs.find? fun kv => decide (kv.1 = k)).map (·.2)
theorem RepK.val {K : PySem.W.Frag} {Z : Zn} {H : Hp} {k : Key} {d : D} : ∀ {vs : List (Key × V)} {ds : List (Key × D)}, RepK K M Z H vs ds → valK ds k = some d → ∃ v, valV vs k = some v ∧ Rep K M Z H v d
  | _, _, .nil, h => by simp [valK] at h
  | _, _, .cons (k := k') (v := v) (d := d') r t, h => by
    unfold valK at h
    unfold valV
    rw [List.find?_cons] at h ⊢
    by_cases hk : k' = k
    · rw [decide_eq_true hk] at h ⊢
      obtain rfl := Option.some.inj h
      exact ⟨v, rfl, r⟩
    · rw [decide_eq_false hk] at h ⊢
      exact RepK.val t h
end
end DL
namespace DL
open PySem PySem.Spec PyProof.Rows L2
def putKD (kvs : List (Key × D)) (k : Key) (d : D) : List (Key × D) := if (kvs.any fun kv => decide (kv.1 = k)) = true then kvs.map (fun kv => if kv.1 = k then (kv.1, d) else kv) else kvs ++ [(k, d)]
section
variable {K : PySem.W.Frag} {M : Mp} {Z : Zn} {H : Hp} {k : Key} {v : V} {d : D}
theorem RepK.length : ∀ {vs : List (Key × V)} {ds : List (Key × D)}, RepK K M Z H vs ds → vs.length = ds.length
  | _, _, .nil => rfl
  | _, _, .cons r t => by rw [List.length_cons, List.length_cons, RepK.length t]
theorem RepK.any : ∀ {vs : List (Key × V)} {ds : List (Key × D)}, RepK K M Z H vs ds → (vs.any fun kv => decide (kv.1 = k)) = ds.any fun kv => decide (kv.1 = k)
  | _, _, .nil => rfl
  | _, _, .cons r t => by rw [List.any_cons, List.any_cons, RepK.any t]
theorem RepK.snoc (r : Rep K M Z H v d) : ∀ {vs : List (Key × V)} {ds : List (Key × D)}, RepK K M Z H vs ds → RepK K M Z H (vs ++ [(k, v)]) (ds ++ [(k, d)])
  | _, _, .nil => .cons r .nil
  | _, _, .cons r1 t => .cons r1 (RepK.snoc r t)
theorem RepK.repl (r : Rep K M Z H v d) : ∀ {vs : List (Key × V)} {ds : List (Key × D)}, RepK K M Z H vs ds → RepK K M Z H (vs.map fun kv => if kv.1 = k then (kv.1, v) else kv) (ds.map fun kv => if kv.1 = k then (kv.1, d) else kv)
  | _, _, .nil => .nil
  | _, _, .cons (k := j) r1 t => by
    rw [List.map_cons, List.map_cons]
    by_cases e : j = k
    · simp only [if_pos e]; exact .cons r (RepK.repl r t)
    · simp only [if_neg e]; exact .cons r1 (RepK.repl r t)
theorem RepK.put {vs : List (Key × V)} {ds : List (Key × D)} (r : Rep K M Z H v d) (t : RepK K M Z H vs ds) : RepK K M Z H (putK vs k v) (putKD ds k d) := by
  unfold putK putKD
  rw [t.any]
  split
  · exact t.repl r
  · exact t.snoc r
end
end DL
namespace DL
open PySem PySem.Spec PyProof.Rows L2
section
variable {X : Cx} {ρ : Rho} {M : Mp} {Φ : D → Mp → Prop} {a b o i : Expr} {pos : Pos}
/-- {}, which will be changed -/
theorem we_dnewK (h : ∀ p, M p = none → Φ (.ob p) (mset M p (.dK []))) : WE X ρ M (.Dict [] [] pos) Φ := .mk fun σ H Q en w k =>
  eOf pe_dnewK fun p hp => k _ (.ob p) _ (mset M p (.dK [])) (Ext.newM w hp) (w.newM hp ⟨[], upd_same, .nil⟩) (.ob p) (h p (w.fresh hp).1)
/-- d[k] = v, k an int -/
theorem wg_dputI {d : D} {Ω : Rho → Mp → Prop} (hu : X.A.units + 1 < cLine) (h : WE X ρ M o fun x M1 => WE X ρ M1 i fun y M2 => ∃ q kvs z, x = .ob q ∧ y = .int z ∧ M2 q = some (.dK kvs) ∧ kvs.length < sizeLine ∧ Ω ρ (mset M2 q (.dK (putKD kvs (.inl z) d))))
    (ha : ∀ v, assign (.Subscript o i pos) X.env v = (do
      let ov ← holding [v] (eval o X.env)
      let iv ← holding [v, ov] (eval i X.env)
      standAt pos
      holding [v, ov, iv] (setItem ov iv v)
      release [v, ov, iv] []) := by intro _; rfl) : WG X (.Subscript o i pos) d ρ M Ω := .mk fun {Z} σ H v Q en w r k =>
  gOf (pg_sub pe_sem pe_sem (set_dict hu) ha) (bind2 h en w fun v1 v2 x y H2 M2 e2 w2 r1 r2 hz => by
    obtain ⟨q, kvs, z, rfl, rfl, hM, hl, hz⟩ := hz
    cases r1
    cases r2
    obtain ⟨vs, hv, rs⟩ := w2.1 q _ hM
    refine ⟨q, _, rfl, DPut.k (k := .inl z) hv (by rw [rs.length]; exact hl), ?_⟩
    have x3 : Ext M2 _ H2 (mset M2 q (.dK (putKD kvs (.inl z) d))) (upd H2 q (.dK (putK vs (.inl z) v))) := Ext.put w2 hM
    exact k σ ρ _ _ (e2.trans x3) (w2.put hM ⟨_, upd_same, (rs.mono x3).put ((r.mono e2).mono x3)⟩) (en.mono (e2.trans x3)) hz)
end
end DL
namespace DL
open PySem PySem.Spec PyProof.Rows L2
section
variable {X : Cx} {ρ : Rho} {M : Mp} {Φ : D → Mp → Prop} {a b : Expr} {pos : Pos}
theorem we_ltT (hu : X.A.units < cLine) (h : WE X ρ M a fun x M1 => WE X ρ M1 b fun y M2 => ∃ ns ms : List Int, x = .tup (ns.map D.int) ∧ y = .tup (ms.map D.int) ∧ Φ (.bl (HT.lexLt ns ms)) M2) : WE X ρ M (.Compare a [.Lt] [b] pos) Φ :=
  we_cmp (op_ltT hu) (nomark _) (h.imp fun _ _ h => h.imp fun x y ⟨ns, ms, e1, e2, hz⟩ => fun Z v u H Q w r1 r2 k => by
    subst e1 e2
    obtain ⟨q, vs, rfl, hq, rs⟩ := r1.asTup
    obtain ⟨q2, vs2, rfl, hq2, rs2⟩ := r2.asTup
    rw [rs.ints] at hq
    rw [rs2.ints] at hq2
    exact ⟨q, q2, ns, ms, rfl, rfl, hq, hq2, k.now w (.bl _) hz⟩)
end
end DL
namespace W
open PySem PySem.Spec PyProof.Rows L2 DL SX PL SlX
abbrev pairD (q : Nat × Nat) : D := .tup [.int (q.1 : Nat), .int (q.2 : Nat)]
def ltP (a b : Nat × Nat) : Prop := a.1 < b.1 ∨ (a.1 = b.1 ∧ a.2 < b.2)
theorem ltP_lex {a b : Nat × Nat} (h : ltP a b) : HT.lexLt [(a.1 : Int), (a.2 : Int)] [(b.1 : Int), (b.2 : Int)] = true := by
  rw [HT.lexLt_cons, HT.lexLt_cons]
  rcases h with h | ⟨h1, h2⟩
  · rw [if_neg (by omega)]; exact decide_eq_true (by omega)
  · rw [if_pos (by omega), if_neg (by omega)]; exact decide_eq_true (by omega)
/-- what a web of n people can hold -/
structure Prs (n : Nat) (ps : List (Nat × Nat)) : Prop where
  inn : ∀ q ∈ ps, q.1 < q.2 ∧ q.2 < n
  asc : ps.Pairwise ltP
section
variable {P : Program} {w : World} {K : PySem.W.Frag} {mg : Str → Option Value} {base : Heap} {C G R O S U : Addr}
def cAscend : Con := fun ds M Φ => ∃ ps : List (Nat × Nat), ds = [.tup (ps.map pairD)] ∧ ps.Pairwise ltP ∧ ps.length ≤ 1000 ∧ Φ (.bl true) M
abbrev nAscend : List Str := ["values", "one", "other"]
theorem cut_fr1 {α : Type} (xs : List α) : DL.cutD xs (some 1) none = xs.drop 1 := by
  unfold DL.cutD
  rw [HT.sIx_none, show (1 : Int) = ((1 : Nat) : Int) from rfl, HT.sIx_nat]
  by_cases h : 1 ≤ xs.length
  · rw [Nat.min_eq_left h]
    exact List.take_of_length_le (by rw [List.length_drop]; exact Nat.le_refl _)
  · have : xs = [] := List.length_eq_zero_iff.mp (by omega)
    subst this; rfl
theorem ok_ascend (F : Fx w K mg) : BodyOk P w K mg base "do_ascend" s_do_ascend nAscend 1 0 cAscend := by
  intro f cdv A outer s H E hr ds M Φ hl hc
  obtain ⟨ps, rfl, hp, hn, hc⟩ := hc
  have nd : nAscend.Nodup := by decide +kernel
  have hz : (zipD (ps.map pairD) (DL.cutD (ps.map pairD) (some 1) none)).length ≤ 1000 := by
    have : (zipD (ps.map pairD) (DL.cutD (ps.map pairD) (some 1) none)).length ≤ (ps.map pairD).length := by simp only [zipD, List.length_map, List.length_zip]; exact Nat.min_le_left _ _
    rw [List.length_map] at this; omega
  refine wss_cons (ws_ret (we_all (F.bn _ (by decide +kernel)) (we_lc nd (blkOk_by (N := nAscend) (sc := defScope s_do_ascend) (own := [("one", 1), ("other", 2)]) (by decide +kernel)) (fun _ _ _ _ _ => pg_tup rfl (pgs_cons (pg_name (i := 1) nd rfl (Or.inl rfl)) (pgs_cons (pg_name (i := 2) nd rfl (Or.inl rfl)) pgs_nil)) rfl rfl) (gt_two (by decide) (by decide)) (fun _ _ _ _ _ => pts_nil) tk_nil (wi_zipT (F.bn _ (by decide +kernel)) (we_var 0 rfl (we_slice (we_var 0 rfl (we_int ⟨_, rfl, _, .inr (.inl ⟨_, rfl, rfl⟩), _, _, rfl, rfl, ?_⟩))))))))
  refine ⟨by rw [sizeLine_eq]; omega, fun i acc M' => M' = M ∧ acc = (List.replicate i true).map D.bl, ⟨rfl, rfl⟩, ?_, ?_⟩
  · rintro i x acc M' hx ⟨rfl, rfl⟩
    obtain ⟨x1, x2, hx1, hx2, rfl⟩ := zipD_get hx
    rw [cut_fr1, List.getElem?_drop, List.getElem?_map] at hx2
    rw [List.getElem?_map] at hx1
    obtain ⟨u, hu, rfl⟩ := Option.map_eq_some_iff.mp hx1
    obtain ⟨v, hv, rfl⟩ := Option.map_eq_some_iff.mp hx2
    refine ⟨_, _, rfl, ?_⟩
    intro s1 H1 C' cl fp
    refine we_ltT (Nat.lt_of_le_of_lt (Nat.le_add_right _ _) hr.units) (we_var 1 rfl (we_var 2 rfl ⟨[(u.1 : Int), (u.2 : Int)], [(v.1 : Int), (v.2 : Int)], rfl, rfl, ?_⟩))
    have hlt : ltP u v := by
      obtain ⟨i1, e1⟩ := List.getElem?_eq_some_iff.mp hu
      obtain ⟨i2, e2⟩ := List.getElem?_eq_some_iff.mp hv
      rw [← e1, ← e2]
      exact List.pairwise_iff_getElem.mp hp _ _ i1 i2 (by omega)
    rw [ltP_lex hlt]
    exact ⟨rfl, by rw [List.replicate_succ', List.map_append]; rfl⟩
  · rintro acc M' ⟨rfl, rfl⟩
    refine ⟨_, rfl, ?_⟩
    rw [List.all_eq_true.mpr fun b hb => by rw [List.eq_of_mem_replicate hb]; rfl]
    exact Lets.of hc
def cIsPair : Con := fun ds M Φ => ∃ (n : Nat) (q : Nat × Nat), ds = [.int (n : Nat), pairD q] ∧ q.1 < q.2 ∧ q.2 < n ∧ Φ (.bl true) M
abbrev nIsPair : List Str := ["many", "value", "one"]
theorem ok_is_pair (F : Fx w K mg) (gP : ∃ t, mg "PAIR" = some (.int 2 t)) (F1 : Fc P w K mg base "is_tuple" [] 1 2 cIsTup) (F2 : Fc P w K mg base "is_integer" [] 1 3 cIsInt) : BodyOk P w K mg base "is_pair" s_is_pair nIsPair 2 1 cIsPair := by
  intro f cdv A outer s H E hr ds M Φ hl hc
  obtain ⟨n, q, rfl, h1, h2, hc⟩ := hc
  have nd : nIsPair.Nodup := by decide +kernel
  refine wss_cons (ws_if (wt_ww (ww_or (wt_not (wt_val (we_call F1 (hr.mono (by omega)) (wa_cons (we_var 1 rfl (wa_cons (we_gint gP (wa_nil ⟨rfl, [_, _], 2, rfl, _, rfl, ?_⟩)))))))))))
  refine ww_or1 (wt_not (wt_val (we_all (F.bn _ (by decide +kernel)) (we_lc nd (blkOk_by (N := nIsPair) (sc := defScope s_is_pair) (own := [("one", 2)]) (by decide +kernel)) (fun _ _ _ _ _ => pg_name (i := 2) nd rfl (Or.inl rfl)) (gt_name (by decide)) (fun _ _ _ _ _ => pts_nil) tk_nil (wi_tup (we_var 1 rfl ⟨_, rfl, ?_⟩))))))
  refine ⟨by show 2 ≤ sizeLine; decide, fun i acc M' => M' = M ∧ acc = (List.replicate i true).map D.bl, ⟨rfl, rfl⟩, ?_, ?_⟩
  · rintro i x acc M' hx ⟨rfl, rfl⟩
    intro s1 H1 C' cl fp
    obtain ⟨k, rfl, hk⟩ : ∃ k : Nat, x = .int (k : Nat) ∧ k < n := by
      match i, hx with
      | 0, hx => exact ⟨q.1, (Option.some.inj hx).symm, by omega⟩
      | 1, hx => exact ⟨q.2, (Option.some.inj hx).symm, h2⟩
      | j + 2, hx => simp at hx
    refine we_call F2 (hr.mono (by omega)) (wa_cons (we_var 2 rfl (wa_cons (we_int (wa_cons (we_subI (we_var 0 rfl (we_int ⟨_, _, rfl, rfl, wa_nil ⟨rfl, _, _, _, rfl, ?_⟩⟩))))))))
    rw [decide_eq_true (show (0 : Int) ≤ (k : Nat) by omega), decide_eq_true (show ((k : Nat) : Int) ≤ (n : Nat) - 1 by omega)]
    exact ⟨rfl, by rw [List.replicate_succ', List.map_append]; rfl⟩
  · rintro acc M' ⟨rfl, rfl⟩
    refine ⟨_, rfl, _, rfl, ?_⟩
    rw [List.all_eq_true.mpr fun b hb => by rw [List.eq_of_mem_replicate hb]; rfl]
    refine wss_nil (wss_cons (ws_ret (we_ltI (we_ix (we_var 1 rfl (we_int ⟨0, _, rfl, ixT (atI_nat (j := 0) rfl), we_ix (we_var 1 rfl (we_int ⟨1, _, rfl, ixT (atI_nat (j := 1) rfl), _, _, rfl, rfl, Lets.of ?_⟩))⟩))))))
    rw [decide_eq_true (show ((q.1 : Nat) : Int) < (q.2 : Nat) by omega)]
    exact hc
end
end W
namespace DL
open PySem PySem.Spec PyProof.Rows L2
section
variable {X : Cx} {ρ : Rho} {M : Mp} {Φ : D → Mp → Prop} {e : Expr} {pos p p2 pos2 : Pos}
/-- the addresses of some tuples -/
theorem tups_refs {K : PySem.W.Frag} {H : Hp} : ∀ {vs : List V} {ps : List (List Int)}, TupsV K H vs ps → ∃ ks : List (Addr × List Int), vs = ks.map (fun q => V.ref q.1) ∧ ks.map (·.2) = ps ∧ ∀ q ∈ ks, SqT K H q.1 (q.2.map V.int)
  | _, _, .nil => ⟨[], rfl, rfl, fun q h => nomatch h⟩
  | _, _, .cons (a := v) (b := ns) h t => by
    obtain ⟨a, rfl, hq⟩ := h
    obtain ⟨ks, e1, e2, h3⟩ := tups_refs t
    exact ⟨(a, ns) :: ks, by rw [e1]; rfl, by rw [List.map_cons, e2], fun q hm => (List.mem_cons.mp hm).elim (fun z => z ▸ hq) (h3 q)⟩
theorem reps_mem {K : PySem.W.Frag} {M : Mp} {Z : Zn} {H : Hp} : ∀ {ks : List (Addr × List Int)}, Reps K M Z H (ks.map fun q => V.ref q.1) (ks.map fun q => D.tup (q.2.map D.int)) → ∀ q ∈ ks, Rep K M Z H (.ref q.1) (.tup (q.2.map D.int))
  | [], _, q, h => nomatch h
  | k :: ks, .cons r t, q, h => (List.mem_cons.mp h).elim (fun z => z ▸ r) (reps_mem t q)
theorem reps_all {K : PySem.W.Frag} {M : Mp} {Z : Zn} {H : Hp} : ∀ {ks : List (Addr × List Int)}, (∀ q ∈ ks, Rep K M Z H (.ref q.1) (.tup (q.2.map D.int))) → Reps K M Z H (ks.map fun q => V.ref q.1) (ks.map fun q => D.tup (q.2.map D.int))
  | [], _ => .nil
  | k :: ks, h => .cons (h k List.mem_cons_self) (reps_all fun q hq => h q (List.mem_cons_of_mem _ hq))
end
end DL
namespace DL
open PySem PySem.Spec PyProof.Rows L2
abbrev ltP (qs : List (Int × Int)) (i j : Nat) : Bool := PySem.W.dataLt ((qs.map DL.prP).getD i .none) ((qs.map DL.prP).getD j .none)
section
variable {X : Cx} {ρ : Rho} {M : Mp} {Φ : D → Mp → Prop} {Ψ : DE} {a b e o : Expr} {es : List Expr} {pos p apos : Pos} {ss : List Stmt}
inductive FzF (M M' : Mp) : List (Str × D) → List (Str × D) → Prop where
  | nil : FzF M M' [] []
  | cons {k : Str} {d d' : D} {r r' : List (Str × D)} : Fz M M' d d' → FzF M M' r r' → FzF M M' ((k, d) :: r) ((k, d') :: r')
theorem FzF.rep {K : PySem.W.Frag} {M M' : Mp} {Z : Zn} {H : Hp} (l : Les M' M) (w : Wd K M Z H) : ∀ {vs : List (Str × V)} {fs fs' : List (Str × D)}, FzF M M' fs fs' → RepF K M Z H vs fs → RepF K M' Z H vs fs'
  | _, _, _, .nil, .nil => .nil
  | _, _, _, .cons f t, .cons r u => .cons (f.rep l w r) (FzF.rep l w t u)
theorem upd_self {H : Hp} {a : Addr} {u : HO} (h : H a = some u) : upd H a u = H := by
  funext b
  unfold upd
  split
  · rename_i e; rw [e, h]
  · rfl
end
end DL
namespace DL
open PySem PySem.Spec PyProof.Rows L2
mutual
inductive FzN (M M' : Mp) : D → D → Prop where
  | of {d d' : D} (f : Fz M M' d d') : FzN M M' d d'
  | lst {ds ds' : List D} (f : FzNs M M' ds ds') : FzN M M' (.lst ds) (.lst ds')
inductive FzNs (M M' : Mp) : List D → List D → Prop where
  | nil : FzNs M M' [] []
  | cons {d d' : D} {ds ds' : List D} (f : FzN M M' d d') (t : FzNs M M' ds ds') : FzNs M M' (d :: ds) (d' :: ds')
end
section
variable {K : PySem.W.Frag} {M M' : Mp} {Z : Zn} {H : Hp}
mutual
theorem FzN.rep (l : Les M' M) (w : Wd K M Z H) : ∀ {v : V} {d d' : D}, FzN M M' d d' → Rep K M Z H v d → Rep K M' Z H v d'
  | _, _, _, .of f, r => f.rep l w r
  | _, _, _, .lst f, .lst h m r => .lst h (l.x _ _ h m).2 (FzNs.rep l w f r)
theorem FzNs.rep (l : Les M' M) (w : Wd K M Z H) : ∀ {vs : List V} {ds ds' : List D}, FzNs M M' ds ds' → Reps K M Z H vs ds → Reps K M' Z H vs ds'
  | _, _, _, .nil, .nil => .nil
  | _, _, _, .cons f t, .cons r u => .cons (FzN.rep l w f r) (FzNs.rep l w t u)
end
inductive FzG (M M' : Mp) : List (Str × D) → List (Str × D) → Prop where
  | nil : FzG M M' [] []
  | cons {k : Str} {d d' : D} {r r' : List (Str × D)} : FzN M M' d d' → FzG M M' r r' → FzG M M' ((k, d) :: r) ((k, d') :: r')
theorem FzG.same : ∀ {k : Str} {d : D} {r r' : List (Str × D)}, FzG M M' r r' → FzG M M' ((k, d) :: r) ((k, d) :: r') := fun h => .cons (.of (.same _)) h
theorem FzG.rep (l : Les M' M) (w : Wd K M Z H) : ∀ {vs : List (Str × V)} {fs fs' : List (Str × D)}, FzG M M' fs fs' → RepF K M Z H vs fs → RepF K M' Z H vs fs'
  | _, _, _, .nil, .nil => .nil
  | _, _, _, .cons f t, .cons r u => .cons (f.rep l w r) (FzG.rep l w t u)
end
section
variable {X : Cx} {ρ : Rho} {M : Mp} {ss : List Stmt} {Ψ : DE}
theorem wss_insFzG {x C : Addr} {fs fs' : List (Str × D)} {M1 : Mp} (ha : M x = some (.ins C fs)) (l : Les M1 M) (h1 : M1 x = some (.ins C fs)) (f : FzG M M1 fs fs') (h : WSs X ρ (mset M1 x (.ins C fs')) ss Ψ) : WSs X ρ M ss Ψ := .mk fun {Z} σ H E en w k => by
  obtain ⟨dx, vs, hx, rf⟩ := w.1 x _ ha
  have w1 := l.w w
  have rf1 := f.rep l w rf
  have x2 : Ext M1 Z H (mset M1 x (.ins C fs')) (upd H x (.ins C dx vs)) := Ext.put w1 h1
  have w2 := w1.put h1 (u := .ins C fs') (o := .ins C dx vs) ⟨dx, vs, upd_same, rf1.mono x2⟩
  rw [upd_self hx] at x2 w2
  have x3 := (l.ext w).trans x2
  exact h.run σ H E (en.mono x3) w2 (k.step x3)
end
end DL
namespace DL
open PySem PySem.Spec PyProof.Rows L2
theorem keyD_rep {K : PySem.W.Frag} {M : Mp} {Z : Zn} {H : Hp} (k : Key) : Rep K M Z H (kV k) (keyD k) := by
  cases k with
  | inl i => exact .int i
  | inr x => exact .str x
theorem RepK.get {K : PySem.W.Frag} {M : Mp} {Z : Zn} {H : Hp} : ∀ {vs : List (Key × V)} {ds : List (Key × D)} {i : Nat} {k : Key} {d : D}, RepK K M Z H vs ds → ds[i]? = some (k, d) → ∃ v, vs[i]? = some (k, v) ∧ Rep K M Z H v d
  | _, _, _, _, _, .nil, e => by simp at e
  | _, _, 0, _, _, .cons r _, e => by simp at e; obtain ⟨rfl, rfl⟩ := e; exact ⟨_, rfl, r⟩
  | _, _, i + 1, k, d, .cons _ t, e => by
    obtain ⟨u, h1, h2⟩ := RepK.get (i := i) (d := d) t (by simpa using e)
    exact ⟨u, by simpa using h1, h2⟩
theorem RepK.keys {K : PySem.W.Frag} {M : Mp} {Z : Zn} {H : Hp} : ∀ {vs : List (Key × V)} {ds : List (Key × D)}, RepK K M Z H vs ds → vs.map (·.1) = ds.map (·.1)
  | _, _, .nil => rfl
  | _, _, .cons _ t => by rw [List.map_cons, List.map_cons, t.keys]
theorem RepK.valN {K : PySem.W.Frag} {M : Mp} {Z : Zn} {H : Hp} {k : Key} : ∀ {vs : List (Key × V)} {ds : List (Key × D)}, RepK K M Z H vs ds → valK ds k = none → valV vs k = none
  | _, _, .nil, _ => rfl
  | _, _, .cons (k := j) r t, e => by
    unfold valK at e
    rw [List.find?_cons] at e
    by_cases h : j = k
    · simp [h] at e
    · rw [valV_neg h]
      refine RepK.valN t ?_
      unfold valK
      simpa [h] using e
section
variable {X : Cx} {ρ : Rho} {M : Mp} {Φ : D → Mp → Prop} {Θ : Bool → Mp → Prop} {Ψ : DE} {a b o e f i tg : Expr} {ss : List Stmt} {pos apos p : Pos}
def itemsD (kvs : List (Key × D)) : List D := kvs.map fun kv => .tup [keyD kv.1, kv.2]
def keysD (kvs : List (Key × D)) : List D := kvs.map fun kv => keyD kv.1
theorem sq_items {K : PySem.W.Frag} {M1 : Mp} {Z1 : Zn} {H1 : Hp} {q : Addr} {od : Obj} {vs : List (Key × V)} {kvs : List (Key × D)} (hq : H1 q = some (.frz od (.dK vs))) (m : Im M1 Z1 q) (rs : RepK K M1 Z1 H1 vs kvs) : Sq K M1 Z1 H1 (Iti q od vs) (itemsD kvs) := fun i M Z H x w => by
  have h1 := (x _ _ hq m).1
  have r2 := rs.monoI x
  refine ⟨fun hi => ⟨h1, ?_⟩, fun d hd => ?_⟩
  · rw [hi, r2.length]; unfold itemsD; rw [List.length_map]; exact Nat.le_refl _
  · unfold itemsD at hd
    rw [List.getElem?_map] at hd
    obtain ⟨⟨k, y⟩, hk, rfl⟩ := Option.map_eq_some_iff.mp hd
    obtain ⟨v, hv, rv⟩ := r2.get hk
    refine ⟨⟨h1, (List.getElem?_eq_some_iff.mp hv).1⟩, fun z H2 yl => ?_⟩
    obtain ⟨T, k', v', hkv, rfl, hT, rfl⟩ := yl
    rw [hv] at hkv; cases hkv
    have x3 : Ext M Z H M (upd H T (.tup [kV k, v])) := Ext.new w hT
    exact ⟨x3, w.new hT, .tup (.inl upd_same) (w.fresh hT) (.cons (keyD_rep k) (.cons (rv.mono x3) .nil))⟩
theorem sq_keys {K : PySem.W.Frag} {M1 : Mp} {Z1 : Zn} {H1 : Hp} {q : Addr} {od : Obj} {vs : List (Key × V)} {kvs : List (Key × D)} (hq : H1 q = some (.frz od (.dK vs))) (m : Im M1 Z1 q) (rs : RepK K M1 Z1 H1 vs kvs) : Sq K M1 Z1 H1 (Itk q od vs) (keysD kvs) := fun i M Z H x w => by
  have h1 := (x _ _ hq m).1
  have r2 := rs.monoI x
  refine ⟨fun hi => ⟨h1, ?_⟩, fun d hd => ?_⟩
  · rw [hi, r2.length]; unfold keysD; rw [List.length_map]; exact Nat.le_refl _
  · unfold keysD at hd
    rw [List.getElem?_map] at hd
    obtain ⟨⟨k, y⟩, hk, rfl⟩ := Option.map_eq_some_iff.mp hd
    obtain ⟨v, hv, rv⟩ := r2.get hk
    refine ⟨⟨h1, (List.getElem?_eq_some_iff.mp hv).1⟩, fun z H2 yl => ?_⟩
    obtain ⟨rfl, k', v', hkv, rfl⟩ := yl
    rw [hv] at hkv; cases hkv
    exact ⟨Ext.refl, w, keyD_rep k⟩
theorem wi_fitems {elts : List Expr} {kk : Nat} {tpos : Pos} {Φ : List D → Mp → Prop} (h : WE X ρ M e fun d M1 => ∃ kvs, d = .fdK kvs ∧ Φ (itemsD kvs) M1)
    (hbase : attributeBase e "items" X.env (eval e X.env) = eval e X.env := by rfl) (hline : (apos.endLine == pos.line) = true := by rfl) : WI X ρ M (.Tuple elts kk tpos) (.Call (.Attribute e "items" apos) [] [] pos) Φ := .mk fun {Z} σ H R en w k =>
  iOf (pi_items pe_sem hbase hline) (h.run σ H _ en w fun v d H1 M1 e1 w1 r1 hz => by
    obtain ⟨kvs, rfl, hz⟩ := hz
    cases r1 with
    | fdK hH m rs => exact ⟨_, _, _, rfl, hH, k _ _ _ M1 e1 w1 (sq_items hH m rs) hz⟩)
theorem wi_fkeys {Φ : List D → Mp → Prop} (h : WE X ρ M e fun d M1 => ∃ kvs, d = .fdK kvs ∧ Φ (keysD kvs) M1) : WI X ρ M tg e Φ := .mk fun {Z} σ H R en w k =>
  iOf (pi_keys pe_sem) (h.run σ H _ en w fun v d H1 M1 e1 w1 r1 hz => by
    obtain ⟨kvs, rfl, hz⟩ := hz
    cases r1 with
    | fdK hH m rs => exact ⟨_, _, rfl, .inl ⟨_, hH, k _ _ _ M1 e1 w1 (sq_keys hH m rs) hz⟩⟩)
theorem we_fget (hu : X.A.units + 1 < cLine) (h : WE X ρ M a fun x M1 => WE X ρ M1 b fun y M2 => ∃ kvs k d, x = .fdK kvs ∧ y = keyD k ∧ valK kvs k = some d ∧ Φ d M2) (hs : NoSl b := by exact fun _ _ => rfl) : WE X ρ M (.Subscript a b pos) Φ := .mk fun {Z} σ H Q en w k =>
  eOf (pe_dget hu pe_sem pe_sem hs) (bind2 h en w fun v u x y H2 M2 e2 w2 r1 r2 hz => by
    obtain ⟨kvs, z, d, rfl, rfl, hv, hz⟩ := hz
    cases r1 with
    | fdK hH m rs =>
      obtain ⟨v, h1, rv⟩ := rs.val hv
      have e : u = kV z := by cases z <;> (cases r2; rfl)
      subst e
      exact ⟨_, v, rfl, .inl ⟨_, z, .inr ⟨_, hH⟩, rfl, h1.symm⟩, (k.step e2).now w2 rv hz⟩)
end
end DL
namespace DL
open PySem PySem.Spec PyProof.Rows L2
theorem keyD_inv {K : PySem.W.Frag} {M : Mp} {Z : Zn} {H : Hp} {v : V} {k : Key} (r : Rep K M Z H v (keyD k)) : v = kV k := by
  cases k with
  | inl i => cases r; rfl
  | inr x => cases r; rfl
end DL
namespace DL
open PySem PySem.Spec PyProof.Rows L2
section
variable {X : Cx} {ρ : Rho} {M : Mp} {Φ : D → Mp → Prop} {Θ : Bool → Mp → Prop} {Ψ : DE} {a b o e f i tg : Expr} {ss : List Stmt} {pos apos p : Pos}
theorem wss_lockM {q : Addr} {kvs : List (Key × D)} (hq : M q = some (.dK kvs)) (h : WSs X ρ (mset M q (.fdK kvs)) ss Ψ) : WSs X ρ M ss Ψ := .mk fun {Z} σ H E en w k => by
  intro pins s I
  obtain ⟨vs, hH, rs⟩ := w.1 q _ hq
  obtain ⟨od, I2⟩ := I.lock hH trivial
  have x2 : Ext M Z H (mset M q (.fdK kvs)) (upd H q (.frz od (.dK vs))) := Ext.put w hq
  exact h.run σ _ E (en.mono x2) (w.put hq ⟨od, vs, upd_same, rs.mono x2⟩) (k.step x2) pins s I2
theorem we_inF (hu : X.A.units + 1 < cLine) (h : WE X ρ M a fun x M1 => WE X ρ M1 b fun y M2 => ∃ k kvs, x = keyD k ∧ y = .fdK kvs ∧ Φ (.bl (valK kvs k).isSome) M2) (h1 : behindInMarks .In b = false := by rfl) : WE X ρ M (.Compare a [.In] [b] pos) Φ := .mk fun σ H Q en w k =>
  eOf (pe_cmp (pc_din hu pe_sem pe_sem) h1) (bind2 h en w fun v u x y H2 M2 e2 w2 r1 r2 hz => by
    obtain ⟨ky, kvs, rfl, rfl, hz⟩ := hz
    have ev := keyD_inv r1
    cases r2 with
    | fdK hq m rs =>
      cases hv : valK kvs ky with
      | some d =>
        obtain ⟨z, h3, rv⟩ := rs.val hv
        rw [hv] at hz
        exact ⟨_, some z, rfl, by rw [ev]; exact .inl ⟨_, ky, .inr ⟨_, hq⟩, rfl, h3.symm⟩, (k.step e2).now w2 (.bl _) hz⟩
      | none =>
        have h3 := rs.valN hv
        rw [hv] at hz
        exact ⟨_, none, rfl, by rw [ev]; exact .inl ⟨_, ky, .inr ⟨_, hq⟩, rfl, h3.symm⟩, (k.step e2).now w2 (.bl _) hz⟩)
/-- k not in d -/
theorem wt_notInF (hu : X.A.units + 1 < cLine) (h : WE X ρ M a fun x M1 => WE X ρ M1 b fun y M2 => ∃ k kvs, x = keyD k ∧ y = .fdK kvs ∧ Θ (!(valK kvs k).isSome) M2) (h1 : behindInMarks .NotIn b = false := by rfl) : WT X ρ M (.Compare a [.NotIn] [b] pos) Θ := .mk fun σ H Q en w k =>
  tOf (pt_cmp (pc_dnotin hu pe_sem pe_sem) h1) (bind2 h en w fun v u x y H2 M2 e2 w2 r1 r2 hz => by
    obtain ⟨ky, kvs, rfl, rfl, hz⟩ := hz
    have ev := keyD_inv r1
    cases r2 with
    | fdK hq m rs =>
      cases hv : valK kvs ky with
      | some d =>
        obtain ⟨z, h3, rv⟩ := rs.val hv
        rw [hv] at hz
        exact ⟨_, some z, rfl, by rw [ev]; exact .inl ⟨_, ky, .inr ⟨_, hq⟩, rfl, h3.symm⟩, _, rfl, (k.step e2).now w2 hz⟩
      | none =>
        have h3 := rs.valN hv
        rw [hv] at hz
        exact ⟨_, none, rfl, by rw [ev]; exact .inl ⟨_, ky, .inr ⟨_, hq⟩, rfl, h3.symm⟩, _, rfl, (k.step e2).now w2 hz⟩)
end
end DL
namespace W
open PySem PySem.Spec PyProof.Rows L2 DL SX PL SlX
/-- what is known of the class -/
structure Qx (K : PySem.W.Frag) (mg : Str → Option Value) (R : Addr) : Prop where
  at_ : mg "Web" = some (.ref R)
  cl : Cls K R
  na : ∀ f, f ∈ (["own_many", "own_pairs", "own_friends"] : List Str) → NoAttr K R f
  init : ∃ f, Mk K R f ∧ Md K R "__init__" "Web.__init__" s_Web___init__ f
  many : ∃ p f, PropOf K R "many" p f ∧ Md K R "many" "Web.many" s_Web_many f
  pairs : ∃ p f, PropOf K R "pairs" p f ∧ Md K R "pairs" "Web.pairs" s_Web_pairs f
/-- those who know i, as they are told -/
def nb (ps : List (Nat × Nat)) (i : Nat) : List Nat := ps.filterMap fun q => if q.1 = i then some q.2 else if q.2 = i then some q.1 else none
def frD (l : List Nat) : List (Key × D) := l.map fun (j : Nat) => ((.inl (j : Int) : Key), D.bl true)
def webF (n : Nat) (ps : List (Nat × Nat)) : List (Str × D) := [("own_many", .int (n : Nat)), ("own_pairs", .tup (ps.map pairD)), ("own_friends", .lst ((List.range n).map fun i => .fdK (frD (nb ps i))))]
def webD (R : Addr) (n : Nat) (ps : List (Nat × Nat)) : D := .ins R (webF n ps)
theorem nb_snoc (ps : List (Nat × Nat)) (q : Nat × Nat) (i : Nat) : nb (ps ++ [q]) i = nb ps i ++ (if q.1 = i then [q.2] else if q.2 = i then [q.1] else []) := by
  unfold nb
  rw [List.filterMap_append, List.filterMap_cons]
  congr 1
  split <;> rename_i h <;> split at h <;> (try split at h) <;> simp_all
theorem nb_iff {ps : List (Nat × Nat)} {i j : Nat} : j ∈ nb ps i ↔ (i, j) ∈ ps ∨ (j, i) ∈ ps := by
  unfold nb
  rw [List.mem_filterMap]
  constructor
  · rintro ⟨⟨x, y⟩, hq, h⟩
    dsimp only at h
    split at h
    · rename_i e; subst e; cases h; exact .inl hq
    · split at h
      · rename_i e1 e2; subst e2; cases h; exact .inr hq
      · cases h
  · rintro (h | h)
    · exact ⟨_, h, by simp⟩
    · by_cases e : j = i
      · exact ⟨_, h, by subst e; simp⟩
      · exact ⟨_, h, by dsimp only; rw [if_neg e, if_pos rfl]⟩
theorem nb_len (ps : List (Nat × Nat)) (i : Nat) : (nb ps i).length ≤ ps.length := List.length_filterMap_le _ _
theorem ltP_irr {a : Nat × Nat} : ¬ ltP a a := fun h => by rcases h with h | ⟨_, h⟩ <;> omega
theorem asc_new {ps : List (Nat × Nat)} {i : Nat} {q : Nat × Nat} (hp : ps.Pairwise ltP) (h : ps[i]? = some q) : q ∉ ps.take i := fun hm => by
  obtain ⟨j, hj, e⟩ := List.getElem_of_mem hm
  rw [List.length_take] at hj
  rw [List.getElem_take] at e
  obtain ⟨hi, e2⟩ := List.getElem?_eq_some_iff.mp h
  have := List.pairwise_iff_getElem.mp hp j i (by omega) hi (by omega)
  rw [e, e2] at this
  exact ltP_irr this
theorem asc_len : ∀ {l : List Nat} {lo k : Nat}, (∀ x ∈ l, lo ≤ x ∧ x < k) → l.Pairwise (· < ·) → l.length ≤ k - lo
  | [], _, _, _, _ => Nat.zero_le _
  | x :: r, lo, k, h, hp => by
    obtain ⟨h1, h2⟩ := List.pairwise_cons.mp hp
    have := h x List.mem_cons_self
    have := asc_len (l := r) (lo := x + 1) (k := k) (fun y hy => ⟨h1 y hy, (h y (List.mem_cons_of_mem _ hy)).2⟩) h2
    rw [List.length_cons]; omega
theorem prs_len {n : Nat} {ps : List (Nat × Nat)} (h : Prs n ps) : ps.length ≤ n * n := by
  have := asc_len (l := ps.map fun q => q.1 * n + q.2) (lo := 0) (k := n * n) (fun x hx => by
    obtain ⟨q, hq, rfl⟩ := List.mem_map.mp hx
    have h1 := h.inn q hq
    have h2 : (q.1 + 1) * n ≤ n * n := Nat.mul_le_mul_right _ (by omega)
    rw [Nat.succ_mul] at h2
    omega) (by
    rw [List.pairwise_map]
    refine List.Pairwise.imp_of_mem (fun {a b} ha hb hl => ?_) h.asc
    have h1 := h.inn a ha
    rcases hl with hl | ⟨e, hl⟩
    · have h2 : (a.1 + 1) * n ≤ b.1 * n := Nat.mul_le_mul_right _ (by omega)
      rw [Nat.succ_mul] at h2
      omega
    · rw [e]; omega)
  rwa [List.length_map, Nat.sub_zero] at this
theorem putKD_new {kvs : List (Key × D)} {k : Key} {d : D} (h : ∀ kv ∈ kvs, kv.1 ≠ k) : putKD kvs k d = kvs ++ [(k, d)] := by
  unfold putKD
  rw [if_neg]
  intro e
  obtain ⟨kv, h1, h2⟩ := List.any_eq_true.mp e
  exact h kv h1 (of_decide_eq_true h2)
theorem fr_snoc {l : List Nat} {j : Nat} (h : j ∉ l) : putKD (frD l) (.inl (j : Int)) (.bl true) = frD (l ++ [j]) := by
  rw [putKD_new, frD, frD, List.map_append]; rfl
  intro kv hk
  obtain ⟨x, hx, rfl⟩ := List.mem_map.mp hk
  intro e
  injection e with e
  exact h (by rw [← show x = j by omega]; exact hx)
/-- the dicts stand at qs, all else is as it was -/
structure Fam (M M' : Mp) (qs : List Addr) (g : Nat → List (Key × D)) : Prop where
  nd : qs.Nodup
  new : ∀ q ∈ qs, M q = none
  out : ∀ b, b ∉ qs → M' b = M b
  inn : ∀ i q, qs[i]? = some q → M' q = some (.dK (g i))
theorem Fam.nil {M : Mp} {g : Nat → List (Key × D)} : Fam M M [] g := ⟨.nil, fun _ h => (by cases h), fun _ _ => rfl, fun i q h => (by simp at h)⟩
theorem Fam.at {M M' : Mp} {qs : List Addr} {g : Nat → List (Key × D)} (F : Fam M M' qs g) {b : Addr} {o : MO} (h : M b = some o) : M' b = some o ∧ b ∉ qs := by
  have : b ∉ qs := fun hb => by have := F.new b hb; rw [h] at this; cases this
  exact ⟨by rw [F.out b this]; exact h, this⟩
theorem Fam.snoc {M M' : Mp} {qs : List Addr} {g : Nat → List (Key × D)} {q : Addr} (F : Fam M M' qs g) (hq : M' q = none) (hg : g qs.length = []) : Fam M (mset M' q (.dK [])) (qs ++ [q]) g := by
  have hn : q ∉ qs := fun h => by
    obtain ⟨i, hi, e⟩ := List.getElem_of_mem h
    have := F.inn i q (by rw [List.getElem?_eq_getElem hi, e])
    rw [hq] at this; cases this
  refine ⟨List.nodup_append.mpr ⟨F.nd, by simp, fun x hx y hy => by rw [List.mem_singleton.mp hy]; exact fun e => hn (e ▸ hx)⟩, fun x hx => ?_, fun b hb => ?_, fun i x hx => ?_⟩
  · rcases List.mem_append.mp hx with h | h
    · exact F.new x h
    · rw [List.mem_singleton.mp h, ← F.out q hn]; exact hq
  · have h1 : b ≠ q := fun e => hb (by rw [e]; simp)
    rw [mset_ne h1]
    exact F.out b fun h => hb (List.mem_append_left _ h)
  · by_cases hi : i < qs.length
    · rw [List.getElem?_append_left hi] at hx
      have : x ≠ q := fun e => hn (e ▸ List.mem_of_getElem? hx)
      rw [mset_ne this]
      exact F.inn i x hx
    · rw [List.getElem?_append_right (by omega)] at hx
      have h0 : i - qs.length = 0 := by
        cases h : i - qs.length with
        | zero => rfl
        | succ m => rw [h] at hx; simp at hx
      rw [h0] at hx
      cases hx
      rw [mset_same, show i = qs.length by omega, hg]
theorem Fam.put {M M' : Mp} {qs : List Addr} {g : Nat → List (Key × D)} {i : Nat} {q : Addr} {kvs : List (Key × D)} (F : Fam M M' qs g) (hq : qs[i]? = some q) : Fam M (mset M' q (.dK kvs)) qs (fun j => if j = i then kvs else g j) := by
  have hm := List.mem_of_getElem? hq
  refine ⟨F.nd, F.new, fun b hb => ?_, fun j x hx => ?_⟩
  · rw [mset_ne (fun e => hb (by rw [e]; exact hm))]
    exact F.out b hb
  · by_cases e : j = i
    · subst e
      rw [hq] at hx; cases hx
      rw [mset_same, if_pos rfl]
    · have : x ≠ q := fun z => by
        subst z
        obtain ⟨h1, e1⟩ := List.getElem?_eq_some_iff.mp hq
        obtain ⟨h2, e2⟩ := List.getElem?_eq_some_iff.mp hx
        exact e ((List.getElem_inj F.nd).mp (e2.trans e1.symm))
      rw [mset_ne this, if_neg e]
      exact F.inn j x hx
theorem Fam.upd {M M' : Mp} {qs : List Addr} {g : Nat → List (Key × D)} {a : Addr} {o u : MO} (F : Fam M M' qs g) (h : M a = some u) : Fam (mset M a o) (mset M' a o) qs g := by
  obtain ⟨_, hn⟩ := F.at h
  refine ⟨F.nd, fun q hq => ?_, fun b hb => ?_, fun i q hq => ?_⟩
  · have e : q ≠ a := fun e => hn (by rw [← e]; exact hq)
    rw [mset_ne e]; exact F.new q hq
  · unfold mset; split
    · rfl
    · exact F.out b hb
  · have e : q ≠ a := fun e => hn (by rw [← e]; exact List.mem_of_getElem? hq)
    rw [mset_ne e]; exact F.inn i q hq
theorem Fam.ext {M M' : Mp} {qs : List Addr} {g g' : Nat → List (Key × D)} (F : Fam M M' qs g) (h : ∀ i, i < qs.length → g i = g' i) : Fam M M' qs g' := ⟨F.nd, F.new, F.out, fun i q hq => by rw [← h i (List.getElem?_eq_some_iff.mp hq).1]; exact F.inn i q hq⟩
theorem Fam.les {M M' : Mp} {qs : List Addr} {g : Nat → List (Key × D)} (F : Fam M M' qs g) : Les M M' := fun b => by
  by_cases h : b ∈ qs
  · exact .inr (F.new b h)
  · exact .inl (F.out b h).symm
/-- the dicts at qs are frozen -/
structure FamF (M M' : Mp) (qs : List Addr) (g : Nat → List (Key × D)) : Prop where
  new : ∀ q ∈ qs, M q = none
  out : ∀ b, b ∉ qs → M' b = M b
  inn : ∀ i q, qs[i]? = some q → M' q = some (.fdK (g i))
theorem FamF.at {M M' : Mp} {qs : List Addr} {g : Nat → List (Key × D)} (F : FamF M M' qs g) {b : Addr} {o : MO} (h : M b = some o) : M' b = some o ∧ b ∉ qs := by
  have : b ∉ qs := fun hb => by have := F.new b hb; rw [h] at this; cases this
  exact ⟨by rw [F.out b this]; exact h, this⟩
theorem FamF.les {M M' : Mp} {qs : List Addr} {g : Nat → List (Key × D)} (F : FamF M M' qs g) : Les M M' := fun b => by
  by_cases h : b ∈ qs
  · exact .inr (F.new b h)
  · exact .inl (F.out b h).symm
theorem FamF.fz {M M' : Mp} {g : Nat → List (Key × D)} : ∀ {qs : List Addr} (k : Nat), (∀ i q, qs[i]? = some q → M' q = some (.fdK (g (k + i)))) → (∀ q ∈ qs, M q = none) → FzNs M' M (qs.map D.ob) ((List.range' k qs.length).map fun i => D.fdK (g i))
  | [], _, _, _ => .nil
  | q :: qs, k, h, hn => by
    rw [List.length_cons, List.range'_succ, List.map_cons, List.map_cons]
    exact .cons (.of (.fdK (h 0 q rfl) (hn q List.mem_cons_self))) (FamF.fz (k + 1) (fun i x hx => by rw [show k + 1 + i = k + (i + 1) by omega]; exact h (i + 1) x hx) fun x hx => hn x (List.mem_cons_of_mem _ hx))
theorem wss_lockF {X : Cx} {ρ : Rho} {M M' : Mp} {qs : List Addr} {g : Nat → List (Key × D)} {ss : List Stmt} {Ψ : DE} (F : Fam M M' qs g) (h : ∀ M'', FamF M M'' qs g → WSs X ρ M'' ss Ψ) : WSs X ρ M' ss Ψ := by
  suffices key : ∀ (n : Nat) (M2 : Mp), (∀ b, b ∉ qs → M2 b = M b) → (∀ i q, qs[i]? = some q → M2 q = some (if i < qs.length - n then .fdK (g i) else .dK (g i))) → n ≤ qs.length → WSs X ρ M2 ss Ψ from
    key qs.length M' F.out (fun i q hq => by rw [if_neg (by omega)]; exact F.inn i q hq) (Nat.le_refl _)
  intro n
  induction n with
  | zero => exact fun M2 o hi _ => h M2 ⟨F.new, o, fun i q hq => by have := hi i q hq; rw [if_pos (by have := (List.getElem?_eq_some_iff.mp hq).1; omega)] at this; exact this⟩
  | succ n ih =>
    intro M2 o hi hn
    obtain ⟨q, hq⟩ : ∃ q, qs[qs.length - (n + 1)]? = some q := ⟨_, List.getElem?_eq_getElem (by omega)⟩
    have h2 := hi _ q hq
    rw [if_neg (by omega)] at h2
    refine wss_lockM h2 (ih _ (fun b hb => ?_) (fun i x hx => ?_) (by omega))
    · rw [mset_ne (fun e => hb (by rw [e]; exact List.mem_of_getElem? hq))]; exact o b hb
    · by_cases e : i = qs.length - (n + 1)
      · subst e
        rw [hq] at hx; cases hx
        rw [mset_same, if_pos (by omega)]
      · have : x ≠ q := fun z => by
          subst z
          obtain ⟨h1, e1⟩ := List.getElem?_eq_some_iff.mp hq
          obtain ⟨h3, e2⟩ := List.getElem?_eq_some_iff.mp hx
          exact e ((List.getElem_inj F.nd).mp (e2.trans e1.symm))
        rw [mset_ne this, hi i x hx]
        by_cases h4 : i < qs.length - (n + 1)
        · rw [if_pos h4, if_pos (by omega)]
        · rw [if_neg h4, if_neg (by omega)]
section
variable {P : Program} {w : World} {K : PySem.W.Frag} {mg : Str → Option Value} {base : Heap} {C G R O S U : Addr}
theorem unitsA {k : Nat} {A : Around} (r : Room k A) : A.units + 1 < cLine := by have := r.un; omega
def cWebInit (R : Addr) : Con := fun ds M Φ => ∃ a n ps, ds = [.ob a, .int (n : Nat), .tup (ps.map pairD)] ∧ 1 ≤ n ∧ n ≤ 30 ∧ Prs n ps ∧ M a = some (.ins R []) ∧ Φ .non (mset M a (.ins R (webF n ps)))
abbrev nWebInit : List Str := ["self", "many", "pairs", "one", "person", "other"]
theorem wput1 {x : D} : putD "own_many" x [] = ([("own_many", x)] : List (Str × D)) := rfl
theorem wput2 {x y : D} : putD "own_pairs" y ([("own_many", x)] : List (Str × D)) = ([("own_many", x), ("own_pairs", y)] : List (Str × D)) := by
  rw [putD, if_neg (by decide +kernel)]; rfl
theorem wput3 {x y z : D} : putD "own_friends" z ([("own_many", x), ("own_pairs", y)] : List (Str × D)) = ([("own_many", x), ("own_pairs", y), ("own_friends", z)] : List (Str × D)) := by
  rw [putD, if_neg (by decide +kernel), putD, if_neg (by decide +kernel)]; rfl
theorem ok_web_init (F : Fx w K mg) (gW : ∃ t, mg "MOST_WEB" = some (.int 30 t)) (X : Qx K mg R) (FI : Fc P w K mg base "is_integer" [] 1 3 cIsInt) (F1 : Fc P w K mg base "is_pair" [] 2 2 cIsPair) (F2 : Fc P w K mg base "do_ascend" [] 1 1 cAscend) : BodyOk P w K mg base "Web.__init__" s_Web___init__ nWebInit 3 2 (cWebInit R) := by
  intro f cdv A outer s H E hr ds M Φ hl hc
  obtain ⟨a, n, ps, rfl, hn1, hn30, hp, hM, hc⟩ := hc
  have nd : nWebInit.Nodup := by decide +kernel
  have hpl := prs_len hp
  have hps : ps.length ≤ 900 := Nat.le_trans hpl (Nat.mul_le_mul hn30 hn30)
  have hu1 := unitsA hr
  refine wss_cons (ws_if (wt_not (wt_val (we_call FI (hr.mono (by decide)) (wa_cons (we_var 1 rfl (wa_cons (we_int (wa_cons (we_gint gW (wa_nil ⟨rfl, _, _, _, rfl, ?_⟩)))))))))))
  rw [decide_eq_true (show (1 : Int) ≤ (n : Nat) by omega), decide_eq_true (show ((n : Nat) : Int) ≤ 30 by omega)]
  refine ⟨_, rfl, wss_nil ?_⟩
  refine wss_cons (ws_if (wt_ww (ww_or (wt_not (wt_val (we_isi (F.bn _ (by decide +kernel)) (we_var 2 rfl (we_bty (F.bn _ (by decide +kernel)) rfl ⟨_, _, true, rfl, rfl, (by intro C h; cases h), rfl, _, rfl, ?_⟩))))))))
  refine ww_or (wt_not (wt_val (we_all (F.bn _ (by decide +kernel)) (we_lc nd (blkOk_by (N := nWebInit) (sc := defScope s_Web___init__) (own := [("one", 3)]) (by decide +kernel)) (fun _ _ _ _ _ => pg_name (i := 3) nd rfl (Or.inl rfl)) (gt_name (by decide)) (fun _ _ _ _ _ => pts_nil) tk_nil (wi_tup (we_var 2 rfl ⟨_, rfl, ?_⟩))))))
  refine ⟨by rw [List.length_map, sizeLine_eq]; omega, fun i acc M' => M' = M ∧ acc = (List.replicate i true).map D.bl, ⟨rfl, rfl⟩, ?_, ?_⟩
  · rintro i x acc M' hx ⟨rfl, rfl⟩
    rw [List.getElem?_map] at hx
    obtain ⟨q, hq, rfl⟩ := Option.map_eq_some_iff.mp hx
    have hq2 := hp.inn q (List.mem_of_getElem? hq)
    intro s1 H1 C' cl fp
    refine we_call F1 (hr.mono (by decide)) (wa_cons (we_var 1 rfl (wa_cons (we_var 3 rfl (wa_nil ⟨rfl, n, q, rfl, hq2.1, hq2.2, rfl, ?_⟩)))))
    rw [List.replicate_succ', List.map_append]; rfl
  rintro acc M' ⟨rfl, rfl⟩
  refine ⟨_, rfl, _, rfl, ?_⟩
  rw [List.all_eq_true.mpr fun b hb => by rw [List.eq_of_mem_replicate hb]; rfl]
  refine ww_or1 (wt_not (wt_val (we_call F2 (hr.mono (by decide)) (wa_cons (we_var 2 rfl (wa_nil ⟨rfl, ps, rfl, hp.asc, by omega, _, rfl, wss_nil ?_⟩))))))
  refine wss_cons (ws_fld (C := R) (we_var 1 rfl (we_var 0 rfl ⟨a, _, rfl, hM, X.cl, X.na _ (by decide +kernel), by decide, ?_⟩)))
  rw [wput1]
  refine wss_cons (ws_fld (C := R) (we_var 2 rfl (we_var 0 rfl ⟨a, _, rfl, mset_same, X.cl, X.na _ (by decide +kernel), by show 1 < 1000; decide, ?_⟩)))
  rw [mset_mset, wput2]
  generalize hf2 : ([("own_many", .int (n : Nat)), ("own_pairs", .tup (ps.map pairD))] : List (Str × D)) = f2
  refine wss_cons (ws_fld (C := R) (we_lc nd (blkOk_by (N := nWebInit) (sc := defScope s_Web___init__) (own := [("person", 4)]) (by decide +kernel)) (fun _ _ _ _ _ => pg_name (i := 4) nd rfl (Or.inl rfl)) (gt_name (by decide)) (fun _ _ _ _ _ => pts_nil) tk_nil (wi_range1 (F.bn _ (by decide +kernel)) (wa_cons (we_var 1 rfl (wa_nil ⟨_, rfl, by omega, by omega, ?_⟩))))))
  rw [show ((n : Nat) : Int).toNat = n by omega]
  refine ⟨by rw [rngD_len, sizeLine_eq]; omega, fun i acc M2 => ∃ qs : List Addr, qs.length = i ∧ acc = qs.map D.ob ∧ Fam (mset M' a (.ins R f2)) M2 qs (fun _ => []), ⟨[], rfl, rfl, .nil⟩, ?_, ?_⟩
  · rintro i x acc M2 hx ⟨qs, hql, rfl, hF⟩
    intro s1 H1 C' cl fp
    refine we_dnewK fun p hp0 => ⟨qs ++ [p], by rw [List.length_append, hql]; rfl, by rw [List.map_append]; rfl, hF.snoc hp0 rfl⟩
  rintro acc M2 ⟨qs, hql, rfl, hF⟩
  rw [rngD_len] at hql
  refine we_var 0 rfl ⟨a, _, rfl, (hF.at mset_same).1, X.cl, X.na _ (by decide +kernel), by rw [← hf2]; show 2 < 1000; decide, ?_⟩
  have hF2 := hF.upd (a := a) (o := .ins R ([("own_many", .int (n : Nat)), ("own_pairs", .tup (ps.map pairD)), ("own_friends", .lst (qs.map D.ob))] : List (Str × D))) mset_same
  rw [show putD "own_friends" (.lst (qs.map D.ob)) f2 = ([("own_many", .int (n : Nat)), ("own_pairs", .tup (ps.map pairD)), ("own_friends", .lst (qs.map D.ob))] : List (Str × D)) by rw [← hf2]; exact wput3]
  rw [mset_mset] at hF2
  generalize hf3 : ([("own_many", .int (n : Nat)), ("own_pairs", .tup (ps.map pairD)), ("own_friends", .lst (qs.map D.ob))] : List (Str × D)) = f3 at hF2
  have lk3 : f3.lookup ("own_friends" : Str) = some (D.lst (qs.map D.ob)) := by rw [← hf3]; rfl
  refine wss_cons (ws_for PassesOwn.never (wi_tup (we_var 2 rfl ⟨_, rfl, ?_⟩)))
  refine ⟨fun i ρ' M3 => ∃ o3 o4 o5, ρ' = [some (.ob a), some (.int (n : Nat)), some (.tup (ps.map pairD)), o3, o4, o5] ∧ Fam (mset M' a (.ins R f3)) M3 qs (fun j => frD (nb (ps.take i) j)), ⟨_, _, _, rfl, hF2⟩, ?_, ?_⟩
  · rintro i x ρ' M3 hx ⟨o3, o4, o5, rfl, hF3⟩
    rw [List.getElem?_map] at hx
    obtain ⟨q, hq, rfl⟩ := Option.map_eq_some_iff.mp hx
    have hq2 := hp.inn q (List.mem_of_getElem? hq)
    have hnew := asc_new hp.asc hq
    obtain ⟨x1, hx1⟩ : ∃ x1, qs[q.1]? = some x1 := ⟨_, List.getElem?_eq_getElem (by omega)⟩
    obtain ⟨x2, hx2⟩ : ∃ x2, qs[q.2]? = some x2 := ⟨_, List.getElem?_eq_getElem (by omega)⟩
    have hno : ∀ z ∈ ps.take i, z.1 < z.2 := fun z hz => (hp.inn z (List.mem_of_mem_take hz)).1
    have n1 : q.2 ∉ nb (ps.take i) q.1 := fun h => by
      rcases nb_iff.mp h with h | h
      · exact hnew h
      · have := hno _ h; simp at this; omega
    have n2 : q.1 ∉ nb (ps.take i) q.2 := fun h => by
      rcases nb_iff.mp h with h | h
      · have := hno _ h; simp at this; omega
      · exact hnew h
    have len : ∀ j, (frD (nb (ps.take i) j)).length < sizeLine := fun j => by
      have := nb_len (ps.take i) j
      rw [List.length_take] at this
      rw [frD, List.length_map, sizeLine_eq]; omega
    refine wg_tup ⟨rfl, rfl, wgs_cons (wg_name 3 (wgs_cons (wg_name 5 (wgs_nil ⟨rfl, ?_⟩) nd)) nd)⟩
    refine wss_cons (ws_asg (we_bl (wg_dputI hu1 (we_ix (we_fld (C := R) (we_var 0 rfl ⟨_, _, (hF3.at mset_same).1, X.cl, X.na _ (by decide +kernel), lk3, we_var 3 rfl ⟨_, _, rfl, ixL (atI_nat (by rw [List.getElem?_map, hx1]; rfl)), we_var 5 rfl ⟨x1, _, _, rfl, rfl, hF3.inn _ _ hx1, len _, ?_⟩⟩⟩))))))
    have hF4 := hF3.put (kvs := putKD (frD (nb (ps.take i) q.1)) (.inl (q.2 : Int)) (.bl true)) hx1
    have h4 := hF4.inn _ _ hx2
    rw [if_neg (by omega)] at h4
    refine wss_cons (ws_asg (we_bl (wg_dputI hu1 (we_ix (we_fld (C := R) (we_var 0 rfl ⟨_, _, (hF4.at mset_same).1, X.cl, X.na _ (by decide +kernel), lk3, we_var 5 rfl ⟨_, _, rfl, ixL (atI_nat (by rw [List.getElem?_map, hx2]; rfl)), we_var 3 rfl ⟨x2, _, _, rfl, rfl, h4, len _, ?_⟩⟩⟩))))))
    have hF5 := hF4.put (kvs := putKD (frD (nb (ps.take i) q.2)) (.inl (q.1 : Int)) (.bl true)) hx2
    refine wss_nil ⟨_, _, _, rfl, hF5.ext fun j hj => ?_⟩
    rw [take_snoc hq, nb_snoc, fr_snoc n1, fr_snoc n2]
    by_cases e2 : j = q.2
    · subst e2
      rw [if_pos rfl, if_neg (by omega), if_pos rfl]
    · rw [if_neg e2]
      by_cases e1 : j = q.1
      · subst e1
        rw [if_pos rfl, if_pos rfl]
      · rw [if_neg e1, if_neg (fun e => e1 e.symm), if_neg (fun e => e2 e.symm), List.append_nil]
  · rintro ρ' M3 ⟨o3, o4, o5, rfl, hF3⟩
    rw [List.length_map, List.take_length] at hF3
    refine wss_lockF hF3 fun M4 hF4 => ?_
    refine wss_insFzG (M1 := mset M' a (.ins R f3)) (fs' := webF n ps) (hF4.at mset_same).1 hF4.les mset_same ?_ (wss_nil ?_)
    · have := FamF.fz (M := mset M' a (.ins R f3)) (M' := M4) (g := fun j => frD (nb ps j)) (qs := qs) 0 (fun i q hq => by rw [Nat.zero_add]; exact hF4.inn i q hq) hF4.new
      rw [hql, ← List.range_eq_range'] at this
      have key : FzG M4 (mset M' a (.ins R f3)) ([("own_many", .int (n : Nat)), ("own_pairs", .tup (ps.map pairD)), ("own_friends", .lst (qs.map D.ob))] : List (Str × D)) (webF n ps) := .same (.same (.cons (.lst this) .nil))
      rw [hf3] at key; exact key
    · rw [mset_mset]; exact hc
theorem insW {M : Mp} {n : Nat} {ps : List (Nat × Nat)} : InsOf M R (webD R n ps) (webF n ps) := ⟨rfl, rfl⟩
/-- Web(e1, e2) -/
theorem we_web {X : Cx} {ρ : Rho} {M : Mp} {Φ : D → Mp → Prop} {e1 e2 : Expr} {p pos : Pos} {k : Nat} (F : Kc X.prog X.w X.K X.mg X.base "Web" R [] k 3 (cWebInit R)) (hr : Room (k + 1) X.A)
    (q : WA X ρ M [e1, e2] fun ds M1 => ∃ n ps, ds = [.int (n : Nat), .tup (ps.map pairD)] ∧ 1 ≤ n ∧ n ≤ 30 ∧ Prs n ps ∧ Φ (webD R n ps) M1) (hg : Gl X "Web" := by rfl)
    (he : starEach [e1, e2] X.env = (false, eval e1 X.env) :: starEach [e2] X.env := by rfl) (hpl : (backTo pos (starEach [e2] X.env)).any (·.1) = false := by rfl) : WE X ρ M (.Call (.Name "Web" p) [e1, e2] [] pos) Φ :=
  we_make F hr (q.imp fun ds M1 ⟨n, ps, e1, h1, h2, h3, h4⟩ a ha => ⟨by rw [e1]; rfl, a, n, ps, by rw [e1]; rfl, h1, h2, h3, mset_same, rfl, by
    rw [mset_mset]
    exact ⟨_, M1, les_new ha, .ins mset_same ha, h4⟩⟩) hg (he := he) (hpl := hpl)
end
end W
namespace DL
open PySem PySem.Spec PyProof.Rows L2
/-- pairs of numbers and items -/
def enumD (xs : List D) : List D := zipD ((List.range xs.length).map fun (i : Nat) => D.int (i : Nat)) xs
theorem enumD_len (xs : List D) : (enumD xs).length = xs.length := by simp [enumD, zipD]
theorem enumD_get {xs : List D} {i : Nat} {d : D} (h : (enumD xs)[i]? = some d) : ∃ x, xs[i]? = some x ∧ d = .tup [.int (i : Nat), x] := by
  obtain ⟨x, y, h1, h2, rfl⟩ := zipD_get h
  rw [List.getElem?_map] at h1
  obtain ⟨j, hj, rfl⟩ := Option.map_eq_some_iff.mp h1
  have q : i < (List.range xs.length).length := (List.getElem?_eq_some_iff.mp hj).1
  rw [List.length_range] at q
  rw [List.getElem?_range q] at hj
  obtain rfl := Option.some.inj hj
  exact ⟨y, h2, rfl⟩
section
variable {X : Cx} {ρ : Rho} {M : Mp} {Φ : List D → Mp → Prop} {a b e : Expr} {p pos : Pos}
theorem wi_enumL {elts : List Expr} {kk : Nat} {tpos : Pos} (hm : X.mg "enumerate" = none) (h : WE X ρ M e fun d M1 => ∃ xs, d = .lst xs ∧ Φ (enumD xs) M1) (hg : Gl X "enumerate" := by rfl) (hs : starEach [e] X.env = [(false, eval e X.env)] := by rfl) : WI X ρ M (.Tuple elts kk tpos) (.Call (.Name "enumerate" p) [e] [] pos) Φ := .mk fun σ H R en w k =>
  iOf (pi_enum hg hm (pa_cons pe_sem pa_nil hs) hs) (h.run σ H _ en w fun v d H1 M1 e1 w1 r1 hz => by
    obtain ⟨xs, rfl, hz⟩ := hz
    obtain ⟨p1, vs, rfl, hq1, rs1⟩ := r1.lstKeep (.inl rfl)
    refine ⟨p1, vs, rfl, hq1 _ _ _ ExI.refl, k _ _ H1 M1 e1 w1 ?_ hz⟩
    intro i M Z H e w
    refine ⟨fun hi => ⟨vs, hq1 _ _ _ e, ?_⟩, fun d hd => ?_⟩
    · rw [rs1.length, hi, enumD_len]; exact Nat.le_refl _
    · obtain ⟨x, hx, rfl⟩ := enumD_get hd
      obtain ⟨v, hv, rv⟩ := rs1.get hx
      refine ⟨⟨vs, v, hq1 _ _ _ e, hv⟩, fun z H' yl => ?_⟩
      obtain ⟨T, v', rfl, hT, rfl, h3⟩ := yl
      have z1 := h3 vs (hq1 _ _ _ e)
      rw [hv] at z1; cases z1
      have x3 : Ext M Z H M (upd H T (.tup [.int (i : Nat), v])) := Ext.new w hT
      exact ⟨x3, w.new hT, .tup (.inl upd_same) (w.fresh hT) (.cons (.int _) (.cons ((rv.monoI e).mono x3) .nil))⟩)
end
end DL
namespace PL
open PySem SX TL
mutual
def nds : T → Nat
  | .one => 1
  | .name _ => 1
  | .cop _ _ t => nds t + 1
  | .row _ ts => ndss ts + 1
def ndss : List T → Nat
  | [] => 0
  | t :: ts => nds t + ndss ts
end
def lmG : Nat → Nat
  | 0 => 1
  | d + 1 => 3 * lmG d + 60
def ndG : Nat → Nat
  | 0 => 1
  | d + 1 => 3 * ndG d + 1
/-- told plans of at most m people, d deep -/
def Gt (t : T) (m d : Nat) : Prop := Good t ∧ Told t ∧ ppl t ≤ m ∧ ht t ≤ d ∧ (txt t).length ≤ lmG d ∧ nds t ≤ ndG d
/-- told plans that go deep -/
def Dp (t : T) (k : Nat) : Prop := Good t ∧ Told t ∧ ppl t ≤ 4 ^ k ∧ ht t ≤ k ∧ (txt t).length ≤ 1 + 10 * k ∧ nds t ≤ 1 + 3 * k
end PL
namespace PL
open PySem SX TL
mutual
def hal : T → Nat
  | .one => 1
  | .name _ => 1
  | .cop s n t => if s = true then hal t + (n * ppl t - ppl t) else hal t
  | .row s ts => if s = true then ppls ts - hdf ts else halM ts
def hdf : List T → Nat
  | [] => 0
  | t :: ts => max (ppl t - hal t) (hdf ts)
def halM : List T → Nat
  | [] => 0
  | t :: ts => max (hal t) (halM ts)
end
end PL
namespace PL
open PySem SX TL
theorem is_pers_mem : ∀ {p : List Nat} {t : T}, Ok t → isPers t p = true → p ∈ persL t
  | [], t, ok, h => by
    obtain rfl := pers_nil h
    rw [persL]; exact List.mem_singleton.mpr rfl
  | i :: p, t, ok, h => by
    obtain ⟨u, hi, hp, hu⟩ := pers_cons h
    obtain ⟨A, B, h1, _⟩ := pers_split ok hi hp
    rw [h1]
    exact List.mem_append_right _ (List.mem_append_left _ (List.mem_map_of_mem (is_pers_mem (piece_Ok hp ok) hu)))
def lim : Nat → Nat
  | 0 => 1
  | d + 1 => 4 * lim d + 20
end PL
namespace PL
open PySem SX TL
/-- whom the s-th one of some people knows, by numbers -/
def nearL (t : T) (s : Nat) : List Nat := (List.range (persL t).length).filter fun j => knowsB t ((persL t).getD s []) ((persL t).getD j [])
end PL
namespace W
open PySem PySem.Spec PyProof.Rows L2 DL SX PL SlX
/-- whether two people by their numbers know one another -/
def kn (t : T) (a b : Nat) : Bool := knowsB t ((persL t).getD a []) ((persL t).getD b [])
def rowP (t : T) (a : Nat) : List (Nat × Nat) := ((List.range (persL t).length).filter fun b => decide (a < b) && kn t a b).map fun b => (a, b)
def upP (t : T) (i : Nat) : List (Nat × Nat) := (List.range i).flatMap (rowP t)
def prsT (t : T) : List (Nat × Nat) := upP t (persL t).length
theorem upP_succ (t : T) (i : Nat) : upP t (i + 1) = upP t i ++ rowP t i := by unfold upP; rw [List.range_succ, List.flatMap_append]; simp
theorem rowP_len (t : T) (a : Nat) : (rowP t a).length ≤ (persL t).length := by
  unfold rowP
  rw [List.length_map]
  exact Nat.le_trans (List.length_filter_le _ _) (by rw [List.length_range]; exact Nat.le_refl _)
theorem upP_len (t : T) : ∀ i, (upP t i).length ≤ i * (persL t).length
  | 0 => by simp [upP]
  | i + 1 => by
    rw [upP_succ, List.length_append, Nat.succ_mul]
    exact Nat.add_le_add (upP_len t i) (rowP_len t i)
theorem prs_T (t : T) : Prs (persL t).length (prsT t) := by
  refine ⟨fun q hq => ?_, ?_⟩
  · unfold prsT upP rowP at hq
    obtain ⟨a, ha, h⟩ := List.mem_flatMap.mp hq
    obtain ⟨b, hb, rfl⟩ := List.mem_map.mp h
    obtain ⟨h1, h2⟩ := List.mem_filter.mp hb
    rw [Bool.and_eq_true, decide_eq_true_eq] at h2
    exact ⟨h2.1, List.mem_range.mp h1⟩
  · unfold prsT upP
    rw [List.pairwise_flatMap]
    refine ⟨fun a _ => ?_, ?_⟩
    · unfold rowP
      rw [List.pairwise_map]
      exact (List.Pairwise.filter _ List.pairwise_lt_range).imp fun h => .inr ⟨rfl, h⟩
    · refine List.pairwise_lt_range.imp fun {a b} h x hx y hy => ?_
      unfold rowP at hx hy
      obtain ⟨_, _, rfl⟩ := List.mem_map.mp hx
      obtain ⟨_, _, rfl⟩ := List.mem_map.mp hy
      exact .inl h
end W
namespace W
open PySem PySem.Spec PyProof.Rows L2 DL SX PL SlX
def kdS : T → Str
  | .cop _ _ _ => "copies"
  | .row _ _ => "row"
  | _ => "one"
def wdS : T → Str
  | .cop s _ _ => wrd s
  | .row s _ => wrd s
  | _ => ""
def mnT : T → Nat
  | .cop _ n _ => n
  | _ => 1
def pts : T → List T
  | .cop _ _ t => [t]
  | .row _ ts => ts
  | _ => []
mutual
def trD : T → D
  | .cop s n t => .tup [.str "copies", .str (wrd s), .int (n : Nat), .tup [trD t]]
  | .row s ts => .tup [.str "row", .str (wrd s), .int ((1 : Nat) : Int), .tup (trDs ts)]
  | _ => .tup [.str "one", .str "", .int ((1 : Nat) : Int), .tup []]
def trDs : List T → List D
  | [] => []
  | t :: ts => trD t :: trDs ts
end
theorem trDs_map : ∀ ts : List T, trDs ts = ts.map trD
  | [] => by rw [trDs]; rfl
  | t :: ts => by rw [trDs, trDs_map ts, List.map_cons]
theorem trD_eq (t : T) : trD t = .tup [.str (kdS t), .str (wdS t), .int (mnT t : Nat), .tup ((pts t).map trD)] := by
  cases t with
  | one => simp [trD, kdS, wdS, mnT, pts]
  | name x => simp [trD, kdS, wdS, mnT, pts]
  | cop s n u => simp [trD, kdS, wdS, mnT, pts]
  | row s ts => simp [trD, kdS, wdS, mnT, pts, trDs_map]
theorem tr0 {M : Mp} (t : T) : IxD M (trD t) 0 (.str (kdS t)) := by rw [trD_eq]; exact ixT (atI_nat (j := 0) rfl)
theorem tr1 {M : Mp} (t : T) : IxD M (trD t) 1 (.str (wdS t)) := by rw [trD_eq]; exact ixT (atI_nat (j := 1) rfl)
theorem tr2 {M : Mp} (t : T) : IxD M (trD t) 2 (.int (mnT t : Nat)) := by rw [trD_eq]; exact ixT (atI_nat (j := 2) rfl)
theorem tr3 {M : Mp} (t : T) : IxD M (trD t) 3 (.tup ((pts t).map trD)) := by rw [trD_eq]; exact ixT (atI_nat (j := 3) rfl)
theorem kd_one {t : T} (h : Told t) : decide (kdS t = ("one" : Str)) = isOneT t := by
  cases t with
  | one => decide +kernel
  | name x => exact h.elim
  | cop s n u => show decide (("copies" : Str) = "one") = false; decide +kernel
  | row s ts => show decide (("row" : Str) = "one") = false; decide +kernel
theorem kd_cop (t : T) : decide (kdS t = ("copies" : Str)) = isCop t := by
  cases t with
  | one => decide +kernel
  | name x => show decide (("one" : Str) = "copies") = false; decide +kernel
  | cop s n u => show decide (("copies" : Str) = "copies") = true; decide +kernel
  | row s ts => show decide (("row" : Str) = "copies") = false; decide +kernel
theorem wd_int (t : T) : decide (wdS t = ("introduced" : Str)) = intr t := by
  cases t with
  | one => decide +kernel
  | name x => show decide (("" : Str) = "introduced") = false; decide +kernel
  | cop s n u => exact wrd_intr s
  | row s ts => exact wrd_intr s
theorem pts_kids (t : T) : pts t = (kids t).map (·.2) := by
  cases t with
  | one => rfl
  | name x => rfl
  | cop s n u => rfl
  | row s ts =>
    show ts = (ts.map fun t => (1, t)).map (·.2)
    rw [List.map_map]; exact (List.map_id ts).symm
theorem pts_ht {t u : T} (h : u ∈ pts t) : ht u < ht t := by
  rw [pts_kids] at h
  obtain ⟨q, hq, rfl⟩ := List.mem_map.mp h
  exact kids_ht hq
theorem pts_Ok {t u : T} (h : u ∈ pts t) (ok : Ok t) : Ok u := by
  rw [pts_kids] at h
  obtain ⟨q, hq, rfl⟩ := List.mem_map.mp h
  exact kids_Ok hq ok
theorem pts_len {t : T} (ok : Ok t) : (pts t).length ≤ 100000 := by
  rw [pts_kids, List.length_map]
  have := kids_len ok.1
  have := ok.2.2
  omega
theorem mn_le {t : T} (ok : Ok t) : mnT t ≤ 10 ^ 30 := by
  cases t with
  | cop s n u => exact ok.1.2.1
  | _ => exact Nat.one_le_pow _ _ (by decide)
theorem ppl_pts {t : T} (h : isOneT t = false) (ht : Told t) : mnT t * ((pts t).map ppl).sum = ppl t := by
  cases t with
  | one => cases h
  | name x => exact ht.elim
  | cop s n u => rw [ppl]; simp [mnT, pts]
  | row s ts => rw [ppl, ppls_sum]; simp [mnT, pts]
theorem mn_pos {t : T} (ok : Ok t) : 1 ≤ mnT t := by
  cases t with
  | cop s n u => have := ok.1.1; show 1 ≤ n; omega
  | _ => exact Nat.le_refl _
theorem sum_lt {t : T} (ok : Ok t) {x y : Nat} (h : mnT t * x = y) (hy : y ≤ ppl t) : x < 16 ^ (txt t).length := by
  have h1 := mn_pos ok
  have h2 : 1 * x ≤ mnT t * x := Nat.mul_le_mul_right _ h1
  have h3 := ppl_lt ok.1
  omega
section
variable {P : Program} {w : World} {K : PySem.W.Frag} {mg : Str → Option Value} {base : Heap} {C G : Addr}
def cPers1 : Con := fun ds M Φ => ds = [] ∧ Φ (trD .one) M
theorem ok_person1 : BodyOk P w K mg base "_law_person" s__law_person [] 0 0 cPers1 := by
  intro f cdv A outer s H E hr ds M Φ hl hc
  obtain ⟨rfl, hc⟩ := hc
  refine wss_cons (ws_ret (we_tup (wa_cons (we_str (wa_cons (we_str (wa_cons (we_int (wa_cons (we_tup (wa_nil ⟨Nat.zero_le _, wa_nil ⟨by show 4 ≤ sizeLine; decide, Lets.of ?_⟩⟩)))))))))))
  rw [trD] at hc
  · exact hc
  · intro _ _ _ h; cases h
  · intro _ _ h; cases h
def cPartsOf : Con := fun ds M Φ => ∃ t, ds = [trD t] ∧ Ok t ∧ Φ (.int (PL.cnt t : Nat)) M
theorem cnt_pts {t : T} (h : isCop t = false) : PL.cnt t = (pts t).length := by
  cases t with
  | one => rfl
  | name x => rfl
  | cop s n u => cases h
  | row s ts => rw [cnt_row]; rfl
theorem ok_tparts_of (F : Fx w K mg) : BodyOk P w K mg base "_law_parts_of" s__law_parts_of ["_law_tree"] 1 0 cPartsOf := by
  intro f cdv A outer s H E hr ds M Φ hl hc
  obtain ⟨t, rfl, ok, hc⟩ := hc
  refine wss_cons (ws_ret (we_if (wt_eqS (we_ix (we_var 0 rfl (we_int ⟨0, _, rfl, tr0 t, we_str ⟨_, rfl, ?_⟩⟩))))))
  rw [kd_cop]
  cases h1 : isCop t with
  | true =>
    cases t with
    | cop s n u =>
      rw [cnt_cop] at hc
      exact we_ix (we_var 0 rfl (we_int ⟨2, _, rfl, tr2 _, Lets.of hc⟩))
    | _ => cases h1
  | false =>
    rw [cnt_pts h1] at hc
    refine we_len (F.bn _ (by decide +kernel)) (we_ix (we_var 0 rfl (we_int ⟨3, _, rfl, tr3 _, _, lenT, Lets.of ?_⟩)))
    rw [List.length_map]; exact hc
def cPartT : Con := fun ds M Φ => ∃ t i u, ds = [trD t, .int (i : Nat)] ∧ piece t i = some u ∧ Φ (trD u) M
theorem ok_tpart : BodyOk P w K mg base "_law_part" s__law_part ["_law_tree", "_law_which"] 2 0 cPartT := by
  intro f cdv A outer s H E hr ds M Φ hl hc
  obtain ⟨t, i, u, rfl, hu, hc⟩ := hc
  refine wss_cons (ws_ret (we_if (wt_eqS (we_ix (we_var 0 rfl (we_int ⟨0, _, rfl, tr0 t, we_str ⟨_, rfl, ?_⟩⟩))))))
  rw [kd_cop]
  cases h1 : isCop t with
  | true =>
    cases t with
    | cop s n v =>
      obtain rfl : v = u := Option.some.inj hu
      exact we_ix (we_ix (we_var 0 rfl (we_int ⟨3, _, rfl, tr3 _, we_int ⟨0, _, rfl, ixT (atI_nat (j := 0) rfl), Lets.of hc⟩⟩)))
    | _ => cases h1
  | false =>
    cases t with
    | row s ts =>
      have hu : ts[i]? = some u := hu
      exact we_ix (we_ix (we_var 0 rfl (we_int ⟨3, _, rfl, tr3 _, we_var 1 rfl ⟨_, _, rfl, ixT (atI_nat (by show (ts.map trD)[i]? = _; rw [List.getElem?_map, hu]; rfl)), Lets.of hc⟩⟩)))
    | cop s n v => cases h1
    | one => cases hu
    | name x => cases hu
def cSize (h : Nat) : Con := fun ds M Φ => ∃ t, ds = [trD t] ∧ Ok t ∧ ht t ≤ h ∧ Φ (.int (ppl t : Nat)) M
abbrev nSize : List Str := ["_law_tree", "_law_kind", "_law_word", "_law_many", "_law_parts", "_law_part_here"]
theorem ok_size (h : Nat) (F : Fx w K mg) (F1 : ∀ j, h = j + 1 → Fc P w K mg base "_law_size" [] (j + 1) 1 (cSize j)) : BodyOk P w K mg base "_law_size" s__law_size nSize 1 h (cSize h) := by
  intro f cdv A outer s H E hr ds M Φ hl hc
  obtain ⟨t, rfl, ok, hh, hc⟩ := hc
  have nd : nSize.Nodup := by decide +kernel
  refine wss_cons (ws_asg (we_var 0 rfl (wg_tup ⟨trD_eq t, rfl, wgs_cons (wg_name 1 (wgs_cons (wg_name 2 (wgs_cons (wg_name 3 (wgs_cons (wg_name 4 (wgs_nil ⟨rfl, ?_⟩) nd)) nd)) nd)) nd)⟩)))
  refine wss_cons (ws_if (wt_eqS (we_var 1 rfl (we_str ⟨_, rfl, ?_⟩))))
  rw [kd_one ok.2.1]
  cases h1 : isOneT t with
  | true =>
    cases t with
    | one => rw [ppl] at hc; exact wss_cons (ws_ret (we_int (Lets.of hc)))
    | _ => cases h1
  | false =>
  have e := ppl_pts h1 ok.2.1
  have hpl := pts_len ok
  refine wss_nil (wss_cons (ws_ret (we_mulI (we_var 3 rfl (we_sum (F.bn _ (by decide +kernel)) (we_lc nd (blkOk_by (N := nSize) (sc := defScope s__law_size) (own := [("_law_part_here", 5)]) (by decide +kernel)) (fun _ _ _ _ _ => pg_name (i := 5) nd rfl (Or.inl rfl)) (gt_name (by decide)) (fun _ _ _ _ _ => pts_nil) tk_nil (wi_tup (we_var 4 rfl ⟨_, rfl, ?_⟩))))))))
  refine ⟨by rw [List.length_map, sizeLine_eq]; omega, fun i acc M' => M' = M ∧ acc = (((pts t).take i).map fun u => ((ppl u : Nat) : Int)).map D.int, ⟨rfl, rfl⟩, ?_, ?_⟩
  · rintro i x acc M' hx ⟨rfl, rfl⟩
    rw [List.getElem?_map] at hx
    obtain ⟨u, hu, rfl⟩ := Option.map_eq_some_iff.mp hx
    have hm : u ∈ pts t := List.mem_of_getElem? hu
    have oku := pts_Ok hm ok
    have hut := pts_ht hm
    obtain ⟨j, rfl⟩ : ∃ j, h = j + 1 := ⟨h - 1, by omega⟩
    intro s1 H1 C' cl fp
    refine we_call (F1 j rfl) (hr.mono (by omega)) (wa_cons (we_var 5 rfl (wa_nil ⟨rfl, u, rfl, oku, by omega, rfl, ?_⟩)))
    rw [take_snoc hu, List.map_append, List.map_append]; rfl
  · rintro acc M' ⟨rfl, rfl⟩
    rw [List.length_map, List.take_length]
    refine ⟨_, rfl, _, _, rfl, rfl, ?_, Lets.of ?_⟩
    · rw [sum_cast]; exact mul_ok (mn_le ok) (sum_lt ok e (Nat.le_refl _)) ok.2.2
    · rw [sum_cast, ← Int.natCast_mul, e]; exact hc
end
end W
namespace W
open PySem PySem.Spec PyProof.Rows L2 DL SX PL SlX
theorem mset_self {M : Mp} {p : Addr} {o : MO} (h : M p = some o) : mset M p o = M := by
  funext b
  unfold mset
  split
  · rename_i e; rw [e, h]
  · rfl
theorem mset_comm {M : Mp} {p q : Addr} {o u : MO} (h : p ≠ q) : mset (mset M q u) p o = mset (mset M p o) q u := by
  funext b
  unfold mset
  by_cases h1 : b = p
  · rw [if_pos h1]
    rw [if_neg (fun e => h (h1.symm.trans e)), if_pos h1]
  · rw [if_neg h1]
    by_cases h2 : b = q
    · rw [if_pos h2, if_pos h2]
    · rw [if_neg h2, if_neg h2, if_neg h1]
section
variable {P : Program} {w : World} {K : PySem.W.Frag} {mg : Str → Option Value} {base : Heap} {C G : Addr}
def cPot : Con := fun ds M Φ => ∃ ns pl, ds = [scrD ns, .int (pl : Nat)] ∧ pl ≤ 1000 ∧ ∀ q a c, M q = none → cOk c → Φ (.ob q) (mset M q (potL a c 0))
abbrev nPot : List Str := ["_law_script", "_law_which", "_law_cell", "_law_own", "_law_stirred"]
theorem ok_pot (F : Fx w K mg) : BodyOk P w K mg base "_law_pot" s__law_pot nPot 2 0 cPot := by
  intro f cdv A outer s H E hr ds M Φ hl hc
  obtain ⟨ns, pl, rfl, hpl, hc⟩ := hc
  have nd : nPot.Nodup := by decide +kernel
  have rest : ∀ cell : Int, WSs (bx P w K mg base nPot "_law_pot" (defScope s__law_pot) f cdv A outer s H E) [some (scrD ns), some (.int (pl : Nat)), some (.int cell), none, none] M ((defBody s__law_pot).drop 1) { nx := fun _ M' => Φ .non M', rt := Lets Φ } := fun cell => by
    refine wss_cons (ws_set 3 nd (we_mulS (we_modI (we_intN (F.bn _ (by decide +kernel)) (we_abs (F.bn _ (by decide +kernel)) (we_var 2 rfl ⟨_, rfl, .inl ⟨_, rfl, we_powW (we_powI (we_int (we_int ⟨_, _, rfl, rfl, ⟨by decide, by decide, by decide⟩, we_int ⟨_, _, rfl, rfl, ⟨by decide, by decide +kernel⟩, _, _, rfl, rfl, by decide +kernel, ?_⟩⟩)))⟩⟩))))))
    refine we_intN (F.bn _ (by decide +kernel)) (we_geI (we_abs (F.bn _ (by decide +kernel)) (we_var 2 rfl ⟨_, rfl, we_powI (we_int (we_int ⟨_, _, rfl, rfl, ⟨by decide, by decide, by decide⟩, _, _, rfl, rfl, .inr ⟨_, rfl, _, _, rfl, rfl, .inr ⟨?_, ?_⟩, ?_⟩⟩))⟩)))
    · exact (bb _).1
    · exact (bb _).2
    have b0 : 0 ≤ cell % 2305843009213693951 := Int.emod_nonneg _ (by decide)
    have b1 : cell % 2305843009213693951 < 2305843009213693951 := Int.emod_lt_of_pos _ (by decide)
    refine wss_cons (ws_set 4 nd (we_addI (we_addI (we_mulS (we_modI (we_intN (F.bn _ (by decide +kernel)) (we_var 2 rfl (.inl ⟨_, rfl, we_int ⟨_, _, rfl, rfl, by decide, we_int ⟨_, _, rfl, rfl, .inl ⟨by omega, by omega⟩, we_mulS (we_mulS (we_int (we_var 1 rfl ⟨_, _, rfl, rfl, .inl ⟨by decide, by decide⟩, we_var 1 rfl ⟨_, _, rfl, rfl, .inr ⟨by omega, by omega⟩, _, _, rfl, rfl, we_int ⟨_, _, rfl, rfl, ?_⟩⟩⟩)))⟩⟩⟩))))))))
    refine wss_cons (ws_ret (we_lstM (wa_cons (we_var 3 rfl (wa_cons (we_modI (we_intN (F.bn _ (by decide +kernel)) (we_var 4 rfl (.inl ⟨_, rfl, we_int ⟨_, _, rfl, rfl, by decide, wa_cons (we_int (wa_nil ⟨sz3, fun q hq => Lets.of ?_⟩))⟩⟩)))))))))
    exact hc q _ _ hq ⟨Int.emod_nonneg _ (by decide), Int.emod_lt_of_pos _ (by decide)⟩
  refine wss_cons (ws_set 2 nd (we_if (wt_ltI (we_var 1 rfl (we_len (F.bn _ (by decide +kernel)) (we_var 0 rfl ⟨_, lenR, _, _, rfl, rfl, ?_⟩))))))
  refine ite_dec (fun h => ?_) fun h => ?_
  · rw [List.length_map] at h
    have hq : (ns.map D.int)[pl]? = some (.int ns[pl]) := by rw [List.getElem?_map, List.getElem?_eq_getElem (by omega)]; rfl
    exact we_ix (we_var 0 rfl (we_var 1 rfl ⟨_, _, rfl, ixR (atI_nat hq), rest _⟩))
  · exact we_addI (we_mulS (we_int (we_var 1 rfl ⟨_, _, rfl, rfl, .inl ⟨by decide, by decide⟩, we_int ⟨_, _, rfl, rfl, rest _⟩⟩)))
theorem word_mem {x : D} (h : x ∈ [D.str "beside", .str "introduced"]) : ∃ b, x = .str (wrd b) := by
  rcases List.mem_cons.mp h with rfl | h
  · exact ⟨false, rfl⟩
  · rw [List.mem_singleton.mp h]; exact ⟨true, rfl⟩
theorem log31 {n : Nat} (h : n ≤ 10 ^ 30) : ((n : Nat) : Int).natAbs.log2 < 9000 := by
  have e : ((n : Nat) : Int).natAbs < 16 ^ 31 := by
    have : (10 : Nat) ^ 30 < 16 ^ 31 := by decide +kernel
    omega
  have := log16 e
  omega
end
end W
namespace PL
open PySem SX TL
def lmS : Nat → Nat
  | 0 => 1
  | d + 1 => 4 * lmS d + 60
def ndS : Nat → Nat
  | 0 => 1
  | d + 1 => 4 * ndS d + 1
/-- told plans, d deep, of few parts -/
def Sh (t : T) (d : Nat) : Prop := Good t ∧ Told t ∧ ht t ≤ d ∧ (txt t).length ≤ lmS d ∧ nds t ≤ ndS d
def St (t : T) (m d : Nat) : Prop := Sh t d ∧ ppl t ≤ m
theorem sh_one (d : Nat) : Sh .one d := by
  refine ⟨trivial, trivial, by rw [ht]; exact Nat.zero_le _, ?_, ?_⟩
  · rw [txt]
    cases d with
    | zero => exact Nat.le_refl _
    | succ d => show 1 ≤ 4 * lmS d + 60; omega
  · rw [nds]
    cases d with
    | zero => exact Nat.le_refl _
    | succ d => show 1 ≤ 4 * ndS d + 1; omega
theorem st_one {m : Nat} (d : Nat) (h : 1 ≤ m) : St .one m d := ⟨sh_one d, by rw [ppl]; exact h⟩
theorem st_cop {t : T} {n m d : Nat} (b : Bool) (h : St t (m / n) d) (h1 : 2 ≤ n) (h2 : n ≤ 1000) : St (.cop b n t) m (d + 1) := by
  obtain ⟨⟨g1, g2, g4, g5, g6⟩, g3⟩ := h
  have hlen : (numL n).length ≤ 4 := numL_len (by decide) (Nat.lt_of_le_of_lt h2 (by decide))
  refine ⟨⟨⟨h1, Nat.le_trans h2 (by decide), g1⟩, g2, by rw [ht]; omega, ?_, ?_⟩, ?_⟩
  · rw [txt]
    simp only [List.length_cons, List.length_append, List.length_nil]
    show _ ≤ 4 * lmS d + 60
    omega
  · rw [nds]
    show _ ≤ 4 * ndS d + 1
    omega
  · rw [ppl]
    exact Nat.le_trans (Nat.mul_le_mul_left _ g3) (Nat.mul_div_le m n)
theorem shs_all {d : Nat} (b : Bool) : ∀ {ts : List T}, (∀ t ∈ ts, Sh t d) → Goods ts ∧ Tolds ts ∧ hts ts ≤ d ∧ (joinL (sep b) (txts ts)).length ≤ ts.length * (lmS d + 3) ∧ ndss ts ≤ ts.length * ndS d
  | [], _ => ⟨trivial, trivial, by rw [hts]; exact Nat.zero_le _, by rw [txts, joinL]; exact Nat.zero_le _, by rw [ndss]; exact Nat.zero_le _⟩
  | [t], h => by
    obtain ⟨g1, g2, g4, g5, g6⟩ := h t List.mem_cons_self
    refine ⟨⟨g1, trivial⟩, ⟨g2, trivial⟩, by rw [hts, hts]; simp; exact g4, ?_, by rw [ndss, ndss]; simp; exact g6⟩
    rw [txts, txts, joinL]
    simp; omega
  | t :: u :: ts, h => by
    obtain ⟨g1, g2, g4, g5, g6⟩ := h t List.mem_cons_self
    obtain ⟨h1, h2, h4, h5, h6⟩ := shs_all b (ts := u :: ts) fun x hx => h x (List.mem_cons_of_mem _ hx)
    refine ⟨⟨g1, h1⟩, ⟨g2, h2⟩, by rw [hts]; omega, ?_, ?_⟩
    · have e1 : joinL (sep b) (txts (t :: u :: ts)) = txt t ++ (sep b ++ joinL (sep b) (txts (u :: ts))) := by rw [txts, txts, joinL]
      rw [e1, List.length_append, List.length_append, sep_len, List.length_cons, Nat.succ_mul]
      omega
    · rw [ndss, List.length_cons, Nat.succ_mul]; omega
theorem st_row {ts : List T} {m d : Nat} (b : Bool) (h : ∀ t ∈ ts, Sh t d) (h1 : 2 ≤ ts.length) (h2 : ts.length ≤ 4) (h3 : ppls ts ≤ m) : St (.row b ts) m (d + 1) := by
  obtain ⟨g1, g2, g4, g5, g6⟩ := shs_all b h
  refine ⟨⟨⟨h1, g1⟩, g2, by rw [ht]; omega, ?_, ?_⟩, by rw [ppl]; exact h3⟩
  · rw [txt]
    simp only [List.length_cons, List.length_append, List.length_nil]
    have : ts.length * (lmS d + 3) ≤ 4 * (lmS d + 3) := Nat.mul_le_mul_right _ h2
    show _ ≤ 4 * lmS d + 60
    omega
  · rw [nds]
    have : ts.length * ndS d ≤ 4 * ndS d := Nat.mul_le_mul_right _ h2
    show _ ≤ 4 * ndS d + 1
    omega
theorem sh_ok {t : T} {d : Nat} (h : Sh t d) (hd : d ≤ 5) : Ok t ∧ ht t ≤ 5 ∧ nds t ≤ 1365 := by
  obtain ⟨g1, g2, g4, g5, g6⟩ := h
  have : lmS d ≤ 21484 ∧ ndS d ≤ 1365 := by
    match d, hd with
    | 0, _ => decide
    | 1, _ => decide
    | 2, _ => decide
    | 3, _ => decide
    | 4, _ => decide
    | 5, _ => decide
  exact ⟨⟨g1, g2, by omega⟩, by omega, by omega⟩
theorem ppls_snoc (ts : List T) (t : T) : ppls (ts ++ [t]) = ppls ts + ppl t := by
  rw [ppls_sum, ppls_sum, List.map_append, List.sum_append]; simp
end PL
namespace W
open PySem PySem.Spec PyProof.Rows L2 DL SX PL SlX
def smc : Nat → Nat
  | 0 => 0
  | d + 1 => 4 + 4 * smc d
theorem atI_last {α : Type} (l : List α) (x : α) : atI (l ++ [x]) (-1) = some x := by
  unfold atI ixN
  simp
  rw [if_pos (by omega), show (-1 + ((l.length : Int) + 1)).toNat = l.length by omega]
  simp
section
variable {P : Program} {w : World} {K : PySem.W.Frag} {mg : Str → Option Value} {base : Heap} {C G : Addr}
def cSm (dp : Nat) : Con := fun ds M Φ => ∃ p a c e m, ds = [.ob p, .int (m : Nat), .int (dp : Nat)] ∧ 1 ≤ m ∧ m ≤ 1000 ∧ M p = some (potL a c e) ∧ cOk c ∧ 0 ≤ e ∧ e + (smc dp : Nat) < 100000 ∧ ∀ t a' e', St t m dp → e ≤ e' → e' ≤ e + (smc dp : Nat) → Φ (trD t) (mset M p (potL a' c e'))
abbrev nSm : List Str := ["_law_pot_here", "_law_most", "_law_deep", "_law_way", "_law_word", "_law_many", "_law_parts", "_law_left", "_law_lap", "_law_part_here"]
theorem ok_small (dp : Nat) (h5 : dp ≤ 6) (F : Fx w K mg) (F1 : Fc P w K mg base "_law_take" [] 1 2 cTake) (F2 : Fc P w K mg base "_law_of" [] 2 2 cOf) (F3 : Fc P w K mg base "_law_person" [] 1 0 cPers1) (F4 : Fc P w K mg base "_law_size" [] 6 1 (cSize 5)) (F5 : ∀ j, dp = j + 1 → Fc P w K mg base "_law_small" [] (j + 7) 3 (cSm j)) :
    BodyOk P w K mg base "_law_small" s__law_small nSm 3 (dp + 6) (cSm dp) := by
  intro f cdv A outer st H E hr ds M Φ hl hc
  obtain ⟨p, a, c, e, m, rfl, m1, m30, hM, co, e0, e1, hc⟩ := hc
  have nd : nSm.Nodup := by decide +kernel
  have small : ¬ (1 < m ∧ 0 < dp) → WSs (bx P w K mg base nSm "_law_small" (defScope s__law_small) f cdv A outer st H E) [some (.ob p), some (.int (m : Nat)), some (.int (dp : Nat)), some (.int 0), none, none, none, none, none, none] M ((defBody s__law_small).drop 1) { nx := fun _ M' => Φ .non M', rt := Lets Φ } := fun hn => by
    refine wss_cons (ws_if (wt_eqS (we_var 3 rfl (we_int ⟨_, rfl, ?_⟩))))
    refine wss_cons (ws_ret (we_call0 F3 (hr.mono (by omega)) ⟨rfl, rfl, Lets.of ?_⟩))
    have := hc .one a e (st_one dp m1) (Int.le_refl _) (by omega)
    rw [mset_self hM] at this
    exact this
  refine wss_cons (ws_set 3 nd (we_if (wt_ww (ww_and (wt_gtI (we_var 1 rfl (we_int ⟨_, _, rfl, rfl, ?_⟩)))))))
  by_cases hm3 : 1 < m
  case neg =>
    rw [decide_eq_false (show ¬ (1 : Int) < (m : Nat) by omega)]
    exact we_int (small (fun h => hm3 h.1))
  rw [decide_eq_true (show (1 : Int) < (m : Nat) by omega)]
  refine ww_and1 (wt_gtI (we_var 2 rfl (we_int ⟨_, _, rfl, rfl, ?_⟩)))
  by_cases hd0 : 0 < dp
  case neg =>
    rw [decide_eq_false (show ¬ (0 : Int) < (dp : Nat) by omega)]
    exact we_int (small (fun h => hd0 h.2))
  rw [decide_eq_true (show (0 : Int) < (dp : Nat) by omega)]
  obtain ⟨j, rfl⟩ : ∃ j, dp = j + 1 := ⟨dp - 1, by omega⟩
  have hgc : smc (j + 1) = 4 + 4 * smc j := rfl
  have B := F5 j rfl
  have edp : ((j + 1 : Nat) : Int) - 1 = (j : Nat) := by omega
  refine we_call F1 (hr.mono (by omega)) (wa_cons (we_var 0 rfl (wa_cons (we_int (wa_nil ⟨rfl, p, 6, a, c, e, rfl, by decide, by decide +kernel, hM, co, e0, by omega, ?_⟩)))))
  intro wy a1 e2 w0 w6 k1 k2
  refine wss_cons (ws_if (wt_eqS (we_var 3 rfl (we_int ⟨_, rfl, ?_⟩))))
  by_cases hw0 : wy = 0
  · rw [decide_eq_true hw0]
    exact wss_cons (ws_ret (we_call0 F3 (hr.mono (by omega)) ⟨rfl, rfl, Lets.of (hc .one a1 e2 (st_one _ m1) (by omega) (by omega))⟩))
  rw [decide_eq_false hw0]
  refine wss_nil (wss_cons (ws_set 4 nd (we_call F2 (hr.mono (by omega)) (wa_cons (we_var 0 rfl (wa_cons (we_lst (wa_cons (we_str (wa_cons (we_str (wa_nil ⟨sz2, wa_nil ⟨rfl, p, _, a1, c, e2, rfl, by simp, by simp, mset_same, co, by omega, by omega, ?_⟩⟩))))))))))))
  intro wd a2 e3 hwd k3 k4
  obtain ⟨b, rfl⟩ := word_mem hwd
  rw [mset_mset]
  refine wss_cons (ws_if (wt_ltI (we_var 3 rfl (we_int ⟨_, _, rfl, rfl, ?_⟩))))
  by_cases hw4 : wy < 3
  · rw [decide_eq_true hw4]
    refine wss_cons (ws_set 5 nd (we_addI (we_int (we_call F1 (hr.mono (by omega)) (wa_cons (we_var 0 rfl (wa_cons (we_min2 (F.bn _ (by decide +kernel)) (we_int (we_subI (we_var 1 rfl (we_int ⟨_, _, rfl, rfl, _, _, rfl, rfl, ?_⟩))))))))))))
    generalize hN : (if ((m : Nat) : Int) - 1 < 5 then ((m : Nat) : Int) - 1 else 5) = N
    have hN1 : 1 ≤ N ∧ N ≤ 5 ∧ N ≤ (m : Nat) - 1 := by rw [← hN]; split <;> omega
    have h40 : (5 : Int) ≤ 10 ^ 40 := by decide +kernel
    refine wa_nil ⟨rfl, p, N, a2, c, e3, rfl, by omega, by omega, mset_same, co, by omega, by omega, ?_⟩
    intro r3 a3 e4 r0 r1 k5 k6
    rw [mset_mset]
    obtain ⟨n0, rfl⟩ := Int.eq_ofNat_of_zero_le r0
    obtain ⟨n, hn⟩ : ∃ n, n = 2 + n0 := ⟨_, rfl⟩
    have n2 : 2 ≤ n ∧ n ≤ m ∧ n ≤ 6 := by omega
    refine ⟨_, _, rfl, rfl, ?_⟩
    rw [show (2 : Int) + ((n0 : Nat) : Int) = ((n : Nat) : Int) by omega]
    refine wss_cons (ws_ret (we_tup (wa_cons (we_str (wa_cons (we_var 4 rfl (wa_cons (we_var 5 rfl (wa_cons (we_tup (wa_cons (we_call B (hr.mono (by omega)) (wa_cons (we_var 0 rfl (wa_cons (we_divI (we_var 1 rfl (we_var 5 rfl ⟨_, _, rfl, rfl, ⟨by omega, log31 (Nat.le_trans n2.2.2 (by decide))⟩, wa_cons (we_subI (we_var 2 rfl (we_int ⟨_, _, rfl, rfl, wa_nil ⟨rfl, p, a3, c, e4, m / n, ?_, ?_, ?_, mset_same, co, by omega, by omega, ?_⟩⟩)))⟩))))))))))))))))))
    · rw [edp, Int.natCast_ediv]; rfl
    · exact Nat.div_pos n2.2.1 (by omega)
    · exact Nat.le_trans (Nat.div_le_self _ _) m30
    intro u a5 e6 hu k9 k10
    rw [mset_mset]
    refine wa_nil ⟨sz1, wa_nil ⟨by show 4 ≤ sizeLine; decide, Lets.of ?_⟩⟩
    have := hc (.cop b n u) a5 e6 (st_cop _ hu n2.1 (by omega)) (by omega) (by omega)
    rw [trD] at this
    exact this
  rw [decide_eq_false hw4]
  refine wss_nil (wss_cons (ws_par 6 7 nd (wa_cons (we_lstM (wa_nil ⟨Nat.zero_le _, fun q hq => wa_cons (we_var 1 rfl (wa_nil ⟨_, _, rfl, ?_⟩))⟩)))))
  have hqp : p ≠ q := fun e => by rw [← e, mset_same] at hq; cases hq
  have hMq : M q = none := by rw [mset_ne (fun e => hqp e.symm)] at hq; exact hq
  refine wss_cons (ws_for PassesOwn.never (wi_range1 (F.bn _ (by decide +kernel)) (wa_cons (we_min2 (F.bn _ (by decide +kernel)) (we_var 1 rfl (we_addI (we_int (we_call F1 (hr.mono (by omega)) (wa_cons (we_var 0 rfl (wa_cons (we_int (wa_nil ⟨rfl, p, 3, a2, c, e3, rfl, by decide, by decide +kernel, by rw [mset_ne hqp]; exact mset_same, co, by omega, by omega, ?_⟩)))))))))))))
  intro r3 a3 e4 r0 r1 k5 k6
  obtain ⟨n0, rfl⟩ := Int.eq_ofNat_of_zero_le r0
  rw [mset_comm hqp, mset_mset]
  refine ⟨_, _, rfl, rfl, _, _, rfl, rfl, ?_⟩
  obtain ⟨n, hn, n2, n4⟩ : ∃ n : Nat, (if 2 + ((n0 : Nat) : Int) < ((m : Nat) : Int) then 2 + ((n0 : Nat) : Int) else ((m : Nat) : Int)) = (n : Nat) ∧ 2 ≤ n ∧ n ≤ 4 := by
    by_cases h : 2 + ((n0 : Nat) : Int) < ((m : Nat) : Int)
    · exact ⟨2 + n0, by rw [if_pos h]; omega, by omega, by omega⟩
    · exact ⟨m, by rw [if_neg h], by omega, by omega⟩
  rw [hn]
  refine wa_nil ⟨_, rfl, by omega, by omega, ?_⟩
  rw [show ((n : Nat) : Int).toNat = n by omega]
  refine ⟨fun i ρ' M' => ∃ (o8 o9 : Option D) (ts : List T) (lf : Nat) (a' d' : Int), ρ' = [some (.ob p), some (.int (m : Nat)), some (.int ((j + 1 : Nat) : Int)), some (.int wy), some (.str (wrd b)), none, some (.ob q), some (.int (lf : Nat)), o8, o9] ∧ M' = mset (mset M p (potL a' c d')) q (.lst (ts.map trD)) ∧ ts.length ≤ i ∧ (i ≤ 2 → ts.length = i) ∧ (2 ≤ i → 2 ≤ ts.length) ∧ i ≤ n ∧ ppls ts + lf = m ∧ (i = 1 → 1 ≤ lf) ∧ (∀ t ∈ ts, Sh t j) ∧ e ≤ d' ∧ d' ≤ e + 3 + (i * smc j : Nat), ⟨none, none, [], m, a3, e4, rfl, rfl, Nat.le_refl _, fun _ => rfl, fun h => by omega, Nat.zero_le _, by rw [ppls]; omega, fun h => by omega, (fun t h => nomatch h), by omega, by simp; omega⟩, ?_, ?_⟩
  · rintro i x ρ' M' hx ⟨o8, o9, ts, lf, a', d', rfl, rfl, hl1, hl2, hl3, hi, hs, hf, hg, b1, b2⟩
    obtain ⟨hi2, rfl⟩ := rngD_get hx
    rw [Int.zero_add]
    have hm : (i + 1) * smc j ≤ 4 * smc j := Nat.mul_le_mul_right _ (by omega)
    have hm2 : (i + 1) * smc j = i * smc j + smc j := Nat.succ_mul _ _
    refine wg_name 8 ?_ nd
    obtain ⟨mx, hmx, mx1, mx2, mx3⟩ : ∃ mx : Nat, (mx : Int) = (if i = 0 then (if ((lf : Nat) : Int) - 1 > 1 then ((lf : Nat) : Int) - 1 else 1) else (if ((lf : Nat) : Int) / 2 > 1 then ((lf : Nat) : Int) / 2 else 1)) ∧ 1 ≤ mx ∧ mx ≤ 1000 ∧ (i = 0 → mx + 1 ≤ m) := by
      refine ⟨(if i = 0 then (if ((lf : Nat) : Int) - 1 > 1 then ((lf : Nat) : Int) - 1 else 1) else (if ((lf : Nat) : Int) / 2 > 1 then ((lf : Nat) : Int) / 2 else 1)).toNat, ?_, ?_, ?_, ?_⟩ <;> (split <;> split <;> omega)
    have hmq : (mset (mset M p (potL a' c d')) q (.lst (ts.map trD))) p = some (potL a' c d') := by rw [mset_ne hqp]; exact mset_same
    refine wss_cons (ws_set 9 nd (we_call B (hr.mono (by omega)) (wa_cons (we_var 0 rfl (wa_cons (WE.imp (Φ' := fun d M1 => d = .int (mx : Nat) ∧ M1 = mset (mset M p (potL a' c d')) q (.lst (ts.map trD))) ?_ ?_))))))
    · refine we_if (wt_eqS (we_var 8 rfl (we_int ⟨_, rfl, ?_⟩)))
      by_cases h0 : i = 0
      · rw [if_pos h0] at hmx
        rw [decide_eq_true (show ((i : Nat) : Int) = 0 by omega)]
        refine we_max2 (F.bn _ (by decide +kernel)) (we_int (we_subI (we_var 7 rfl (we_int ⟨_, _, rfl, rfl, _, _, rfl, rfl, ?_, rfl⟩))))
        rw [hmx]
      · rw [if_neg h0] at hmx
        rw [decide_eq_false (show ¬ ((i : Nat) : Int) = 0 by omega)]
        refine we_max2 (F.bn _ (by decide +kernel)) (we_int (we_divI (we_var 7 rfl (we_int ⟨_, _, rfl, rfl, ⟨by decide, by decide⟩, _, _, rfl, rfl, ?_, rfl⟩))))
        rw [hmx]
    rintro _ _ ⟨rfl, rfl⟩
    refine wa_cons (we_subI (we_var 2 rfl (we_int ⟨_, _, rfl, rfl, wa_nil ⟨rfl, p, a', c, d', mx, by rw [edp]; rfl, mx1, mx2, hmq, co, by omega, by omega, ?_⟩⟩)))
    intro u a4 e5 hu k7 k8
    rw [mset_comm hqp, mset_mset]
    obtain ⟨oku, hu5, _⟩ := sh_ok hu.1 (by omega)
    have hu2 := hu.2
    generalize hM2 : mset (mset M p (potL a4 c e5)) q (.lst (ts.map trD)) = M2
    have hq2 : M2 q = some (.lst (ts.map trD)) := by rw [← hM2]; exact mset_same
    have up1 := ppl_pos hu.1.1
    refine wss_cons (ws_if (WT.imp (Φ' := fun bb M1 => bb = decide (i < 2 ∨ ppl u ≤ lf) ∧ M1 = M2) ?_ ?_))
    · refine wt_ww (ww_or (wt_ltI (we_var 8 rfl (we_int ⟨_, _, rfl, rfl, ?_⟩))))
      by_cases h2 : i < 2
      · rw [decide_eq_true (show ((i : Nat) : Int) < 2 by omega), decide_eq_true (show i < 2 ∨ ppl u ≤ lf from .inl h2)]
        exact ⟨rfl, rfl⟩
      · rw [decide_eq_false (show ¬ ((i : Nat) : Int) < 2 by omega)]
        refine ww_or1 (wt_leI (we_call F4 (hr.mono (by omega)) (wa_cons (we_var 9 rfl (wa_nil ⟨rfl, u, rfl, oku, hu5, we_var 7 rfl ⟨_, _, rfl, rfl, ?_, rfl⟩⟩)))))
        rw [decide_eq_decide]; omega
    rintro bb M3 ⟨rfl, hM3⟩
    rw [hM3]
    have hm8 : d' ≤ e + 3 + (i * smc j : Nat) := b2
    by_cases hcase : i < 2 ∨ ppl u ≤ lf
    · rw [decide_eq_true hcase]
      obtain ⟨z, hz1, hz2, hz3, hz4⟩ : ∃ z : T, z = (if ppl u ≤ lf then u else .one) ∧ Sh z j ∧ ppl z ≤ lf ∧ (i = 0 → 1 ≤ lf - ppl z) := by
        by_cases hle : ppl u ≤ lf
        · refine ⟨u, by rw [if_pos hle], hu.1, hle, fun h0 => ?_⟩
          have := mx3 h0
          have e0 : ts = [] := List.length_eq_zero_iff.mp (by have := hl2 (by omega); omega)
          rw [e0, ppls] at hs
          omega
        · have hi3 : i < 2 := hcase.resolve_right hle
          refine ⟨.one, by rw [if_neg hle], sh_one j, ?_, fun h0 => ?_⟩
          · rw [ppl]
            by_cases h0 : i = 0
            · have e0 : ts = [] := List.length_eq_zero_iff.mp (by have := hl2 (by omega); omega)
              rw [e0, ppls] at hs
              omega
            · exact hf (by omega)
          · have := mx3 h0
            have e0 : ts = [] := List.length_eq_zero_iff.mp (by have := hl2 (by omega); omega)
            rw [e0, ppls] at hs
            omega
      obtain ⟨okz, hz5, _⟩ := sh_ok hz2 (by omega)
      refine wss_cons (ws_expr (we_append (we_var 6 rfl ⟨q, _, rfl, hq2, WE.imp (Φ' := fun d M1 => d = trD z ∧ M1 = M2) ?_ ?_⟩)))
      · refine we_if (wt_leI (we_call F4 (hr.mono (by omega)) (wa_cons (we_var 9 rfl (wa_nil ⟨rfl, u, rfl, oku, hu5, we_var 7 rfl ⟨_, _, rfl, rfl, ?_⟩⟩)))))
        by_cases hle : ppl u ≤ lf
        · rw [decide_eq_true (show ((ppl u : Nat) : Int) ≤ (lf : Nat) by omega)]
          rw [if_pos hle] at hz1
          exact we_var 9 rfl ⟨by rw [hz1], rfl⟩
        · rw [decide_eq_false (show ¬ ((ppl u : Nat) : Int) ≤ (lf : Nat) by omega)]
          rw [if_neg hle] at hz1
          exact we_call0 F3 (hr.mono (by omega)) ⟨rfl, rfl, by rw [hz1], rfl⟩
      rintro _ M4 ⟨rfl, hM4⟩
      rw [hM4]
      refine ⟨_, hq2, by rw [List.length_map, sizeLine_eq]; omega, ?_⟩
      refine wss_cons (ws_set 7 nd (we_subI (we_var 7 rfl (we_call F4 (hr.mono (by omega)) (wa_cons (we_ix (we_var 6 rfl (we_negI (we_int ⟨_, rfl, -1, _, rfl, ixO mset_same (atI_last _ _), wa_nil ⟨rfl, z, rfl, okz, hz5, _, _, rfl, rfl, ?_⟩⟩)))))))))
      have hs2 := ppls_snoc ts z
      refine wss_nil (wss_nil ⟨some (.int (i : Nat)), some (trD u), ts ++ [z], lf - ppl z, a4, e5, ?_, ?_, ?_, ?_, ?_, by omega, by omega, ?_, ?_, by omega, by rw [hm2]; omega⟩)
      · rw [show ((lf : Nat) : Int) - (ppl z : Nat) = ((lf - ppl z : Nat) : Int) by omega]; rfl
      · rw [← hM2, mset_mset, List.map_append]; rfl
      · rw [List.length_append, List.length_singleton]; omega
      · intro h; have := hl2 (by omega); rw [List.length_append, List.length_singleton]; omega
      · intro h; rw [List.length_append, List.length_singleton]
        by_cases h2 : 2 ≤ i
        · have := hl3 h2; omega
        · have := hl2 (by omega); omega
      · intro h; exact hz4 (by omega)
      · intro t ht
        rcases List.mem_append.mp ht with ht | ht
        · exact hg t ht
        · rw [List.mem_singleton.mp ht]; exact hz2
    · rw [decide_eq_false hcase]
      refine wss_nil (wss_nil ⟨some (.int (i : Nat)), some (trD u), ts, lf, a4, e5, rfl, hM2.symm, by omega, fun h => by omega, fun h => hl3 (by omega), by omega, hs, fun h => by omega, hg, by omega, by rw [hm2]; omega⟩)
  · rintro ρ' M' ⟨o8, o9, ts, lf, a', d', rfl, rfl, hl1, hl2, hl3, hi, hs, hf, hg, b1, b2⟩
    rw [rngD_len] at hl2 hl3 b2
    have hm : n * smc j ≤ 4 * smc j := Nat.mul_le_mul_right _ n4
    refine wss_cons (ws_ret (we_tup (wa_cons (we_str (wa_cons (we_var 4 rfl (wa_cons (we_int (wa_cons (we_tupleOf (F.bn _ (by decide +kernel)) (we_var 6 rfl ⟨_, .inl mset_same, wa_nil ⟨by show 4 ≤ sizeLine; decide, _, mset M p (potL a' c d'), les_new (by rw [mset_ne (fun e => hqp e.symm)]; exact hMq), .same _, ?_⟩⟩)))))))))))
    have := hc (.row b ts) a' d' (st_row _ hg (hl3 n2) (by rw [rngD_len] at hl1; omega) (by omega)) b1 (by omega)
    rw [trD, trDs_map] at this
    exact this
end
end W
namespace W
open PySem PySem.Spec PyProof.Rows L2 DL SX PL
theorem eqv_nats : ∀ p q : List Nat, PyData.eqvAll (p.map fun (i : Nat) => PyData.int (i : Nat)) (q.map fun (i : Nat) => PyData.int (i : Nat)) = decide (p = q)
  | [], [] => by simp [PyData.eqvAll]
  | [], j :: q => by simp [PyData.eqvAll]
  | i :: p, [] => by simp [PyData.eqvAll]
  | i :: p, j :: q => by
    rw [List.map_cons, List.map_cons, PyData.eqvAll, eqv_nats p q, PyData.eqv]
    by_cases h : i = j
    · subst h; simp
    · have : ((i : Nat) : Int) ≠ (j : Nat) := by omega
      have h2 : (((i : Nat) : Int) == ((j : Nat) : Int)) = false := by simpa using this
      rw [h2]; simp [h]
theorem pt_blk {X : Cx} {scope : Scope} {c : Expr} (s : Shared) (H0 : Hp) (C : Addr) (cl : List (Str × Addr)) (fp : List Addr) : PTs (X.blk s H0 scope (compEnvC scope cl C X.env) fp) [c] (tBlk X scope c) := pts_one ⟨fun pins s' σ' H' Q' I q => q s H0 C cl fp pins s' I⟩
end W
namespace W
open PySem PySem.Spec PyProof.Rows L2 DL SX PL SlX
theorem cnt_le1 {t : T} (hg : Good t) : PL.cnt t ≤ ppl t := by
  cases t with
  | one => simp [PL.cnt, kids]
  | name x => simp [PL.cnt, kids]
  | cop s n u => rw [cnt_cop, ppl]; exact Nat.le_mul_of_pos_right _ (ppl_pos hg.2.2)
  | row s ts => rw [cnt_row, ppl]; exact ppls_pos hg.2
section
variable {P : Program} {w : World} {K : PySem.W.Frag} {mg : Str → Option Value} {base : Heap} {C G : Addr}
def cTPers (h : Nat) : Con := fun ds M Φ => ∃ t, ds = [trD t] ∧ Ok t ∧ ppl t ≤ 1000 ∧ ht t ≤ h ∧ ht t ≤ 20 ∧ Φ (.lst ((persL t).map perD)) M
abbrev nTPers : List Str := ["_law_tree", "_law_found", "_law_which", "_law_person_here"]
theorem ok_tpeople (h : Nat) (F : Fx w K mg) (F1 : Fc P w K mg base "_law_parts_of" [] 1 1 cPartsOf) (F2 : Fc P w K mg base "_law_part" [] 1 2 cPartT) (F3 : ∀ j, h = j + 1 → Fc P w K mg base "_law_people" [] (j + 2) 1 (cTPers j)) :
    BodyOk P w K mg base "_law_people" s__law_people nTPers 1 (h + 1) (cTPers h) := by
  intro f cdv A outer s H E hr ds M Φ hl hc
  obtain ⟨t, rfl, ok, hp, hh, h20, hc⟩ := hc
  have hg := ok.1
  have nd : nTPers.Nodup := by decide +kernel
  refine wss_cons (ws_if (wt_eqS (we_ix (we_var 0 rfl (we_int ⟨0, _, rfl, tr0 t, we_str ⟨_, rfl, ?_⟩⟩)))))
  rw [kd_one ok.2.1]
  cases h1 : isOneT t with
  | true =>
    cases t with
    | one =>
      refine wss_cons (ws_ret (we_lst (wa_cons (we_tup (wa_nil ⟨Nat.zero_le _, wa_nil ⟨sz1, Lets.of ?_⟩⟩)))))
      rw [persL] at hc; exact hc
    | _ => cases h1
  | false =>
  have hcnt := cnt_le1 hg
  refine wss_nil (wss_cons (ws_set 1 nd (we_lstM (wa_nil ⟨Nat.zero_le _, fun q hq => ?_⟩))))
  refine wss_cons (ws_for PassesOwn.never (wi_range1 (F.bn _ (by decide +kernel)) (wa_cons (we_call F1 (hr.mono (by omega)) (wa_cons (we_var 0 rfl (wa_nil ⟨rfl, t, rfl, ok, wa_nil ⟨_, rfl, by omega, by omega, ?_⟩⟩)))))))
  refine ⟨fun i ρ' M' => ∃ o2 o3, ρ' = [some (trD t), some (.ob q), o2, o3] ∧ M' = mset M q (.lst ((upTo t i).map perD)), ⟨none, none, rfl, rfl⟩, ?_, ?_⟩
  · rintro i x ρ' M' hx ⟨o2, o3, rfl, rfl⟩
    obtain ⟨hi, rfl⟩ := rngD_get hx
    have hi : i < PL.cnt t := by omega
    obtain ⟨u, hu⟩ := piece_some hi
    have oku := piece_Ok hu ok
    obtain ⟨pu, gu⟩ := piece_le' hu hg
    have hu2 := piece_ht hu
    obtain ⟨j, rfl⟩ : ∃ j, h = j + 1 := ⟨h - 1, by omega⟩
    have hlen : (upTo t (i + 1)).length ≤ 1000 := by
      have a1 := pers_len (t := t) (show i + 1 ≤ PL.cnt t by omega)
      rw [← persL_upTo h1] at a1
      have a2 := persL_le t
      omega
    rw [upTo_succ hu, List.length_append, List.length_map] at hlen
    rw [Int.zero_add]
    refine wg_name 2 ?_ nd
    refine wss_cons (ws_expr (we_extend (we_var 1 rfl ⟨q, _, rfl, mset_same, we_lc nd (blkOk_by (N := nTPers) (sc := defScope s__law_people) (own := [("_law_person_here", 3)]) (by decide +kernel)) (fun _ _ _ _ _ => pg_name (i := 3) nd rfl (Or.inl rfl)) (gt_name (by decide)) (fun _ _ _ _ _ => pts_nil) tk_nil (wi_list (we_call (F3 j rfl) (hr.mono (by omega)) (wa_cons (we_call F2 (hr.mono (by omega)) (wa_cons (we_var 0 rfl (wa_cons (we_var 2 rfl (wa_nil ⟨rfl, t, i, u, rfl, hu, wa_nil ⟨rfl, u, rfl, oku, by omega, by omega, by omega, _, .inl rfl, ?_⟩⟩)))))))))⟩)))
    refine ⟨by rw [List.length_map, sizeLine_eq]; omega, fun k acc M' => M' = mset M q (.lst ((upTo t i).map perD)) ∧ acc = (((persL u).take k).map (i :: ·)).map perD, ⟨rfl, rfl⟩, ?_, ?_⟩
    · rintro k x acc M' hx ⟨rfl, rfl⟩
      rw [List.getElem?_map] at hx
      obtain ⟨p, hp2, rfl⟩ := Option.map_eq_some_iff.mp hx
      intro s' H' C' cl' fp'
      refine we_addT (we_tup (wa_cons (we_var 2 rfl (wa_nil ⟨sz1, we_var 3 rfl ⟨_, _, rfl, rfl, ?_, rfl, ?_⟩⟩))))
      · have := pers_ht (pers_is _ (Nat.le_refl _) (List.mem_of_getElem? hp2))
        show 1 + (p.map _).length ≤ sizeLine
        rw [List.length_map, sizeLine_eq]; omega
      · rw [take_snoc hp2, List.map_append, List.map_append]; rfl
    · rintro acc M' ⟨rfl, rfl⟩
      rw [List.length_map, List.take_length]
      refine ⟨_, _, mset_same, rfl, by rw [List.length_map, List.length_map, List.length_map, sizeLine_eq]; omega, ?_⟩
      rw [mset_mset]
      exact wss_nil ⟨_, _, rfl, by rw [upTo_succ hu, List.map_append]⟩
  · rintro ρ' M' ⟨o2, o3, rfl, rfl⟩
    rw [rngD_len, show ((PL.cnt t : Nat) : Int).toNat = PL.cnt t by omega, ← persL_upTo h1]
    exact wss_cons (ws_ret (we_var 1 rfl ⟨_, M, les_new hq, .lst mset_same hq, hc⟩))
def cKnown : Con := fun ds M Φ => ∃ t p q, ds = [trD t, perD p, perD q] ∧ isPers t p = true ∧ isPers t q = true ∧ Φ (.bl (knowsB t p q)) M
abbrev nKnown : List Str := ["_law_tree", "_law_one", "_law_other", "_law_here", "_law_mine", "_law_its"]
theorem ok_is_known (F : Fx w K mg) (F1 : Fc P w K mg base "_law_part" [] 1 2 cPartT) : BodyOk P w K mg base "_law_is_known" s__law_is_known nKnown 3 1 cKnown := by
  intro f cdv A outer s H E hr ds M Φ hl hc
  obtain ⟨t, p, q, rfl, hp, hq, hc⟩ := hc
  have nd : nKnown.Nodup := by decide +kernel
  refine wss_cons (ws_set 3 nd (we_var 0 rfl ?_))
  refine wss_cons (ws_for PassesOwn.never (wi_zipT (F.bn _ (by decide +kernel)) (we_var 1 rfl (we_var 2 rfl ⟨_, _, rfl, rfl, ?_⟩))))
  refine ⟨fun i ρ' M' => ∃ (o4 o5 : Option D) (u : T), ρ' = [some (trD t), some (perD p), some (perD q), some (trD u), o4, o5] ∧ M' = M ∧ isPers u (p.drop i) = true ∧ isPers u (q.drop i) = true ∧ knowsB t p q = knowsB u (p.drop i) (q.drop i), ⟨none, none, t, rfl, rfl, by simpa using hp, by simpa using hq, by simp⟩, ?_, ?_⟩
  · rintro i x ρ' M' hx ⟨o4, o5, u, rfl, rfl, hpu, hqu, hk⟩
    obtain ⟨x1, x2, hx1, hx2, rfl⟩ := zipD_get hx
    obtain ⟨m, hm, rfl⟩ := pers_get hx1
    obtain ⟨n, hn, rfl⟩ := pers_get hx2
    obtain ⟨i1, em⟩ := List.getElem?_eq_some_iff.mp hm
    obtain ⟨i2, en⟩ := List.getElem?_eq_some_iff.mp hn
    rw [List.drop_eq_getElem_cons i1, em] at hpu hk
    rw [List.drop_eq_getElem_cons i2, en] at hqu hk
    obtain ⟨v, c1, c2, c3⟩ := pers_cons hpu
    obtain ⟨v', c1', c2', c3'⟩ := pers_cons hqu
    rw [knowsB] at hk
    refine wg_tup ⟨rfl, rfl, wgs_cons (wg_name 4 (wgs_cons (wg_name 5 (wgs_nil ⟨rfl, ?_⟩) nd)) nd)⟩
    refine wss_cons (ws_if (wt_neS (we_var 4 rfl (we_var 5 rfl ⟨_, rfl, ?_⟩))))
    by_cases hmn : m = n
    · subst hmn
      rw [decide_eq_true rfl]
      rw [if_pos rfl, c2] at hk
      rw [c2] at c2'
      obtain rfl := Option.some.inj c2'
      exact wss_nil (wss_cons (ws_set 3 nd (we_call F1 (hr.mono (by decide)) (wa_cons (we_var 3 rfl (wa_cons (we_var 4 rfl (wa_nil ⟨rfl, u, m, v, rfl, c2, wss_nil ⟨_, _, v, rfl, rfl, c3, c3', hk⟩⟩))))))))
    · rw [decide_eq_false (show ¬ ((m : Nat) : Int) = (n : Nat) by omega)]
      rw [if_neg hmn] at hk
      refine wss_cons (ws_ret (we_eqS (we_ix (we_var 3 rfl (we_int ⟨1, _, rfl, tr1 u, we_str ⟨_, rfl, Lets.of ?_⟩⟩)))))
      rw [wd_int, ← hk]; exact hc
  · rintro ρ' M' ⟨o4, o5, u, rfl, rfl, hpu, hqu, hk⟩
    have hz : (zipD (p.map fun (i : Nat) => D.int (i : Nat)) (q.map fun (i : Nat) => D.int (i : Nat))).length = min p.length q.length := by simp [zipD]
    rw [hz] at hpu hqu hk
    have hf : knowsB u (p.drop (min p.length q.length)) (q.drop (min p.length q.length)) = false := by
      rcases Nat.le_total p.length q.length with z | z
      · rw [Nat.min_eq_left z] at hpu ⊢
        rw [List.drop_length] at hpu ⊢
        cases e : q.drop p.length with
        | nil => rfl
        | cons j r => rfl
      · rw [Nat.min_eq_right z, List.drop_length (l := q)]
        cases e : p.drop q.length with
        | nil => rfl
        | cons j r => rfl
    rw [hk, hf] at hc
    exact wss_cons (ws_ret (we_bl (Lets.of hc)))
end
end W
namespace DL
open PySem PySem.Spec PyProof.Rows L2
section
variable {X : Cx} {ρ : Rho} {M : Mp} {Φ : D → Mp → Prop} {Θ : Bool → Mp → Prop} {a b e : Expr} {pos p : Pos}
theorem rd_notInD {x y : D} (h : ∃ p q, toPy x = some p ∧ toPy y = some (.list q) ∧ SeqAt.shaped p = true ∧ SeqAt.shaped (.list q) = true ∧ Φ (.bl (!q.any fun z => PyData.eqv z p)) M) : RD X.K (rNotInD X.K) x y M Φ := fun Z v u H Q w r1 r2 k => by
  obtain ⟨p, q, e1, e2, s1, s2, h⟩ := h
  exact ⟨p, q, r1.dp e1, r2.dp e2, s1, s2, k.now w (.bl _) h⟩
end
end DL
namespace W
open PySem PySem.Spec PyProof.Rows L2 DL SX PL SlX
abbrev natD (n : Nat) : D := .int (n : Nat)
def rowD (t : T) (s : Nat) : D := .lst ((nearL t s).map natD)
section
variable {P : Program} {w : World} {K : PySem.W.Frag} {mg : Str → Option Value} {base : Heap} {C G : Addr}
def cFriends : Con := fun ds M Φ => ∃ t, ds = [trD t] ∧ Ok t ∧ ppl t ≤ 1000 ∧ ht t ≤ 6 ∧ Φ (.lst ((List.range (persL t).length).map (rowD t))) M
abbrev nFriends : List Str := ["_law_tree", "_law_people_here", "_law_found", "_law_one", "_law_spot", "_law_other"]
theorem ok_lfriends (F : Fx w K mg) (F1 : Fc P w K mg base "_law_people" [] 8 1 (cTPers 6)) (F2 : Fc P w K mg base "_law_is_known" [] 2 3 cKnown) : BodyOk P w K mg base "_law_friends" s__law_friends nFriends 1 8 cFriends := by
  intro f cdv A outer s H E hr ds M Φ hl hc
  obtain ⟨t, rfl, ok, hp, hh, hc⟩ := hc
  have nd : nFriends.Nodup := by decide +kernel
  have hlen := persL_le t
  refine wss_cons (ws_set 1 nd (we_call F1 (hr.mono (by decide)) (wa_cons (we_var 0 rfl (wa_nil ⟨rfl, t, rfl, ok, hp, hh, by omega, ?_⟩)))))
  refine wss_cons (ws_set 2 nd (we_lstM (wa_nil ⟨Nat.zero_le _, fun q hq => ?_⟩)))
  refine wss_cons (ws_for PassesOwn.never (wi_list (we_var 1 rfl ⟨_, .inl rfl, ?_⟩)))
  refine ⟨fun i ρ' M' => ∃ o3 o4 o5, ρ' = [some (trD t), some (.lst ((persL t).map perD)), some (.ob q), o3, o4, o5] ∧ M' = mset M q (.lst ((List.range i).map (rowD t))), ⟨none, none, none, rfl, rfl⟩, ?_, ?_⟩
  · rintro i x ρ' M' hx ⟨o3, o4, o5, rfl, rfl⟩
    rw [List.getElem?_map] at hx
    obtain ⟨p, hp1, rfl⟩ := Option.map_eq_some_iff.mp hx
    have hi := (List.getElem?_eq_some_iff.mp hp1).1
    have hpp := pers_is _ (Nat.le_refl _) (List.mem_of_getElem? hp1)
    have hpD : (persL t).getD i [] = p := by rw [List.getD_eq_getElem?_getD, hp1]; rfl
    refine wg_name 3 ?_ nd
    refine wss_cons (ws_expr (we_append (we_var 2 rfl ⟨q, _, rfl, mset_same, we_lc nd (blkOk_by (N := nFriends) (sc := defScope s__law_friends) (own := [("_law_spot", 4), ("_law_other", 5)]) (by decide +kernel)) (fun _ _ _ _ _ => pg_tup rfl (pgs_cons (pg_name (i := 4) nd rfl (Or.inl rfl)) (pgs_cons (pg_name (i := 5) nd rfl (Or.inl rfl)) pgs_nil)) rfl rfl) (gt_two (by decide) (by decide)) pt_blk tk_one (wi_enumL (F.bn _ (by decide +kernel)) (we_var 1 rfl ⟨_, rfl, ?_⟩))⟩)))
    refine ⟨by rw [enumD_len, List.length_map, sizeLine_eq]; omega, fun j acc M' => M' = mset M q (.lst ((List.range i).map (rowD t))) ∧ acc = ((List.range j).filter fun k => knowsB t ((persL t).getD i []) ((persL t).getD k [])).map natD, ⟨rfl, rfl⟩, ?_, ?_⟩
    · rintro j y acc M' hy ⟨rfl, rfl⟩
      obtain ⟨y', hy', rfl⟩ := enumD_get hy
      rw [List.getElem?_map] at hy'
      obtain ⟨z, hz, rfl⟩ := Option.map_eq_some_iff.mp hy'
      have hzp := pers_is _ (Nat.le_refl _) (List.mem_of_getElem? hz)
      have hzD : (persL t).getD j [] = z := by rw [List.getD_eq_getElem?_getD, hz]; rfl
      refine ⟨_, _, rfl, ?_⟩
      intro s' H' C' cl' fp'
      refine wt_val (we_call F2 (hr.mono (by decide)) (wa_cons (we_var 0 rfl (wa_cons (we_var 3 rfl (wa_cons (we_var 5 rfl (wa_nil ⟨rfl, t, p, z, rfl, hpp, hzp, _, rfl, ?_⟩))))))))
      cases hk : knowsB t p z with
      | true =>
        intro s' H' C' cl' fp'
        refine we_var 4 rfl ⟨rfl, ?_⟩
        rw [List.range_succ, List.filter_append, List.map_append, List.filter_cons, hpD, hzD, hk]; rfl
      | false =>
        refine ⟨rfl, ?_⟩
        rw [List.range_succ, List.filter_append, List.map_append, List.filter_cons, hpD, hzD, hk]; simp
    rintro acc M' ⟨rfl, rfl⟩
    rw [enumD_len, List.length_map]
    refine ⟨_, mset_same, by rw [List.length_map, List.length_range, sizeLine_eq]; omega, ?_⟩
    rw [mset_mset]
    exact wss_nil ⟨_, _, _, rfl, by rw [List.range_succ, List.map_append]; rfl⟩
  · rintro ρ' M' ⟨o3, o4, o5, rfl, rfl⟩
    rw [List.length_map]
    exact wss_cons (ws_ret (we_var 2 rfl ⟨_, M, les_new hq, .lst mset_same hq, hc⟩))
end
end W
namespace DL
open PySem PySem.Spec PyProof.Rows L2
theorem perm_map {α β : Type} {f : α → β} {a b : List β} (h : a.Perm b) : ∀ l : List α, b = l.map f → ∃ l' : List α, l'.Perm l ∧ a = l'.map f := by
  induction h with
  | nil =>
    intro l e
    cases l with
    | nil => exact ⟨[], .nil, rfl⟩
    | cons x l => cases e
  | cons x h ih =>
    intro l e
    cases l with
    | nil => cases e
    | cons y l =>
      obtain ⟨e1, e2⟩ := List.cons.inj e
      obtain ⟨l', h1, h2⟩ := ih l e2
      exact ⟨y :: l', h1.cons y, by rw [e1, h2]; rfl⟩
  | swap x y r =>
    intro l e
    match l, e with
    | p :: q :: l, e =>
      obtain ⟨e1, e2⟩ := List.cons.inj e
      obtain ⟨e3, e4⟩ := List.cons.inj e2
      exact ⟨q :: p :: l, .swap p q l, by rw [e1, e3, e4]; rfl⟩
  | trans h1 h2 ih1 ih2 =>
    intro l e
    obtain ⟨l1, p1, e1⟩ := ih2 l e
    obtain ⟨l2, p2, e2⟩ := ih1 l1 e1
    exact ⟨l2, p2.trans p1, e2⟩
theorem sorted_uniq {α : Type} {R : α → α → Prop} (anti : ∀ x y, R x y → R y x → x = y) : ∀ {a b : List α}, a.Pairwise R → b.Pairwise R → a.Nodup → b.Nodup → (∀ x, x ∈ a ↔ x ∈ b) → a = b
  | [], [], _, _, _, _, _ => rfl
  | [], y :: b, _, _, _, _, h => absurd ((h y).mpr List.mem_cons_self) (fun h => nomatch h)
  | x :: a, [], _, _, _, _, h => absurd ((h x).mp List.mem_cons_self) (fun h => nomatch h)
  | x :: a, y :: b, ha, hb, na, nb, h => by
    have ha2 := List.pairwise_cons.mp ha
    have hb2 := List.pairwise_cons.mp hb
    have na2 := List.nodup_cons.mp na
    have nb2 := List.nodup_cons.mp nb
    have e : x = y := by
      rcases List.mem_cons.mp ((h x).mp List.mem_cons_self) with e | hx
      · exact e
      · rcases List.mem_cons.mp ((h y).mpr List.mem_cons_self) with e | hy
        · exact e.symm
        · exact anti x y (ha2.1 y hy) (hb2.1 x hx)
    subst e
    rw [sorted_uniq anti ha2.2 hb2.2 na2.2 nb2.2 fun z => ?_]
    refine ⟨fun hz => ?_, fun hz => ?_⟩
    · rcases List.mem_cons.mp ((h z).mp (List.mem_cons_of_mem _ hz)) with e | hz'
      · subst e; exact absurd hz na2.1
      · exact hz'
    · rcases List.mem_cons.mp ((h z).mpr (List.mem_cons_of_mem _ hz)) with e | hz'
      · subst e; exact absurd hz nb2.1
      · exact hz'
theorem lexI_anti : ∀ x y : List Int, lexI y x = false → lexI x y = false → x = y
  | [], [], _, _ => rfl
  | [], j :: y, _, h => by rw [lexI] at h; cases h
  | i :: x, [], h, _ => by rw [lexI] at h; cases h
  | i :: x, j :: y, h1, h2 => by
    rw [lexI] at h1 h2
    by_cases e : i = j
    · subst e
      rw [if_pos rfl] at h1 h2
      rw [lexI_anti x y h1 h2]
    · rw [if_neg (fun e' => e e'.symm)] at h1
      rw [if_neg e] at h2
      have := of_decide_eq_false h1
      have := of_decide_eq_false h2
      omega
section
variable {X : Cx} {ρ : Rho} {M : Mp} {Φ : D → Mp → Prop} {a b e o : Expr} {es : List Expr} {pos p apos : Pos}
theorem flat_rep {α : Type} (x : α) : ∀ n : Nat, (List.replicate n [x]).flatten = List.replicate n x
  | 0 => rfl
  | n + 1 => by rw [List.replicate_succ, List.flatten_cons, flat_rep x n, List.replicate_succ]; rfl
theorem reps_rep {K : PySem.W.Frag} {M : Mp} {Z : Zn} {H : Hp} {v : V} {d : D} (r : Rep K M Z H v d) : ∀ n : Nat, Reps K M Z H (List.replicate n v) (List.replicate n d)
  | 0 => .nil
  | n + 1 => by rw [List.replicate_succ, List.replicate_succ]; exact .cons r (reps_rep r n)
theorem we_repM (h : WE X ρ M a fun x M1 => WE X ρ M1 b fun y M2 => ∃ (d : D) (n : Nat), x = .lst [d] ∧ y = .int (n : Nat) ∧ n ≤ sizeLine ∧ ∀ q, M2 q = none → Φ (.ob q) (mset M2 q (.lst (List.replicate n d)))) : WE X ρ M (.BinOp a .Mult b pos) Φ := we_op op_rep (h.imp fun _ _ h => h.imp fun _ M2 h Z v u H Q w r1 r2 k => by
  obtain ⟨d, n, rfl, rfl, hz, h⟩ := h
  cases r2
  cases r1 with
  | lst h1 m1 r1 =>
    cases r1 with
    | cons r1 r2 =>
      cases r2
      have hs := sizeLine_eq
      refine ⟨_, _, _, rfl, rfl, h1, by omega, by omega, by rw [Int.toNat_natCast]; simp; exact hz, fun q hq => ?_⟩
      rw [Int.toNat_natCast, flat_rep]
      exact k _ (.ob q) _ (mset M2 q (.lst (List.replicate n d))) (Ext.newM w hq) (w.newM hq ⟨_, upd_same, (reps_rep r1 n).mono (Ext.newM w hq)⟩) (.ob q) (h q (w.fresh hq).1))
theorem vals_refs : ∀ {ks : List (Addr × List Int)} {its : List Value}, Vals (ks.map fun q => V.ref q.1) its → its = ks.map fun q => Value.ref q.1
  | [], _, .nil => rfl
  | k :: ks, _, .cons r t => by
    rw [vals_refs t]
    cases r
    rfl
theorem refs_vals : ∀ ks : List (Addr × List Int), Vals (ks.map fun q => V.ref q.1) (ks.map fun q => Value.ref q.1)
  | [] => .nil
  | k :: ks => .cons rfl (refs_vals ks)
theorem cr_sortedT : CallR X (.builtin "sorted") (fun vs H Q => ∃ (a : Addr) (ks : List (Addr × List Int)), vs = [V.ref a] ∧ SqL X.K H a (ks.map fun q => V.ref q.1) ∧ (∀ q ∈ ks, SqT X.K H q.1 (q.2.map V.int)) ∧ (2 ≤ ks.length → ∀ q ∈ ks, q.2 ≠ []) ∧ ∀ (ls : List (Addr × List Int)) (p : Addr), ls.Perm ks → (ls.map (·.2)).Pairwise (fun x y => lexI y x = false) → H p = none → Q (.ref p) (upd H p (.lst (ls.map fun q => V.ref q.1)))) := by
  intro pins s σ H vs us Q I r h
  obtain ⟨a, ks, rfl, hs, ht, hne, q⟩ := h
  rw [Vals.ref1 r]
  obtain ⟨its, rv, hl, hz⟩ := I.list hs
  have tv : TupsV X.K H (ks.map fun q => V.ref q.1) (ks.map (·.2)) := by
    have : ∀ ks : List (Addr × List Int), (∀ q ∈ ks, SqT X.K H q.1 (q.2.map V.int)) → TupsV X.K H (ks.map fun q => V.ref q.1) (ks.map (·.2)) := by
      intro ks
      induction ks with
      | nil => intro _; exact .nil
      | cons k ks ih => intro h; exact .cons ⟨k.1, rfl, h k List.mem_cons_self⟩ (ih fun q hq => h q (List.mem_cons_of_mem _ hq))
    exact this ks ht
  obtain ⟨h1, h2⟩ := TupsV.raw I tv rv
  have lenI := rv.length
  rw [List.length_map] at lenI hz
  have hz2 : its.length ≤ sizeLine := by omega
  have eits := vals_refs rv
  refine SrtO.sorted_ord (swoI (TS.intsOf s.heap)) hl.isList hz2 (fun h2l hp1 a1 ha1 kk => ?_) fun out o1 o2 => ?_
  · refine tupsSortable (s := { s with heap := hp1 }) (by omega) (fun v hv => ⟨(h2 v hv).keeps fun b o z _ => (kk b o z).2, ?_⟩) fun o z => ?_
    · have hm : TS.intsOf s.heap v ∈ ks.map (·.2) := by rw [← h1]; exact List.mem_map_of_mem hv
      obtain ⟨q', hq', e'⟩ := List.mem_map.mp hm
      rw [← e']
      exact hne (by omega) q' hq'
    · have z' := z.symm.trans ha1
      cases z'
      intro c
      exact absurd (Value.type.inj c) (by decide)
  · obtain ⟨ls, pm, eo⟩ := perm_map (f := fun q : Addr × List Int => Value.ref q.1) o2.perm ks eits
    have emap : ∀ q ∈ ks, TS.intsOf s.heap (Value.ref q.1) = q.2 := by
      have := h1
      rw [eits, List.map_map] at this
      intro q hq
      obtain ⟨i, hi, rfl⟩ := List.getElem_of_mem hq
      have e1 := congrArg (fun l => l[i]?) this
      simp only [List.getElem?_map, List.getElem?_eq_getElem hi] at e1
      exact Option.some.inj e1
    have srt : (ls.map (·.2)).Pairwise (fun x y => lexI y x = false) := by
      have o1' : out.Pairwise fun v u => lexI (TS.intsOf s.heap u) (TS.intsOf s.heap v) = false := o1
      rw [eo, List.pairwise_map] at o1'
      rw [List.pairwise_map]
      refine List.Pairwise.imp_of_mem (fun {x y} hx hy hxy => ?_) o1'
      rw [emap x (pm.mem_iff.mp hx), emap y (pm.mem_iff.mp hy)] at hxy
      exact hxy
    obtain ⟨n, hn⟩ := sortedAll_at s.heap its out.toArray
    have hlen : (ls.map fun q => V.ref q.1).length ≤ sizeLine := by rw [List.length_map, pm.length_eq]; exact hz
    exact ⟨.ref _, upd H (s.heap.objs.size + 1) (.lst (ls.map fun q => V.ref q.1)), I.laid (t' := s.toks) (fun b o z => sortedAll_old z) (Nat.le_succ _) ⟨hlen, out, n, by rw [eo]; exact refs_vals ls, hn⟩, rfl, q ls _ pm srt (I.hok.fresh (Nat.le_succ _))⟩
theorem we_sortedT (hm : X.mg "sorted" = none) (h : WE X ρ M e fun d M1 => ∃ ps qs : List (List Int), LstOf M1 d (ps.map fun q => D.tup (q.map D.int)) ∧ (2 ≤ ps.length → ∀ n ∈ ps, n ≠ []) ∧ ps.Nodup ∧ qs.Nodup ∧ (∀ x, x ∈ qs ↔ x ∈ ps) ∧ qs.Pairwise (fun x y => lexI y x = false) ∧ Φ (.lst (qs.map fun q => D.tup (q.map D.int))) M1) (hg : Gl X "sorted" := by rfl)
    (he : starEach [e] X.env = (false, eval e X.env) :: starEach [] X.env := by rfl) (hpl : (backTo pos (starEach [] X.env)).any (·.1) = false := by rfl) : WE X ρ M (.Call (.Name "sorted" p) [e] [] pos) Φ :=
  we_callB cr_sortedT hm (by decide +kernel) (wa_cons (h.imp fun d M1 h => wa_nil fun Z vs H Q w rr k => by
    obtain ⟨v, rfl, r⟩ := rr.one
    obtain ⟨ps, qs, hl, h1, np, nq, hmem, hasc, h⟩ := h
    obtain ⟨l, us, rfl, hq, rs⟩ := r.asLst w hl
    obtain ⟨ks, rfl, hks, hsq⟩ := tups_refs rs.tups
    have hkl : ks.length = ps.length := by rw [← hks, List.length_map]
    refine ⟨l, ks, rfl, hq, hsq, fun z q' hq' => h1 (by omega) _ (by rw [← hks]; exact List.mem_map_of_mem hq'), fun ls p' pm srt hp => ?_⟩
    have hrep : ∀ q ∈ ks, Rep X.K M1 Z H (.ref q.1) (.tup (q.2.map D.int)) := reps_mem (by rw [← hks, List.map_map] at rs; exact rs)
    have e : ls.map (·.2) = qs := by
      refine sorted_uniq (R := fun x y => lexI y x = false) (fun x y h1 h2 => lexI_anti x y h1 h2) srt hasc ?_ nq fun x => ?_
      · exact ((pm.map (·.2)).nodup_iff).mpr (by rw [hks]; exact np)
      · rw [(pm.map (·.2)).mem_iff, hks, hmem]
    rw [← e, List.map_map] at h
    have hr2 := reps_all (ks := ls) fun q hq2 => hrep q (pm.mem_iff.mp hq2)
    exact k.new w hp (.lst upd_same (w.fresh hp) (hr2.mono (Ext.new w hp))) h) he) hg (he := he) (hpl := hpl)
end
end DL
namespace DL
open PySem PySem.Spec PyProof.Rows L2
section
variable {X : Cx} {ρ : Rho} {M : Mp} {Φ : D → Mp → Prop} {Θ : Bool → Mp → Prop} {a b c : Expr} {pos : Pos}
theorem we_repI (h : WE X ρ M a fun x M1 => WE X ρ M1 b fun y M2 => ∃ (d : D) (n : Nat), x = .lst [d] ∧ y = .int (n : Nat) ∧ n ≤ sizeLine ∧ Φ (.lst (List.replicate n d)) M2) : WE X ρ M (.BinOp a .Mult b pos) Φ := we_op op_rep (h.imp fun _ _ h => h.imp fun _ _ h Z v u H Q w r1 r2 k => by
  obtain ⟨d, n, rfl, rfl, hz, h⟩ := h
  cases r2
  cases r1 with
  | lst h1 m1 r1 =>
    cases r1 with
    | cons r1 r2 =>
      cases r2
      have hs := sizeLine_eq
      refine ⟨_, _, _, rfl, rfl, h1, by omega, by omega, by rw [Int.toNat_natCast]; simp; exact hz, fun q hq => ?_⟩
      rw [Int.toNat_natCast, flat_rep]
      exact k.new w hq (.lst upd_same (w.fresh hq) ((reps_rep r1 n).mono (Ext.new w hq))) h)
end
end DL
namespace W
open PySem PySem.Spec PyProof.Rows L2 DL SX PL SlX
theorem lexI_ltP {a b : Nat × Nat} (h : ltP a b) : lexI [(b.1 : Int), (b.2 : Int)] [(a.1 : Int), (a.2 : Int)] = false := by
  simp only [lexI]
  rcases h with h | ⟨h1, h2⟩
  · rw [if_neg (by omega)]; exact decide_eq_false (by omega)
  · rw [if_pos (by omega), if_neg (by omega)]; exact decide_eq_false (by omega)
theorem prs_ints (ps : List (Nat × Nat)) : ps.map pairD = (ps.map fun q => [(q.1 : Int), (q.2 : Int)]).map fun q => D.tup (q.map D.int) := by
  rw [List.map_map]; rfl
theorem rowP_near (t : T) (s : Nat) : rowP t s = ((nearL t s).filter fun b => decide (s < b)).map fun b => (s, b) := by
  unfold rowP nearL kn
  rw [List.filter_filter]
section
variable {P : Program} {w : World} {K : PySem.W.Frag} {mg : Str → Option Value} {base : Heap} {C G R O S U V : Addr}
def cPairsOf : Con := fun ds M Φ => ∃ t, ds = [trD t] ∧ Ok t ∧ ppl t ≤ 30 ∧ ht t ≤ 6 ∧ Φ (.tup ((prsT t).map pairD)) M
abbrev nPairsOf : List Str := ["_law_tree", "_law_found", "_law_spot", "_law_row", "_law_other"]
theorem ok_pairs_of (F : Fx w K mg) (F1 : Fc P w K mg base "_law_friends" [] 9 1 cFriends) : BodyOk P w K mg base "_law_pairs_of" s__law_pairs_of nPairsOf 1 9 cPairsOf := by
  intro f cdv A outer s H E hr ds M Φ hl hc
  obtain ⟨t, rfl, ok, h30, h6, hc⟩ := hc
  have nd : nPairsOf.Nodup := by decide +kernel
  have hlen := persL_len ok.2.1
  have hpT := prs_T t
  generalize hm : (persL t).length = m at hpT
  have hm30 : m ≤ 30 := by omega
  refine wss_cons (ws_set 1 nd (we_lstM (wa_nil ⟨Nat.zero_le _, fun q hq => ?_⟩)))
  refine wss_cons (ws_for PassesOwn.never (wi_enumL (F.bn _ (by decide +kernel)) (we_call F1 (hr.mono (by decide)) (wa_cons (we_var 0 rfl (wa_nil ⟨rfl, t, rfl, ok, by omega, h6, _, rfl, ?_⟩))))))
  rw [hm]
  refine ⟨fun i ρ' M2 => ∃ o2 o3 o4, ρ' = [some (trD t), some (.ob q), o2, o3, o4] ∧ M2 = mset M q (.lst ((upP t i).map pairD)), ⟨_, _, _, rfl, rfl⟩, ?_, ?_⟩
  · rintro i x ρ' M2 hx ⟨o2, o3, o4, rfl, rfl⟩
    obtain ⟨y, hy, rfl⟩ := enumD_get hx
    rw [List.getElem?_map] at hy
    obtain ⟨k, hk, rfl⟩ := Option.map_eq_some_iff.mp hy
    have hi : i < m := by have := (List.getElem?_eq_some_iff.mp hk).1; rwa [List.length_range] at this
    rw [List.getElem?_range hi] at hk
    obtain rfl := Option.some.inj hk
    have hup : (upP t i).length ≤ 900 := by
      have := upP_len t i
      rw [hm] at this
      exact Nat.le_trans this (Nat.mul_le_mul (show i ≤ 30 by omega) hm30)
    have hnl : (nearL t i).length ≤ m := by
      unfold nearL
      exact Nat.le_trans (List.length_filter_le _ _) (by rw [List.length_range, hm]; exact Nat.le_refl _)
    refine wg_tup ⟨rfl, rfl, wgs_cons (wg_name 2 (wgs_cons (wg_name 3 (wgs_nil ⟨rfl, ?_⟩) nd)) nd)⟩
    refine wss_cons (ws_expr (we_extend (we_var 1 rfl ⟨q, _, rfl, mset_same, we_lc nd (blkOk_by (N := nPairsOf) (sc := defScope s__law_pairs_of) (own := [("_law_other", 4)]) (by decide +kernel)) (fun _ _ _ _ _ => pg_name (i := 4) nd rfl (Or.inl rfl)) (gt_name (by decide)) pt_blk tk_one (wi_list (we_var 3 rfl ⟨_, .inl rfl, ?_⟩))⟩)))
    refine ⟨by rw [List.length_map, sizeLine_eq]; omega, fun j acc M2 => M2 = mset M q (.lst ((upP t i).map pairD)) ∧ acc = ((((nearL t i).take j).filter fun b => decide (i < b)).map fun b => (i, b)).map pairD, ⟨rfl, rfl⟩, ?_, ?_⟩
    · rintro j y acc M2 hy ⟨rfl, rfl⟩
      rw [List.getElem?_map] at hy
      obtain ⟨b, hb, rfl⟩ := Option.map_eq_some_iff.mp hy
      intro s' H' C' cl' fp'
      refine wt_ltI (we_var 2 rfl (we_var 4 rfl ⟨_, _, rfl, rfl, ?_⟩))
      refine ite_dec (fun hlt => ?_) fun hlt => ?_
      · intro s' H' C' cl' fp'
        refine we_tup (wa_cons (we_var 2 rfl (wa_cons (we_var 4 rfl (wa_nil ⟨sz2, rfl, ?_⟩)))))
        rw [take_snoc hb, List.filter_append, List.map_append, List.map_append, List.filter_cons, decide_eq_true (show i < b by omega), if_pos rfl]; rfl
      · refine ⟨rfl, ?_⟩
        rw [take_snoc hb, List.filter_append, List.filter_cons, decide_eq_false (show ¬ i < b by omega)]; simp
    rintro acc M2 ⟨rfl, rfl⟩
    have hrl := rowP_len t i
    rw [List.length_map, List.take_length, ← rowP_near]
    refine ⟨_, _, mset_same, rfl, by rw [List.length_map, List.length_map, sizeLine_eq]; omega, ?_⟩
    rw [mset_mset, ← List.map_append, ← upP_succ]
    exact wss_nil ⟨_, _, _, rfl, rfl⟩
  · rintro ρ' M2 ⟨o2, o3, o4, rfl, rfl⟩
    rw [enumD_len, List.length_map, List.length_range]
    have hup : upP t m = prsT t := by unfold prsT; rw [hm]
    rw [hup]
    refine wss_cons (ws_ret (we_tupleOf (F.bn _ (by decide +kernel)) (we_sortedAsc (F.bn _ (by decide +kernel)) (we_var 1 rfl ⟨(prsT t).map fun q => [(q.1 : Int), (q.2 : Int)], ?_, ?_, ?_, _, .inl rfl, ?_⟩))))
    · rw [← prs_ints]; exact mset_same
    · intro _ n hn
      obtain ⟨z, _, rfl⟩ := List.mem_map.mp hn
      simp
    · rw [List.pairwise_map]
      exact hpT.asc.imp fun h => lexI_ltP h
    · rw [← prs_ints]
      exact ⟨_, M, les_new hq, .same _, hc⟩
end
end W
namespace DL
open PySem PySem.Spec PyProof.Rows L2
section
variable {prog : Program} {w : World} {A : Around} {E : Value → Shared → Prop} {s : Shared}
theorem meets_enum1 {v : Value} {o : Obj} {H : Heap → Prop} (B : Begins v o H) :
    Meets (Builtin.«enumerate.__new__» ⟨[.type "enumerate", v], []⟩) (fun _ R s => H s.heap ∧
      R (.ok (.ret (.ref (s.heap.push o).objs.size))) { s with heap := (s.heap.push o).push { cls := .type "enumerate", data := .fields #[.none, .bool false, .ref s.heap.objs.size, rawInt 0, .none, .none] } }) :=
  .of_wp fun prog w A R s ⟨h0, h⟩ => by
    have hsub := sub_enumerate
    obtain ⟨hp, g, dr, tk, os⟩ := s
    have it : ∀ {A' : Around} {E : Value → Shared → Prop} {Q : Value → Shared → Prop}, Q (.ref hp.objs.size) ⟨hp.push o, g, dr, tk, os⟩ → wpAny (model prog w) A' (pyIter v) Q E ⟨hp, g, dr, tk, os⟩ := fun q => B.iter prog w _ _ ⟨hp, g, dr, tk, os⟩ _ h0 q
    wp_walk using it
    refine wpAny_stack_any fun _ => wpAny_pure ?_
    split
    · rename_i c _ _ _ _ _
      cases (c == Value.type "enumerate") <;> (wp_walk using it; exact ⟨_, rfl, h⟩)
    · wp_walk using it
      exact ⟨_, rfl, h⟩
theorem call_enum1 {v : Value} {o : Obj} {H : Heap → Prop} {Q : Value → Shared → Prop} (B : Begins v o H) (h1 : H s.heap)
    (h : ∀ h', IsEnum h' (s.heap.objs.size + 1) s.heap.objs.size 0 .none → h'.get? s.heap.objs.size = some o → (∀ b o, s.heap.get? b = some o → h'.get? b = some o) → Q (.ref (s.heap.objs.size + 1)) { s with heap := h' }) :
    wpAny (model prog w) A (call (.type "enumerate") [v]) Q E s := by
  have hz : (s.heap.push o).objs.size = s.heap.objs.size + 1 := Heap.size_push ..
  have he : IsEnum ((s.heap.push o).push { cls := .type "enumerate", data := .fields #[.none, .bool false, .ref s.heap.objs.size, rawInt 0, .none, .none] }) (s.heap.objs.size + 1) s.heap.objs.size 0 .none := by
    rw [← hz]; exact Heap.get?_push_size (s.heap.push o) rfl
  refine callType_new F.called_enumerate (by decide) (F.typeCall_enumerate_1 _) (F.newCall_enumerate_1 _) (fun obj => F.args_object_init_2 obj _) F.entry_enumerate_new (meets_enum1 B) ⟨h1, ?_⟩
  show _ ∧ _
  rw [hz]
  exact ⟨⟨_, he, rfl⟩, h _ he (Heap.get?_push_of_some _ (Heap.get?_push_size _ B.free)) fun b o x => Heap.get?_push_of_some _ (Heap.get?_push_of_some _ x)⟩
end
/-- the items of a tuple, each with its number in a new pair -/
def Iet (K : PySem.W.Frag) (a : Addr) : It :=
  ⟨fun i H => ∃ (xs : List V) (x : V), SqT K H a xs ∧ xs[i]? = some x,
    fun i H v H' => ∃ T x, v = .ref T ∧ H T = none ∧ H' = upd H T (.tup [.int (i : Nat), x]) ∧ ∀ xs, SqT K H a xs → xs[i]? = some x,
    fun i H => ∃ xs : List V, SqT K H a xs ∧ i = xs.length⟩
theorem turn_enumT {P : Program} {w : World} {K : PySem.W.Frag} {elts : List Expr} {kk : Nat} {tpos : Pos} (a e it : Addr) :
    Turn P w K (.Tuple elts kk tpos) (Iet K a) [e, it] e (fun i h => (∃ old, IsEnum h e it i old) ∧ h.IsTupleIter it a i ∧ e ≠ it) where
  mem := by simp
  obj := fun i h st b hb => by
    obtain ⟨⟨old, he⟩, ⟨o, e1, c, d⟩, hne⟩ := st
    rcases (show b = e ∨ b = it by simpa using hb) with z | z
    · rw [z]; exact ⟨_, he, fun v z => nomatch z⟩
    · rw [z]; exact ⟨o, e1, fun v z => by rw [d] at z; cases z⟩
  keep := fun i h h' st k => by
    obtain ⟨⟨old, he⟩, ⟨o, e1, c, d⟩, hne⟩ := st
    exact ⟨⟨old, k e (by simp) _ he⟩, ⟨o, k it (by simp) _ e1, c, d⟩, hne⟩
  item := by
    intro X hP hw hK hc i pins s σ H E I hf st hg
    subst hP hw hK
    obtain ⟨⟨old, he⟩, hit, hne⟩ := st
    obtain ⟨xs, x, hq, hx⟩ := hg
    obtain ⟨its, rv, ht, hz⟩ := I.tuple hq
    obtain ⟨u, hu, ru⟩ := rv.get hx
    have hel : e < s.heap.objs.size := Heap.lt_size he
    have hil : it < s.heap.objs.size := by obtain ⟨_, q, _⟩ := hit; exact Heap.lt_size q
    have nit : a ≠ it := by
      obtain ⟨o1, q1, c1, _⟩ := hit
      obtain ⟨o2, q2, c2, _⟩ := ht
      intro z
      rw [z, q1] at q2
      cases q2
      rw [c1] at c2
      exact absurd c2 (by decide)
    have na : e ≠ a := by
      obtain ⟨o2, q2, c2, _⟩ := ht
      intro z
      rw [← z, he] at q2
      cases q2
      exact absurd (show Value.type "enumerate" = Value.type "tuple" from c2) (by decide)
    have hi : i < its.toArray.size := by have := (List.getElem?_eq_some_iff.mp hu).1; simpa using this
    refine wpAny_pyNext_enum_itemD (Draws.tuple (A := X.A.in1) (I.ok.hd hc) it a nit its.toArray) he ⟨hit, ht⟩ hi hne (by simp [hne, na]) fun y h' tk hP ho hit' hT hsz hk => ?_
    have hy : y = u := by
      have q : its.toArray[i]? = some u := by simpa using hu
      rw [show its.toArray[i]? = some y from hP] at q
      exact Option.some.inj q
    subst hy
    refine ⟨_, rfl, wpAny_letOwnedTupleGo_enum (s := { s with heap := h', toks := tk + 1 }) ho fun h'' he' sb => ?_⟩
    have hT2 : h''.get? s.heap.objs.size = some { cls := .type "tuple", data := .seq #[.int i tk, y] } := (sb.2 _ (Nat.ne_of_gt hel)).trans hT
    have I1 : Inv X pins σ (upd H s.heap.objs.size (.tup [.int (i : Nat), x])) { s with heap := h'', toks := tk + 1 } :=
      I.turnedNew (ch := [e, it]) (fun b ob hb q => (sb.2 b (fun z => hb (by simp [z]))).trans (hk b ob (fun z => hb (by simp [z])) (fun z => hb (by simp [z])) q)) hf (Nat.le_refl _)
        ⟨by show 2 ≤ sizeLine; decide, [.int i tk, y], .cons ⟨_, rfl⟩ (.cons ru .nil), ⟨_, hT2, rfl, _, rfl⟩⟩
    refine ⟨.ref s.heap.objs.size, _, I1, rfl, ⟨_, x, rfl, I.hok.fresh (Nat.le_refl _), rfl, fun ys hy => by rw [I.tuple_inj hy hq]; exact hx⟩, ⟨⟨y, ?_⟩, ?_, hne⟩, fun b hb => ?_⟩
    · rw [show ((i + 1 : Nat) : Int) = (i : Int) + 1 by omega]; exact he'
    · obtain ⟨o, q1, q2⟩ := hit'.1
      exact ⟨o, (sb.2 it (Ne.symm hne)).trans q1, q2⟩
    · have hb' : b < s.heap.objs.size := by
        rcases (show b = e ∨ b = it by simpa using hb) with z | z
        · rw [z]; exact hel
        · rw [z]; exact hil
      rw [upd_ne (Nat.ne_of_lt hb')]
      exact (hf b hb).1
  done := by
    intro X hP hw hK hc i pins s σ H E I hf st hg
    subst hP hw hK
    obtain ⟨⟨old, he⟩, hit, hne⟩ := st
    obtain ⟨xs, hq, hx⟩ := hg
    obtain ⟨its, rv, ht, hz⟩ := I.tuple hq
    obtain ⟨f0, f1, f2, f3, f4, f5⟩ := hf it (by simp)
    have nit : a ≠ it := by
      obtain ⟨o1, q1, c1, _⟩ := hit
      obtain ⟨o2, q2, c2, _⟩ := ht
      intro z
      rw [z, q1] at q2
      cases q2
      rw [c1] at c2
      exact absurd c2 (by decide)
    obtain rfl : i = its.toArray.size := by have := rv.length; simp; omega
    exact wpAny_pyNext_enum_endD (Draws.tuple (A := X.A.in1) (I.ok.hd hc) it a nit its.toArray) he ⟨hit, ht⟩ fun h' eb => ⟨rfl, I.turned (t' := s.toks) (fun b o hb q => eb b o hb q) f0 f1 f3 f4 f5⟩
  self := fun A i s Q E st h => let ⟨⟨_, he⟩, _⟩ := st; wpAny_pyIter_enum he h
def iEnumT (K : PySem.W.Frag) (ta : TA) : TI := fun σ H R => ta σ H fun vs H1 => ∃ a xs, vs = [.ref a] ∧ SqT K H1 a xs ∧ R (Iet K a) H1
theorem pi_enumT {X : Cx} {e : Expr} {ta : TA} {p pos tpos : Pos} {elts : List Expr} {kk : Nat} (hg : Gl X "enumerate") (hm : X.mg "enumerate" = none) (ha : PA X [e] ta) (hs : starEach [e] X.env = [(false, eval e X.env)] := by rfl) :
    PI X (.Tuple elts kk tpos) (.Call (.Name "enumerate" p) [e] [] pos) (iEnumT X.K ta) := by
  refine ⟨fun pins s σ H R I h => ?_⟩
  refine Call_ (ld_blt I hg hm boot_enumerate (PyProof.Rows.callWith_type1 (thn (ha.run pos pins s σ H _ I h) fun us s1 ⟨vs, H1, I1, r1, q1⟩ => ?_) hs rfl))
  obtain ⟨a, xs, ex, hq, q⟩ := q1
  subst ex
  cases r1 with
  | cons r rr =>
    cases rr
    cases r
    obtain ⟨its, rv, ht, hz⟩ := I1.tuple hq
    refine call_enum1 (begins_tuple a its.toArray) ht fun h' he hit hk => wpAny_pyIter_enum he ?_
    have I2 : Inv X pins σ H1 { s1 with heap := h' } := I1.kept (t' := s1.toks) hk
    refine ⟨s1.heap.objs.size + 1, [s1.heap.objs.size + 1, s1.heap.objs.size], _, _, H1, rfl, I2, turn_enumT a (s1.heap.objs.size + 1) s1.heap.objs.size, ⟨⟨.none, he⟩, ⟨_, hit, rfl, rfl⟩, Nat.succ_ne_self _⟩, fun b hb => ?_, q⟩
    have hle : s1.heap.objs.size ≤ b := by
      rcases (show b = s1.heap.objs.size + 1 ∨ b = s1.heap.objs.size by simpa using hb) with z | z
      · rw [z]; exact Nat.le_add_right _ _
      · rw [z]; exact Nat.le_refl _
    exact I1.fpOk hle (I1.hok.fresh hle)
section
variable {X : Cx} {ρ : Rho} {M : Mp} {e : Expr} {pos p : Pos} {Φ : List D → Mp → Prop}
theorem wi_enumT {elts : List Expr} {kk : Nat} {tpos : Pos} (hm : X.mg "enumerate" = none) (h : WE X ρ M e fun d M1 => ∃ xs, d = .tup xs ∧ Φ (enumD xs) M1) (hg : Gl X "enumerate" := by rfl) (hs : starEach [e] X.env = [(false, eval e X.env)] := by rfl) : WI X ρ M (.Tuple elts kk tpos) (.Call (.Name "enumerate" p) [e] [] pos) Φ := .mk fun σ H R en w k =>
  iOf (pi_enumT hg hm (pa_cons pe_sem pa_nil hs) hs) (h.run σ H _ en w fun v d H1 M1 e1 w1 r1 hz => by
    obtain ⟨xs, rfl, hz⟩ := hz
    obtain ⟨p1, vs, rfl, hq1, rs1⟩ := r1.tupKeep
    refine ⟨p1, vs, rfl, hq1 _ _ _ ExI.refl, k _ _ H1 M1 e1 w1 ?_ hz⟩
    intro i M Z H e w
    refine ⟨fun hi => ⟨vs, hq1 _ _ _ e, ?_⟩, fun d hd => ?_⟩
    · rw [rs1.length, hi, enumD_len]
    · obtain ⟨x, hx, rfl⟩ := enumD_get hd
      obtain ⟨v, hv, rv⟩ := rs1.get hx
      refine ⟨⟨vs, v, hq1 _ _ _ e, hv⟩, fun z H' yl => ?_⟩
      obtain ⟨T, v', rfl, hT, rfl, h3⟩ := yl
      have z1 := h3 vs (hq1 _ _ _ e)
      rw [hv] at z1; cases z1
      have x3 : Ext M Z H M (upd H T (.tup [.int (i : Nat), v])) := Ext.new w hT
      exact ⟨x3, w.new hT, .tup (.inl upd_same) (w.fresh hT) (.cons (.int _) (.cons ((rv.monoI e).mono x3) .nil))⟩)
end
end DL
namespace W
open PySem PySem.Spec PyProof.Rows L2 DL SX PL SlX
def ltPb (a b : Nat × Nat) : Bool := decide (a.1 < b.1) || (decide (a.1 = b.1) && decide (a.2 < b.2))
theorem ltPb_iff {a b : Nat × Nat} : ltPb a b = true ↔ ltP a b := by
  unfold ltPb ltP
  simp only [Bool.or_eq_true, Bool.and_eq_true, decide_eq_true_eq]
theorem ltP_tr {a b c : Nat × Nat} (h1 : ltP a b) (h2 : ltP b c) : ltP a c := by
  unfold ltP at h1 h2 ⊢; omega
theorem eqv_pair (a b : Nat × Nat) : PyData.eqv (.tuple [.int (a.1 : Nat), .int (a.2 : Nat)]) (.tuple [.int (b.1 : Nat), .int (b.2 : Nat)]) = decide (a = b) := by
  have e := eqv_nats [a.1, a.2] [b.1, b.2]
  simp only [PyData.eqv]
  rw [show PyData.eqvAll [PyData.int (a.1 : Nat), .int (a.2 : Nat)] [PyData.int (b.1 : Nat), .int (b.2 : Nat)] = _ from e]
  exact decide_eq_decide.mpr ⟨fun h => by simp at h; exact Prod.ext h.1 h.2, fun h => by rw [h]⟩
end W
namespace DL
open PySem PySem.Spec PyProof.Rows L2
section
variable {X : Cx} {ρ : Rho} {M : Mp} {Φ : D → Mp → Prop} {e : Expr} {pos p : Pos}
theorem we_sortedI (hm : X.mg "sorted" = none) (h : WE X ρ M e fun d M1 => ∃ ns : List Int, LstOf M1 d (ns.map D.int) ∧ ∀ ms : List Int, ms.Perm ns → ms.Pairwise (· ≤ ·) → Φ (.lst (ms.map D.int)) M1) (hg : Gl X "sorted" := by rfl)
    (he : starEach [e] X.env = (false, eval e X.env) :: starEach [] X.env := by rfl) (hpl : (backTo pos (starEach [] X.env)).any (·.1) = false := by rfl) : WE X ρ M (.Call (.Name "sorted" p) [e] [] pos) Φ :=
  we_callB cr_sortedI hm (by decide +kernel) (wa_cons (h.imp fun d M1 h => wa_nil fun Z vs H Q w rr k => by
    obtain ⟨v, rfl, r⟩ := rr.one
    obtain ⟨ns, hl, hz⟩ := h
    obtain ⟨a, us, rfl, hq, rs⟩ := r.asLst w hl
    rw [rs.ints] at hq
    refine ⟨a, ns, rfl, hq, fun ms q h1 h2 hf => ?_⟩
    exact k.new w hf (.lst upd_same (w.fresh hf) (Reps.ofInts ms)) (hz ms h1 h2)) he) hg (he := he) (hpl := hpl)
end
end DL
namespace DL
open PySem PySem.Spec PyProof.Rows L2
section
variable {X : Cx} {ρ : Rho} {M : Mp} {Φ : D → Mp → Prop} {a b o e f i tg : Expr} {ss : List Stmt} {pos apos p : Pos}
theorem Reps.erase {K : PySem.W.Frag} {M : Mp} {Z : Zn} {H : Hp} : ∀ {vs : List V} {ds : List D} (k : Nat), Reps K M Z H vs ds → Reps K M Z H (vs.eraseIdx k) (ds.eraseIdx k)
  | _, _, _, .nil => by simp; exact .nil
  | _, _, 0, .cons r t => t
  | _, _, k + 1, .cons r t => .cons r (Reps.erase k t)
/-- xs.pop(i) -/
theorem we_popAt (h : WE X ρ M o fun d M1 => ∃ q ds0, d = .ob q ∧ M1 q = some (.lst ds0) ∧ WE X ρ M1 e fun y M2 => ∃ ds i k x, y = .int i ∧ M2 q = some (.lst ds) ∧ -(2 ^ 63) ≤ i ∧ i < 2 ^ 63 ∧ seqIndex? i ds.length = some k ∧ ds[k]? = some x ∧ Φ x (mset M2 q (.lst (ds.eraseIdx k))))
    (hbase : attributeBase o "pop" X.env (eval o X.env) = eval o X.env := by rfl)
    (hfew : ((backTo pos (starEach (e :: []) X.env)).all (fun x => !x.1) && (backToKw pos (keywordEach [] X.env)).all (fun x => x.1.isSome)
      && decide ((e :: []).length + ([] : List Keyword).length + (if ([] : List Keyword).isEmpty then 0 else 1) < 30)) = true := by rfl)
    (hline : (apos.endLine == pos.line) = true := by rfl) (hs : starEach (e :: []) X.env = (false, eval e X.env) :: starEach [] X.env := by rfl) (hplain : (backTo pos (starEach [] X.env)).any (·.1) = false := by rfl) : WE X ρ M (.Call (.Attribute o "pop" apos) [e] [] pos) Φ := .mk fun {Z} σ H Q en w k =>
  eOf (pe_bm PySem.F.plainAttrs_list PySem.F.slot_list_pop PySem.F.type_list_pop mt_popAt pe_sem (pa_cons pe_sem pa_nil hs) hbase hfew hline hs hplain) (h.run σ H _ en w fun v d H1 M1 e1 w1 r1 hz => by
    obtain ⟨q, ds0, rfl, hM, hz⟩ := hz
    cases r1
    obtain ⟨vs0, h0, _⟩ := w1.1 q _ hM
    refine ⟨.inl ⟨rfl, _, .inl (.inl h0)⟩, hz.run σ H1 _ (en.mono e1) w1 fun u y H2 M2 e2 w2 r2 hy => ?_⟩
    obtain ⟨ds, i, k', x, rfl, hM2, h1, h2, h3, h4, hy⟩ := hy
    cases r2
    obtain ⟨vs, hv, rs⟩ := w2.1 q _ hM2
    obtain ⟨vx, hvx, rx⟩ := rs.get h4
    refine ⟨q, vs, i, k', vx, rfl, rfl, hv, h1, h2, by rw [rs.length]; exact h3, hvx, ?_⟩
    have x3 : Ext M2 _ H2 (mset M2 q (.lst (ds.eraseIdx k'))) (upd H2 q (.lst (vs.eraseIdx k'))) := Ext.put w2 hM2
    exact k _ _ _ _ ((e1.trans e2).trans x3) (w2.put hM2 ⟨_, upd_same, (rs.erase k').mono x3⟩) (rx.mono x3) hy)
end
end DL
namespace W
open PySem PySem.Spec PyProof.Rows L2 DL SX PL SlX
/-- put into an ascending row -/
def insQ (x : Nat × Nat) : List (Nat × Nat) → List (Nat × Nat)
  | [] => [x]
  | y :: ys => if ltPb x y = true then x :: y :: ys else if x = y then y :: ys else y :: insQ x ys
theorem insQ_mem (x : Nat × Nat) : ∀ (ys : List (Nat × Nat)) (z : Nat × Nat), z ∈ insQ x ys ↔ z = x ∨ z ∈ ys
  | [], z => by simp [insQ]
  | y :: ys, z => by
    unfold insQ
    split
    · simp
    · split
      · rename_i h; subst h; simp
      · simp only [List.mem_cons, insQ_mem x ys z]
        constructor
        · rintro (h | h | h)
          · exact .inr (.inl h)
          · exact .inl h
          · exact .inr (.inr h)
        · rintro (h | h | h)
          · exact .inr (.inl h)
          · exact .inl h
          · exact .inr (.inr h)
theorem insQ_asc {x : Nat × Nat} : ∀ {ys : List (Nat × Nat)}, ys.Pairwise ltP → (insQ x ys).Pairwise ltP
  | [], _ => List.pairwise_singleton _ _
  | y :: ys, h => by
    obtain ⟨h1, h2⟩ := List.pairwise_cons.mp h
    unfold insQ
    split
    · rename_i hl
      have hl := ltPb_iff.mp hl
      refine List.pairwise_cons.mpr ⟨fun z hz => ?_, h⟩
      rcases List.mem_cons.mp hz with rfl | hz
      · exact hl
      · exact ltP_tr hl (h1 z hz)
    · split
      · exact h
      · rename_i hl hne
        refine List.pairwise_cons.mpr ⟨fun z hz => ?_, insQ_asc h2⟩
        rcases (insQ_mem x ys z).mp hz with rfl | hz
        · have hn : ¬ ltP z y := fun q => hl (ltPb_iff.mpr q)
          unfold ltP at hn ⊢
          have hne : ¬ (z.1 = y.1 ∧ z.2 = y.2) := fun q => hne (Prod.ext q.1 q.2)
          omega
        · exact h1 z hz
def sortP : List (Nat × Nat) → List (Nat × Nat)
  | [] => []
  | x :: xs => insQ x (sortP xs)
theorem sortP_mem : ∀ (xs : List (Nat × Nat)) (z : Nat × Nat), z ∈ sortP xs ↔ z ∈ xs
  | [], z => Iff.rfl
  | x :: xs, z => by rw [sortP, insQ_mem, sortP_mem xs, List.mem_cons]
theorem sortP_asc : ∀ xs : List (Nat × Nat), (sortP xs).Pairwise ltP
  | [] => .nil
  | x :: xs => insQ_asc (sortP_asc xs)
theorem asc_nodup {ps : List (Nat × Nat)} (h : ps.Pairwise ltP) : ps.Nodup := h.imp fun {a b} h e => by subst e; exact ltP_irr h
/-- pairs as lists of ints -/
def ltInts (q : Nat × Nat) : List Int := [(q.1 : Int), (q.2 : Int)]
theorem ints_inj2 {a b : Nat × Nat} (h : ltInts a = ltInts b) : a = b := by
  unfold ltInts at h
  injection h with h1 h2
  injection h2 with h2 _
  exact Prod.ext (by omega) (by omega)
theorem nodup_ints {ps : List (Nat × Nat)} (h : ps.Nodup) : (ps.map ltInts).Nodup := by
  unfold List.Nodup at h ⊢
  rw [List.pairwise_map]
  exact h.imp fun h e => h (ints_inj2 e)
section
variable {X : Cx} {ρ : Rho} {M : Mp} {Φ : D → Mp → Prop} {e : Expr} {pos p : Pos}
/-- sorted(e), e a list of unlike pairs -/
theorem we_sortedP (hm : X.mg "sorted" = none) (h : WE X ρ M e fun d M1 => ∃ ps : List (Nat × Nat), d = .lst (ps.map pairD) ∧ ps.Nodup ∧ Φ (.lst ((sortP ps).map pairD)) M1) (hg : Gl X "sorted" := by rfl)
    (he : starEach [e] X.env = (false, eval e X.env) :: starEach [] X.env := by rfl) (hpl : (backTo pos (starEach [] X.env)).any (·.1) = false := by rfl) : WE X ρ M (.Call (.Name "sorted" p) [e] [] pos) Φ :=
  we_sortedT hm (h.imp fun d M1 ⟨ps, e1, nd, hz⟩ => by
    subst e1
    refine ⟨ps.map ltInts, (sortP ps).map ltInts, ?_, fun _ n hn => ?_, nodup_ints nd, nodup_ints (asc_nodup (sortP_asc ps)), fun x => ?_, ?_, ?_⟩
    · show LstOf M1 (.lst (ps.map pairD)) ((ps.map ltInts).map fun q => D.tup (q.map D.int))
      rw [← show ps.map pairD = (ps.map ltInts).map fun q => D.tup (q.map D.int) from prs_ints ps]
      rfl
    · obtain ⟨q, _, rfl⟩ := List.mem_map.mp hn
      exact List.cons_ne_nil _ _
    · simp only [List.mem_map]
      constructor
      · rintro ⟨q, hq, rfl⟩; exact ⟨q, (sortP_mem ps q).mp hq, rfl⟩
      · rintro ⟨q, hq, rfl⟩; exact ⟨q, (sortP_mem ps q).mpr hq, rfl⟩
    · rw [List.pairwise_map]
      exact (sortP_asc ps).imp fun h => lexI_ltP h
    · rw [← show (sortP ps).map pairD = ((sortP ps).map ltInts).map fun q => D.tup (q.map D.int) from prs_ints _]
      exact hz) hg he hpl
end
/-- two numbers in their order -/
def srt (a b : Nat) : Nat × Nat := if a < b then (a, b) else (b, a)
theorem srt_ok {a b n : Nat} (h : a ≠ b) (ha : a < n) (hb : b < n) : (srt a b).1 < (srt a b).2 ∧ (srt a b).2 < n := by
  unfold srt; split <;> simp <;> omega
theorem srt_inj {a b c d : Nat} (h : srt a b = srt c d) : (a = c ∧ b = d) ∨ (a = d ∧ b = c) := by
  unfold srt at h
  split at h <;> split at h <;> (injection h with h1 h2; omega)
/-- numbers that are drawn, all of them -/
theorem drawn_nats {n : Nat} {ys : List D} (h : ∀ y ∈ ys, y ∈ rngD 0 n) : ∃ os : List Nat, ys = os.map (fun (i : Nat) => D.int (i : Nat)) ∧ ∀ o ∈ os, o < n := by
  induction ys with
  | nil => exact ⟨[], rfl, fun _ h => by cases h⟩
  | cons y ys ih =>
    obtain ⟨os, e, h2⟩ := ih fun z hz => h z (List.mem_cons_of_mem _ hz)
    obtain ⟨i, hi, e2⟩ := List.mem_iff_getElem.mp (h y List.mem_cons_self)
    have hg : (rngD 0 n)[i]? = some y := by rw [List.getElem?_eq_getElem hi, e2]
    obtain ⟨hlt, rfl⟩ := rngD_get hg
    refine ⟨i :: os, by rw [List.map_cons, e, Int.zero_add], fun o ho => ?_⟩
    rcases List.mem_cons.mp ho with rfl | ho
    · exact hlt
    · exact h2 o ho
theorem nodup_nats {os : List Nat} (h : (os.map fun (i : Nat) => D.int (i : Nat)).Nodup) : os.Nodup := by
  unfold List.Nodup at h ⊢
  rw [List.pairwise_map] at h
  exact h.imp fun h e => h (by rw [e])
theorem nodup_mapped {n : Nat} {os : List Nat} {ps : List (Nat × Nat)} (ho : os.Nodup) (hl : os.length = n) (hp : Prs n ps) : (ps.map fun q => srt (os.getD q.1 0) (os.getD q.2 0)).Nodup := by
  unfold List.Nodup
  rw [List.pairwise_map]
  have inj : ∀ {i j : Nat}, i < n → j < n → os.getD i 0 = os.getD j 0 → i = j := fun {i j} hi hj e => by
    rw [List.getD_eq_getElem?_getD, List.getD_eq_getElem?_getD, List.getElem?_eq_getElem (by omega), List.getElem?_eq_getElem (by omega)] at e
    have e : os[i]'(by omega) = os[j]'(by omega) := e
    rcases Nat.lt_trichotomy i j with q | q | q
    · exact absurd e (List.pairwise_iff_getElem.mp ho i j (by omega) (by omega) q)
    · exact q
    · exact absurd e.symm (List.pairwise_iff_getElem.mp ho j i (by omega) (by omega) q)
  refine List.Pairwise.imp_of_mem (fun {a b} ha hb hne e => ?_) (asc_nodup hp.asc)
  have h1 := hp.inn a ha
  have h2 := hp.inn b hb
  rcases srt_inj e with ⟨e1, e2⟩ | ⟨e1, e2⟩
  · exact hne (Prod.ext (inj (by omega) (by omega) e1) (inj (by omega) (by omega) e2))
  · have := inj (by omega) (by omega) e1
    have := inj (by omega) (by omega) e2
    omega
end W
namespace W
open PySem PySem.Spec PyProof.Rows L2 DL SX PL SlX
section
variable {P : Program} {w : World} {K : PySem.W.Frag} {mg : Str → Option Value} {base : Heap} {C G : Addr}
def cSome : Con := fun ds M Φ => ∃ p xs n a c d, ds = [.ob p, .lst xs, .int (n : Nat)] ∧ n ≤ xs.length ∧ xs.length ≤ 1000 ∧ M p = some (potL a c d) ∧ cOk c ∧ 0 ≤ d ∧ d + (n : Nat) < 100000 ∧ ∀ ys a' d', ys.length = n → (∀ y ∈ ys, y ∈ xs) → (xs.Nodup → ys.Nodup) → d ≤ d' → d' ≤ d + (n : Nat) → Φ (.lst ys) (mset M p (potL a' c d'))
abbrev nSome : List Str := ["_law_pot_here", "_law_pool", "_law_many", "_law_left", "_law_found", "_law_lap"]
theorem perm_erase {l : List D} {k : Nat} {x : D} (h : l[k]? = some x) : l.Perm (x :: l.eraseIdx k) := by
  induction l generalizing k with
  | nil => simp at h
  | cons y r ih =>
    cases k with
    | zero => simp at h; subst h; simp
    | succ k =>
      rw [List.eraseIdx_cons_succ]
      exact ((ih (by simpa using h)).cons y).trans (.swap x y _)
theorem ok_some (F : Fx w K mg) (F1 : Fc P w K mg base "_law_take" [] 1 2 cTake) : BodyOk P w K mg base "_law_some" s__law_some nSome 3 1 cSome := by
  intro f cdv A outer s0 H E hr ds M Φ hl hc
  obtain ⟨p, xs, n, a, c, d, rfl, hn, hx, hM, co, d0, d1, hc⟩ := hc
  have nd : nSome.Nodup := by decide +kernel
  refine wss_cons (ws_par 3 4 nd (wa_cons (we_listOfM (F.bn _ (by decide +kernel)) (we_var 1 rfl ⟨xs, .inl rfl, fun q1 h1 => wa_cons (we_lstM (wa_nil ⟨Nat.zero_le _, fun q2 h2 => wa_nil ⟨_, _, rfl, ?_⟩⟩))⟩))))
  have hpq1 : p ≠ q1 := fun e => by rw [e, h1] at hM; cases hM
  have hq12 : q1 ≠ q2 := fun e => by rw [e, mset_same] at h2; cases h2
  have hpq2 : p ≠ q2 := fun e => by rw [← e, mset_ne hpq1, hM] at h2; cases h2
  have h2' : M q2 = none := by rw [mset_ne (Ne.symm hq12)] at h2; exact h2
  refine wss_cons (ws_for PassesOwn.never (wi_range1 (F.bn _ (by decide +kernel)) (wa_cons (we_var 2 rfl (wa_nil ⟨_, rfl, by omega, by omega, ?_⟩)))))
  rw [show ((n : Nat) : Int).toNat = n by omega]
  refine ⟨fun i ρ' M' => ∃ o5 l f a' d', ρ' = [some (.ob p), some (.lst xs), some (.int (n : Nat)), some (.ob q1), some (.ob q2), o5] ∧ M' p = some (potL a' c d') ∧ M' q1 = some (.lst l) ∧ M' q2 = some (.lst f) ∧ (∀ b, b ≠ p → b ≠ q1 → b ≠ q2 → M' b = M b) ∧ f.length = i ∧ xs.Perm (f ++ l) ∧ d ≤ d' ∧ d' ≤ d + (i : Nat), ⟨_, xs, [], a, d, rfl, by rw [mset_ne hpq2, mset_ne hpq1]; exact hM, by rw [mset_ne hq12, mset_same], mset_same, fun b e1 e2 e3 => by rw [mset_ne e3, mset_ne e2], rfl, .refl _, Int.le_refl _, by omega⟩, ?_, ?_⟩
  · rintro i x ρ' M' hx2 ⟨o5, l, f, a', d', rfl, m1, m2, m3, m4, hfl, hpm, k1, k2⟩
    obtain ⟨hi, rfl⟩ := rngD_get hx2
    have hll : l.length + i = xs.length := by rw [hpm.length_eq, List.length_append]; omega
    refine wg_name 5 ?_ nd
    refine wss_cons (ws_expr (we_append (we_var 4 rfl ⟨q2, f, rfl, m3, we_popAt (we_var 3 rfl ⟨q1, l, rfl, m2, we_call F1 (hr.mono (by decide)) (wa_cons (we_var 0 rfl (wa_cons (we_len (F.bn _ (by decide +kernel)) (we_var 3 rfl ⟨_, lenO m2, wa_nil ⟨rfl, p, _, a', c, d', rfl, by omega, ?_, m1, co, by omega, by omega, ?_⟩⟩)))))⟩)⟩)))
    · have : (1000000 : Int) ≤ 10 ^ 40 := by decide +kernel
      omega
    intro r a2 e2 r0 r1 k3 k4
    obtain ⟨j, rfl⟩ := Int.eq_ofNat_of_zero_le r0
    have hj : j < l.length := by omega
    have hg := List.getElem?_eq_getElem hj
    refine ⟨l, _, j, l[j], rfl, by rw [mset_ne (Ne.symm hpq1)]; exact m2, by omega, by omega, ?_, hg, f, by rw [mset_ne (Ne.symm hq12), mset_ne (Ne.symm hpq2)]; exact m3, by rw [sizeLine_eq]; omega, ?_⟩
    · unfold seqIndex?
      simp
      omega
    refine wss_nil ⟨_, l.eraseIdx j, f ++ [l[j]], a2, e2, rfl, by rw [mset_ne hpq2, mset_ne hpq1, mset_same], by rw [mset_ne hq12, mset_same], mset_same, fun b e1 e2 e3 => by rw [mset_ne e3, mset_ne e2, mset_ne e1]; exact m4 b e1 e2 e3, by rw [List.length_append, hfl]; rfl, ?_, by omega, by omega⟩
    refine hpm.trans ?_
    rw [List.append_assoc]
    exact (perm_erase hg).append_left f
  · rintro ρ' M' ⟨o5, l, f, a', d', rfl, m1, m2, m3, m4, hfl, hpm, k1, k2⟩
    rw [rngD_len] at hfl k2
    refine wss_cons (ws_ret (we_var 4 rfl ⟨.lst f, mset M p (potL a' c d'), fun b => ?_, .lst m3 (by rw [mset_ne (Ne.symm hpq2)]; exact h2'), hc f a' d' hfl (fun y hy => hpm.mem_iff.mpr (List.mem_append_left _ hy)) (fun nx => (List.nodup_append.mp (hpm.nodup_iff.mp nx)).1) k1 k2⟩))
    by_cases e1 : b = p
    · rw [e1, mset_same]; exact .inl m1.symm
    · rw [mset_ne e1]
      by_cases e2 : b = q1
      · rw [e2]; exact .inr h1
      · by_cases e3 : b = q2
        · rw [e3]; exact .inr h2'
        · exact .inl (m4 b e1 e2 e3).symm
end
end W
namespace W
open PySem PySem.Spec PyProof.Rows L2 DL SX PL SlX
theorem rng_nodup (n : Nat) : (rngD 0 n).Nodup := by
  unfold rngD List.Nodup
  rw [List.pairwise_map]
  exact List.pairwise_lt_range.imp fun h e => by injection e with e; omega
theorem sort_two {x y : Nat} {ms : List Int} (h : x ≠ y) (hp : ms.Perm [(x : Int), (y : Int)]) (ha : ms.Pairwise (· ≤ ·)) : ms = [((srt x y).1 : Int), ((srt x y).2 : Int)] := by
  have hl := hp.length_eq
  have nd : ms.Nodup := hp.nodup_iff.mpr (by simp; omega)
  match ms, hl with
  | [u, v], _ =>
    have hu : u = x ∨ u = y := by simpa using hp.mem_iff.mp (show u ∈ [u, v] by simp)
    have hv : v = x ∨ v = y := by simpa using hp.mem_iff.mp (show v ∈ [u, v] by simp)
    have hne : u ≠ v := by simpa using nd
    have hle : u ≤ v := by simpa using ha
    unfold srt
    split
    · show [u, v] = [(x : Int), (y : Int)]
      rw [show u = x by omega, show v = y by omega]
    · show [u, v] = [(y : Int), (x : Int)]
      rw [show u = y by omega, show v = x by omega]
theorem any_pair (x : Nat × Nat) : ∀ ps : List (Nat × Nat), ((ps.map fun q => PyData.tuple [.int (q.1 : Nat), .int (q.2 : Nat)]).any fun z => PyData.eqv z (.tuple [.int (x.1 : Nat), .int (x.2 : Nat)])) = decide (x ∈ ps)
  | [] => by simp
  | q :: ps => by
    rw [List.map_cons, List.any_cons, any_pair x ps, eqv_pair, ← Bool.decide_or]
    exact decide_eq_decide.mpr ⟨fun h => h.elim (fun e => by rw [e]; exact List.mem_cons_self) (List.mem_cons_of_mem _), fun h => by rcases List.mem_cons.mp h with e | e; exact .inl e.symm; exact .inr e⟩
theorem cmp_pr (q : Nat × Nat) : CmpD (pairD q) (.tuple [.int (q.1 : Nat), .int (q.2 : Nat)]) 1 := cmp_tup (cmps_cons (cmp_int _) (Nat.le_refl _) (cmps_cons (cmp_int _) (Nat.le_refl _) cmps_nil))
theorem cmp_prL (ps : List (Nat × Nat)) : CmpD (.lst (ps.map pairD)) (.list (ps.map fun q => .tuple [.int (q.1 : Nat), .int (q.2 : Nat)])) 2 := cmp_lst (cmps_map (k := 1) (Nat.le_refl _) fun q _ => cmp_pr q)
section
variable {X : Cx} {ρ : Rho} {M : Mp} {Φ : D → Mp → Prop} {a b : Expr} {pos : Pos}
theorem we_notInP (hu : X.A.units + 65 < cLine) (h : WE X ρ M a fun x M1 => WE X ρ M1 b fun y M2 => ∃ (q : Nat × Nat) (ps : List (Nat × Nat)), x = pairD q ∧ y = .lst (ps.map pairD) ∧ Φ (.bl (!decide (q ∈ ps))) M2) (hm : behindInMarks .NotIn b = false := by rfl) : WE X ρ M (.Compare a [.NotIn] [b] pos) Φ :=
  we_cmp (op_notInD hu) hm (h.imp fun _ _ h => h.imp fun _ _ ⟨q, ps, e1, e2, h⟩ => rd_notInD ⟨_, _, by rw [e1]; exact (cmp_pr q).eq, by rw [e2]; exact (cmp_prL ps).eq, (cmp_pr q).shaped (by decide), (cmp_prL ps).shaped (by decide), by rw [any_pair]; exact h⟩)
end
section
variable {P : Program} {w : World} {K : PySem.W.Frag} {mg : Str → Option Value} {base : Heap} {C R U V : Addr}
def cWebD : Con := fun ds M Φ => ∃ (p : Addr) (m : Nat) (a c d : Int), ds = [.ob p, .int (m : Nat)] ∧ 1 ≤ m ∧ m ≤ 30 ∧ M p = some (potL a c d) ∧ cOk c ∧ 0 ≤ d ∧ d + 3000 < 100000 ∧ ∀ (n : Nat) ps a' d', 1 ≤ n → n ≤ m → Prs n ps → d ≤ d' → d' ≤ d + 3000 → Φ (.tup [.int (n : Nat), .tup (ps.map pairD)]) (mset M p (potL a' c d'))
abbrev nWebD : List Str := ["_law_pot_here", "_law_most", "_law_many", "_law_often", "_law_pairs", "_law_one", "_law_other", "_law_tree", "_law_size_here", "_law_order", "_law_found", "_law_pair"]
theorem ok_webd (F : Fx w K mg) (F0 : Fc P w K mg base "_law_take" [] 1 2 cTake) (F1 : Fc P w K mg base "_law_of" [] 2 2 cOf) (F2 : Fc P w K mg base "_law_small" [] 12 3 (cSm 5)) (F3 : Fc P w K mg base "_law_size" [] 6 1 (cSize 5)) (F4 : Fc P w K mg base "_law_some" [] 2 3 cSome) (F5 : Fc P w K mg base "_law_pairs_of" [] 10 1 cPairsOf) :
    BodyOk P w K mg base "_law_web" s__law_web nWebD 2 13 cWebD := by
  intro f cdv A outer s H E hr ds M Φ hl hc
  obtain ⟨p, m, a, c, d, rfl, m1, m30, hM, co, d0, d1, hc⟩ := hc
  have nd : nWebD.Nodup := by decide +kernel
  have b40 : (30 : Int) ≤ 10 ^ 40 := by decide +kernel
  refine wss_cons (ws_set 2 nd (we_addI (we_int (we_call F0 (hr.mono (by decide)) (wa_cons (we_var 0 rfl (wa_cons (we_var 1 rfl (wa_nil ⟨rfl, p, _, a, c, d, rfl, by omega, by omega, hM, co, d0, by omega, fun r a1 e1 r0 r1 j1 j2 => ?_⟩)))))))))
  obtain ⟨k, rfl⟩ := Int.eq_ofNat_of_zero_le r0
  have M1 : mset M p (potL a1 c e1) p = some (potL a1 c e1) := mset_same
  refine ⟨_, _, rfl, rfl, ?_⟩
  have hn1 : (1 : Int) + (k : Nat) = ((1 + k : Nat) : Int) := by omega
  rw [hn1]
  generalize hn : 1 + k = n
  have n1 : 1 ≤ n := by omega
  have nm : n ≤ m := by omega
  refine wss_cons (ws_if (wt_eqS (we_call F0 (hr.mono (by decide)) (wa_cons (we_var 0 rfl (wa_cons (we_int (wa_nil ⟨rfl, p, _, a1, c, e1, rfl, by decide, by decide, M1, co, by omega, by omega, fun r a2 e2 r0 r1 j3 j4 => we_int ⟨_, rfl, ?_⟩⟩))))))))
  rw [mset_mset]
  have M2 : mset M p (potL a2 c e2) p = some (potL a2 c e2) := mset_same
  refine ite_dec (fun _ => ?_) fun _ => ?_
  · refine wss_cons (ws_set 3 nd (we_call F1 (hr.mono (by decide)) (wa_cons (we_var 0 rfl (wa_cons (we_lst (wa_cons (we_int (wa_cons (we_int (wa_cons (we_int (wa_cons (we_int (wa_nil ⟨by show 4 ≤ sizeLine; decide, wa_nil ⟨rfl, p, _, a2, c, e2, rfl, by simp, by show 4 ≤ 1000000; decide, M2, co, by omega, by omega, fun x a3 e3 hx j5 j6 => ?_⟩⟩)))))))))))))))
    rw [mset_mset]
    obtain ⟨o, rfl, ho⟩ : ∃ o : Int, x = .int o ∧ 0 ≤ o := by
      simp only [List.mem_cons, List.not_mem_nil, or_false] at hx
      rcases hx with rfl | rfl | rfl | rfl <;> exact ⟨_, rfl, by decide⟩
    refine wss_cons (ws_set 4 nd (we_lstM (wa_nil ⟨Nat.zero_le _, fun q hq => ?_⟩)))
    have hpq : p ≠ q := fun e => by rw [← e, mset_same] at hq; cases hq
    have hq0 : M q = none := by rw [mset_ne (Ne.symm hpq)] at hq; exact hq
    refine wss_cons (ws_for PassesOwn.never (wi_range1 (F.bn _ (by decide +kernel)) (wa_cons (we_var 2 rfl (wa_nil ⟨_, rfl, by omega, by omega, ?_⟩)))))
    rw [show ((n : Nat) : Int).toNat = n by omega]
    refine ⟨fun i ρ' M' => ∃ o5 o6 ps a' d', ρ' = [some (.ob p), some (.int (m : Nat)), some (.int (n : Nat)), some (.int o), some (.ob q), o5, o6, none, none, none, none, none] ∧ M' = mset (mset M p (potL a' c d')) q (.lst (ps.map pairD)) ∧ ps.Pairwise ltP ∧ (∀ z ∈ ps, z.1 < i ∧ z.1 < z.2 ∧ z.2 < n) ∧ ps.length ≤ i * 30 ∧ e3 ≤ d' ∧ d' ≤ e3 + (i * 30 : Nat), ⟨none, none, [], a3, e3, rfl, rfl, .nil, fun z hz => (by cases hz), Nat.zero_le _, Int.le_refl _, by omega⟩, ?_, ?_⟩
    · rintro i x ρ' M' hx ⟨o5, o6, ps, a', d', rfl, rfl, k1, k2, k3, k4, k5⟩
      obtain ⟨hi, rfl⟩ := rngD_get hx
      have hi : i < n := hi
      refine wg_name 5 ?_ nd
      refine wss_cons (ws_expr (we_extend (we_var 4 rfl ⟨q, _, rfl, mset_same, we_lc nd (blkOk_by (N := nWebD) (sc := defScope s__law_web) (own := [("_law_other", 6)]) (by decide +kernel)) (fun _ _ _ _ _ => pg_name (i := 6) nd rfl (Or.inl rfl)) (gt_name (by decide)) pt_blk tk_one (wi_range2 (F.bn _ (by decide +kernel)) (wa_cons (we_addI (we_var 5 rfl (we_int ⟨_, _, rfl, rfl, wa_cons (we_var 2 rfl (wa_nil ⟨_, _, rfl, ⟨by omega, by omega, by omega⟩, ?_⟩))⟩)))))⟩)))
      rw [show ((n : Nat) - ((0 : Int) + (i : Nat) + 1) : Int).toNat = n - (i + 1) by omega]
      refine ⟨by rw [rngD_len, sizeLine_eq]; omega, fun j acc M2 => ∃ ls a4 e4, acc = ls.map pairD ∧ M2 = mset (mset M p (potL a4 c e4)) q (.lst (ps.map pairD)) ∧ ls.Pairwise ltP ∧ (∀ z ∈ ls, z.1 = i ∧ i < z.2 ∧ z.2 < i + 1 + j ∧ z.2 < n) ∧ ls.length ≤ j ∧ d' ≤ e4 ∧ e4 ≤ d' + (j : Nat), ⟨[], a', d', rfl, rfl, .nil, fun z hz => (by cases hz), Nat.le_refl _, Int.le_refl _, by omega⟩, ?_, ?_⟩
      · rintro j y acc M2 hy ⟨ls, a4, e4, rfl, rfl, q1, q2, q3, q4, q5⟩
        obtain ⟨hj, rfl⟩ := rngD_get hy
        have hj : j < n - (i + 1) := hj
        intro s1 H1 C1 cl1 fp1
        have M4 : mset (mset M p (potL a4 c e4)) q (.lst (ps.map pairD)) p = some (potL a4 c e4) := by rw [mset_ne hpq]; exact mset_same
        refine wt_ltI (we_call F0 (hr.mono (by decide)) (wa_cons (we_var 0 rfl (wa_cons (we_int (wa_nil ⟨rfl, p, _, a4, c, e4, rfl, by decide, by decide, M4, co, by omega, by omega, fun r a5 e5 r0 r1 j7 j8 => we_var 3 rfl ⟨_, _, rfl, rfl, ?_⟩⟩))))))
        rw [mset_comm hpq, mset_mset]
        by_cases hro : r < o
        · rw [decide_eq_true hro]
          intro s2 H2 C2 cl2 fp2
          refine we_tup (wa_cons (we_var 5 rfl (wa_cons (we_var 6 rfl (wa_nil ⟨by show 2 ≤ sizeLine; decide, ls ++ [(i, i + 1 + j)], a5, e5, ?_, rfl, ?_, fun z hz => ?_, by rw [List.length_append]; show ls.length + 1 ≤ j + 1; omega, by omega, by omega⟩)))))
          · rw [List.map_append]
            show _ ++ [D.tup [_, _]] = _ ++ [D.tup [_, _]]
            rw [show (0 : Int) + (i : Nat) = ((i : Nat) : Int) by omega, show ((i : Nat) : Int) + 1 + (j : Nat) = ((i + 1 + j : Nat) : Int) by omega]
          · rw [List.pairwise_append]
            refine ⟨q1, List.pairwise_singleton _ _, fun z hz u hu => ?_⟩
            rw [List.mem_singleton.mp hu]
            have := q2 z hz
            exact .inr ⟨this.1, by show z.2 < i + 1 + j; omega⟩
          · rcases List.mem_append.mp hz with hz | hz
            · have := q2 z hz
              exact ⟨this.1, this.2.1, by omega, this.2.2.2⟩
            · rw [List.mem_singleton.mp hz]
              exact ⟨rfl, by show i < i + 1 + j; omega, by show i + 1 + j < i + 1 + (j + 1); omega, by show i + 1 + j < n; omega⟩
        · rw [decide_eq_false hro]
          exact ⟨ls, a5, e5, rfl, rfl, q1, fun z hz => by have := q2 z hz; exact ⟨this.1, this.2.1, by omega, this.2.2.2⟩, by omega, by omega, by omega⟩
      · rintro acc M2 ⟨ls, a4, e4, rfl, rfl, q1, q2, q3, q4, q5⟩
        rw [rngD_len] at q2 q3 q5
        refine ⟨_, _, mset_same, rfl, by rw [List.length_map, List.length_map, sizeLine_eq]; omega, ?_⟩
        rw [mset_mset]
        refine wss_nil ⟨_, _, ps ++ ls, a4, e4, rfl, by rw [List.map_append], ?_, fun z hz => ?_, by rw [List.length_append]; omega, by omega, by omega⟩
        · rw [List.pairwise_append]
          refine ⟨k1, q1, fun z hz u hu => .inl ?_⟩
          have := (k2 z hz).1
          have := (q2 u hu).1
          omega
        · rcases List.mem_append.mp hz with hz | hz
          · have := k2 z hz
            exact ⟨by omega, this.2.1, this.2.2⟩
          · have := q2 z hz
            exact ⟨by omega, by omega, this.2.2.2⟩
    · rintro ρ' M' ⟨o5, o6, ps, a', d', rfl, rfl, k1, k2, k3, k4, k5⟩
      rw [rngD_len] at k2 k3 k5
      have hlp : ps.length ≤ 900 := Nat.le_trans k3 (by omega)
      refine wss_cons (ws_ret (we_tup (wa_cons (we_var 2 rfl (wa_cons (we_tupleOf (F.bn _ (by decide +kernel)) (we_var 4 rfl ⟨ps.map pairD, .inl mset_same, wa_nil ⟨by show 2 ≤ sizeLine; decide, _, mset M p (potL a' c d'), les_new ?_, .same _, hc n ps a' d' n1 nm ⟨fun z hz => (k2 z hz).2, k1⟩ (by omega) (by omega)⟩⟩)))))))
      rw [mset_ne (Ne.symm hpq)]; exact hq0
  · refine wss_nil (wss_cons (ws_set 7 nd (we_call F2 (hr.mono (by decide)) (wa_cons (we_var 0 rfl (wa_cons (we_var 2 rfl (wa_cons (we_int (wa_nil ⟨rfl, p, a2, c, e2, n, rfl, n1, by omega, M2, co, by omega, by show e2 + ((1364 : Nat) : Int) < 100000; omega, fun t a3 e3 hst j5 j6 => ?_⟩))))))))))
    rw [mset_mset]
    have j6 : e3 ≤ e2 + ((1364 : Nat) : Int) := j6
    obtain ⟨ok, h5, _⟩ := sh_ok hst.1 (Nat.le_refl 5)
    have hN := hst.2
    have hpl := persL_len ok.2.1
    have hpT := prs_T t
    rw [hpl] at hpT
    generalize hs : ppl t = N at hN hpT hpl
    have hN1 : 1 ≤ N := by rw [← hs]; exact ppl_pos ok.1
    have hlp : (prsT t).length ≤ 900 := Nat.le_trans (prs_len hpT) (Nat.mul_le_mul (show N ≤ 30 by omega) (show N ≤ 30 by omega))
    have M3 : mset M p (potL a3 c e3) p = some (potL a3 c e3) := mset_same
    refine wss_cons (ws_set 8 nd (we_call F3 (hr.mono (by decide)) (wa_cons (we_var 7 rfl (wa_nil ⟨rfl, t, rfl, ok, h5, ?_⟩)))))
    rw [hs]
    refine wss_cons (ws_set 9 nd (we_call F4 (hr.mono (by decide)) (wa_cons (we_var 0 rfl (wa_cons (we_listRg1 (F.bn _ (by decide +kernel)) (F.bn _ (by decide +kernel)) (we_var 8 rfl ⟨_, rfl, ⟨by omega, by omega, by omega⟩, wa_cons (we_var 8 rfl (wa_nil ⟨rfl, p, _, N, a3, c, e3, rfl, ?_, ?_, M3, co, by omega, by omega, fun ys a4 e4 hlen hin hnd j7 j8 => ?_⟩))⟩)))))))
    · rw [rngD_len]; omega
    · rw [rngD_len]; omega
    rw [mset_mset]
    rw [show ((N : Nat) : Int).toNat = N by omega] at hin hnd
    obtain ⟨os, rfl, ho⟩ := drawn_nats hin
    have hos : os.Nodup := nodup_nats (hnd (rng_nodup N))
    rw [List.length_map] at hlen
    have ix : ∀ {i : Nat}, i < N → (os.map fun (i : Nat) => D.int (i : Nat))[i]? = some (.int (os.getD i 0 : Nat)) := fun {i} hi => by
      rw [List.getElem?_map, List.getD_eq_getElem?_getD, List.getElem?_eq_getElem (by omega)]; rfl
    have og : ∀ {i : Nat}, i < N → os.getD i 0 < N := fun {i} hi => by
      rw [List.getD_eq_getElem?_getD, List.getElem?_eq_getElem (by omega)]
      exact ho _ (List.getElem_mem _)
    have inj : ∀ {i j : Nat}, i < N → j < N → i ≠ j → os.getD i 0 ≠ os.getD j 0 := fun {i j} hi hj hij e => by
      rw [List.getD_eq_getElem?_getD, List.getD_eq_getElem?_getD, List.getElem?_eq_getElem (by omega), List.getElem?_eq_getElem (by omega)] at e
      have e : os[i]'(by omega) = os[j]'(by omega) := e
      rcases Nat.lt_trichotomy i j with q | q | q
      · exact absurd e (List.pairwise_iff_getElem.mp hos i j (by omega) (by omega) q)
      · exact hij q
      · exact absurd e.symm (List.pairwise_iff_getElem.mp hos j i (by omega) (by omega) q)
    have M4 : mset M p (potL a4 c e4) p = some (potL a4 c e4) := mset_same
    have last : ∀ (fs : List (Nat × Nat)) (o5 o6 o11 : Option D) (a5 e5 : Int), fs.Nodup → (∀ z ∈ fs, z.1 < z.2 ∧ z.2 < N) → d ≤ e5 → e5 ≤ d + 3000 →
        WSs (bx P w K mg base nWebD "_law_web" (defScope s__law_web) f cdv A outer s H E) [some (.ob p), some (.int (m : Nat)), some (.int (n : Nat)), none, none, o5, o6, some (trD t), some (.int (N : Nat)), some (.lst (os.map fun (i : Nat) => D.int (i : Nat))), some (.lst (fs.map pairD)), o11] (mset M p (potL a5 c e5)) [(defBody s__law_web).getLast (by decide)] { nx := fun _ M' => Φ .non M', rt := Lets Φ } := by
      intro fs o5 o6 o11 a5 e5 hf hz k1 k2
      refine wss_cons (ws_ret (we_tup (wa_cons (we_var 8 rfl (wa_cons (we_tupleOf (F.bn _ (by decide +kernel)) (we_sortedP (F.bn _ (by decide +kernel)) (we_var 10 rfl ⟨fs, rfl, hf, _, .inl rfl, wa_nil ⟨by show 2 ≤ sizeLine; decide, Lets.of (hc N (sortP fs) a5 e5 hN1 (by omega) ⟨fun z hm => hz z ((sortP_mem fs z).mp hm), sortP_asc fs⟩ k1 k2)⟩⟩))))))))
    refine wss_cons (ws_setLc 10 nd (blkOk_by (N := nWebD) (sc := defScope s__law_web) (own := [("_law_one", 5), ("_law_other", 6)]) (by decide +kernel)) (fun _ _ _ _ _ => pg_tup rfl (pgs_cons (pg_name (i := 5) nd rfl (Or.inl rfl)) (pgs_cons (pg_name (i := 6) nd rfl (Or.inl rfl)) pgs_nil)) rfl rfl) (gt_two (by decide) (by decide)) (fun _ _ _ _ _ => pts_nil) tk_nil (wi_tup (we_call F5 (hr.mono (by decide)) (wa_cons (we_var 7 rfl (wa_nil ⟨rfl, t, rfl, ok, by omega, by omega, _, rfl, ?_⟩))))) rfl)
    refine ⟨by rw [List.length_map, sizeLine_eq]; omega, fun i acc M' => M' = mset M p (potL a4 c e4) ∧ acc = (((prsT t).take i).map fun q => srt (os.getD q.1 0) (os.getD q.2 0)).map pairD, ⟨rfl, rfl⟩, ?_, ?_⟩
    · rintro i x acc M' hx ⟨rfl, rfl⟩
      rw [List.getElem?_map] at hx
      obtain ⟨q, hq, rfl⟩ := Option.map_eq_some_iff.mp hx
      have hq2 := hpT.inn q (List.mem_of_getElem? hq)
      refine ⟨_, _, rfl, ?_⟩
      intro s1 H1 C1 cl1 fp1
      refine we_tupleOf (F.bn _ (by decide +kernel)) (we_sortedI (F.bn _ (by decide +kernel)) (we_lst (wa_cons (we_ix (we_var 9 rfl (we_var 5 rfl ⟨_, _, rfl, ixL (atI_nat (ix (by omega : q.1 < N))), wa_cons (we_ix (we_var 9 rfl (we_var 6 rfl ⟨_, _, rfl, ixL (atI_nat (ix (by omega : q.2 < N))), wa_nil ⟨by show 2 ≤ sizeLine; decide, [((os.getD q.1 0 : Nat) : Int), ((os.getD q.2 0 : Nat) : Int)], rfl, fun ms h1 h2 => ⟨_, .inl rfl, rfl, ?_⟩⟩⟩)))⟩))))))
      rw [sort_two (inj (by omega) (by omega) (by omega)) h1 h2, take_snoc hq, List.map_append, List.map_append]; rfl
    rintro acc M' ⟨rfl, rfl⟩
    rw [List.length_map, List.take_length]
    have f1 := nodup_mapped hos hlen hpT
    have f2 : ∀ z ∈ (prsT t).map (fun q => srt (os.getD q.1 0) (os.getD q.2 0)), z.1 < z.2 ∧ z.2 < N := fun z hz => by
      obtain ⟨q, hq, rfl⟩ := List.mem_map.mp hz
      have hq2 := hpT.inn q hq
      exact srt_ok (inj (by omega) (by omega) (by omega)) (og (by omega)) (og (by omega))
    have f3 : ((prsT t).map fun q => srt (os.getD q.1 0) (os.getD q.2 0)).length ≤ 900 := by rw [List.length_map]; exact hlp
    generalize hfd : ((prsT t).map fun q => srt (os.getD q.1 0) (os.getD q.2 0)) = fd at f1 f2 f3
    refine wss_cons (ws_if (wt_ww (ww_and (wt_gtI (we_var 8 rfl (we_int ⟨_, _, rfl, rfl, ?_⟩))))))
    by_cases hN2 : (1 : Int) < (N : Nat)
    · rw [decide_eq_true hN2]
      refine ww_and1 (wt_eqS (we_call F0 (hr.mono (by decide)) (wa_cons (we_var 0 rfl (wa_cons (we_int (wa_nil ⟨rfl, p, _, a4, c, e4, rfl, by decide, by decide, M4, co, by omega, by omega, fun r a5 e5 r0 r1 j9 j10 => we_int ⟨_, rfl, ?_⟩⟩)))))))
      rw [mset_mset]
      have M5 : mset M p (potL a5 c e5) p = some (potL a5 c e5) := mset_same
      refine ite_dec (fun _ => ?_) fun _ => wss_nil (last _ _ _ _ _ _ f1 f2 (by omega) (by omega))
      refine wss_cons (ws_asg (we_sortedI (F.bn _ (by decide +kernel)) (we_call F4 (hr.mono (by decide)) (wa_cons (we_var 0 rfl (wa_cons (we_listRg1 (F.bn _ (by decide +kernel)) (F.bn _ (by decide +kernel)) (we_var 8 rfl ⟨_, rfl, ⟨by omega, by omega, by omega⟩, wa_cons (we_int (wa_nil ⟨rfl, p, _, 2, a5, c, e5, rfl, by rw [rngD_len]; omega, by rw [rngD_len]; omega, M5, co, by omega, by omega, fun ys a6 e6 hlen2 hin2 hnd2 j11 j12 => ?_⟩))⟩))))))))
      rw [mset_mset]
      rw [show ((N : Nat) : Int).toNat = N by omega] at hin2 hnd2
      obtain ⟨os2, rfl, ho2⟩ := drawn_nats hin2
      have hos2 : os2.Nodup := nodup_nats (hnd2 (rng_nodup N))
      rw [List.length_map] at hlen2
      obtain ⟨x, y, rfl⟩ : ∃ x y, os2 = [x, y] := by
        match os2, hlen2 with
        | [x, y], _ => exact ⟨x, y, rfl⟩
      have hxy : x ≠ y := by simpa using hos2
      have hx := ho2 x (by simp)
      have hy := ho2 y (by simp)
      have hs2 := srt_ok hxy hx hy
      refine ⟨[(x : Int), (y : Int)], rfl, fun ms h1 h2 => ?_⟩
      rw [sort_two hxy h1 h2]
      generalize srt x y = z at hs2
      refine wg_unl ⟨rfl, rfl, wgs_cons (wg_name 5 (wgs_cons (wg_name 6 (wgs_nil ⟨rfl, ?_⟩) nd)) nd)⟩
      refine wss_cons (ws_set 10 nd (we_addL (we_lc nd (blkOk_by (N := nWebD) (sc := defScope s__law_web) (own := [("_law_pair", 11)]) (by decide +kernel)) (fun _ _ _ _ _ => pg_name (i := 11) nd rfl (Or.inl rfl)) (gt_name (by decide)) pt_blk tk_one (wi_list (we_var 10 rfl ⟨_, .inl rfl, ?_⟩)))))
      refine ⟨by rw [List.length_map, sizeLine_eq]; omega, fun i acc M' => M' = mset M p (potL a6 c e6) ∧ acc = ((fd.take i).filter fun q => !decide (q = z)).map pairD, ⟨rfl, rfl⟩, ?_, ?_⟩
      · rintro i x acc M' hx2 ⟨rfl, rfl⟩
        rw [List.getElem?_map] at hx2
        obtain ⟨q, hq, rfl⟩ := Option.map_eq_some_iff.mp hx2
        intro s1 H1 C1 cl1 fp1
        refine wt_neD hr.units (we_var 11 rfl (we_tup (wa_cons (we_var 5 rfl (wa_cons (we_var 6 rfl (wa_nil ⟨by show 2 ≤ sizeLine; decide, _, _, (cmp_pr q).eq, (cmp_pr z).eq, (cmp_pr q).shaped (by decide), (cmp_pr z).shaped (by decide), ?_⟩)))))))
        rw [eqv_pair]
        by_cases hqz : q = z
        · rw [decide_eq_true hqz]
          refine ⟨rfl, ?_⟩
          rw [take_snoc hq, List.filter_append, List.filter_cons, decide_eq_true hqz]
          simp
        · rw [decide_eq_false hqz]
          intro s2 H2 C2 cl2 fp2
          refine we_var 11 rfl ⟨rfl, ?_⟩
          rw [take_snoc hq, List.filter_append, List.filter_cons, decide_eq_false hqz, List.map_append]
          rfl
      · rintro acc M' ⟨rfl, rfl⟩
        rw [List.length_map, List.take_length]
        refine we_repI (we_lst (wa_cons (we_tup (wa_cons (we_var 5 rfl (wa_cons (we_var 6 rfl (wa_nil ⟨by show 2 ≤ sizeLine; decide, wa_nil ⟨by show 1 ≤ sizeLine; decide, ?_⟩⟩))))))))
        refine we_intN (F.bn _ (by decide +kernel)) (we_notInP (by have := hr.un; show (A.deeper _).units + 65 < cLine; omega) (we_tup (wa_cons (we_var 5 rfl (wa_cons (we_var 6 rfl (wa_nil ⟨by show 2 ≤ sizeLine; decide, we_var 10 rfl ⟨z, fd, rfl, rfl, .inr ⟨_, rfl, ?_⟩⟩⟩)))))))
        have fl : (fd.filter fun q => !decide (q = z)).length ≤ 900 := Nat.le_trans (List.length_filter_le _ _) f3
        have fn : ∀ k ≤ 1, WSs (bx P w K mg base nWebD "_law_web" (defScope s__law_web) f cdv A outer s H E) [some (.ob p), some (.int (m : Nat)), some (.int (n : Nat)), none, none, some (.int (z.1 : Nat)), some (.int (z.2 : Nat)), some (trD t), some (.int (N : Nat)), some (.lst (os.map fun (i : Nat) => D.int (i : Nat))), some (.lst ((fd.filter fun q => !decide (q = z)).map pairD ++ List.replicate k (pairD z))), none] (mset M p (potL a6 c e6)) [] { nx := fun ρ' M' => WSs (bx P w K mg base nWebD "_law_web" (defScope s__law_web) f cdv A outer s H E) ρ' M' [(defBody s__law_web).getLast (by decide)] { nx := fun _ M' => Φ .non M', rt := Lets Φ }, rt := Lets Φ } := fun k hk => by
          rw [show (fd.filter fun q => !decide (q = z)).map pairD ++ List.replicate k (pairD z) = (fd.filter (fun q => !decide (q = z)) ++ List.replicate k z).map pairD by rw [List.map_append, List.map_replicate]]
          refine wss_nil (last _ _ _ _ _ _ ?_ (fun u hu => ?_) (by omega) (by omega))
          · refine List.nodup_append.mpr ⟨f1.filter _, ?_, ?_⟩
            · match k, hk with
              | 0, _ => exact .nil
              | 1, _ => exact List.pairwise_singleton _ _
            · intro u hu v hv e
              have h1 := (List.mem_filter.mp hu).2
              rw [List.eq_of_mem_replicate hv] at e
              rw [e] at h1
              simp at h1
          · rcases List.mem_append.mp hu with hu | hu
            · exact f2 u (List.mem_filter.mp hu).1
            · rw [List.eq_of_mem_replicate hu]; exact hs2
        cases hz : decide (z ∈ fd) with
        | true => exact ⟨pairD z, 0, rfl, rfl, Nat.zero_le _, _, _, rfl, rfl, by rw [List.length_map, List.length_replicate, sizeLine_eq]; omega, fn 0 (by omega)⟩
        | false => exact ⟨pairD z, 1, rfl, rfl, by decide, _, _, rfl, rfl, by rw [List.length_map, List.length_replicate, sizeLine_eq]; omega, fn 1 (by omega)⟩
    · rw [decide_eq_false hN2]
      exact wss_nil (last _ _ _ _ _ _ f1 f2 (by omega) (by omega))
end
end W
namespace DL
open PySem PySem.Spec PyProof.Rows L2
section
variable {X : Cx} {ρ : Rho} {M : Mp} {Φ : D → Mp → Prop} {Θ : Bool → Mp → Prop} {a b : Expr} {pos : Pos}
theorem rd_inI {x y : D} (h : ∃ (z : Int) (zs : List Int), x = .int z ∧ (y = .tup (zs.map D.int) ∨ LstOf M y (zs.map D.int)) ∧ Φ (.bl (decide (z ∈ zs))) M) : RD X.K (rIn X.K false) x y M Φ := fun Z v u H Q w r1 r2 k => by
  obtain ⟨z, zs, rfl, hy, h⟩ := h
  cases r1
  rcases hy with rfl | hy
  · obtain ⟨q, vs, rfl, hq, rs⟩ := r2.asTup
    rw [rs.ints] at hq
    exact ⟨q, _, rfl, .inr hq, rfl, flat_ints zs, by rw [inV_ints]; exact k.now w (.bl _) h⟩
  · obtain ⟨q, vs, rfl, hq, rs⟩ := r2.asLst w hy
    rw [rs.ints] at hq
    exact ⟨q, _, rfl, .inl hq, rfl, flat_ints zs, by rw [inV_ints]; exact k.now w (.bl _) h⟩
theorem wt_inI (h : WE X ρ M a fun x M1 => WE X ρ M1 b fun y M2 => ∃ (z : Int) (zs : List Int), x = .int z ∧ (y = .tup (zs.map D.int) ∨ LstOf M2 y (zs.map D.int)) ∧ Θ (decide (z ∈ zs)) M2) (hm : behindInMarks .In b = false := by rfl) : WT X ρ M (.Compare a [.In] [b] pos) Θ :=
  wt_cmp op_in_seq hm (h.imp fun _ _ h => h.imp fun _ _ ⟨z, zs, e1, e2, h⟩ => rd_inI ⟨z, zs, e1, e2, _, rfl, h⟩)
end
end DL
namespace DL
open PySem PySem.Spec PyProof.Rows L2
section
variable {X : Cx} {ρ : Rho} {M : Mp} {Φ : D → Mp → Prop} {Θ : Bool → Mp → Prop} {a b : Expr} {pos : Pos}
theorem rd_outI {x y : D} (h : ∃ (z : Int) (zs : List Int), x = .int z ∧ (y = .tup (zs.map D.int) ∨ LstOf M y (zs.map D.int)) ∧ Φ (.bl (!decide (z ∈ zs))) M) : RD X.K (rIn X.K true) x y M Φ := fun Z v u H Q w r1 r2 k => by
  obtain ⟨z, zs, rfl, hy, h⟩ := h
  cases r1
  rcases hy with rfl | hy
  · obtain ⟨q, vs, rfl, hq, rs⟩ := r2.asTup
    rw [rs.ints] at hq
    exact ⟨q, _, rfl, .inr hq, rfl, flat_ints zs, by rw [inV_ints]; exact k.now w (.bl _) (by simpa using h)⟩
  · obtain ⟨q, vs, rfl, hq, rs⟩ := r2.asLst w hy
    rw [rs.ints] at hq
    exact ⟨q, _, rfl, .inl hq, rfl, flat_ints zs, by rw [inV_ints]; exact k.now w (.bl _) (by simpa using h)⟩
theorem wt_outI (h : WE X ρ M a fun x M1 => WE X ρ M1 b fun y M2 => ∃ (z : Int) (zs : List Int), x = .int z ∧ (y = .tup (zs.map D.int) ∨ LstOf M2 y (zs.map D.int)) ∧ Θ (!decide (z ∈ zs)) M2) (hm : behindInMarks .NotIn b = false := by rfl) : WT X ρ M (.Compare a [.NotIn] [b] pos) Θ :=
  wt_cmp op_notIn_seq hm (h.imp fun _ _ h => h.imp fun _ _ ⟨z, zs, e1, e2, h⟩ => rd_outI ⟨z, zs, e1, e2, _, rfl, h⟩)
end
end DL
namespace PL
structure Gph (kn : Nat → Nat → Bool) : Prop where
  sym : ∀ a b, kn a b = kn b a
  irr : ∀ a, kn a a = false
/-- the other way round -/
def co (kn : Nat → Nat → Bool) (a b : Nat) : Bool := decide (a ≠ b) && !kn a b
theorem co_true {kn : Nat → Nat → Bool} {a b : Nat} : co kn a b = true ↔ a ≠ b ∧ kn a b = false := by
  unfold co
  rw [Bool.and_eq_true, decide_eq_true_eq, Bool.not_eq_true']
theorem co_false {kn : Nat → Nat → Bool} {a b : Nat} (h : co kn a b = false) (n : a ≠ b) : kn a b = true := by
  unfold co at h
  rw [decide_eq_true n, Bool.true_and] at h
  cases e : kn a b with
  | true => rfl
  | false => rw [e] at h; cases h
theorem Gph.co {kn : Nat → Nat → Bool} (g : Gph kn) : Gph (co kn) where
  sym := fun a b => by
    unfold PL.co
    rw [g.sym a b]
    congr 1
    exact decide_eq_decide.mpr ⟨Ne.symm, Ne.symm⟩
  irr := fun a => by unfold PL.co; simp
theorem co_co {kn : Nat → Nat → Bool} (g : Gph kn) : co (co kn) = kn := by
  funext a b
  unfold co
  by_cases h : a = b
  · subst h; simp [g.irr]
  · simp [h]
/-- no parting without a tie -/
def Conn (r : Nat → Nat → Bool) (S : List Nat) : Prop := ∀ A : Nat → Bool, (∃ x ∈ S, A x = true) → (∃ y ∈ S, A y = false) → ∃ x ∈ S, ∃ y ∈ S, A x = true ∧ A y = false ∧ r x y = true
structure P4 (kn : Nat → Nat → Bool) (a b c d : Nat) : Prop where
  ab : kn a b = true
  bc : kn b c = true
  cd : kn c d = true
  ac : kn a c = false
  bd : kn b d = false
  ad : kn a d = false
theorem bne {kn : Nat → Nat → Bool} {a b c d : Nat} (h1 : kn a b = true) (h2 : kn c d = false) : ¬ (a = c ∧ b = d) := fun ⟨e1, e2⟩ => by rw [e1, e2, h2] at h1; cases h1
theorem P4.ne {kn : Nat → Nat → Bool} (g : Gph kn) {a b c d : Nat} (h : P4 kn a b c d) : a ≠ b ∧ a ≠ c ∧ a ≠ d ∧ b ≠ c ∧ b ≠ d ∧ c ≠ d := by
  have s : ∀ {x y : Nat}, kn x y = true → x ≠ y := fun {x y} q e => by rw [e, g.irr] at q; cases q
  refine ⟨s h.ab, fun e => bne h.cd h.ad ⟨e.symm, rfl⟩, fun e => ?_, s h.bc, fun e => bne h.ab h.ad ⟨rfl, e⟩, s h.cd⟩
  have q := h.ab
  rw [e, g.sym, h.bd] at q; cases q
/-- the other way round a chain is a chain -/
theorem P4.co {kn : Nat → Nat → Bool} (g : Gph kn) {a b c d : Nat} (h : P4 (PL.co kn) a b c d) : P4 kn b d a c := by
  obtain ⟨n1, n2, n3, n4, n5, n6⟩ := h.ne g.co
  exact ⟨co_false h.bd n5, by rw [g.sym]; exact co_false h.ad n3, co_false h.ac n2, by rw [g.sym]; exact (co_true.mp h.ab).2, by rw [g.sym]; exact (co_true.mp h.cd).2, (co_true.mp h.bc).2⟩
def HasP4 (kn : Nat → Nat → Bool) (S : List Nat) : Prop := ∃ a ∈ S, ∃ b ∈ S, ∃ c ∈ S, ∃ d ∈ S, P4 kn a b c d
theorem HasP4.co {kn : Nat → Nat → Bool} (g : Gph kn) {S : List Nat} (h : HasP4 (PL.co kn) S) : HasP4 kn S := by
  obtain ⟨a, ha, b, hb, c, hc, d, hd, h⟩ := h
  exact ⟨b, hb, d, hd, a, ha, c, hc, h.co g⟩
theorem HasP4.mono {kn : Nat → Nat → Bool} {S S' : List Nat} (h : HasP4 kn S) (m : ∀ x ∈ S, x ∈ S') : HasP4 kn S' := by
  obtain ⟨a, ha, b, hb, c, hc, d, hd, h⟩ := h
  exact ⟨a, m a ha, b, m b hb, c, m c hc, d, m d hd, h⟩
theorem core {kn : Nat → Nat → Bool} (g : Gph kn) {S : List Nat} {v : Nat} (hv : v ∈ S) (hc : Conn kn S) (hcc : Conn (co kn) S) {A : Nat → Bool} (h1 : ∃ x ∈ S, x ≠ v ∧ A x = true) (h2 : ∃ y ∈ S, y ≠ v ∧ A y = false)
    (h : ∀ x ∈ S, ∀ y ∈ S, x ≠ v → y ≠ v → A x = true → A y = false → kn x y = false) : HasP4 kn S := by
  have other : ∃ y ∈ S, y ≠ v := by obtain ⟨x, hx, hn, _⟩ := h1; exact ⟨x, hx, hn⟩
  obtain ⟨x0, hx0, u, hu, e0, e1, e2⟩ := hcc (fun x => decide (x = v)) ⟨v, hv, decide_eq_true rfl⟩ (by obtain ⟨y, hy, hn⟩ := other; exact ⟨y, hy, decide_eq_false hn⟩)
  have e0 := of_decide_eq_true e0
  have e1 := of_decide_eq_false e1
  subst e0
  have huv : kn u x0 = false := by rw [g.sym]; exact (co_true.mp e2).2
  have main : ∀ A : Nat → Bool, (∃ y ∈ S, y ≠ x0 ∧ A y = false) → (∀ x ∈ S, ∀ y ∈ S, x ≠ x0 → y ≠ x0 → A x = true → A y = false → kn x y = false) → A u = true → HasP4 kn S := by
    intro A h2 h hA
    obtain ⟨x, hx, y, hy, q1, q2, q3⟩ := hc (fun z => decide (z ≠ x0) && (A z && !kn z x0)) ⟨u, hu, by rw [decide_eq_true e1, hA, huv]; rfl⟩ ⟨x0, hv, by simp⟩
    rw [Bool.and_eq_true, Bool.and_eq_true, decide_eq_true_eq, Bool.not_eq_true'] at q1
    obtain ⟨xn, xA, xk⟩ := q1
    have yn : y ≠ x0 := fun e => by rw [e, xk] at q3; cases q3
    have yA : A y = true := by
      cases e : A y with
      | true => rfl
      | false => rw [h x hx y hy xn yn xA e] at q3; cases q3
    have yk : kn y x0 = true := by
      rw [decide_eq_true yn, yA, Bool.true_and, Bool.true_and] at q2
      cases e : kn y x0 with
      | true => rfl
      | false => rw [e] at q2; cases q2
    obtain ⟨y2, hy2, yn2, yA2⟩ := h2
    obtain ⟨z, hz, z', hz', p1, p2, p3⟩ := hc (fun z => decide (z ≠ x0) && !A z) ⟨y2, hy2, by rw [decide_eq_true yn2, yA2]; rfl⟩ ⟨x0, hv, by simp⟩
    rw [Bool.and_eq_true, decide_eq_true_eq, Bool.not_eq_true'] at p1
    obtain ⟨zn, zA⟩ := p1
    have zk : kn z x0 = true := by
      by_cases e : z' = x0
      · rw [← e]; exact p3
      · rw [decide_eq_true e, Bool.true_and, Bool.not_eq_false'] at p2
        rw [g.sym, h z' hz' z hz e zn p2 zA] at p3; cases p3
    exact ⟨z, hz, x0, hv, y, hy, x, hx, zk, by rw [g.sym]; exact yk, by rw [g.sym]; exact q3, by rw [g.sym]; exact h y hy z hz yn zn yA zA, by rw [g.sym]; exact xk, by rw [g.sym]; exact h x hx z hz xn zn xA zA⟩
  cases hA : A u with
  | true => exact main A h2 h hA
  | false =>
    obtain ⟨x, hx, xn, xA⟩ := h1
    exact main (fun z => !A z) ⟨x, hx, xn, by rw [xA]; rfl⟩ (fun a ha b hb an bn qa qb => by rw [g.sym]; exact h b hb a ha bn an (by simpa using qb) (by simpa using qa)) (by show (!A u) = true; rw [hA]; rfl)
theorem not_conn {r : Nat → Nat → Bool} {S : List Nat} (h : ¬ Conn r S) : ∃ A : Nat → Bool, (∃ x ∈ S, A x = true) ∧ (∃ y ∈ S, A y = false) ∧ ∀ x ∈ S, ∀ y ∈ S, A x = true → A y = false → r x y = false := by
  apply Classical.byContradiction
  intro hn
  refine h fun A h1 h2 => ?_
  apply Classical.byContradiction
  intro hq
  refine hn ⟨A, h1, h2, fun x hx y hy a b => ?_⟩
  cases e : r x y with
  | false => rfl
  | true => exact absurd ⟨x, hx, y, hy, a, b, e⟩ hq
/-- without a chain a web falls apart in one of the ways -/
theorem falls {kn : Nat → Nat → Bool} (g : Gph kn) : ∀ (n : Nat) (S : List Nat), S.length ≤ n → S.Nodup → 2 ≤ S.length → Conn kn S → Conn (co kn) S → HasP4 kn S
  | 0, S, h0, _, h2, _, _ => by omega
  | n + 1, S, h0, nd, h2, hc, hcc => by
    match S, h0, nd, h2, hc, hcc with
    | v :: S', h0, nd, h2, hc, hcc =>
      obtain ⟨nv, nd'⟩ := List.nodup_cons.mp nd
      have tl : ∀ {x : Nat}, x ∈ v :: S' → x ≠ v → x ∈ S' := fun {x} hx hn => by
        rcases List.mem_cons.mp hx with e | e
        · exact absurd e hn
        · exact e
      have hd : ∀ {x : Nat}, x ∈ S' → x ≠ v := fun {x} hx e => nv (e ▸ hx)
      by_cases hl : 2 ≤ S'.length
      · by_cases k1 : Conn kn S'
        · by_cases k2 : Conn (co kn) S'
          · exact (falls g n S' (by simp at h0; omega) nd' hl k1 k2).mono fun x hx => List.mem_cons_of_mem _ hx
          · obtain ⟨A, ⟨x, hx, xa⟩, ⟨y, hy, ya⟩, hA⟩ := not_conn k2
            exact (core g.co List.mem_cons_self hcc (by rw [co_co g]; exact hc) ⟨x, List.mem_cons_of_mem _ hx, hd hx, xa⟩ ⟨y, List.mem_cons_of_mem _ hy, hd hy, ya⟩ fun a ha b hb an bn => hA a (tl ha an) b (tl hb bn)).co g
        · obtain ⟨A, ⟨x, hx, xa⟩, ⟨y, hy, ya⟩, hA⟩ := not_conn k1
          exact core g List.mem_cons_self hc hcc ⟨x, List.mem_cons_of_mem _ hx, hd hx, xa⟩ ⟨y, List.mem_cons_of_mem _ hy, hd hy, ya⟩ fun a ha b hb an bn => hA a (tl ha an) b (tl hb bn)
      · exfalso
        obtain ⟨u, rfl⟩ : ∃ u, S' = [u] := by
          cases S' with
          | nil => simp at h2
          | cons u r => cases r with
            | nil => exact ⟨u, rfl⟩
            | cons _ _ => simp at hl
        have hn : u ≠ v := hd List.mem_cons_self
        have w1 : ∃ x ∈ [v, u], decide (x = v) = true := ⟨v, List.mem_cons_self, decide_eq_true rfl⟩
        have w2 : ∃ x ∈ [v, u], decide (x = v) = false := ⟨u, by simp, decide_eq_false hn⟩
        obtain ⟨x, hx, y, hy, q1, q2, q3⟩ := hc (fun x => decide (x = v)) w1 w2
        obtain ⟨x', hx', y', hy', p1, p2, p3⟩ := hcc (fun x => decide (x = v)) w1 w2
        have ex := of_decide_eq_true q1
        have ex' := of_decide_eq_true p1
        have ey : y = u := by
          have := of_decide_eq_false q2
          simp only [List.mem_cons, List.not_mem_nil, or_false] at hy
          rcases hy with e | e
          · exact absurd e this
          · exact e
        have ey' : y' = u := by
          have := of_decide_eq_false p2
          simp only [List.mem_cons, List.not_mem_nil, or_false] at hy'
          rcases hy' with e | e
          · exact absurd e this
          · exact e
        rw [ex, ey] at q3
        rw [ex', ey'] at p3
        rw [(co_true.mp p3).2] at q3
        cases q3
theorem conn_one (r : Nat → Nat → Bool) (x : Nat) : Conn r [x] := fun A ⟨a, ha, h1⟩ ⟨b, hb, h2⟩ => by
  rw [List.mem_singleton.mp ha] at h1
  rw [List.mem_singleton.mp hb, h1] at h2
  cases h2
theorem Conn.add {r : Nat → Nat → Bool} (sy : ∀ a b, r a b = r b a) {S N : List Nat} {x : Nat} (h : Conn r S) (hx : x ∈ S) (hN : ∀ y ∈ N, r x y = true) : Conn r (S ++ N) := fun A ⟨a, ha, h1⟩ ⟨b, hb, h2⟩ => by
  have up : (∃ u ∈ S, ∃ v ∈ S, A u = true ∧ A v = false ∧ r u v = true) → ∃ u ∈ S ++ N, ∃ v ∈ S ++ N, A u = true ∧ A v = false ∧ r u v = true := fun ⟨u, hu, v, hv, q⟩ => ⟨u, List.mem_append_left _ hu, v, List.mem_append_left _ hv, q⟩
  cases e : A x with
  | true =>
    rcases List.mem_append.mp hb with hb | hb
    · exact up (h A ⟨x, hx, e⟩ ⟨b, hb, h2⟩)
    · exact ⟨x, List.mem_append_left _ hx, b, List.mem_append_right _ hb, e, h2, hN b hb⟩
  | false =>
    rcases List.mem_append.mp ha with ha | ha
    · exact up (h A ⟨a, ha, h1⟩ ⟨x, hx, e⟩)
    · exact ⟨a, List.mem_append_right _ ha, x, List.mem_append_left _ hx, h1, e, by rw [sy]; exact hN a ha⟩
theorem Conn.perm {r : Nat → Nat → Bool} {S S' : List Nat} (h : Conn r S) (p : S'.Perm S) : Conn r S' := fun A ⟨a, ha, h1⟩ ⟨b, hb, h2⟩ => by
  obtain ⟨u, hu, v, hv, q⟩ := h A ⟨a, p.mem_iff.mp ha, h1⟩ ⟨b, p.mem_iff.mp hb, h2⟩
  exact ⟨u, p.mem_iff.mpr hu, v, p.mem_iff.mpr hv, q⟩
/-- the pieces of some people -/
structure Pcs (r : Nat → Nat → Bool) (S : List Nat) (fs : List (List Nat)) : Prop where
  perm : fs.flatten.Perm S
  ne : ∀ f ∈ fs, f ≠ []
  conn : ∀ f ∈ fs, Conn r f
  apart : fs.Pairwise fun f g => ∀ x ∈ f, ∀ y ∈ g, r x y = false
  asc : ∀ f ∈ fs, f.Pairwise (· < ·)
theorem Pcs.len {r : Nat → Nat → Bool} {S : List Nat} {fs : List (List Nat)} (h : Pcs r S fs) : (fs.map List.length).sum = S.length := by
  rw [← List.length_flatten]; exact h.perm.length_eq
end PL
namespace PL
open PySem SX TL
theorem pers_row {b : Bool} {ts : List T} {i : Nat} {u : T} {p : List Nat} (h : ts[i]? = some u) (hp : isPers u p = true) : isPers (.row b ts) (i :: p) = true := by
  unfold isPers at hp ⊢
  have hi : i < cnt (.row b ts) := by rw [cnt_row]; exact (List.getElem?_eq_some_iff.mp h).1
  simp only [desc]
  rw [if_pos hi, show piece (.row b ts) i = some u from h, Option.bind_some]
  exact hp
theorem knows_row {b : Bool} {ts : List T} {i j : Nat} {u : T} {p q : List Nat} (h : ts[i]? = some u) : knowsB (.row b ts) (i :: p) (j :: q) = if i = j then knowsB u p q else b := by
  rw [knowsB, show piece (.row b ts) i = some u from h]
  rfl
/-- no chain within a plan -/
theorem no_chain : ∀ (a b c d : List Nat) (t : T), isPers t a = true → isPers t b = true → isPers t c = true → isPers t d = true → a ≠ b → a ≠ c → a ≠ d → b ≠ c → b ≠ d → c ≠ d →
    knowsB t a b = true → knowsB t b c = true → knowsB t c d = true → knowsB t a c = false → knowsB t b d = false → knowsB t a d = false → False
  | [], b, c, d, t, ha, hb, _, _, n1, _, _, _, _, _, _, _, _, _, _, _ => by
    obtain ⟨i, p, j, q, u, v, e, _⟩ := two_pers ha hb n1
    cases e
  | a0 :: a', b, c, d, t, ha, hb, hc, hd, n1, n2, n3, n4, n5, n6, ab, bc, cd, ac, bd, ad => by
    obtain ⟨_, _, b0, b', u, ub, e1, e2, _, _, pu, pb, ha', hb'⟩ := two_pers ha hb n1
    cases e1
    obtain ⟨_, _, c0, c', u2, uc, e1, e3, _, _, pu2, pc, _, hc'⟩ := two_pers ha hc n2
    cases e1
    obtain ⟨_, _, d0, d', u3, ud, e1, e4, _, _, pu3, pd, _, hd'⟩ := two_pers ha hd n3
    cases e1
    subst e2 e3 e4
    rw [knowsB] at ab bc cd ac bd ad
    have all : a0 = b0 ∧ a0 = c0 ∧ a0 = d0 := by
      cases hi : intr t with
      | true =>
        rw [hi] at ac bd ad
        have e1 : a0 = c0 := by by_cases e : a0 = c0; exact e; rw [if_neg e] at ac; cases ac
        have e2 : b0 = d0 := by by_cases e : b0 = d0; exact e; rw [if_neg e] at bd; cases bd
        have e3 : a0 = d0 := by by_cases e : a0 = d0; exact e; rw [if_neg e] at ad; cases ad
        exact ⟨e3.trans e2.symm, e1, e3⟩
      | false =>
        rw [hi] at ab bc cd
        have e1 : a0 = b0 := by by_cases e : a0 = b0; exact e; rw [if_neg e] at ab; cases ab
        have e2 : b0 = c0 := by by_cases e : b0 = c0; exact e; rw [if_neg e] at bc; cases bc
        have e3 : c0 = d0 := by by_cases e : c0 = d0; exact e; rw [if_neg e] at cd; cases cd
        exact ⟨e1, e1.trans e2, (e1.trans e2).trans e3⟩
    obtain ⟨rfl, rfl, rfl⟩ := all
    rw [pu] at pb pu2 pu3 pc pd
    cases pb; cases pu2; cases pu3; cases pc; cases pd
    rw [if_pos rfl, pu] at ab bc cd ac bd ad
    exact no_chain a' b' c' d' u ha' hb' hc' hd' (fun e => n1 (by rw [e])) (fun e => n2 (by rw [e])) (fun e => n3 (by rw [e])) (fun e => n4 (by rw [e])) (fun e => n5 (by rw [e])) (fun e => n6 (by rw [e])) ab bc cd ac bd ad
/-- a plan, and for each of some people its person -/
structure TB (kn : Nat → Nat → Bool) (S : List Nat) (t : T) (m : List (Nat × List Nat)) : Prop where
  good : Good t
  told : Told t
  hgt : ht t + 1 ≤ S.length
  len : (txt t).length + 5 ≤ 6 * S.length
  many : ppl t = S.length
  keys : (m.map (·.1)).Perm S
  pers : ∀ q ∈ m, isPers t q.2 = true
  kno : ∀ q ∈ m, ∀ r ∈ m, q.1 ≠ r.1 → q.2 ≠ r.2 ∧ knowsB t q.2 r.2 = kn q.1 r.1
theorem TB.one (kn : Nat → Nat → Bool) (x : Nat) : TB kn [x] .one [(x, [])] where
  good := trivial
  told := trivial
  hgt := by rw [ht]; simp
  len := by rw [txt]; simp
  many := by rw [ppl]; simp
  keys := .refl _
  pers := fun q hq => by rw [List.mem_singleton.mp hq]; rfl
  kno := fun q hq r hr n => by rw [List.mem_singleton.mp hq, List.mem_singleton.mp hr] at n; exact absurd rfl n
abbrev Tr := List Nat × T × List (Nat × List Nat)
/-- the people of the parts, by the number of the part -/
def joinM : Nat → List Tr → List (Nat × List Nat)
  | _, [] => []
  | k, x :: xs => x.2.2.map (fun q => (q.1, k :: q.2)) ++ joinM (k + 1) xs
theorem joinM_mem : ∀ {k : Nat} {xs : List Tr} {q : Nat × List Nat}, q ∈ joinM k xs → ∃ i x p, xs[i]? = some x ∧ (q.1, p) ∈ x.2.2 ∧ q.2 = (k + i) :: p
  | _, [], _, h => by cases h
  | k, x :: xs, q, h => by
    rw [joinM] at h
    rcases List.mem_append.mp h with h | h
    · obtain ⟨r, hr, rfl⟩ := List.mem_map.mp h
      exact ⟨0, x, r.2, rfl, hr, rfl⟩
    · obtain ⟨i, y, p, h1, h2, h3⟩ := joinM_mem h
      exact ⟨i + 1, y, p, h1, h2, by rw [h3]; congr 1; omega⟩
theorem joinM_snoc : ∀ (k : Nat) (xs : List Tr) (x : Tr), joinM k (xs ++ [x]) = joinM k xs ++ x.2.2.map (fun q => (q.1, (k + xs.length) :: q.2))
  | k, [], x => by simp [joinM]
  | k, y :: xs, x => by
    rw [List.cons_append, joinM, joinM, joinM_snoc (k + 1) xs x, List.append_assoc, List.length_cons, show k + 1 + xs.length = k + (xs.length + 1) by omega]
theorem joinM_keys : ∀ (k : Nat) {xs : List Tr}, (∀ x ∈ xs, (x.2.2.map (·.1)).Perm x.1) → ((joinM k xs).map (·.1)).Perm (xs.map (·.1)).flatten
  | _, [], _ => .nil
  | k, x :: xs, h => by
    rw [joinM, List.map_append, List.map_map, List.map_cons, List.flatten_cons]
    exact (h x List.mem_cons_self).append (joinM_keys (k + 1) fun y hy => h y (List.mem_cons_of_mem _ hy))
theorem join_bd (b : Bool) : ∀ {xs : List Tr}, (∀ x ∈ xs, (txt x.2.1).length + 5 ≤ 6 * x.1.length) → xs ≠ [] → (joinL (sep b) (txts (xs.map (·.2.1)))).length + 2 * xs.length + 3 ≤ 6 * (xs.map (·.1)).flatten.length
  | [], _, h => absurd rfl h
  | [x], h, _ => by
    have := h x List.mem_cons_self
    simp only [List.map_cons, List.map_nil, txts, joinL, List.flatten_cons, List.flatten_nil, List.append_nil, List.length_cons, List.length_nil]
    omega
  | x :: y :: r, h, _ => by
    have h1 := h x List.mem_cons_self
    have h2 := join_bd b (xs := y :: r) (fun z hz => h z (List.mem_cons_of_mem _ hz)) (List.cons_ne_nil _ _)
    simp only [List.map_cons, txts, List.flatten_cons, List.length_append, List.length_cons] at h2 ⊢
    rw [joinL, List.length_append, List.length_append, sep_len]
    omega
theorem ppls_tr : ∀ {xs : List Tr}, (∀ x ∈ xs, ppl x.2.1 = x.1.length) → ppls (xs.map (·.2.1)) = (xs.map (·.1)).flatten.length
  | [], _ => rfl
  | x :: xs, h => by
    rw [List.map_cons, ppls, h x List.mem_cons_self, ppls_tr fun y hy => h y (List.mem_cons_of_mem _ hy), List.map_cons, List.flatten_cons, List.length_append]
theorem flat_ge : ∀ {xs : List Tr}, (∀ x ∈ xs, 1 ≤ x.1.length) → xs.length ≤ (xs.map (·.1)).flatten.length
  | [], _ => Nat.zero_le _
  | x :: xs, h => by
    have h1 := h x List.mem_cons_self
    have h2 := flat_ge fun y hy => h y (List.mem_cons_of_mem _ hy)
    rw [List.map_cons, List.flatten_cons, List.length_append, List.length_cons]; omega
theorem flat_one : ∀ {xs : List Tr} {x : Tr}, (∀ x ∈ xs, 1 ≤ x.1.length) → x ∈ xs → x.1.length + (xs.length - 1) ≤ (xs.map (·.1)).flatten.length
  | y :: xs, x, h, hx => by
    have h1 := h y List.mem_cons_self
    have h2 := flat_ge fun z hz => h z (List.mem_cons_of_mem _ hz)
    rw [List.map_cons, List.flatten_cons, List.length_append, List.length_cons]
    rcases List.mem_cons.mp hx with rfl | hx
    · omega
    · have := flat_one (fun z hz => h z (List.mem_cons_of_mem _ hz)) hx
      have : 1 ≤ xs.length := List.length_pos_iff.mpr (List.ne_nil_of_mem hx)
      omega
theorem hts_bd : ∀ {ts : List T} {k : Nat}, (∀ t ∈ ts, ht t ≤ k) → hts ts ≤ k
  | [], k, _ => by rw [hts]; exact Nat.zero_le _
  | t :: ts, k, h => by
    rw [hts]
    exact Nat.max_le.mpr ⟨h t List.mem_cons_self, hts_bd fun u hu => h u (List.mem_cons_of_mem _ hu)⟩
/-- the parts put together -/
theorem TB.row {kn : Nat → Nat → Bool} (g : Gph kn) (b : Bool) {xs : List Tr} {S : List Nat} (h : ∀ x ∈ xs, TB kn x.1 x.2.1 x.2.2) (h2 : 2 ≤ xs.length) (hS : (xs.map (·.1)).flatten.Perm S)
    (hb : (xs.map (·.1)).Pairwise fun f g => ∀ x ∈ f, ∀ y ∈ g, kn x y = b) : TB kn S (.row b (xs.map (·.2.1))) (joinM 0 xs) := by
  have h1 : ∀ x ∈ xs, 1 ≤ x.1.length := fun x hx => by have := (h x hx).hgt; omega
  have hl := hS.length_eq
  have hk := flat_ge h1
  have key : ∀ x ∈ xs, ∀ {q : Nat × List Nat}, q ∈ x.2.2 → q.1 ∈ x.1 := fun x hx q hq => (h x hx).keys.mem_iff.mp (List.mem_map_of_mem hq)
  refine ⟨⟨by rw [List.length_map]; exact h2, goods_all.mpr fun t ht => ?_⟩, tolds_all.mpr fun t ht => ?_, ?_, ?_, ?_, (joinM_keys 0 fun x hx => (h x hx).keys).trans hS, fun q hq => ?_, fun q hq r hr n => ?_⟩
  · obtain ⟨x, hx, rfl⟩ := List.mem_map.mp ht; exact (h x hx).good
  · obtain ⟨x, hx, rfl⟩ := List.mem_map.mp ht; exact (h x hx).told
  · rw [ht]
    have := hts_bd (ts := xs.map (·.2.1)) (k := S.length - 2) fun t ht => by
      obtain ⟨x, hx, rfl⟩ := List.mem_map.mp ht
      have := (h x hx).hgt
      have := flat_one h1 hx
      omega
    omega
  · have := join_bd b (fun x hx => (h x hx).len) (fun e => by rw [e] at h2; simp at h2)
    rw [txt, List.length_cons, List.length_append, List.length_singleton]
    omega
  · rw [ppl, ppls_tr fun x hx => (h x hx).many]; exact hl
  · obtain ⟨i, x, p, e1, e2, e3⟩ := joinM_mem hq
    rw [e3, Nat.zero_add]
    exact pers_row (u := x.2.1) (by rw [List.getElem?_map, e1]; rfl) ((h x (List.mem_of_getElem? e1)).pers _ e2)
  · obtain ⟨i, x, p, e1, e2, e3⟩ := joinM_mem hq
    obtain ⟨j, y, p', f1, f2, f3⟩ := joinM_mem hr
    have hx := List.mem_of_getElem? e1
    have hy := List.mem_of_getElem? f1
    rw [e3, f3, Nat.zero_add, Nat.zero_add, knows_row (u := x.2.1) (by rw [List.getElem?_map, e1]; rfl)]
    by_cases hij : i = j
    · subst hij
      rw [e1] at f1; cases f1
      obtain ⟨k1, k2⟩ := (h x hx).kno _ e2 _ f2 n
      exact ⟨fun e => k1 (by injection e), by rw [if_pos rfl]; exact k2⟩
    · refine ⟨fun e => hij (by injection e), ?_⟩
      rw [if_neg hij]
      have m1 := key x hx e2
      have m2 := key y hy f2
      have i1 := (List.getElem?_eq_some_iff.mp e1)
      have i2 := (List.getElem?_eq_some_iff.mp f1)
      obtain ⟨l1, v1⟩ := i1
      obtain ⟨l2, v2⟩ := i2
      have pw := List.pairwise_iff_getElem.mp hb
      rcases Nat.lt_or_gt_of_ne hij with lt | lt
      · have := pw i j (by rw [List.length_map]; exact l1) (by rw [List.length_map]; exact l2) lt
        rw [List.getElem_map, List.getElem_map, v1, v2] at this
        exact (this _ m1 _ m2).symm
      · have := pw j i (by rw [List.length_map]; exact l2) (by rw [List.length_map]; exact l1) lt
        rw [List.getElem_map, List.getElem_map, v1, v2] at this
        rw [g.sym]; exact (this _ m2 _ m1).symm
/-- no chain in what is told -/
theorem TB.free {kn : Nat → Nat → Bool} (g : Gph kn) {S : List Nat} {t : T} {m : List (Nat × List Nat)} (h : TB kn S t m) : ¬ HasP4 kn S := by
  rintro ⟨a, ha, b, hb, c, hc, d, hd, q⟩
  have at_ : ∀ {x : Nat}, x ∈ S → ∃ p, (x, p) ∈ m := fun {x} hx => by
    obtain ⟨r, hr, rfl⟩ := List.mem_map.mp (h.keys.mem_iff.mpr hx)
    exact ⟨r.2, hr⟩
  obtain ⟨n1, n2, n3, n4, n5, n6⟩ := q.ne g
  obtain ⟨pa, ha⟩ := at_ ha
  obtain ⟨pb, hb⟩ := at_ hb
  obtain ⟨pc, hc⟩ := at_ hc
  obtain ⟨pd, hd⟩ := at_ hd
  have k1 := h.kno _ ha _ hb n1
  have k2 := h.kno _ ha _ hc n2
  have k3 := h.kno _ ha _ hd n3
  have k4 := h.kno _ hb _ hc n4
  have k5 := h.kno _ hb _ hd n5
  have k6 := h.kno _ hc _ hd n6
  exact no_chain pa pb pc pd t (h.pers _ ha) (h.pers _ hb) (h.pers _ hc) (h.pers _ hd) k1.1 k2.1 k3.1 k4.1 k5.1 k6.1 (k1.2.trans q.ab) (k4.2.trans q.bc) (k6.2.trans q.cd) (k2.2.trans q.ac) (k5.2.trans q.bd) (k3.2.trans q.ad)
end PL
namespace W
open PySem PySem.Spec PyProof.Rows L2 DL SX PL SlX
abbrev NI (ns : List Nat) : List Int := ns.map fun (i : Nat) => (i : Int)
abbrev nsD (S : List Nat) : List D := (NI S).map D.int
theorem NI_mem {ns : List Nat} {a : Nat} : ((a : Int) ∈ NI ns) ↔ a ∈ ns := by
  rw [List.mem_map]
  constructor
  · rintro ⟨x, hx, e⟩; rw [← show x = a by omega]; exact hx
  · exact fun h => ⟨a, h, rfl⟩
theorem nsD_get {S : List Nat} {i : Nat} {x : D} (h : (nsD S)[i]? = some x) : ∃ a, S[i]? = some a ∧ x = .int (a : Nat) := by
  rw [List.getElem?_map, List.getElem?_map] at h
  cases e : S[i]? with
  | none => rw [e] at h; cases h
  | some a => rw [e] at h; exact ⟨a, rfl, (Option.some.inj h).symm⟩
theorem nsD_at {S : List Nat} {i a : Nat} (h : S[i]? = some a) : (nsD S)[i]? = some (.int (a : Nat)) := by
  rw [List.getElem?_map, List.getElem?_map, h]; rfl
theorem nsD_len (S : List Nat) : (nsD S).length = S.length := by rw [List.length_map, List.length_map]
theorem nsD_app (S T : List Nat) : nsD (S ++ T) = nsD S ++ nsD T := by simp only [nsD, NI, List.map_append]
theorem nsD_cmp (S : List Nat) : CmpDs (nsD S) (S.map fun (i : Nat) => PyData.int (i : Nat)) 0 := by
  show CmpDs ((S.map fun (i : Nat) => (i : Int)).map D.int) _ 0
  rw [List.map_map]
  exact cmps_map (Nat.le_refl _) fun i _ => cmp_int _
theorem nsD_emp (S : List Nat) : (nsD S).isEmpty = S.isEmpty := by rw [List.isEmpty_map, List.isEmpty_map]
theorem fr_val (l : List Nat) (j : Nat) : (valK (frD l) (.inl (j : Int))).isSome = decide (j ∈ l) := by
  unfold valK frD
  rw [List.find?_map, Option.map_map, Option.isSome_map]
  induction l with
  | nil => simp
  | cons x l ih =>
    rw [List.find?_cons]
    by_cases h : x = j
    · subst h
      simp
    · have e : ((fun kv : Key × D => decide (kv.1 = Sum.inl (j : Int))) ∘ fun (i : Nat) => ((.inl (i : Int) : Key), D.bl true)) x = false := by
        show decide ((Sum.inl (x : Int) : Key) = Sum.inl (j : Int)) = false
        rw [decide_eq_false]
        intro q
        injection q with q
        omega
      rw [e]
      show (List.find? _ l).isSome = _
      rw [ih]
      exact decide_eq_decide.mpr (by simp [Ne.symm h])
theorem keys_fr (l : List Nat) : keysD (frD l) = nsD l := by
  unfold keysD frD
  show _ = (l.map fun (i : Nat) => (i : Int)).map D.int
  rw [List.map_map, List.map_map]; rfl
theorem flat_ne : ∀ {fs : List (List Nat)}, (∀ f ∈ fs, f ≠ []) → fs.length ≤ fs.flatten.length
  | [], _ => Nat.zero_le _
  | g :: fs, h => by
    have h1 := flat_ne fun z hz => h z (List.mem_cons_of_mem _ hz)
    have h2 := List.length_pos_iff.mpr (h g List.mem_cons_self)
    rw [List.flatten_cons, List.length_append, List.length_cons]; omega
/-- who knows whom -/
def knP (ps : List (Nat × Nat)) (a b : Nat) : Bool := decide (b ∈ nb ps a)
theorem knP_gr {n : Nat} {ps : List (Nat × Nat)} (hp : Prs n ps) : Gph (knP ps) where
  sym := fun a b => by
    unfold knP
    refine decide_eq_decide.mpr ?_
    rw [nb_iff, nb_iff]
    exact Or.comm
  irr := fun a => by
    unfold knP
    refine decide_eq_false fun h => ?_
    rcases nb_iff.mp h with h | h
    · exact Nat.lt_irrefl _ (hp.inn _ h).1
    · exact Nat.lt_irrefl _ (hp.inn _ h).1
/-- the ties by which pieces are joined -/
def rel (ps : List (Nat × Nat)) (b : Bool) : Nat → Nat → Bool := if b = true then knP ps else co (knP ps)
theorem rel_gr {n : Nat} {ps : List (Nat × Nat)} (hp : Prs n ps) (b : Bool) : Gph (rel ps b) := by
  cases b with
  | true => exact knP_gr hp
  | false => exact (knP_gr hp).co
theorem rel_is {ps : List (Nat × Nat)} {b : Bool} {x y : Nat} (h : x ≠ y) : rel ps b x y = decide (knP ps x y = b) := by
  cases b with
  | true => show knP ps x y = _; cases knP ps x y <;> rfl
  | false =>
    show (decide (x ≠ y) && !knP ps x y) = _
    rw [decide_eq_true h]; cases knP ps x y <;> rfl
theorem nodup_lt {S : List Nat} {n : Nat} (nd : S.Nodup) (h : ∀ x ∈ S, x < n) : S.length ≤ n := by
  have := List.Nodup.length_le_of_subset nd (l₂ := List.range n) fun x hx => List.mem_range.mpr (h x hx)
  rwa [List.length_range] at this
section
variable {P : Program} {w : World} {K : PySem.W.Frag} {mg : Str → Option Value} {base : Heap} {C R U V : Addr}
def cPieces (R : Addr) : Con := fun ds M Φ => ∃ n ps S b, ds = [webD R n ps, .lst (nsD S), .bl b] ∧ n ≤ 30 ∧ Prs n ps ∧ S.Nodup ∧ (∀ x ∈ S, x < n) ∧ ∀ fs, Pcs (rel ps b) S fs → Φ (.lst (fs.map fun f => .lst (nsD f))) M
abbrev nPieces : List Str := ["web", "people", "is_known", "left", "found", "piece", "at", "near", "one"]
theorem ok_pieces (F : Fx w K mg) (X : Qx K mg R) : BodyOk P w K mg base "pieces" s_pieces nPieces 3 0 (cPieces R) := by
  intro f cdv A outer s H E hr ds M Φ hl hc
  obtain ⟨n, ps, S, b, rfl, n30, hp, nS, hS, hc⟩ := hc
  have nd : nPieces.Nodup := by decide +kernel
  have hu1 := unitsA hr
  have hlS := nodup_lt nS hS
  have G := rel_gr hp b
  have lS : ∀ {T : List Nat}, T.length ≤ 30 → (nsD T).length ≤ sizeLine := fun {T} h => by rw [nsD_len, sizeLine_eq]; omega
  refine wss_cons (ws_par 3 4 nd (wa_cons (we_listOf (F.bn _ (by decide +kernel)) (we_var 1 rfl ⟨_, .inl rfl, wa_cons (we_lstM (wa_nil ⟨Nat.zero_le _, fun q hq => wa_nil ⟨_, _, rfl, ?_⟩⟩))⟩))))
  refine wss_cons (ws_while PassesOwn.never (fun k ρ' M' => ∃ o5 o6 o7 o8 L fs, ρ' = [some (webD R n ps), some (.lst (nsD S)), some (.bl b), some (.lst (nsD L)), some (.ob q), o5, o6, o7, o8] ∧ M' = mset M q (.lst (fs.map fun f => .lst (nsD f))) ∧ k = L.length ∧ (fs.flatten ++ L).Perm S ∧ (∀ f ∈ fs, f ≠ []) ∧ (∀ f ∈ fs, Conn (rel ps b) f) ∧ fs.Pairwise (fun f g => ∀ x ∈ f, ∀ y ∈ g, rel ps b x y = false) ∧ (∀ f ∈ fs, f.Pairwise (· < ·)) ∧ (∀ f ∈ fs, ∀ x ∈ f, ∀ y ∈ L, rel ps b x y = false)) S.length ⟨_, _, _, _, S, [], rfl, rfl, rfl, .refl _, fun f h => (by cases h), fun f h => (by cases h), .nil, fun f h => (by cases h), fun f h => (by cases h)⟩ ?_)
  rintro k ρ' M' ⟨o5, o6, o7, o8, L, fs, rfl, rfl, rfl, hpm, h1, h2, h3, h4, h5⟩
  have nL : (fs.flatten ++ L).Nodup := hpm.nodup_iff.mpr nS
  have hL30 : L.length ≤ 30 := by
    have := hpm.length_eq
    rw [List.length_append] at this; omega
  refine wt_neNil hr.units (we_var 3 rfl ⟨_, _, 0, rfl, nsD_cmp L, by decide, ?_⟩)
  rw [nsD_emp]
  cases L with
  | nil =>
    rw [List.append_nil] at hpm
    exact wss_cons (ws_ret (we_var 4 rfl ⟨.lst (fs.map fun f => .lst (nsD f)), M, les_new hq, .lst mset_same hq, hc fs ⟨hpm, h1, h2, h3, h4⟩⟩))
  | cons x L =>
    have nxL : (x :: L).Nodup := (List.nodup_append.mp nL).2.1
    refine wss_cons (ws_asg (we_tup (wa_cons (we_lstM (wa_cons (we_ix (we_var 3 rfl (we_int ⟨0, _, rfl, ixL (atI_nat (j := 0) rfl), wa_nil ⟨by show 1 ≤ sizeLine; decide, fun p hp0 => wa_cons (we_slice (we_var 3 rfl (we_int ⟨_, rfl, _, .inl ⟨_, rfl, rfl⟩, wa_nil ⟨by show 2 ≤ sizeLine; decide, wg_tup ⟨rfl, rfl, wgs_cons (wg_name 5 (wgs_cons (wg_name 3 (wgs_nil ⟨rfl, ?_⟩) nd)) nd)⟩⟩⟩)))⟩⟩))))))))
    have hqp : q ≠ p := fun e => by rw [← e, mset_same] at hp0; cases hp0
    have hp1 : M p = none := by rw [mset_ne (Ne.symm hqp)] at hp0; exact hp0
    have e1 : DL.cutD (nsD (x :: L)) (some 1) none = nsD L := by rw [cut_fr1]; rfl
    rw [e1]
    refine wss_cons (ws_set 6 nd (we_int ?_))
    refine wss_cons (ws_while PassesOwn.never (fun k ρ' M' => ∃ o7 o8 pc lf j, ρ' = [some (webD R n ps), some (.lst (nsD S)), some (.bl b), some (.lst (nsD lf)), some (.ob q), some (.ob p), some (.int (j : Nat)), o7, o8] ∧ M' = mset (mset M q (.lst (fs.map fun f => .lst (nsD f)))) p (.lst (nsD pc)) ∧ k = 31 - j ∧ (pc ++ lf).Perm (x :: L) ∧ pc ≠ [] ∧ Conn (rel ps b) pc ∧ j ≤ pc.length ∧ ∀ y ∈ pc.take j, ∀ z ∈ lf, rel ps b y z = false) 31 ⟨_, _, [x], L, 0, rfl, rfl, rfl, .refl _, List.cons_ne_nil _ _, conn_one _ _, Nat.zero_le _, fun y h => (by simp at h)⟩ ?_)
    rintro k ρ' M' ⟨o7, o8, pc, lf, j, rfl, rfl, rfl, g1, g0, g2, g3, g4⟩
    have nPL : (pc ++ lf).Nodup := g1.nodup_iff.mpr nxL
    have hpl : pc.length + lf.length ≤ 30 := by
      have := g1.length_eq
      rw [List.length_append, List.length_cons] at this
      rw [List.length_cons] at hL30; omega
    refine wt_ltI (we_var 6 rfl (we_len (F.bn _ (by decide +kernel)) (we_var 5 rfl ⟨_, lenO mset_same, _, _, rfl, rfl, ?_⟩)))
    rw [nsD_len]
    by_cases hj : j < pc.length
    · rw [decide_eq_true (show ((j : Nat) : Int) < (pc.length : Nat) by omega)]
      generalize hy : pc[j] = y
      have hy2 : pc[j]? = some y := by rw [List.getElem?_eq_getElem hj, hy]
      have hym : y ∈ pc := List.mem_of_getElem? hy2
      have yS : y < n := hS y (hpm.mem_iff.mp (List.mem_append_right _ (g1.mem_iff.mp (List.mem_append_left _ hym))))
      have yne : ∀ z ∈ lf, y ≠ z := fun z hz e => (List.nodup_append.mp nPL).2.2 y hym z hz e
      refine wss_cons (ws_set 7 nd (we_lc nd (blkOk_by (N := nPieces) (sc := defScope s_pieces) (own := [("one", 8)]) (by decide +kernel)) (fun _ _ _ _ _ => pg_name (i := 8) nd rfl (Or.inl rfl)) (gt_name (by decide)) pt_blk tk_one (wi_list (we_var 3 rfl ⟨_, .inl rfl, ?_⟩))))
      refine ⟨lS (by omega), fun i acc M2 => M2 = mset (mset M q (.lst (fs.map fun f => .lst (nsD f)))) p (.lst (nsD pc)) ∧ acc = nsD ((lf.take i).filter (rel ps b y)), ⟨rfl, rfl⟩, ?_, ?_⟩
      · rintro i z acc M2 hz ⟨rfl, rfl⟩
        obtain ⟨a, ha, rfl⟩ := nsD_get hz
        have ham := List.mem_of_getElem? ha
        intro s1 H1 C1 cl1 fp1
        refine wt_eqS (we_inF hu1 (we_var 8 rfl (we_ix (we_fld (C := R) (we_var 0 rfl ⟨_, _, insW, X.cl, X.na _ (by decide +kernel), rfl, we_ix (we_var 5 rfl (we_var 6 rfl ⟨_, _, rfl, ixO mset_same (atI_nat (nsD_at hy2)), (y : Int), .fdK (frD (nb ps y)), rfl, ixL (atI_nat (by rw [List.getElem?_map, List.getElem?_range yS]; rfl)), .inl (a : Int), _, rfl, rfl, we_var 2 rfl ⟨_, rfl, ?_⟩⟩))⟩)))))
        rw [fr_val]
        show if decide (knP ps y a = b) = true then _ else _
        rw [← rel_is (yne a ham)]
        have sn : (lf.take (i + 1)).filter (rel ps b y) = (lf.take i).filter (rel ps b y) ++ (if rel ps b y a = true then [a] else []) := by
          rw [take_snoc ha, List.filter_append, List.filter_cons]; split <;> rfl
        cases hr2 : rel ps b y a with
        | true =>
          intro s2 H2 C2 cl2 fp2
          exact we_var 8 rfl ⟨rfl, by rw [sn, hr2, if_pos rfl, nsD_app]; rfl⟩
        | false => exact ⟨rfl, by rw [sn, hr2, if_neg (by decide), List.append_nil]⟩
      · rintro acc M2 ⟨rfl, rfl⟩
        rw [nsD_len, List.take_length]
        generalize hN : lf.filter (rel ps b y) = N
        have hNl : N.length ≤ lf.length := by rw [← hN]; exact List.length_filter_le _ _
        refine wss_cons (ws_expr (we_extend (we_var 5 rfl ⟨p, _, rfl, mset_same, we_var 7 rfl ⟨_, _, mset_same, rfl, by rw [nsD_len, nsD_len, sizeLine_eq]; omega, ?_⟩⟩)))
        rw [mset_mset, ← nsD_app]
        refine wss_cons (ws_setLc 3 nd (blkOk_by (N := nPieces) (sc := defScope s_pieces) (own := [("one", 8)]) (by decide +kernel)) (fun _ _ _ _ _ => pg_name (i := 8) nd rfl (Or.inl rfl)) (gt_name (by decide)) pt_blk tk_one (wi_list (we_var 3 rfl ⟨_, .inl rfl, ?_⟩)) rfl)
        refine ⟨lS (by omega), fun i acc M2 => M2 = mset (mset M q (.lst (fs.map fun f => .lst (nsD f)))) p (.lst (nsD (pc ++ N))) ∧ acc = nsD ((lf.take i).filter fun z => !rel ps b y z), ⟨rfl, rfl⟩, ?_, ?_⟩
        · rintro i z acc M2 hz ⟨rfl, rfl⟩
          obtain ⟨a, ha, rfl⟩ := nsD_get hz
          have ham := List.mem_of_getElem? ha
          intro s1 H1 C1 cl1 fp1
          refine wt_outI (we_var 8 rfl (we_var 7 rfl ⟨_, NI N, rfl, .inr rfl, ?_⟩))
          have eM : decide ((a : Int) ∈ NI N) = rel ps b y a := by
            cases hr2 : rel ps b y a with
            | true => exact decide_eq_true (NI_mem.mpr (by rw [← hN]; exact List.mem_filter.mpr ⟨ham, hr2⟩))
            | false => exact decide_eq_false fun h => Bool.noConfusion ((List.mem_filter.mp (show a ∈ lf.filter (rel ps b y) by rw [hN]; exact NI_mem.mp h)).2.symm.trans hr2)
          rw [eM]
          have sn : (lf.take (i + 1)).filter (fun z => !rel ps b y z) = (lf.take i).filter (fun z => !rel ps b y z) ++ (if (!rel ps b y a) = true then [a] else []) := by
            rw [take_snoc ha, List.filter_append, List.filter_cons]; split <;> rfl
          cases hr2 : rel ps b y a with
          | true => exact ⟨rfl, by rw [sn, hr2, if_neg (by decide), List.append_nil]⟩
          | false =>
            intro s2 H2 C2 cl2 fp2
            exact we_var 8 rfl ⟨rfl, by rw [sn, hr2, if_pos (by decide), nsD_app]; rfl⟩
        · rintro acc M2 ⟨rfl, rfl⟩
          rw [nsD_len, List.take_length]
          refine wss_cons (ws_aug 6 ip_add rfl nd (we_int (rd_I0 ⟨_, _, rfl, rfl, wss_nil ⟨31 - (j + 1), by omega, _, _, pc ++ N, lf.filter fun z => !rel ps b y z, j + 1, rfl, rfl, rfl, ?_, ?_, ?_, ?_, ?_⟩⟩)))
          · rw [← hN, List.append_assoc]
            exact ((List.filter_append_perm (rel ps b y) lf).append_left pc).trans g1
          · exact fun e => g0 (List.append_eq_nil_iff.mp e).1
          · exact g2.add G.sym hym fun z hz => by rw [← hN] at hz; exact (List.mem_filter.mp hz).2
          · rw [List.length_append]; omega
          · intro u hu v hv
            have hv2 := List.mem_filter.mp hv
            rw [List.take_append_of_le_length (by omega), take_snoc hy2] at hu
            rcases List.mem_append.mp hu with hu | hu
            · exact g4 u hu v hv2.1
            · rw [List.mem_singleton.mp hu]
              simpa using hv2.2
    · rw [decide_eq_false (show ¬ ((j : Nat) : Int) < (pc.length : Nat) by omega)]
      have ej : pc.take j = pc := List.take_of_length_le (by omega)
      rw [ej] at g4
      refine wss_cons (ws_expr (we_append (we_var 4 rfl ⟨q, _, rfl, by rw [mset_ne hqp]; exact mset_same, we_sortedI (F.bn _ (by decide +kernel)) (we_var 5 rfl ⟨NI pc, mset_same, fun ms hpm2 hs => ?_⟩)⟩)))
      obtain ⟨f, hpf, rfl⟩ := perm_map hpm2 pc rfl
      have hfn : f.Nodup := hpf.nodup_iff.mpr (List.nodup_append.mp nPL).1
      have hfl : fs.length ≤ 30 := by
        have hl1 := flat_ne h1
        have := hpm.length_eq
        rw [List.length_append] at this; omega
      refine ⟨_, by rw [mset_ne hqp]; exact mset_same, by rw [List.length_map, sizeLine_eq]; omega, ?_⟩
      rw [mset_comm (Ne.symm hqp), mset_mset]
      refine wss_let (M' := mset M q (.lst ((fs ++ [f]).map fun f => .lst (nsD f)))) (ρ' := [some (webD R n ps), some (.lst (nsD S)), some (.bl b), some (.lst (nsD lf)), some (.ob q), none, none, none, none]) ?_ (.val (.same _) (.val (.same _) (.val (.same _) (.val (.same _) (.val (.same _) (.drop (.drop (.drop (.drop .nil))))))))) ?_
      · intro c
        by_cases hcp : c = p
        · subst hcp; rw [mset_ne (Ne.symm hqp)]; exact .inr hp1
        · left
          by_cases hcq : c = q
          · subst hcq; rw [mset_same, mset_same, List.map_append]; rfl
          · rw [mset_ne hcq, mset_ne hcq, mset_ne hcp]
      refine wss_nil ⟨lf.length, ?_, _, _, _, _, lf, fs ++ [f], rfl, rfl, rfl, ?_, fun g hg => ?_, fun g hg => ?_, ?_, fun g hg => ?_, fun g hg u hu v hv => ?_⟩
      · have := g1.length_eq
        have := List.length_pos_iff.mpr g0
        rw [List.length_append, List.length_cons] at *; omega
      · rw [List.flatten_append, List.flatten_singleton, List.append_assoc]
        exact (((hpf.append_right lf).trans g1).append_left fs.flatten).trans hpm
      · rcases List.mem_append.mp hg with hg | hg
        · exact h1 g hg
        · rw [List.mem_singleton.mp hg]
          exact fun e => g0 (by rw [e] at hpf; exact List.nil_perm.mp hpf)
      · rcases List.mem_append.mp hg with hg | hg
        · exact h2 g hg
        · rw [List.mem_singleton.mp hg]; exact g2.perm hpf
      · refine List.pairwise_append.mpr ⟨h3, List.pairwise_singleton _ _, fun g hg g' hg' u hu v hv => ?_⟩
        rw [List.mem_singleton.mp hg'] at hv
        exact h5 g hg u hu v (g1.mem_iff.mp (List.mem_append_left _ (hpf.mem_iff.mp hv)))
      · rcases List.mem_append.mp hg with hg | hg
        · exact h4 g hg
        · rw [List.mem_singleton.mp hg]
          rw [List.pairwise_map] at hs
          exact (hs.and hfn).imp fun {a b} h => by have := h.1; have := h.2; omega
      · rcases List.mem_append.mp hg with hg | hg
        · exact h5 g hg u hu v (g1.mem_iff.mp (List.mem_append_right _ hv))
        · rw [List.mem_singleton.mp hg] at hu
          exact g4 u (hpf.mem_iff.mp hu) v hv
end
end W
namespace W
open PySem PySem.Spec PyProof.Rows L2 DL SX PL SlX
theorem one_piece {r : Nat → Nat → Bool} {S : List Nat} {fs : List (List Nat)} (h : Pcs r S fs) (hl : fs.length ≤ 1) (h0 : S ≠ []) : Conn r S := by
  match fs, h, hl with
  | [], h, _ => exact absurd (List.nil_perm.mp (by simpa using h.perm)) h0
  | [f], h, _ =>
    have hp : f.Perm S := by simpa using h.perm
    exact (h.conn f List.mem_cons_self).perm hp.symm
  | _ :: _ :: _, _, hl => simp at hl
section
variable {P : Program} {w : World} {K : PySem.W.Frag} {mg : Str → Option Value} {base : Heap} {C R U V : Addr}
abbrev fsD (fs : List (List Nat)) : D := .lst (fs.map fun f => .lst (nsD f))
def cWParts (R : Addr) : Con := fun ds M Φ => ∃ n ps S, ds = [webD R n ps, .lst (nsD S)] ∧ n ≤ 30 ∧ Prs n ps ∧ S.Nodup ∧ (∀ x ∈ S, x < n) ∧ 2 ≤ S.length ∧ (∀ s fs, 2 ≤ fs.length → Pcs (rel ps (!s)) S fs → Φ (.tup [.str (wrd s), fsD fs]) M) ∧ (HasP4 (knP ps) S → Φ .non M)
abbrev nParts2 : List Str := ["web", "people", "word", "is_known", "found"]
theorem ok_parts_of (F : Fx w K mg) (F1 : Fc P w K mg base "pieces" [] 1 3 (cPieces R)) : BodyOk P w K mg base "parts_of" s_parts_of nParts2 2 1 (cWParts R) := by
  intro f cdv A outer s H E hr ds M Φ hl hc
  obtain ⟨n, ps, S, rfl, n30, hp, nS, hS, h2, hc1, hc2⟩ := hc
  have nd : nParts2.Nodup := by decide +kernel
  have z2 : 2 ≤ sizeLine := by rw [sizeLine_eq]; decide
  have S0 : S ≠ [] := fun e => by rw [e] at h2; simp at h2
  refine wss_cons (ws_for PassesOwn.never (wi_tup (we_tup (wa_cons (we_tup (wa_cons (we_gstr F.gBESIDE (wa_cons (we_bl (wa_nil ⟨z2, wa_cons (we_tup (wa_cons (we_gstr F.gINTRODUCED (wa_cons (we_bl (wa_nil ⟨z2, wa_nil ⟨z2, _, rfl, ?_⟩⟩))))))⟩))))))))))
  refine ⟨fun i ρ' M' => M' = M ∧ (1 ≤ i → Conn (rel ps true) S) ∧ (2 ≤ i → Conn (rel ps false) S) ∧ ∃ o2 o3 o4, ρ' = [some (webD R n ps), some (.lst (nsD S)), o2, o3, o4], ⟨rfl, fun h => by omega, fun h => by omega, _, _, _, rfl⟩, ?_, ?_⟩
  · rintro i x ρ' M' hx ⟨rfl, k1, k2, o2, o3, o4, rfl⟩
    match i, hx with
    | 0, hx =>
      cases Option.some.inj hx
      refine wg_tup ⟨rfl, rfl, wgs_cons (wg_name 2 (wgs_cons (wg_name 3 (wgs_nil ⟨rfl, ?_⟩) nd)) nd)⟩
      refine wss_cons (ws_set 4 nd (we_call F1 (hr.mono (by decide)) (wa_cons (we_var 0 rfl (wa_cons (we_var 1 rfl (wa_cons (we_var 3 rfl (wa_nil ⟨rfl, n, ps, S, true, rfl, n30, hp, nS, hS, fun fs hfs => ?_⟩)))))))))
      refine wss_cons (ws_if (wt_gtI (we_len (F.bn _ (by decide +kernel)) (we_var 4 rfl ⟨_, lenL, we_int ⟨_, _, rfl, rfl, ?_⟩⟩))))
      rw [List.length_map]
      by_cases hl : 2 ≤ fs.length
      · rw [decide_eq_true (show (1 : Int) < (fs.length : Nat) by omega)]
        exact wss_cons (ws_ret (we_tup (wa_cons (we_var 2 rfl (wa_cons (we_var 4 rfl (wa_nil ⟨z2, Lets.of (hc1 false fs hl hfs)⟩)))))))
      · rw [decide_eq_false (show ¬ (1 : Int) < (fs.length : Nat) by omega)]
        exact wss_nil (wss_nil ⟨rfl, fun _ => one_piece hfs (by omega) S0, fun h => by omega, _, _, _, rfl⟩)
    | 1, hx =>
      cases Option.some.inj hx
      refine wg_tup ⟨rfl, rfl, wgs_cons (wg_name 2 (wgs_cons (wg_name 3 (wgs_nil ⟨rfl, ?_⟩) nd)) nd)⟩
      refine wss_cons (ws_set 4 nd (we_call F1 (hr.mono (by decide)) (wa_cons (we_var 0 rfl (wa_cons (we_var 1 rfl (wa_cons (we_var 3 rfl (wa_nil ⟨rfl, n, ps, S, false, rfl, n30, hp, nS, hS, fun fs hfs => ?_⟩)))))))))
      refine wss_cons (ws_if (wt_gtI (we_len (F.bn _ (by decide +kernel)) (we_var 4 rfl ⟨_, lenL, we_int ⟨_, _, rfl, rfl, ?_⟩⟩))))
      rw [List.length_map]
      by_cases hl : 2 ≤ fs.length
      · rw [decide_eq_true (show (1 : Int) < (fs.length : Nat) by omega)]
        exact wss_cons (ws_ret (we_tup (wa_cons (we_var 2 rfl (wa_cons (we_var 4 rfl (wa_nil ⟨z2, Lets.of (hc1 true fs hl hfs)⟩)))))))
      · rw [decide_eq_false (show ¬ (1 : Int) < (fs.length : Nat) by omega)]
        exact wss_nil (wss_nil ⟨rfl, fun _ => k1 (Nat.le_refl _), fun _ => one_piece hfs (by omega) S0, _, _, _, rfl⟩)
    | i + 2, hx => simp at hx
  · rintro ρ' M' ⟨rfl, k1, k2, o2, o3, o4, rfl⟩
    have k1 := k1 (show 1 ≤ 2 by decide)
    have k2 := k2 (show 2 ≤ 2 by decide)
    exact wss_cons (ws_ret (we_non (Lets.of (hc2 (falls (knP_gr hp) S.length S (Nat.le_refl _) nS h2 k1 k2)))))
def cChainIn (R : Addr) : Con := fun ds M Φ => ∃ n ps S, ds = [webD R n ps, .lst (nsD S)] ∧ n ≤ 30 ∧ Prs n ps ∧ (∀ x ∈ S, x < n) ∧ S.length ≤ 30 ∧ HasP4 (knP ps) S ∧ ∀ a b c d : Nat, a ∈ S → b ∈ S → c ∈ S → d ∈ S → P4 (knP ps) a b c d → Φ (.tup [.int (a : Nat), .int (b : Nat), .int (c : Nat), .int (d : Nat)]) M
abbrev nChainIn : List Str := ["web", "people", "second", "third", "firsts", "one", "lasts", "first", "last"]
theorem nb_lt {n : Nat} {ps : List (Nat × Nat)} (hp : Prs n ps) {a b : Nat} (h : b ∈ nb ps a) : b < n := by
  rcases nb_iff.mp h with h | h
  · exact (hp.inn _ h).2
  · have := hp.inn _ h; simp at this; omega
theorem nb_len30 {n : Nat} {ps : List (Nat × Nat)} (hp : Prs n ps) (hn : n ≤ 30) (a : Nat) : (nb ps a).length ≤ 900 := Nat.le_trans (nb_len ps a) (Nat.le_trans (prs_len hp) (Nat.mul_le_mul hn hn))
theorem ok_chain_in (F : Fx w K mg) (X : Qx K mg R) : BodyOk P w K mg base "chain_in" s_chain_in nChainIn 2 0 (cChainIn R) := by
  intro f cdv A outer s H E hr ds M Φ hl hc
  obtain ⟨n, ps, S, rfl, n30, hp, hS, hlS, hP, hc⟩ := hc
  have nd : nChainIn.Nodup := by decide +kernel
  have hu1 := unitsA hr
  have G := knP_gr hp
  have friend : ∀ {a : Nat} (_ : a < n) {M : Mp}, IxD M (.lst ((List.range n).map fun i => D.fdK (frD (nb ps i)))) (a : Int) (.fdK (frD (nb ps a))) := fun {a} h {M} => ixL (atI_nat (by rw [List.getElem?_map, List.getElem?_range h]; rfl))
  refine wss_cons (ws_for PassesOwn.never (wi_list (we_var 1 rfl ⟨_, .inl rfl, ?_⟩)))
  refine ⟨fun i ρ' M' => M' = M ∧ (∀ b ∈ S.take i, ∀ a ∈ S, ∀ c ∈ S, ∀ d ∈ S, ¬ P4 (knP ps) a b c d) ∧ ∃ o2 o3 o4 o5 o6 o7 o8, ρ' = [some (webD R n ps), some (.lst (nsD S)), o2, o3, o4, o5, o6, o7, o8], ⟨rfl, fun b h => by simp at h, _, _, _, _, _, _, _, rfl⟩, ?_, ?_⟩
  · rintro i x ρ' M' hx ⟨rfl, k1, o2, o3, o4, o5, o6, o7, o8, rfl⟩
    obtain ⟨b, hb, rfl⟩ := nsD_get hx
    have hbS := List.mem_of_getElem? hb
    have hbn := hS b hbS
    refine wg_name 2 ?_ nd
    refine wss_cons (ws_for PassesOwn.never (wi_fkeys (we_ix (we_fld (C := R) (we_var 0 rfl ⟨_, _, insW, X.cl, X.na _ (by decide +kernel), rfl, we_var 2 rfl ⟨_, _, rfl, friend hbn, _, rfl, ?_⟩⟩)))))
    rw [keys_fr]
    refine ⟨fun j ρ' M2 => M2 = M' ∧ (∀ c ∈ (nb ps b).take j, ∀ a ∈ S, c ∈ S → ∀ d ∈ S, ¬ P4 (knP ps) a b c d) ∧ ∃ o3 o4 o5 o6 o7 o8, ρ' = [some (webD R n ps), some (.lst (nsD S)), some (.int (b : Nat)), o3, o4, o5, o6, o7, o8], ⟨rfl, fun c h => by simp at h, _, _, _, _, _, _, rfl⟩, ?_, ?_⟩
    · rintro j y ρ' M2 hy ⟨rfl, k2, o3, o4, o5, o6, o7, o8, rfl⟩
      obtain ⟨c, hcg, rfl⟩ := nsD_get hy
      have hcb := List.mem_of_getElem? hcg
      have hcn := nb_lt hp hcb
      have hbc : knP ps b c = true := decide_eq_true hcb
      refine wg_name 3 ?_ nd
      refine wss_cons (ws_setLc 4 nd (blkOk_by (N := nChainIn) (sc := defScope s_chain_in) (own := [("one", 5)]) (by decide +kernel)) (fun _ _ _ _ _ => pg_name (i := 5) nd rfl (Or.inl rfl)) (gt_name (by decide)) pt_blk tk_one (wi_fkeys (we_ix (we_fld (C := R) (we_var 0 rfl ⟨_, _, insW, X.cl, X.na _ (by decide +kernel), rfl, we_var 2 rfl ⟨_, _, rfl, friend hbn, _, rfl, ?_⟩⟩)))) rfl)
      rw [keys_fr]
      refine ⟨by rw [nsD_len]; have := nb_len30 hp n30 b; rw [sizeLine_eq]; omega, fun i acc M3 => M3 = M2 ∧ acc = nsD (((nb ps b).take i).filter fun a => decide (a ≠ c) && !knP ps c a), ⟨rfl, rfl⟩, ?_, ?_⟩
      · rintro i z acc M3 hz ⟨rfl, rfl⟩
        obtain ⟨a, ha, rfl⟩ := nsD_get hz
        intro s1 H1 C1 cl1 fp1
        have sn : ((nb ps b).take (i + 1)).filter (fun a => decide (a ≠ c) && !knP ps c a) = ((nb ps b).take i).filter (fun a => decide (a ≠ c) && !knP ps c a) ++ (if (decide (a ≠ c) && !knP ps c a) = true then [a] else []) := by
          rw [take_snoc ha, List.filter_append, List.filter_cons]; split <;> rfl
        refine wt_ww (ww_and (wt_neS (we_var 5 rfl (we_var 3 rfl ⟨decide (a = c), decide_eq_decide.mpr (by omega), ?_⟩))))
        by_cases e : a = c
        · rw [decide_eq_true e]
          exact ⟨rfl, by rw [sn, decide_eq_false (fun h => h e), Bool.false_and, if_neg (by decide), List.append_nil]⟩
        · rw [decide_eq_false e]
          refine ww_and1 (wt_notInF hu1 (we_var 5 rfl (we_ix (we_fld (C := R) (we_var 0 rfl ⟨_, _, insW, X.cl, X.na _ (by decide +kernel), rfl, we_var 3 rfl ⟨_, _, rfl, friend hcn, .inl (a : Int), _, rfl, rfl, ?_⟩⟩)))))
          rw [fr_val]
          show if (!knP ps c a) = true then _ else _
          cases hk : knP ps c a with
          | true => exact ⟨rfl, by rw [sn, hk, Bool.not_true, Bool.and_false, if_neg (by decide), List.append_nil]⟩
          | false =>
            intro s2 H2 C2 cl2 fp2
            exact we_var 5 rfl ⟨rfl, by rw [sn, hk, decide_eq_true e, if_pos (by decide), nsD_app]; rfl⟩
      rintro acc M3 ⟨rfl, rfl⟩
      rw [nsD_len, List.take_length]
      refine wss_cons (ws_setLc 6 nd (blkOk_by (N := nChainIn) (sc := defScope s_chain_in) (own := [("one", 5)]) (by decide +kernel)) (fun _ _ _ _ _ => pg_name (i := 5) nd rfl (Or.inl rfl)) (gt_name (by decide)) pt_blk tk_one (wi_fkeys (we_ix (we_fld (C := R) (we_var 0 rfl ⟨_, _, insW, X.cl, X.na _ (by decide +kernel), rfl, we_var 3 rfl ⟨_, _, rfl, friend hcn, _, rfl, ?_⟩⟩)))) rfl)
      rw [keys_fr]
      refine ⟨by rw [nsD_len]; have := nb_len30 hp n30 c; rw [sizeLine_eq]; omega, fun i acc M4 => M4 = M3 ∧ acc = nsD (((nb ps c).take i).filter fun d => decide (d ≠ b) && !knP ps b d), ⟨rfl, rfl⟩, ?_, ?_⟩
      · rintro i z acc M4 hz ⟨rfl, rfl⟩
        obtain ⟨d, hd, rfl⟩ := nsD_get hz
        intro s1 H1 C1 cl1 fp1
        have sn : ((nb ps c).take (i + 1)).filter (fun d => decide (d ≠ b) && !knP ps b d) = ((nb ps c).take i).filter (fun d => decide (d ≠ b) && !knP ps b d) ++ (if (decide (d ≠ b) && !knP ps b d) = true then [d] else []) := by
          rw [take_snoc hd, List.filter_append, List.filter_cons]; split <;> rfl
        refine wt_ww (ww_and (wt_neS (we_var 5 rfl (we_var 2 rfl ⟨decide (d = b), decide_eq_decide.mpr (by omega), ?_⟩))))
        by_cases e : d = b
        · rw [decide_eq_true e]
          exact ⟨rfl, by rw [sn, decide_eq_false (fun h => h e), Bool.false_and, if_neg (by decide), List.append_nil]⟩
        · rw [decide_eq_false e]
          refine ww_and1 (wt_notInF hu1 (we_var 5 rfl (we_ix (we_fld (C := R) (we_var 0 rfl ⟨_, _, insW, X.cl, X.na _ (by decide +kernel), rfl, we_var 2 rfl ⟨_, _, rfl, friend hbn, .inl (d : Int), _, rfl, rfl, ?_⟩⟩)))))
          rw [fr_val]
          show if (!knP ps b d) = true then _ else _
          cases hk : knP ps b d with
          | true => exact ⟨rfl, by rw [sn, hk, Bool.not_true, Bool.and_false, if_neg (by decide), List.append_nil]⟩
          | false =>
            intro s2 H2 C2 cl2 fp2
            exact we_var 5 rfl ⟨rfl, by rw [sn, hk, decide_eq_true e, if_pos (by decide), nsD_app]; rfl⟩
      rintro acc M4 ⟨rfl, rfl⟩
      rw [nsD_len, List.take_length]
      generalize hA : (nb ps b).filter (fun a => decide (a ≠ c) && !knP ps c a) = As
      generalize hD : (nb ps c).filter (fun d => decide (d ≠ b) && !knP ps b d) = Ds
      have mA : ∀ {a : Nat}, a ∈ As ↔ knP ps a b = true ∧ a ≠ c ∧ knP ps a c = false := fun {a} => by
        rw [← hA, List.mem_filter, Bool.and_eq_true, decide_eq_true_eq, Bool.not_eq_true', G.sym a b, G.sym a c]
        exact and_congr_left' (decide_eq_true_iff (p := a ∈ nb ps b)).symm
      have mD : ∀ {d : Nat}, d ∈ Ds ↔ knP ps c d = true ∧ d ≠ b ∧ knP ps b d = false := fun {d} => by
        rw [← hD, List.mem_filter, Bool.and_eq_true, decide_eq_true_eq, Bool.not_eq_true']
        exact and_congr_left' (decide_eq_true_iff (p := d ∈ nb ps c)).symm
      refine wss_cons (ws_for PassesOwn.never (wi_list (we_var 4 rfl ⟨_, .inl rfl, ?_⟩)))
      refine ⟨fun k ρ' M5 => M5 = M4 ∧ (∀ a ∈ As.take k, a ∈ S → c ∈ S → ∀ d ∈ Ds, d ∈ S → knP ps a d = true) ∧ ∃ o5 o7 o8, ρ' = [some (webD R n ps), some (.lst (nsD S)), some (.int (b : Nat)), some (.int (c : Nat)), some (.lst (nsD As)), o5, some (.lst (nsD Ds)), o7, o8], ⟨rfl, fun a h => by simp at h, _, _, _, rfl⟩, ?_, ?_⟩
      · rintro k z ρ' M5 hz ⟨rfl, k3, o5, o7, o8, rfl⟩
        obtain ⟨a, ha, rfl⟩ := nsD_get hz
        have hA2 := mA.mp (List.mem_of_getElem? ha)
        have han : a < n := nb_lt hp (a := b) (of_decide_eq_true (by rw [G.sym] at hA2; exact hA2.1))
        refine wg_name 7 ?_ nd
        refine wss_cons (ws_for PassesOwn.never (wi_list (we_var 6 rfl ⟨_, .inl rfl, ?_⟩)))
        refine ⟨fun l ρ' M6 => M6 = M5 ∧ (a ∈ S → c ∈ S → ∀ d ∈ Ds.take l, d ∈ S → knP ps a d = true) ∧ ∃ o5 o8, ρ' = [some (webD R n ps), some (.lst (nsD S)), some (.int (b : Nat)), some (.int (c : Nat)), some (.lst (nsD As)), o5, some (.lst (nsD Ds)), some (.int (a : Nat)), o8], ⟨rfl, fun _ _ d h => by simp at h, _, _, rfl⟩, ?_, ?_⟩
        · rintro l u ρ' M6 hu ⟨rfl, k4, o5, o8, rfl⟩
          obtain ⟨d, hd, rfl⟩ := nsD_get hu
          have hD2 := mD.mp (List.mem_of_getElem? hd)
          refine wg_name 8 ?_ nd
          have next : (a ∈ S → c ∈ S → d ∈ S → knP ps a d = true) → (a ∈ S → c ∈ S → ∀ e ∈ Ds.take (l + 1), e ∈ S → knP ps a e = true) := fun h ia ic e he ie => by
            rw [take_snoc hd] at he
            rcases List.mem_append.mp he with he | he
            · exact k4 ia ic e he ie
            · rw [List.mem_singleton.mp he] at ie ⊢; exact h ia ic ie
          refine wss_cons (ws_if (wt_ww (ww_and (wt_notInF hu1 (we_var 8 rfl (we_ix (we_fld (C := R) (we_var 0 rfl ⟨_, _, insW, X.cl, X.na _ (by decide +kernel), rfl, we_var 7 rfl ⟨_, _, rfl, friend han, .inl (d : Int), _, rfl, rfl, ?_⟩⟩))))))))
          rw [fr_val]
          show if (!knP ps a d) = true then _ else _
          cases hk : knP ps a d with
          | true => exact wss_nil (wss_nil ⟨rfl, next fun _ _ _ => hk, _, _, rfl⟩)
          | false =>
            refine ww_and (wt_inI (we_var 7 rfl (we_var 1 rfl ⟨_, NI S, rfl, .inr rfl, ?_⟩)))
            rw [decide_eq_decide.mpr NI_mem]
            by_cases ia : a ∈ S
            · rw [decide_eq_true ia]
              refine ww_and (wt_inI (we_var 3 rfl (we_var 1 rfl ⟨_, NI S, rfl, .inr rfl, ?_⟩)))
              rw [decide_eq_decide.mpr NI_mem]
              by_cases ic : c ∈ S
              · rw [decide_eq_true ic]
                refine ww_and1 (wt_inI (we_var 8 rfl (we_var 1 rfl ⟨_, NI S, rfl, .inr rfl, ?_⟩)))
                rw [decide_eq_decide.mpr NI_mem]
                by_cases id_ : d ∈ S
                · rw [decide_eq_true id_]
                  exact wss_cons (ws_ret (we_tup (wa_cons (we_var 7 rfl (wa_cons (we_var 2 rfl (wa_cons (we_var 3 rfl (wa_cons (we_var 8 rfl (wa_nil ⟨by show 4 ≤ sizeLine; decide, Lets.of (hc a b c d ia hbS ic id_ ⟨hA2.1, hbc, hD2.1, hA2.2.2, hD2.2.2, hk⟩)⟩)))))))))))
                · rw [decide_eq_false id_]
                  exact wss_nil (wss_nil ⟨rfl, next fun _ _ h => absurd h id_, _, _, rfl⟩)
              · rw [decide_eq_false ic]
                exact wss_nil (wss_nil ⟨rfl, next fun _ h _ => absurd h ic, _, _, rfl⟩)
            · rw [decide_eq_false ia]
              exact wss_nil (wss_nil ⟨rfl, next fun h _ _ => absurd h ia, _, _, rfl⟩)
        · rintro ρ' M6 ⟨rfl, k4, o5, o8, rfl⟩
          rw [nsD_len, List.take_length] at k4
          refine wss_nil ⟨rfl, fun e he ie ic d hd id_ => ?_, _, _, _, rfl⟩
          rw [take_snoc ha] at he
          rcases List.mem_append.mp he with he | he
          · exact k3 e he ie ic d hd id_
          · rw [List.mem_singleton.mp he] at ie ⊢; exact k4 ie ic d hd id_
      · rintro ρ' M5 ⟨rfl, k3, o5, o7, o8, rfl⟩
        rw [nsD_len, List.take_length] at k3
        refine wss_nil ⟨rfl, fun e he a ia ie d id_ q => ?_, _, _, _, _, _, _, rfl⟩
        rw [take_snoc hcg] at he
        rcases List.mem_append.mp he with he | he
        · exact k2 e he a ia ie d id_ q
        · rw [List.mem_singleton.mp he] at ie q
          obtain ⟨n1, n2, n3, n4, n5, n6⟩ := q.ne G
          have := k3 a (mA.mpr ⟨q.ab, n2, q.ac⟩) ia ie d (mD.mpr ⟨q.cd, Ne.symm n5, q.bd⟩) id_
          rw [q.ad] at this; cases this
    · rintro ρ' M2 ⟨rfl, k2, o3, o4, o5, o6, o7, o8, rfl⟩
      rw [nsD_len, List.take_length] at k2
      refine wss_nil ⟨rfl, fun e he a ia c ic d id_ q => ?_, _, _, _, _, _, _, _, rfl⟩
      rw [take_snoc hb] at he
      rcases List.mem_append.mp he with he | he
      · exact k1 e he a ia c ic d id_ q
      · rw [List.mem_singleton.mp he] at q
        exact k2 c (of_decide_eq_true q.bc) a ia ic d id_ q
  · rintro ρ' M' ⟨rfl, k1, o2, o3, o4, o5, o6, o7, o8, rfl⟩
    rw [nsD_len, List.take_length] at k1
    obtain ⟨a, ha, b, hb, c, hc2, d, hd, q⟩ := hP
    exact absurd q (k1 b hb a ha c hc2 d hd)
end
end W
namespace DL
open PySem PySem.Spec PyProof.Rows L2
section
variable {X : Cx} {ρ : Rho} {M : Mp} {Φ : D → Mp → Prop}
theorem we_disp1M {a1 b1 : Expr} {dp : Pos} (h : WE X ρ M a1 fun x1 M1 => WE X ρ M1 b1 fun y1 M2 => ∃ k1 : Key, x1 = keyD k1 ∧ ∀ p, M2 p = none → Φ (.ob p) (mset M2 p (.dK [(k1, y1)]))) :
    WE X ρ M (.Dict [some a1] [b1] dp) Φ := .mk fun {Z} σ H Q en w k => by
  refine eOf (pe_disp (pps_cons pe_sem pe_sem pps_nil) rfl rfl (by simp) (by simp)) ?_
  intro t ht
  have zne := w.zne ht
  have xh : ExI M Z H M (hid Z t) (upd H t (.dK [])) := hide_x ht
  have wh : Wd X.K M (hid Z t) (upd H t (.dK [])) := hide_w w ht
  have en0 := en.monoI xh
  refine h.run σ _ _ en0 wh fun v1 x1 H1 M1 e1 w1 r1 hz => ?_
  refine hz.run σ H1 _ (en0.mono e1) w1 fun u1 y1 H2 M2 e2 w2 s1 hy => ?_
  have e12 := e1.trans e2
  obtain ⟨k1, ex1, hz2⟩ := hy
  subst ex1
  have ev := keyD_inv r1
  subst ev
  have hT : H2 t = some (.dK []) := (e12.2 t (.inr rfl)).1.trans upd_same
  refine ⟨hT, [(k1, u1)], rfl, by simp, ?_⟩
  have em : mergeK [] [(k1, u1)] = [(k1, u1)] := by
    simp [mergeK, putK]
  rw [em]
  have mT : M2 t = none := (w2.2 t (.inr rfl)).1
  have xi : ExI M2 (hid Z t) H2 (mset M2 t (.dK [(k1, y1)])) Z (upd H2 t (.dK [(k1, u1)])) := fun b u q m => by
    have n : b ≠ t := fun e => m.2 (.inr e)
    exact ⟨by rw [upd_ne n]; exact q, by rw [mset_ne n]; exact m.1, fun z => m.2 (.inl z)⟩
  have x0 : ExI M Z H M2 (hid Z t) H2 := xh.trans e12.i
  refine k _ (.ob t) _ _ ⟨fun b u q m => ?_, fun b z => ?_⟩ ⟨fun c u e => ?_, fun b z => ?_⟩ (.ob t) (hz2 t mT)
  · obtain ⟨q1, m1⟩ := x0 b u q m
    exact xi b u q1 m1
  · have n := zne b z
    have := e12.2 b (.inl z)
    exact ⟨by rw [upd_ne n, this.1, upd_ne n], by rw [mset_ne n]; exact this.2⟩
  · by_cases hc : c = t
    · subst hc
      rw [mset_same] at e
      cases e
      exact ⟨_, upd_same, .cons (s1.monoI xi) .nil⟩
    · rw [mset_ne hc] at e
      exact (w2.1 c u e).stepI xi (upd_ne hc)
  · have n := zne b z
    obtain ⟨m, u, q⟩ := w2.2 b (.inl z)
    exact ⟨by rw [mset_ne n]; exact m, u, by rw [upd_ne n]; exact q⟩
end
end DL
namespace W
open PySem PySem.Spec PyProof.Rows L2 DL SX PL SlX
/-- what is known of the class Reading -/
structure Rx (K : PySem.W.Frag) (mg : Str → Option Value) (G : Addr) : Prop where
  at_ : mg "Reading" = some (.ref G)
  cl : Cls K G
  na : ∀ f, f ∈ (["own_reading", "own_persons", "own_chain"] : List Str) → NoAttr K G f
  init : ∃ f, Mk K G f ∧ Md K G "__init__" "Reading.__init__" s_Reading___init__ f
  read : ∃ f, Meth K G "read" f ∧ Md K G "read" "Reading.read" s_Reading_read f
def mD (m : List (Nat × List Nat)) : List (Key × D) := m.map fun q => ((.inl (q.1 : Int) : Key), perD q.2)
def rdF (x : D) (y : D) (z : D) : List (Str × D) := [("own_reading", x), ("own_persons", y), ("own_chain", z)]
def rdT (t : T) (m : List (Nat × List Nat)) : List (Str × D) := rdF (tS (txt t)) (.fdK (mD m)) .non
abbrev qD (q : Nat × Nat × Nat × Nat) : D := .tup [.int (q.1 : Nat), .int (q.2.1 : Nat), .int (q.2.2.1 : Nat), .int (q.2.2.2 : Nat)]
abbrev one0 (x : Nat) : D := .fdK [(.inl (x : Int), .tup [])]
/-- what a reading of some people holds -/
def RdOk (ps : List (Nat × Nat)) (S : List Nat) (F : List (Str × D)) : Prop :=
  (∃ t m, TB (knP ps) S t m ∧ F = rdT t m) ∨ ∃ y q, (q.1 ∈ S ∧ q.2.1 ∈ S ∧ q.2.2.1 ∈ S ∧ q.2.2.2 ∈ S) ∧ P4 (knP ps) q.1 q.2.1 q.2.2.1 q.2.2.2 ∧ F = rdF (tS [49]) y (qD q)
theorem rd_put1 {x : D} : putD "own_reading" x [] = ([("own_reading", x)] : List (Str × D)) := rfl
theorem rd_put2 {x y : D} : putD "own_persons" y ([("own_reading", x)] : List (Str × D)) = ([("own_reading", x), ("own_persons", y)] : List (Str × D)) := by
  unfold putD; rw [if_neg (by decide +kernel)]; rfl
theorem rd_put3 {x y z : D} : putD "own_chain" z ([("own_reading", x), ("own_persons", y)] : List (Str × D)) = rdF x y z := by
  unfold putD rdF; rw [if_neg (by decide +kernel)]; unfold putD; rw [if_neg (by decide +kernel)]; rfl
theorem rd_putR {x y z u : D} : putD "own_reading" u (rdF x y z) = rdF u y z := by unfold rdF putD; rw [if_pos rfl]
theorem rd_putP {x y z u : D} : putD "own_persons" u (rdF x y z) = rdF x u z := by
  unfold rdF putD; rw [if_neg (by decide +kernel)]; unfold putD; rw [if_pos rfl]
theorem rd_putC {x y z u : D} : putD "own_chain" u (rdF x y z) = rdF x y u := by
  unfold rdF putD; rw [if_neg (by decide +kernel)]; unfold putD; rw [if_neg (by decide +kernel)]; unfold putD; rw [if_pos rfl]
theorem lk_R {x y z : D} : (rdF x y z).lookup ("own_reading" : Str) = some x := rfl
theorem lk_P {x y z : D} : (rdF x y z).lookup ("own_persons" : Str) = some y := rfl
theorem lk_C {x y z : D} : (rdF x y z).lookup ("own_chain" : Str) = some z := rfl
theorem lk_read {x y z : D} : (rdF x y z).lookup ("read" : Str) = none := rfl
section
variable {P : Program} {w : World} {K : PySem.W.Frag} {mg : Str → Option Value} {base : Heap} {C G R U V : Addr}
def cRead (G R : Addr) (h : Nat) : Con := fun ds M Φ => ∃ a n ps S x, ds = [.ob a, webD R n ps, .lst (nsD S)] ∧ n ≤ 30 ∧ Prs n ps ∧ S.Nodup ∧ (∀ x ∈ S, x < n) ∧ 2 ≤ S.length ∧ S.length ≤ h + 1 ∧ M a = some (.ins G (rdF (tS [49]) (one0 x) .non)) ∧ ∀ F, RdOk ps S F → Φ .non (mset M a (.ins G F))
def cRdI (G R : Addr) (h : Nat) : Con := fun ds M Φ => ∃ a n ps S, ds = [.ob a, webD R n ps, .lst (nsD S)] ∧ n ≤ 30 ∧ Prs n ps ∧ S.Nodup ∧ (∀ x ∈ S, x < n) ∧ S ≠ [] ∧ S.length ≤ h + 1 ∧ M a = some (.ins G []) ∧ ∀ F, RdOk ps S F → Φ .non (mset M a (.ins G F))
abbrev nRdI : List Str := ["self", "web", "people"]
theorem ok_rd_init (h : Nat) (F : Fx w K mg) (Y : Rx K mg G) (F1 : Mc P w K mg base G "read" [] (3 * h + 5) 3 (cRead G R h)) : BodyOk P w K mg base "Reading.__init__" s_Reading___init__ nRdI 3 (3 * h + 5) (cRdI G R h) := by
  intro f cdv A outer s H E hr ds M Φ hl hc
  obtain ⟨a, n, ps, S, rfl, n30, hp, nS, hS, S0, hSl, hM, hc⟩ := hc
  obtain ⟨x, S', rfl⟩ : ∃ x S', S = x :: S' := by cases S with | nil => exact absurd rfl S0 | cons x S' => exact ⟨x, S', rfl⟩
  have nd : nRdI.Nodup := by decide +kernel
  refine wss_cons (ws_fld (C := G) (we_str (we_var 0 rfl ⟨a, _, rfl, hM, Y.cl, Y.na _ (by decide +kernel), by show 0 < 1000; decide, ?_⟩)))
  rw [rd_put1]
  refine wss_cons (ws_fld (C := G) (we_disp1M (we_ix (we_var 2 rfl (we_int ⟨0, _, rfl, ixL (atI_nat (j := 0) rfl), we_tup (wa_nil ⟨Nat.zero_le _, .inl (x : Int), rfl, fun q hq => we_var 0 rfl ⟨a, ([("own_reading", .str "1")] : List (Str × D)), rfl, ?_, Y.cl, Y.na _ (by decide +kernel), by show 1 < 1000; decide, ?_⟩⟩)⟩)))))
  · have : a ≠ q := fun e => by rw [← e, mset_same] at hq; cases hq
    rw [mset_ne this]; exact mset_same
  have haq : a ≠ q := fun e => by rw [← e, mset_same] at hq; cases hq
  have hq0 : M q = none := by rw [mset_ne (Ne.symm haq)] at hq; exact hq
  rw [rd_put2]
  refine wss_cons (ws_fld (C := G) (we_non (we_var 0 rfl ⟨a, _, rfl, mset_same, Y.cl, Y.na _ (by decide +kernel), by show 2 < 1000; decide, ?_⟩)))
  rw [rd_put3, mset_mset, mset_comm haq, mset_mset]
  have hMq : mset (mset M a (.ins G (rdF (.str "1") (.ob q) .non))) q (.dK [(.inl (x : Int), .tup [])]) q = some (.dK [(.inl (x : Int), .tup [])]) := mset_same
  refine wss_lockM hMq ?_
  rw [mset_mset]
  refine wss_insFzG (x := a) (C := G) (fs := rdF (.str "1") (.ob q) .non) (fs' := rdF (tS [49]) (one0 x) .non) (M1 := mset M a (.ins G (rdF (.str "1") (.ob q) .non))) (by rw [mset_ne haq]; exact mset_same) (les_new (by rw [mset_ne (Ne.symm haq)]; exact hq0)) mset_same ?_ ?_
  · rw [show ("1" : Str) = S [49] by decide +kernel]
    exact .same (.cons (.of (.fdK mset_same (by rw [mset_ne (Ne.symm haq)]; exact hq0))) (.same .nil))
  rw [mset_mset]
  refine wss_cons (ws_if (wt_gtI (we_len (F.bn _ (by decide +kernel)) (we_var 2 rfl ⟨_, lenL, we_int ⟨_, _, rfl, rfl, ?_⟩⟩))))
  rw [nsD_len]
  by_cases h2 : 2 ≤ (x :: S').length
  · rw [decide_eq_true (show (1 : Int) < ((x :: S').length : Nat) by omega)]
    refine wss_cons (ws_expr (we_meth (C := G) F1 (hr.mono (by omega)) (we_var 0 rfl ⟨_, mset_same, lk_read, wa_cons (we_var 1 rfl (wa_cons (we_var 2 rfl (wa_nil ⟨rfl, a, n, ps, _, x, rfl, n30, hp, nS, hS, h2, hSl, mset_same, fun F hF => ?_⟩))))⟩)))
    rw [mset_mset]
    exact wss_nil (wss_nil (hc F hF))
  · rw [decide_eq_false (show ¬ (1 : Int) < ((x :: S').length : Nat) by omega)]
    have e0 : S' = [] := by
      cases S' with
      | nil => rfl
      | cons y r => exact absurd (by simp) h2
    subst e0
    refine wss_nil (wss_nil (hc _ (.inl ⟨.one, [(x, [])], TB.one _ x, ?_⟩)))
    unfold rdT mD
    rw [txt]
    rfl
end
end W
namespace W
open PySem PySem.Spec PyProof.Rows L2 DL SX PL SlX
theorem flat_mem : ∀ {fs : List (List Nat)} {f : List Nat}, (∀ g ∈ fs, g ≠ []) → f ∈ fs → f.length + (fs.length - 1) ≤ fs.flatten.length
  | g :: fs, f, h, hf => by
    have h1 := List.length_pos_iff.mpr (h g List.mem_cons_self)
    have h2 := flat_ne fun z hz => h z (List.mem_cons_of_mem _ hz)
    rw [List.flatten_cons, List.length_append, List.length_cons]
    rcases List.mem_cons.mp hf with rfl | hf
    · omega
    · have := flat_mem (fun z hz => h z (List.mem_cons_of_mem _ hz)) hf
      have : 1 ≤ fs.length := List.length_pos_iff.mpr (List.ne_nil_of_mem hf)
      omega
theorem pick_tr {kn : Nat → Nat → Bool} : ∀ {fs : List (List Nat)} {Fs : List (List (Str × D))}, fs.length = Fs.length → (∀ (j : Nat) f F, fs[j]? = some f → Fs[j]? = some F → ∃ t m, TB kn f t m ∧ F = rdT t m) → ∃ xs : List Tr, xs.map (·.1) = fs ∧ Fs = xs.map (fun x => rdT x.2.1 x.2.2) ∧ ∀ x ∈ xs, TB kn x.1 x.2.1 x.2.2
  | [], [], _, _ => ⟨[], rfl, rfl, fun x h => by cases h⟩
  | [], F :: Fs, h, _ => by simp at h
  | f :: fs, [], h, _ => by simp at h
  | f :: fs, F :: Fs, h, k => by
    obtain ⟨xs, e1, e2, e3⟩ := pick_tr (fs := fs) (Fs := Fs) (by simpa using h) fun j g G h1 h2 => k (j + 1) g G h1 h2
    obtain ⟨t, m, h1, h2⟩ := k 0 f F rfl rfl
    refine ⟨(f, t, m) :: xs, by rw [List.map_cons, e1], by rw [List.map_cons, ← e2, h2], fun x hx => ?_⟩
    rcases List.mem_cons.mp hx with rfl | hx
    · exact h1
    · exact e3 x hx
theorem joinM_app : ∀ (k : Nat) (xs ys : List Tr), joinM k (xs ++ ys) = joinM k xs ++ joinM (k + xs.length) ys
  | k, [], ys => rfl
  | k, x :: xs, ys => by
    rw [List.cons_append, joinM, joinM, joinM_app (k + 1) xs ys, List.append_assoc, List.length_cons, show k + 1 + xs.length = k + (xs.length + 1) by omega]
theorem joinM_at {xs : List Tr} {i : Nat} {x : Tr} (h : xs[i]? = some x) : ∃ rest, joinM 0 xs = joinM 0 (xs.take i) ++ (x.2.2.map (fun q => (q.1, i :: q.2)) ++ rest) := by
  obtain ⟨hi, e⟩ := List.getElem?_eq_some_iff.mp h
  have e1 : xs = xs.take i ++ x :: xs.drop (i + 1) := by rw [← e, List.getElem_cons_drop, List.take_append_drop]
  refine ⟨joinM (i + 1) (xs.drop (i + 1)), ?_⟩
  conv => lhs; rw [e1]
  rw [joinM_app, List.length_take, Nat.min_eq_left (by omega), Nat.zero_add, joinM]
theorem mD_app (a b : List (Nat × List Nat)) : mD (a ++ b) = mD a ++ mD b := List.map_append
theorem mD_put {m : List (Nat × List Nat)} {p : Nat} {d : D} (h : p ∉ m.map (·.1)) : putKD (mD m) (.inl (p : Int)) d = mD m ++ [(.inl (p : Int), d)] :=
  putKD_new fun kv hk e => by
    obtain ⟨q, hq, rfl⟩ := List.mem_map.mp hk
    injection e with e
    exact h (List.mem_map.mpr ⟨q, hq, by omega⟩)
section
variable {P : Program} {w : World} {K : PySem.W.Frag} {mg : Str → Option Value} {base : Heap} {C G R U V : Addr}
abbrev nRead : List Str := ["self", "web", "people", "told", "word", "some", "inner", "chains", "part", "one", "number", "person", "address"]
theorem ok_read (h : Nat) (F : Fx w K mg) (Y : Rx K mg G) (F1 : Fc P w K mg base "parts_of" [] 2 2 (cWParts R)) (F2 : Fc P w K mg base "chain_in" [] 1 2 (cChainIn R)) (F3 : ∀ j, h = j + 1 → Kc P w K mg base "Reading" G [] (3 * j + 6) 3 (cRdI G R j)) :
    BodyOk P w K mg base "Reading.read" s_Reading_read nRead 3 (3 * h + 4) (cRead G R h) := by
  intro f cdv A outer s H E hr ds M Φ hl hc
  obtain ⟨a, n, ps, S, x0, rfl, n30, hp, nS, hS, h2, hSl, hM, hc⟩ := hc
  have nd : nRead.Nodup := by decide +kernel
  have hu1 := unitsA hr
  have Gk := knP_gr hp
  have hS30 := nodup_lt nS hS
  have z2 : 2 ≤ sizeLine := by rw [sizeLine_eq]; decide
  obtain ⟨j0, rfl⟩ : ∃ j, h = j + 1 := ⟨h - 1, by omega⟩
  refine wss_cons (ws_set 3 nd (we_call F1 (hr.mono (by omega)) (wa_cons (we_var 1 rfl (wa_cons (we_var 2 rfl (wa_nil ⟨rfl, n, ps, S, rfl, n30, hp, nS, hS, h2, fun s fs hf2 hpc => ?_, fun h4 => ?_⟩)))))))
  rotate_left
  · refine wss_cons (ws_if (wt_isN (we_var 3 rfl ?_)))
    refine wss_cons (ws_fld (C := G) (we_call F2 (hr.mono (by omega)) (wa_cons (we_var 1 rfl (wa_cons (we_var 2 rfl (wa_nil ⟨rfl, n, ps, S, rfl, n30, hp, hS, by omega, h4, fun a1 b1 c1 d1 ha hb hc1 hd q => we_var 0 rfl ⟨a, _, rfl, hM, Y.cl, Y.na _ (by decide +kernel), by show 3 < 1000; decide, ?_⟩⟩)))))))
    rw [rd_putC]
    exact wss_cons (ws_retN (Lets.of (hc _ (.inr ⟨_, (a1, b1, c1, d1), ⟨ha, hb, hc1, hd⟩, q, rfl⟩))))
  refine wss_cons (ws_if (wt_isN (we_var 3 rfl ?_)))
  refine wss_nil (wss_cons (ws_asg (we_var 3 rfl (wg_tup ⟨rfl, rfl, wgs_cons (wg_name 4 (wgs_cons (wg_name 5 (wgs_nil ⟨rfl, ?_⟩) nd)) nd)⟩))))
  have nF : fs.flatten.Nodup := hpc.perm.nodup_iff.mpr nS
  have hfl : fs.length ≤ 30 := Nat.le_trans (flat_ne hpc.ne) (by rw [hpc.perm.length_eq]; omega)
  have inS : ∀ {f : List Nat}, f ∈ fs → ∀ {y : Nat}, y ∈ f → y ∈ S := fun {f} hf {y} hy => hpc.perm.mem_iff.mp (List.mem_flatten.mpr ⟨f, hf, hy⟩)
  refine wss_cons (ws_setLc 6 nd (blkOk_by (N := nRead) (sc := defScope s_Reading_read) (own := [("part", 8)]) (by decide +kernel)) (fun _ _ _ _ _ => pg_name (i := 8) nd rfl (Or.inl rfl)) (gt_name (by decide)) (fun _ _ _ _ _ => pts_nil) tk_nil (wi_list (we_var 5 rfl ⟨_, .inl rfl, ?_⟩)) rfl)
  refine ⟨by rw [List.length_map, sizeLine_eq]; omega, fun i acc M' => M' = M ∧ ∃ Fs : List (List (Str × D)), Fs.length = i ∧ acc = Fs.map (D.ins G) ∧ ∀ (j : Nat) f F, fs[j]? = some f → Fs[j]? = some F → RdOk ps f F, ⟨rfl, [], rfl, rfl, fun j f F _ h => by simp at h⟩, ?_, ?_⟩
  · rintro i y acc M' hy ⟨rfl, Fs, hFl, rfl, hFs⟩
    rw [List.getElem?_map] at hy
    obtain ⟨g, hg, rfl⟩ := Option.map_eq_some_iff.mp hy
    have hgm := List.mem_of_getElem? hg
    have hgl := flat_mem hpc.ne hgm
    rw [hpc.perm.length_eq] at hgl
    intro s1 H1 C1 cl1 fp1
    refine we_make (F3 j0 rfl) (hr.mono (by omega)) (wa_cons (we_var 1 rfl (wa_cons (we_var 8 rfl (wa_nil fun b hb => ⟨rfl, b, n, ps, g, rfl, n30, hp, (hpc.asc g hgm).imp fun h => by omega, fun z hz => hS z (inS hgm hz), hpc.ne g hgm, by omega, mset_same, fun F hF => ⟨rfl, ?_⟩⟩)))))
    rw [mset_mset]
    refine ⟨.ins G F, M', les_new hb, .ins mset_same hb, rfl, Fs ++ [F], by rw [List.length_append, hFl]; rfl, by rw [List.map_append]; rfl, fun j f F' h1 h2 => ?_⟩
    by_cases hj : j < Fs.length
    · rw [List.getElem?_append_left hj] at h2
      exact hFs j f F' h1 h2
    · rw [List.getElem?_append_right (by omega)] at h2
      have hj0 : j - Fs.length = 0 := by
        cases e : j - Fs.length with
        | zero => rfl
        | succ k => rw [e] at h2; simp at h2
      rw [hj0] at h2
      cases h2
      have : j = i := by omega
      subst this
      rw [hg] at h1; cases h1
      exact hF
  rintro acc M' ⟨rfl, Fs, hFl, rfl, hFs⟩
  rw [List.length_map] at hFl
  refine wss_cons (ws_setLc 7 nd (blkOk_by (N := nRead) (sc := defScope s_Reading_read) (own := [("one", 9)]) (by decide +kernel)) (fun _ _ _ _ _ => pg_name (i := 9) nd rfl (Or.inl rfl)) (gt_name (by decide)) pt_blk tk_one (wi_list (we_var 6 rfl ⟨_, .inl rfl, ?_⟩)) rfl)
  refine ⟨by rw [List.length_map, sizeLine_eq]; omega, fun i acc M2 => M2 = M' ∧ ∃ Qs : List (Nat × Nat × Nat × Nat), acc = Qs.map qD ∧ (∀ q ∈ Qs, (q.1 ∈ S ∧ q.2.1 ∈ S ∧ q.2.2.1 ∈ S ∧ q.2.2.2 ∈ S) ∧ P4 (knP ps) q.1 q.2.1 q.2.2.1 q.2.2.2) ∧ (Qs = [] → ∀ (j : Nat) f F, j < i → fs[j]? = some f → Fs[j]? = some F → ∃ t m, TB (knP ps) f t m ∧ F = rdT t m), ⟨rfl, [], rfl, fun q h => (by cases h), fun _ j f F h => by omega⟩, ?_, ?_⟩
  · rintro i y acc M2 hy ⟨rfl, Qs, rfl, q1, q2⟩
    rw [List.getElem?_map] at hy
    obtain ⟨F, hF, rfl⟩ := Option.map_eq_some_iff.mp hy
    obtain ⟨g, hg⟩ : ∃ g, fs[i]? = some g := ⟨_, List.getElem?_eq_getElem (by have := (List.getElem?_eq_some_iff.mp hF).1; omega)⟩
    have hgm := List.mem_of_getElem? hg
    intro s1 H1 C1 cl1 fp1
    rcases hFs i g F hg hF with ⟨t, m, tb, rfl⟩ | ⟨yy, q, ⟨i1, i2, i3, i4⟩, hq, rfl⟩
    · refine wt_notN (we_fld (C := G) (we_var 9 rfl ⟨_, _, ⟨rfl, rfl⟩, Y.cl, Y.na _ (by decide +kernel), lk_C, ?_⟩))
      refine ⟨rfl, Qs, rfl, q1, fun e j f F' hj h1 h2 => ?_⟩
      by_cases hji : j < i
      · exact q2 e j f F' hji h1 h2
      · have : j = i := by omega
        subst this
        rw [hF] at h2; cases h2
        rw [hg] at h1; cases h1
        exact ⟨t, m, tb, rfl⟩
    · refine wt_notN (we_fld (C := G) (we_var 9 rfl ⟨_, _, ⟨rfl, rfl⟩, Y.cl, Y.na _ (by decide +kernel), lk_C, ?_⟩))
      intro s2 H2 C2 cl2 fp2
      refine we_fld (C := G) (we_var 9 rfl ⟨_, _, ⟨rfl, rfl⟩, Y.cl, Y.na _ (by decide +kernel), lk_C, rfl, Qs ++ [q], by rw [List.map_append]; rfl, fun r hr2 => ?_, fun e => by simp at e⟩)
      rcases List.mem_append.mp hr2 with hr2 | hr2
      · exact q1 r hr2
      · rw [List.mem_singleton.mp hr2]
        exact ⟨⟨inS hgm i1, inS hgm i2, inS hgm i3, inS hgm i4⟩, hq⟩
  rintro acc M2 ⟨rfl, Qs, rfl, q1, q2⟩
  rw [List.length_map] at q2
  refine wss_cons (ws_if (wt_neNil hr.units (we_var 7 rfl ⟨_, Qs.map fun q => .tuple [.int (q.1 : Nat), .int (q.2.1 : Nat), .int (q.2.2.1 : Nat), .int (q.2.2.2 : Nat)], 1, rfl, cmps_map (Nat.le_refl _) (fun q _ => cmp_tup (cmps_cons (cmp_int _) (Nat.le_refl _) (cmps_cons (cmp_int _) (Nat.le_refl _) (cmps_cons (cmp_int _) (Nat.le_refl _) (cmps_cons (cmp_int _) (Nat.le_refl _) cmps_nil))))), by decide, ?_⟩)))
  rw [List.isEmpty_map]
  cases Qs with
  | cons q Qs =>
    refine wss_cons (ws_fld (C := G) (we_ix (we_var 7 rfl (we_int ⟨0, _, rfl, ixL (atI_nat (j := 0) rfl), we_var 0 rfl ⟨a, _, rfl, hM, Y.cl, Y.na _ (by decide +kernel), by show 3 < 1000; decide, ?_⟩⟩))))
    rw [rd_putC]
    obtain ⟨k1, k2⟩ := q1 q List.mem_cons_self
    exact wss_cons (ws_retN (Lets.of (hc _ (.inr ⟨_, q, k1, k2, rfl⟩))))
  | nil =>
    obtain ⟨xs, rfl, rfl, hxs⟩ := pick_tr (kn := knP ps) (fs := fs) (Fs := Fs) hFl.symm fun j f F h1 h2 => q2 rfl j f F (by have := (List.getElem?_eq_some_iff.mp h2).1; omega) h1 h2
    rw [List.length_map] at hf2 hfl
    have apart : (xs.map (·.1)).Pairwise fun f g => ∀ x ∈ f, ∀ y ∈ g, knP ps x y = s := by
      have dj := (List.pairwise_flatten.mp nF).2
      refine (hpc.apart.and dj).imp fun {f g} h x hx y hy => ?_
      have h1 := h.1 x hx y hy
      have h2 : x ≠ y := h.2 x hx y hy
      rw [rel_is h2] at h1
      have h1 := of_decide_eq_false h1
      cases e : knP ps x y <;> cases s <;> first | rfl | exact absurd e h1
    have tb := TB.row Gk s hxs hf2 hpc.perm apart
    have tl := tb.len
    have nm : ((joinM 0 xs).map (·.1)).Nodup := tb.keys.nodup_iff.mpr nS
    refine wss_nil (wss_cons (ws_fld (C := G) (we_addS (we_addS (we_str (we_join (WE.imp (Φ' := fun d M1 => d = .str (SX.S (sep s)) ∧ M1 = M2) (we_if (wt_eqS (we_var 4 rfl (we_gstr F.gBESIDE ⟨_, rfl, ?c1⟩)))) fun d M1 e => ⟨SX.S (sep s), e.1, ?c2⟩)))))))
    case c1 =>
      cases s with
      | false =>
        rw [show decide (wrd false = ("beside" : Str)) = true by decide +kernel]
        exact we_str ⟨by rw [show (" + " : Str) = SX.S (sep false) by decide +kernel], rfl⟩
      | true =>
        rw [show decide (wrd true = ("beside" : Str)) = false by decide +kernel]
        exact we_str ⟨by rw [show (" * " : Str) = SX.S (sep true) by decide +kernel], rfl⟩
    case c2 =>
      obtain ⟨_, rfl⟩ := e
      refine we_lc nd (blkOk_by (N := nRead) (sc := defScope s_Reading_read) (own := [("one", 9)]) (by decide +kernel)) (fun _ _ _ _ _ => pg_name (i := 9) nd rfl (Or.inl rfl)) (gt_name (by decide)) (fun _ _ _ _ _ => pts_nil) tk_nil (wi_list (we_var 6 rfl ⟨_, .inl rfl, ?_⟩))
      refine ⟨by rw [List.length_map, List.length_map, sizeLine_eq]; omega, fun i acc M3 => M3 = M1 ∧ acc = (((xs.take i).map fun x => txt x.2.1).map SX.S).map D.str, ⟨rfl, rfl⟩, ?_, ?_⟩
      · rintro i y acc M3 hy ⟨rfl, rfl⟩
        rw [List.getElem?_map, List.getElem?_map] at hy
        cases hx : xs[i]? with
        | none => rw [hx] at hy; cases hy
        | some x =>
          rw [hx] at hy
          cases Option.some.inj hy
          intro s1 H1 C1 cl1 fp1
          refine we_fld (C := G) (we_var 9 rfl ⟨_, _, ⟨rfl, rfl⟩, Y.cl, Y.na _ (by decide +kernel), lk_R, rfl, ?_⟩)
          rw [take_snoc hx, List.map_append, List.map_append, List.map_append]; rfl
      rintro acc M3 ⟨rfl, rfl⟩
      rw [List.length_map, List.length_map, List.take_length]
      have et : (xs.map fun x => txt x.2.1) = txts (xs.map (·.2.1)) := by rw [txts_map, List.map_map]; rfl
      rw [txt, List.length_cons, List.length_append, List.length_singleton] at tl
      have hlen := join_sum s (txts (xs.map (·.2.1)))
      rw [← et, List.length_map] at hlen
      rw [← et] at tl
      refine ⟨(xs.map fun (x : Tr) => txt x.2.1).map SX.S, .inl rfl, ?_, ?_⟩
      · rw [lens, List.length_map, List.length_map, S_len, sep_len]; omega
      rw [join_S, et]
      rw [et] at tl
      refine ⟨_, _, rfl, rfl, ?_, we_str ⟨_, _, rfl, rfl, ?_, we_var 0 rfl ⟨a, _, rfl, hM, Y.cl, Y.na _ (by decide +kernel), by show 3 < 1000; decide, ?_⟩⟩⟩
      · rw [show ("(" : Str) = SX.S [40] by decide +kernel, S_len, S_len, sizeLine_eq]; simp; omega
      · rw [show ("(" : Str) = SX.S [40] by decide +kernel, show (")" : Str) = SX.S [41] by decide +kernel, S_cat, S_len, S_len, sizeLine_eq]; simp; omega
      rw [show ("(" : Str) = SX.S [40] by decide +kernel, show (")" : Str) = SX.S [41] by decide +kernel, S_cat, S_cat, rd_putR]
      have e3 : ([40] ++ TL.joinL (sep s) (txts (xs.map (·.2.1))) ++ [41]) = txt (.row s (xs.map (·.2.1))) := by rw [txt]; simp
      rw [e3]
      generalize hT : D.str (SX.S (txt (.row s (xs.map (·.2.1))))) = tx
      refine wss_cons (ws_fld (C := G) (we_dnewK fun d hd => we_var 0 rfl ⟨a, rdF tx (one0 x0) .non, rfl, ?_, Y.cl, Y.na _ (by decide +kernel), by show 3 < 1000; decide, ?_⟩))
      · have : a ≠ d := fun e => by rw [← e, mset_same] at hd; cases hd
        rw [mset_ne this]; exact mset_same
      have had : a ≠ d := fun e => by rw [← e, mset_same] at hd; cases hd
      have hd0 : M3 d = none := by rw [mset_ne (Ne.symm had)] at hd; exact hd
      rw [rd_putP, mset_comm (Ne.symm had), mset_mset, mset_comm had]
      refine wss_cons (ws_for PassesOwn.never (wi_enumL (F.bn _ (by decide +kernel)) (we_var 6 rfl ⟨_, rfl, ?_⟩)))
      refine ⟨fun i ρ' M4 => M4 = mset (mset M3 a (.ins G (rdF tx (.ob d) .non))) d (.dK (mD (joinM 0 (xs.take i)))) ∧ ∃ o8 o9 o10 o11 o12, ρ' = [some (.ob a), some (webD R n ps), some (.lst (nsD S)), some (.tup [.str (wrd s), fsD (xs.map (·.1))]), some (.str (wrd s)), some (fsD (xs.map (·.1))), some (.lst ((xs.map fun x => rdT x.2.1 x.2.2).map (D.ins G))), some (.lst []), o8, o9, o10, o11, o12], ⟨rfl, _, _, _, _, _, rfl⟩, ?_, ?_⟩
      · rintro i y ρ' M4 hy ⟨rfl, o8, o9, o10, o11, o12, rfl⟩
        obtain ⟨y', hy', rfl⟩ := enumD_get hy
        rw [List.getElem?_map, List.getElem?_map] at hy'
        cases hx : xs[i]? with
        | none => rw [hx] at hy'; cases hy'
        | some x =>
          rw [hx] at hy'
          cases Option.some.inj hy'
          obtain ⟨rest, hrest⟩ := joinM_at hx
          have hxl : xs.length ≤ 30 := hfl
          refine wg_tup ⟨rfl, rfl, wgs_cons (wg_name 10 (wgs_cons (wg_name 9 (wgs_nil ⟨rfl, ?_⟩) nd)) nd)⟩
          refine wss_cons (ws_for PassesOwn.never (wi_fitems (we_fld (C := G) (we_var 9 rfl ⟨_, _, ⟨rfl, rfl⟩, Y.cl, Y.na _ (by decide +kernel), lk_P, _, rfl, ?_⟩))))
          refine ⟨fun l ρ' M5 => M5 = mset (mset M3 a (.ins G (rdF tx (.ob d) .non))) d (.dK (mD (joinM 0 (xs.take i) ++ (x.2.2.take l).map fun q => (q.1, i :: q.2)))) ∧ ∃ o8 o11 o12, ρ' = [some (.ob a), some (webD R n ps), some (.lst (nsD S)), some (.tup [.str (wrd s), fsD (xs.map (·.1))]), some (.str (wrd s)), some (fsD (xs.map (·.1))), some (.lst ((xs.map fun x => rdT x.2.1 x.2.2).map (D.ins G))), some (.lst []), o8, some (.ins G (rdT x.2.1 x.2.2)), some (.int (i : Nat)), o11, o12], ⟨by simp, _, _, _, rfl⟩, ?_, ?_⟩
          · rintro l z ρ' M5 hz ⟨rfl, o8, o11, o12, rfl⟩
            unfold itemsD mD at hz
            rw [List.getElem?_map, List.getElem?_map] at hz
            cases hq : x.2.2[l]? with
            | none => rw [hq] at hz; cases hz
            | some q =>
              rw [hq] at hz
              cases Option.some.inj hz
              have hnew : q.1 ∉ (joinM 0 (xs.take i) ++ (x.2.2.take l).map fun q => (q.1, i :: q.2)).map (·.1) := by
                have e1 : x.2.2.map (fun q => (q.1, i :: q.2)) = (x.2.2.take l).map (fun q => (q.1, i :: q.2)) ++ (q.1, i :: q.2) :: (x.2.2.drop (l + 1)).map (fun q => (q.1, i :: q.2)) := by
                  obtain ⟨hl2, e⟩ := List.getElem?_eq_some_iff.mp hq
                  conv => lhs; rw [← List.take_append_drop l x.2.2, List.drop_eq_getElem_cons hl2, e]
                  rw [List.map_append, List.map_cons]
                rw [hrest, e1] at nm
                rw [List.append_assoc, ← List.append_assoc, List.map_append] at nm
                exact fun hm => (List.nodup_append.mp nm).2.2 _ hm _ (by simp) rfl
              have hkl : (mD (joinM 0 (xs.take i) ++ (x.2.2.take l).map fun q => (q.1, i :: q.2))).length < sizeLine := by
                have e2 : (joinM 0 xs).length = S.length := by rw [← List.length_map (f := fun q : Nat × List Nat => q.1)]; exact tb.keys.length_eq
                rw [hrest, List.length_append, List.length_append, List.length_map] at e2
                unfold mD
                rw [List.length_map, List.length_append, List.length_map, List.length_take, sizeLine_eq]
                have := Nat.min_le_right l x.2.2.length
                omega
              have hqp : (q.2.map fun (i : Nat) => D.int (i : Nat)).length + 1 ≤ sizeLine := by
                have hm := List.mem_of_getElem? hq
                have := pers_ht ((hxs x (List.mem_of_getElem? hx)).pers q hm)
                have := (hxs x (List.mem_of_getElem? hx)).hgt
                have := flat_mem hpc.ne (List.mem_map_of_mem (f := (·.1)) (List.mem_of_getElem? hx))
                rw [hpc.perm.length_eq] at this
                rw [List.length_map, sizeLine_eq]; omega
              refine wg_tup ⟨rfl, rfl, wgs_cons (wg_name 11 (wgs_cons (wg_name 12 (wgs_nil ⟨rfl, ?_⟩) nd)) nd)⟩
              refine wss_cons (ws_asg (we_tup (wa_cons (we_var 10 rfl (wa_star (we_var 12 rfl ⟨_, .inr rfl, wa_nil fun ys hys => ⟨?_, wg_dputI hu1 (we_fld (C := G) (we_var 0 rfl ⟨rdF tx (.ob d) .non, _, ?_, Y.cl, Y.na _ (by decide +kernel), lk_P, we_var 11 rfl ⟨d, _, (q.1 : Int), rfl, rfl, mset_same, hkl, ?_⟩⟩))⟩⟩))))))
              · subst hys; rw [List.append_nil]; exact hqp
              · show mset _ d _ a = some _
                rw [mset_ne had]; exact mset_same
              subst hys
              rw [mset_mset, mD_put hnew]
              refine wss_nil ⟨?_, _, _, _, rfl⟩
              rw [take_snoc hq, List.map_append, ← List.append_assoc, mD_app (joinM 0 (xs.take i) ++ _)]
              rw [List.append_nil]
              rfl
          · rintro ρ' M5 ⟨rfl, o8, o11, o12, rfl⟩
            have el : (itemsD (mD x.2.2)).length = x.2.2.length := by unfold itemsD mD; rw [List.length_map, List.length_map]
            rw [el, List.take_length]
            refine wss_nil ⟨?_, _, _, _, _, _, rfl⟩
            rw [take_snoc hx, joinM_snoc, List.length_take, Nat.min_eq_left (by have := (List.getElem?_eq_some_iff.mp hx).1; omega), Nat.zero_add]
      · rintro ρ' M4 ⟨rfl, o8, o9, o10, o11, o12, rfl⟩
        rw [enumD_len, List.length_map, List.length_map, List.take_length]
        have hMd : mset (mset M3 a (.ins G (rdF tx (.ob d) .non))) d (.dK (mD (joinM 0 xs))) d = some (.dK (mD (joinM 0 xs))) := mset_same
        refine wss_lockM hMd ?_
        rw [mset_mset]
        refine wss_insFzG (x := a) (C := G) (fs := rdF tx (.ob d) .non) (fs' := rdF tx (.fdK (mD (joinM 0 xs))) .non) (M1 := mset M3 a (.ins G (rdF tx (.ob d) .non))) (by rw [mset_ne had]; exact mset_same) (les_new (by rw [mset_ne (Ne.symm had)]; exact hd0)) mset_same ?_ ?_
        · exact .same (.cons (.of (.fdK mset_same (by rw [mset_ne (Ne.symm had)]; exact hd0))) (.same .nil))
        rw [mset_mset]
        exact wss_nil (hc _ (.inl ⟨_, _, tb, by show _ = rdF (D.str (SX.S (txt _))) _ _; rw [hT]⟩))
end
end W
namespace W
open PySem PySem.Spec PyProof.Rows L2 DL SX PL SlX
/-- a plan of a web, and a person of it for each one -/
structure TO (ps : List (Nat × Nat)) (n : Nat) (t : T) (as : List (List Nat)) : Prop where
  ok : Ok t
  many : ppl t = n
  hgt : ht t ≤ 30
  len : as.length = n
  pers : ∀ p ∈ as, isPers t p = true
  kno : ∀ (i j : Nat) (p q : List Nat), i ≠ j → as[i]? = some p → as[j]? = some q → p ≠ q ∧ knowsB t p q = knP ps i j
  free : ¬ HasP4 (knP ps) (List.range n)
theorem look_of {α : Type} {i : Nat} : ∀ {m : List (Nat × α)}, i ∈ m.map (·.1) → ∃ p, m.lookup i = some p ∧ (i, p) ∈ m
  | [], h => by cases h
  | q :: m, h => by
    by_cases e : i = q.1
    · exact ⟨q.2, by rw [show q = (q.1, q.2) from rfl, List.lookup_cons, e]; simp, by rw [e]; exact List.mem_cons_self⟩
    · have hm : i ∈ m.map (·.1) := by
        rw [List.map_cons] at h
        rcases List.mem_cons.mp h with h | h
        · exact absurd h e
        · exact h
      obtain ⟨p, h1, h2⟩ := look_of hm
      exact ⟨p, by rw [show q = (q.1, q.2) from rfl, List.lookup_cons, show (i == q.1) = false by simpa using e]; exact h1, List.mem_cons_of_mem _ h2⟩
theorem mD_val {i : Nat} {p : List Nat} : ∀ {m : List (Nat × List Nat)}, m.lookup i = some p → valK (mD m) (.inl (i : Int)) = some (perD p)
  | [], h => by cases h
  | q :: m, h => by
    unfold valK mD
    rw [List.map_cons, List.find?_cons]
    rw [show q = (q.1, q.2) from rfl, List.lookup_cons] at h
    by_cases e : i = q.1
    · subst e
      simp at h
      subst h
      simp
    · rw [show (i == q.1) = false by simpa using e] at h
      have hk : decide ((Sum.inl (q.1 : Int) : Key) = .inl (i : Int)) = false := decide_eq_false fun z => e (by injection z with z; omega)
      simp only [hk]
      have := mD_val (m := m) h
      unfold valK mD at this
      exact this
def addrs (n : Nat) (m : List (Nat × List Nat)) : List (List Nat) := (List.range n).map fun i => (m.lookup i).getD []
theorem TB.to {n : Nat} {ps : List (Nat × Nat)} {t : T} {m : List (Nat × List Nat)} (hp : Prs n ps) (hn : n ≤ 30) (h : TB (knP ps) (List.range n) t m) : TO ps n t (addrs n m) := by
  have hl : (List.range n).length = n := List.length_range
  have lk : ∀ {i : Nat}, i < n → ∃ p, m.lookup i = some p ∧ (i, p) ∈ m := fun {i} hi => look_of (h.keys.mem_iff.mpr (List.mem_range.mpr hi))
  have at_ : ∀ {i : Nat} {p : List Nat}, (addrs n m)[i]? = some p → i < n ∧ (i, p) ∈ m := fun {i p} e => by
    unfold addrs at e
    rw [List.getElem?_map] at e
    obtain ⟨j, hj, e2⟩ := Option.map_eq_some_iff.mp e
    obtain ⟨hi, e3⟩ := List.getElem?_eq_some_iff.mp hj
    rw [List.getElem_range] at e3
    subst e3
    rw [List.length_range] at hi
    obtain ⟨q, h1, h2⟩ := lk hi
    rw [h1] at e2
    simp at e2
    subst e2
    exact ⟨hi, h2⟩
  refine ⟨⟨h.good, h.told, by have := h.len; rw [hl] at this; omega⟩, by rw [h.many, hl], by have := h.hgt; rw [hl] at this; omega, by unfold addrs; rw [List.length_map, hl], fun p hp2 => ?_, fun i j p q hij e1 e2 => ?_, h.free (knP_gr hp)⟩
  · obtain ⟨i, hi, e⟩ := List.getElem_of_mem hp2
    exact h.pers _ (at_ (by rw [List.getElem?_eq_getElem hi, e])).2
  · exact h.kno _ (at_ e1).2 _ (at_ e2).2 hij
section
variable {P : Program} {w : World} {K : PySem.W.Frag} {mg : Str → Option Value} {base : Heap} {C G R U V : Addr}
abbrev toldD (C : Addr) (t : T) (as : List (List Nat)) : D := .tup [.str "plan", planD C t, .tup (as.map perD)]
abbrev chainD (q : Nat × Nat × Nat × Nat) : D := .tup [.str "chain", qD q]
structure Ch (ps : List (Nat × Nat)) (n : Nat) (q : Nat × Nat × Nat × Nat) : Prop where
  a : q.1 < n
  b : q.2.1 < n
  c : q.2.2.1 < n
  d : q.2.2.2 < n
  p4 : P4 (knP ps) q.1 q.2.1 q.2.2.1 q.2.2.2
def cTold2 (C R : Addr) : Con := fun ds M Φ => ∃ n ps, ds = [webD R n ps] ∧ 1 ≤ n ∧ n ≤ 30 ∧ Prs n ps ∧ (∀ q, Ch ps n q → Φ (chainD q) M) ∧ ∀ t as, TO ps n t as → Φ (toldD C t as) M
abbrev nToldB : List Str := ["web", "found", "person"]
theorem ok_told_back (F : Fx w K mg) (X : Qx K mg R) (Y : Rx K mg G) (gC : ∃ t, mg "CHAIN" = some (.str "chain" t)) (gP : ∃ t, mg "PLAN" = some (.str "plan" t)) (F1 : Kc P w K mg base "Reading" G [] 93 3 (cRdI G R 29)) (F2 : Kc P w K mg base "Plan" C [] 66 2 (cInit C 30)) :
    BodyOk P w K mg base "told_back" s_told_back nToldB 1 94 (cTold2 C R) := by
  intro f cdv A outer s H E hr ds M Φ hl hc
  obtain ⟨n, ps, rfl, n1, n30, hp, hc1, hc2⟩ := hc
  have nd : nToldB.Nodup := by decide +kernel
  have hu1 := unitsA hr
  have z2 : 2 ≤ sizeLine := by rw [sizeLine_eq]; decide
  have z3 : 3 ≤ sizeLine := by rw [sizeLine_eq]; decide
  have er : rngD 0 ((n : Nat) : Int).toNat = nsD (List.range n) := by
    unfold rngD
    show _ = ((List.range n).map fun (i : Nat) => (i : Int)).map D.int
    rw [show ((n : Nat) : Int).toNat = n by omega, List.map_map]
    exact List.map_congr_left fun i _ => by simp
  refine wss_cons (ws_set 1 nd (we_make F1 (hr.mono (by decide)) (wa_cons (we_var 0 rfl (wa_cons (we_listRg1 (F.bn _ (by decide +kernel)) (F.bn _ (by decide +kernel)) (we_fld (C := R) (we_var 0 rfl ⟨_, _, insW, X.cl, X.na _ (by decide +kernel), rfl, _, rfl, ⟨by omega, by omega, by omega⟩, wa_nil fun b hb => ⟨rfl, b, n, ps, List.range n, by rw [er]; rfl, n30, hp, List.nodup_range, fun x hx => List.mem_range.mp hx, fun e => ?_, by rw [List.length_range]; omega, mset_same, fun Fd hF => ⟨rfl, ?_⟩⟩⟩))))))))
  · have := congrArg List.length e
    rw [List.length_range] at this; simp at this; omega
  rw [mset_mset]
  refine ⟨.ins G Fd, M, les_new hb, .ins mset_same hb, ?_⟩
  rcases hF with ⟨t, m, tb, rfl⟩ | ⟨y, q, ⟨i1, i2, i3, i4⟩, hq, rfl⟩
  · refine wss_cons (ws_if (wt_notN (we_fld (C := G) (we_var 1 rfl ⟨_, _, ⟨rfl, rfl⟩, Y.cl, Y.na _ (by decide +kernel), lk_C, ?_⟩))))
    have to := TB.to hp n30 tb
    refine wss_nil (wss_cons (ws_ret (we_tup (wa_cons (we_gstr gP (wa_cons (we_plan F2 (hr.mono (by decide)) (we_fld (C := G) (we_var 1 rfl ⟨_, _, ⟨rfl, rfl⟩, Y.cl, Y.na _ (by decide +kernel), lk_R, t, rfl, to.ok.1, to.ok.2.1, to.ok.2.2, to.hgt, by have := to.hgt; omega, wa_cons (we_tupleOf (F.bn _ (by decide +kernel)) (we_lc nd (blkOk_by (N := nToldB) (sc := defScope s_told_back) (own := [("person", 2)]) (by decide +kernel)) (fun _ _ _ _ _ => pg_name (i := 2) nd rfl (Or.inl rfl)) (gt_name (by decide)) (fun _ _ _ _ _ => pts_nil) tk_nil (wi_range1 (F.bn _ (by decide +kernel)) (wa_cons (we_fld (C := R) (we_var 0 rfl ⟨_, _, insW, X.cl, X.na _ (by decide +kernel), rfl, wa_nil ⟨_, rfl, by omega, by omega, ?_⟩⟩))))))⟩)))))))))
    rw [er]
    refine ⟨by rw [nsD_len, List.length_range, sizeLine_eq]; omega, fun i acc M2 => M2 = M ∧ acc = ((addrs n m).take i).map perD, ⟨rfl, rfl⟩, ?_, ?_⟩
    · rintro i x acc M2 hx ⟨rfl, rfl⟩
      obtain ⟨a, ha, rfl⟩ := nsD_get hx
      obtain ⟨hi, e3⟩ := List.getElem?_eq_some_iff.mp ha
      rw [List.getElem_range] at e3
      subst e3
      rw [List.length_range] at hi
      obtain ⟨p, h1, h2⟩ := look_of (tb.keys.mem_iff.mpr (List.mem_range.mpr hi))
      have hat : (addrs n m)[i]? = some p := by
        unfold addrs
        rw [List.getElem?_map, List.getElem?_range hi]
        show some ((m.lookup i).getD []) = _
        rw [h1]; rfl
      intro s1 H1 C1 cl1 fp1
      refine we_fget hu1 (we_fld (C := G) (we_var 1 rfl ⟨_, _, ⟨rfl, rfl⟩, Y.cl, Y.na _ (by decide +kernel), lk_P, we_var 2 rfl ⟨_, .inl (i : Int), _, rfl, rfl, mD_val h1, rfl, ?_⟩⟩))
      rw [take_snoc hat, List.map_append]; rfl
    · rintro acc M2 ⟨rfl, rfl⟩
      rw [nsD_len, List.length_range, List.take_of_length_le (Nat.le_of_eq to.len)]
      exact ⟨_, .inl rfl, wa_nil ⟨z3, Lets.of (hc2 t _ to)⟩⟩
  · refine wss_cons (ws_if (wt_notN (we_fld (C := G) (we_var 1 rfl ⟨_, _, ⟨rfl, rfl⟩, Y.cl, Y.na _ (by decide +kernel), lk_C, ?_⟩))))
    exact wss_cons (ws_ret (we_tup (wa_cons (we_gstr gC (wa_cons (we_fld (C := G) (we_var 1 rfl ⟨_, _, ⟨rfl, rfl⟩, Y.cl, Y.na _ (by decide +kernel), lk_C, wa_nil ⟨z2, Lets.of (hc1 q ⟨List.mem_range.mp i1, List.mem_range.mp i2, List.mem_range.mp i3, List.mem_range.mp i4, hq⟩)⟩⟩)))))))
end
end W
namespace W
open PySem PySem.Spec PyProof.Rows L2 DL SX PL SlX
/-- the four of a chain -/
def q4 (q : Nat × Nat × Nat × Nat) : List Nat := [q.1, q.2.1, q.2.2.1, q.2.2.2]
theorem Ch.at {ps : List (Nat × Nat)} {n : Nat} {q : Nat × Nat × Nat × Nat} (h : Ch ps n q) (hp : Prs n ps) {i j a b : Nat} (hij : i < j) (ha : (q4 q)[i]? = some a) (hb : (q4 q)[j]? = some b) : a < n ∧ b < n ∧ b ≠ a ∧ knP ps a b = decide (j = i + 1) := by
  obtain ⟨n1, n2, n3, n4, n5, n6⟩ := h.p4.ne (knP_gr hp)
  have hj4 : j < 4 := (List.getElem?_eq_some_iff.mp hb).1
  unfold q4 at ha hb
  match i, j, hij, hj4 with
  | i + 3, j, hij, hj4 => exact absurd hj4 (by omega)
  | 0, 1, _, _ => cases Option.some.inj ha; cases Option.some.inj hb; exact ⟨h.a, h.b, Ne.symm n1, h.p4.ab⟩
  | 0, 2, _, _ => cases Option.some.inj ha; cases Option.some.inj hb; exact ⟨h.a, h.c, Ne.symm n2, h.p4.ac⟩
  | 0, 3, _, _ => cases Option.some.inj ha; cases Option.some.inj hb; exact ⟨h.a, h.d, Ne.symm n3, h.p4.ad⟩
  | 1, 2, _, _ => cases Option.some.inj ha; cases Option.some.inj hb; exact ⟨h.b, h.c, Ne.symm n4, h.p4.bc⟩
  | 1, 3, _, _ => cases Option.some.inj ha; cases Option.some.inj hb; exact ⟨h.b, h.d, Ne.symm n5, h.p4.bd⟩
  | 2, 3, _, _ => cases Option.some.inj ha; cases Option.some.inj hb; exact ⟨h.c, h.d, Ne.symm n6, h.p4.cd⟩
section
variable {P : Program} {w : World} {K : PySem.W.Frag} {mg : Str → Option Value} {base : Heap} {C G R U V : Addr}
abbrev nIsChain : List Str := ["web", "value", "one", "at", "its"]
abbrev nIsTold : List Str := ["web", "plan", "people", "one", "at", "its"]
theorem perD_cmp (p : List Nat) : CmpD (perD p) (.tuple (p.map fun (i : Nat) => PyData.int (i : Nat))) 1 := cmp_tup (cmps_map (Nat.le_refl _) fun i _ => cmp_int _)
end
end W
namespace W
open PySem PySem.Spec PyProof.Rows L2 DL SX PL SlX
abbrev shL (v : AV) : List Nat := TL.tl (avP v).shown
def okc (c : Nat) : Prop := (48 ≤ c ∧ c ≤ 57) ∨ c = 44 ∨ c = 32
theorem shL_nat (n : Nat) : shL (natV n) = TL.numL n := by
  unfold shL natV
  rw [avP]
  simp only [PyData.shown]
  exact TL.tl_num n
theorem fold_head {q : Nat} : ∀ (l : List Nat) (acc : Array Nat), ∃ r, (l.foldl (fun out c => out ++ (Builtin.Str.reprChar q c).toArray) acc).toList = acc.toList ++ r
  | [], acc => ⟨[], by simp⟩
  | c :: l, acc => by
    obtain ⟨r, h⟩ := fold_head (q := q) l (acc ++ (Builtin.Str.reprChar q c).toArray)
    exact ⟨Builtin.Str.reprChar q c ++ r, by rw [List.foldl_cons, h]; simp⟩
theorem repr_first (x : Str) : ∃ r, TL.tl (reprText x) = reprQuote x :: r := by
  unfold reprText
  obtain ⟨r, h⟩ := fold_head (q := reprQuote x) x.cps.toList #[reprQuote x]
  refine ⟨r ++ [reprQuote x], ?_⟩
  show (Array.push _ _).toList = _
  rw [Array.toList_push, ← Array.foldl_toList, h]
  simp
theorem quote_is (x : Str) : reprQuote x = 34 ∨ reprQuote x = 39 := by
  unfold reprQuote
  split <;> simp
theorem text_from : ∀ (ts : List Str) (k : Nat) (acc : Str), ∃ r, TL.tl (textFrom k acc ts) = TL.tl acc ++ r
  | [], k, acc => ⟨[], by rw [textFrom]; simp⟩
  | t :: ts, k, acc => by
    obtain ⟨r, h⟩ := text_from ts (k + 1) (acc ++ (if k > 0 then ", " else "" : String) ++ t)
    refine ⟨TL.tl ((if k > 0 then ", " else "" : String) : Str) ++ TL.tl t ++ r, ?_⟩
    rw [textFrom, h, TL.tl_append, TL.tl_append]
    simp
theorem sh_first (v : AV) (hv : AvG v) : (∃ n, v = natV n) ∨ (∃ l, v = .tup l) ∨ ∃ c r, shL v = c :: r ∧ c ≠ 40 ∧ ¬ okc c := by
  have nk : ∀ {c : Nat}, c = 34 ∨ c = 39 ∨ c = 45 ∨ c = 78 ∨ c = 84 ∨ c = 70 ∨ c = 91 → c ≠ 40 ∧ ¬ okc c := fun {c} h => ⟨by omega, by unfold okc; omega⟩
  cases v with
  | non => exact .inr (.inr ⟨78, [111, 110, 101], by unfold shL; rw [avP]; decide +kernel, nk (by simp)⟩)
  | bl b =>
    cases b
    · exact .inr (.inr ⟨70, [97, 108, 115, 101], by unfold shL; rw [avP]; decide +kernel, nk (by simp)⟩)
    · exact .inr (.inr ⟨84, [114, 117, 101], by unfold shL; rw [avP]; decide +kernel, nk (by simp)⟩)
  | int i =>
    rcases hv with ⟨n, rfl, _⟩ | rfl
    · exact .inl ⟨n, rfl⟩
    · exact .inr (.inr ⟨45, [49], by unfold shL; rw [avP]; decide +kernel, nk (by simp)⟩)
  | str x =>
    obtain ⟨r, h⟩ := repr_first x
    refine .inr (.inr ⟨_, r, by unfold shL; rw [avP]; simp only [PyData.shown]; exact h, nk ?_⟩)
    rcases quote_is x with e | e <;> rw [e] <;> simp
  | tup l => exact .inr (.inl ⟨l, rfl⟩)
  | lst l =>
    refine .inr (.inr ?_)
    obtain ⟨r, h⟩ := text_from (PyData.shownAll (avsP l)) 0 "["
    refine ⟨91, r ++ [93], ?_, nk (by simp)⟩
    unfold shL
    rw [avP]
    simp only [PyData.shown]
    unfold listText
    rw [TL.tl_append, h, show TL.tl ("[" : String) = [91] by decide +kernel, show TL.tl ("]" : String) = [93] by decide +kernel]
    rfl
  | dic => exact hv.elim
  | dct x y n => exact hv.elim
theorem shs_map : ∀ l : List AV, PyData.shownAll (avsP l) = l.map fun v => (avP v).shown
  | [] => by rw [avsP, PyData.shownAll]; rfl
  | v :: l => by rw [avsP, PyData.shownAll, shs_map l]; rfl
/-- what stands within the brackets of a tuple -/
def inL (ts : List (List Nat)) : List Nat := TL.joinL [44, 32] ts ++ (if ts.length = 1 then [44] else [])
theorem shL_tup (l : List AV) : shL (.tup l) = 40 :: (inL (l.map shL) ++ [41]) := by
  unfold shL
  rw [avP]
  simp only [PyData.shown]
  rw [shs_map]
  unfold tupleText inL
  rw [TL.tl_append, TL.tl_append, TL.tl_join, show TL.tl ("(" : String) = [40] by decide +kernel, show TL.tl (", " : String) = [44, 32] by decide +kernel, List.map_map, List.length_map, List.length_map]
  show [40] ++ TL.joinL [44, 32] (l.map shL) ++ _ = _
  by_cases h : l.length = 1
  · rw [if_pos (by simpa using h), if_pos h, show TL.tl (",)" : String) = [44, 41] by decide +kernel]
    simp
  · rw [if_neg (by simpa using h), if_neg h, show TL.tl (")" : String) = [41] by decide +kernel]
    simp
theorem mem_join {c : Nat} {t : List Nat} : ∀ {ts : List (List Nat)}, t ∈ ts → c ∈ t → c ∈ TL.joinL [44, 32] ts
  | [x], h, hc => by
    rw [List.mem_singleton] at h; subst h
    exact hc
  | x :: y :: r, h, hc => by
    show c ∈ x ++ ([44, 32] ++ TL.joinL [44, 32] (y :: r))
    rcases List.mem_cons.mp h with e | h
    · subst e; simp [hc]
    · exact List.mem_append_right _ (List.mem_append_right _ (mem_join h hc))
theorem join_ok : ∀ (ns : List Nat), ∀ c ∈ TL.joinL [44, 32] (ns.map TL.numL), okc c
  | [], c, h => by simp [TL.joinL] at h
  | [n], c, h => .inl (TL.numL_digits n c h)
  | n :: m :: r, c, h => by
    have h : c ∈ TL.numL n ++ ([44, 32] ++ TL.joinL [44, 32] ((m :: r).map TL.numL)) := h
    rcases List.mem_append.mp h with h | h
    · exact .inl (TL.numL_digits n c h)
    · rcases List.mem_append.mp h with h | h
      · simp at h
        unfold okc; omega
      · exact join_ok (m :: r) c h
theorem in_ok (ns : List Nat) : ∀ c ∈ inL (ns.map TL.numL), okc c := fun c h => by
  unfold inL at h
  rcases List.mem_append.mp h with h | h
  · exact join_ok ns c h
  · split at h
    · simp at h; unfold okc; omega
    · cases h
theorem cut_comma {a b r s : List Nat} (ha : 44 ∉ a) (hb : 44 ∉ b) (h : a ++ 44 :: r = b ++ 44 :: s) : a = b ∧ r = s := by
  induction a generalizing b with
  | nil =>
    cases b with
    | nil => exact ⟨rfl, by simpa using h⟩
    | cons x b =>
      injection h with h1 h2
      exact absurd (by rw [h1]; exact List.mem_cons_self) hb
  | cons y a ih =>
    cases b with
    | nil =>
      injection h with h1 h2
      exact absurd (by rw [← h1]; exact List.mem_cons_self) ha
    | cons x b =>
      injection h with h1 h2
      obtain ⟨e1, e2⟩ := ih (fun z => ha (List.mem_cons_of_mem _ z)) (fun z => hb (List.mem_cons_of_mem _ z)) h2
      exact ⟨by rw [h1, e1], e2⟩
theorem nc (n : Nat) : 44 ∉ TL.numL n := TL.numL_free (by omega)
theorem join_two (n m : Nat) (r : List Nat) : TL.joinL [44, 32] ((n :: m :: r).map TL.numL) = TL.numL n ++ 44 :: 32 :: TL.joinL [44, 32] ((m :: r).map TL.numL) := by
  rfl
theorem join_inj : ∀ {ns ps : List Nat}, TL.joinL [44, 32] (ns.map TL.numL) = TL.joinL [44, 32] (ps.map TL.numL) → ns = ps
  | [], [], _ => rfl
  | [], [m], h => absurd h.symm (TL.numL_ne m)
  | [], m :: m2 :: r, h => by rw [join_two] at h; simp [TL.joinL] at h
  | [n], [], h => absurd h (TL.numL_ne n)
  | [n], [m], h => by rw [TL.numL_inj (show TL.numL n = TL.numL m from h)]
  | [n], m :: m2 :: r, h => by
    rw [join_two] at h
    have h : TL.numL n = _ := h
    exact absurd (by rw [h]; simp) (nc n)
  | n :: n2 :: r, [], h => by rw [join_two] at h; simp [TL.joinL] at h
  | n :: n2 :: r, [m], h => by
    rw [join_two] at h
    have h : _ = TL.numL m := h
    exact absurd (by rw [← h]; simp) (nc m)
  | n :: n2 :: r, m :: m2 :: s, h => by
    rw [join_two, join_two] at h
    obtain ⟨e1, e2⟩ := cut_comma (nc n) (nc m) h
    injection e2 with _ e2
    rw [TL.numL_inj e1, join_inj (ns := n2 :: r) (ps := m2 :: s) e2]
theorem in_inj {ns ps : List Nat} (h : inL (ns.map TL.numL) = inL (ps.map TL.numL)) : ns = ps := by
  unfold inL at h
  rw [List.length_map, List.length_map] at h
  have one : ∀ {n : Nat} {ps : List Nat}, ps.length ≠ 1 → TL.numL n ++ [44] ≠ TL.joinL [44, 32] (ps.map TL.numL) := fun {n ps} hp e => by
    match ps, hp with
    | [], _ => simp [TL.joinL] at e
    | [m], hp => exact hp rfl
    | m :: m2 :: r, _ =>
      rw [join_two] at e
      obtain ⟨_, e2⟩ := cut_comma (nc n) (nc m) e
      cases e2
  by_cases h1 : ns.length = 1
  · rw [if_pos h1] at h
    obtain ⟨n, rfl⟩ : ∃ n, ns = [n] := by
      match ns, h1 with
      | [n], _ => exact ⟨n, rfl⟩
    by_cases h2 : ps.length = 1
    · rw [if_pos h2] at h
      exact join_inj (List.append_inj_left' h rfl)
    · rw [if_neg h2, List.append_nil] at h
      exact absurd h (one h2)
  · rw [if_neg h1, List.append_nil] at h
    by_cases h2 : ps.length = 1
    · rw [if_pos h2] at h
      obtain ⟨n, rfl⟩ : ∃ n, ps = [n] := by
        match ps, h2 with
        | [n], _ => exact ⟨n, rfl⟩
      exact absurd h.symm (one h1)
    · rw [if_neg h2, List.append_nil] at h
      exact join_inj h
theorem nat_all : ∀ {l : List AV}, (∀ x ∈ l, ∃ n, x = natV n) → ∃ ns : List Nat, l = ns.map natV
  | [], _ => ⟨[], rfl⟩
  | x :: l, hl => by
    obtain ⟨n, rfl⟩ := hl x List.mem_cons_self
    obtain ⟨ns, rfl⟩ := nat_all fun y hy => hl y (List.mem_cons_of_mem _ hy)
    exact ⟨n :: ns, rfl⟩
theorem shown_pers {v : AV} {p : List Nat} (hv : AvG v) (h : (avP v).shown = (avP (persV p)).shown) : v = persV p := by
  have h : shL v = shL (persV p) := congrArg TL.tl h
  have hp : (p.map natV).map shL = p.map TL.numL := by rw [List.map_map]; exact List.map_congr_left fun n _ => shL_nat n
  unfold persV at h
  rw [shL_tup, hp] at h
  rcases sh_first v hv with ⟨n, rfl⟩ | ⟨l, rfl⟩ | ⟨c, r, e, c1, _⟩
  · rw [shL_nat] at h
    have := TL.numL_digits n 40 (by rw [h]; exact List.mem_cons_self)
    omega
  · rw [shL_tup] at h
    injection h with _ h
    have h := List.append_inj_left' h rfl
    have hl : ∀ x ∈ l, ∃ n, x = natV n := fun x hx => by
      have ok : ∀ c ∈ shL x, okc c := fun c hc => in_ok p c (by
        rw [← h]
        exact List.mem_append_left _ (mem_join (List.mem_map.mpr ⟨x, hx, rfl⟩) hc))
      rcases sh_first x (avsG_all.mp hv x hx) with e | ⟨m, rfl⟩ | ⟨c, r, e, _, c2⟩
      · exact e
      · rw [shL_tup] at ok
        have := ok 40 List.mem_cons_self
        unfold okc at this; omega
      · exact absurd (ok c (by rw [e]; exact List.mem_cons_self)) c2
    have hn : ∃ ns : List Nat, l = ns.map natV := nat_all hl
    obtain ⟨ns, rfl⟩ := hn
    rw [List.map_map, show ns.map (shL ∘ natV) = ns.map TL.numL from List.map_congr_left fun n _ => shL_nat n] at h
    rw [in_inj h]; rfl
  · rw [e] at h
    injection h with h1 _
    exact absurd h1 c1
theorem persV_inj {p q : List Nat} (h : persV p = persV q) : p = q := by
  unfold persV at h
  injection h with h
  exact List.map_inj_right (fun a b e => by injection e with e; omega) |>.mp h
end W
namespace W
open PySem PySem.Spec PyProof.Rows L2 DL SX PL SlX
theorem whB_n {v : AV} {n : Nat} (h : whB v 0 ((n : Nat) - 1) = true) : ∃ i : Nat, v = natV i ∧ i < n := by
  cases v with
  | int i =>
    have h : (decide ((0 : Int) ≤ i) && decide (i ≤ (n : Nat) - 1)) = true := h
    rw [Bool.and_eq_true] at h
    have h0 := of_decide_eq_true h.1
    have h1 := of_decide_eq_true h.2
    exact ⟨i.toNat, by unfold natV; rw [Int.toNat_of_nonneg h0], by omega⟩
  | _ => cases h
/-- a value is a chain of four of the web -/
def IsCh (ps : List (Nat × Nat)) (n : Nat) (v : AV) : Prop := ∃ q, v = persV (q4 q) ∧ Ch ps n q
theorem ch_of {ps : List (Nat × Nat)} {n : Nat} {xs : List Nat} (h4 : xs.length = 4) (hn : ∀ x ∈ xs, x < n) (h : ∀ i j a b, i < j → xs[i]? = some a → xs[j]? = some b → b ≠ a ∧ knP ps a b = decide (j = i + 1)) : IsCh ps n (persV xs) := by
  match xs, h4 with
  | [a, b, c, d], _ =>
    have g : ∀ i j x y, i < j → [a, b, c, d][i]? = some x → [a, b, c, d][j]? = some y → knP ps x y = decide (j = i + 1) := fun i j x y h1 h2 h3 => (h i j x y h1 h2 h3).2
    refine ⟨(a, b, c, d), rfl, hn _ (by simp), hn _ (by simp), hn _ (by simp), hn _ (by simp), ?_⟩
    exact ⟨g 0 1 _ _ (by decide) rfl rfl, g 1 2 _ _ (by decide) rfl rfl, g 2 3 _ _ (by decide) rfl rfl, g 0 2 _ _ (by decide) rfl rfl, g 1 3 _ _ (by decide) rfl rfl, g 0 3 _ _ (by decide) rfl rfl⟩
section
variable {P : Program} {w : World} {K : PySem.W.Frag} {mg : Str → Option Value} {base : Heap} {C R U V : Addr}
theorem kit_avC (hk : PySem.W.kitOne K (.type "NoneType") (.ref C) = some false) (v : AV) : PySem.W.kitOne K (.type (avT v)) (.ref C) = some false := by
  have h2 : ((PySem.W.clsIn K C).isSome && PySem.W.typeIn K (.ref C) == some (.type "type")) = true := by
    unfold PySem.W.kitOne at hk
    split at hk
    · cases hk
    · unfold PySem.W.kitCls at hk
      dsimp only at hk
      split at hk
      · assumption
      · cases hk
  have h3 : PySem.W.kitCls K (.type (avT v)) (.ref C) = some false := by
    unfold PySem.W.kitCls
    dsimp only
    rw [if_pos h2]
    cases v <;> rfl
  unfold PySem.W.kitOne
  rw [if_neg (by simp), h3]
def cIsChainA (R : Addr) : Con := fun ds M Φ => ∃ n ps v, ds = [webD R n ps, avD v] ∧ n ≤ 30 ∧ Prs n ps ∧ ∀ b : Bool, (b = true ↔ IsCh ps n v) → Φ (.bl b) M
theorem ok_is_chain_a (F : Fx w K mg) (X : Qx K mg R) (gQ : ∃ t, mg "QUARTET" = some (.int 4 t)) (F1 : Fc P w K mg base "is_tuple" [] 1 2 cIsTupA) (F2 : Fc P w K mg base "is_integer" [] 1 3 cIsIntA) : BodyOk P w K mg base "is_chain" s_is_chain nIsChain 2 2 (cIsChainA R) := by
  intro f cdv A outer s H E hr ds M Φ hl hc
  obtain ⟨n, ps, v, rfl, n30, hp, hc⟩ := hc
  have nd : nIsChain.Nodup := by decide +kernel
  have hu1 := unitsA hr
  have friend : ∀ {a : Nat} (_ : a < n) {M : Mp}, IxD M (.lst ((List.range n).map fun i => D.fdK (frD (nb ps i)))) (a : Int) (.fdK (frD (nb ps a))) := fun {a} h {M} => ixL (atI_nat (by rw [List.getElem?_map, List.getElem?_range h]; rfl))
  have no : ¬ IsCh ps n v → Φ (.bl false) M := fun h => hc false ⟨fun z => (by cases z), fun z => absurd z h⟩
  refine wss_cons (ws_if (wt_ww (ww_or (wt_not (wt_val (we_call F1 (hr.mono (by decide)) (wa_cons (we_var 1 rfl (wa_cons (we_gint gQ (wa_nil ⟨rfl, v, 4, rfl, _, rfl, ?_⟩)))))))))))
  cases ht : tupB v 4 with
  | false => exact wss_cons (ws_ret (we_bl (Lets.of (no fun ⟨q, e, _⟩ => by rw [e] at ht; cases ht))))
  | true =>
    obtain ⟨l, rfl, l4⟩ := tupB_len (n := 4) ht
    have eD : avD (.tup l) = .tup (avsD l) := by rw [avD]
    refine ww_or1 (wt_not (wt_val (we_all (F.bn _ (by decide +kernel)) (we_lc nd (blkOk_by (N := nIsChain) (sc := defScope s_is_chain) (own := [("one", 2)]) (by decide +kernel)) (fun _ _ _ _ _ => pg_name (i := 2) nd rfl (Or.inl rfl)) (gt_name (by decide)) (fun _ _ _ _ _ => pts_nil) tk_nil (wi_tup (we_var 1 rfl ⟨avsD l, eD, ?_⟩))))))
    refine ⟨by rw [avsD_len, l4]; decide, fun i acc M' => M' = M ∧ acc = ((l.take i).map fun x => whB x 0 ((n : Nat) - 1)).map D.bl, ⟨rfl, rfl⟩, ?_, ?_⟩
    · rintro i x acc M' hx ⟨rfl, rfl⟩
      obtain ⟨u, hu, rfl⟩ := avsD_get hx
      intro s1 H1 C1 cl1 fp1
      refine we_call F2 (hr.mono (by decide)) (wa_cons (we_var 2 rfl (wa_cons (we_int (wa_cons (we_subI (we_fld (C := R) (we_var 0 rfl ⟨_, _, insW, X.cl, X.na _ (by decide +kernel), rfl, we_int ⟨_, _, rfl, rfl, wa_nil ⟨rfl, u, _, _, rfl, ?_⟩⟩⟩))))))))
      exact ⟨rfl, by rw [take_snoc hu, List.map_append, List.map_append]; rfl⟩
    rintro acc M' ⟨rfl, rfl⟩
    rw [avsD_len, List.take_length]
    refine ⟨_, rfl, _, rfl, ?_⟩
    cases hall : ((l.map fun x => whB x 0 ((n : Nat) - 1)).all id) with
    | false =>
      refine wss_cons (ws_ret (we_bl (Lets.of (no fun ⟨q, e, ch⟩ => ?_))))
      have e : l = (q4 q).map natV := by injection e
      have : ((l.map fun x => whB x 0 ((n : Nat) - 1)).all id) = true := by
        rw [e, List.map_map, List.all_map]
        have w1 : ∀ {a : Nat}, a < n → whB (natV a) 0 ((n : Nat) - 1) = true := fun {a} h => by
          show (decide ((0 : Int) ≤ (a : Int)) && decide ((a : Int) ≤ (n : Nat) - 1)) = true
          rw [decide_eq_true (by omega), decide_eq_true (by omega)]; rfl
        show (whB (natV q.1) 0 _ && (whB (natV q.2.1) 0 _ && (whB (natV q.2.2.1) 0 _ && (whB (natV q.2.2.2) 0 _ && true)))) = true
        rw [w1 ch.a, w1 ch.b, w1 ch.c, w1 ch.d]; rfl
      rw [this] at hall; cases hall
    | true =>
      have hn : ∀ x ∈ l, ∃ i : Nat, x = natV i ∧ i < n := fun x hx => whB_n (List.all_eq_true.mp hall _ (List.mem_map.mpr ⟨x, hx, rfl⟩))
      obtain ⟨xs, rfl⟩ := nat_all fun x hx => (hn x hx).imp fun _ h => h.1
      have xl : ∀ x ∈ xs, x < n := fun x hx => by
        obtain ⟨i, e, h⟩ := hn _ (List.mem_map.mpr ⟨x, hx, rfl⟩)
        unfold natV at e
        injection e with e; omega
      rw [List.length_map] at l4
      have eP : avD (.tup (xs.map natV)) = .tup (nsD xs) := by
        rw [avD, avsD_map, List.map_map]
        show D.tup _ = D.tup ((xs.map fun (i : Nat) => (i : Int)).map D.int)
        rw [List.map_map]
        exact congrArg D.tup (List.map_congr_left fun n _ => natV_D n)
      have at_ : ∀ {i a : Nat} {M : Mp}, xs[i]? = some a → IxD M (avD (.tup (xs.map natV))) (i : Int) (.int (a : Nat)) := fun {i a M} h => by rw [eP]; exact ixT (atI_nat (nsD_at h))
      have bad : ∀ {i j a b : Nat}, i < j → xs[i]? = some a → xs[j]? = some b → ¬ (b ≠ a ∧ knP ps a b = decide (j = i + 1)) → Φ (.bl false) M' := fun {i j a b} hij ha hb hz => no fun ⟨q, e, ch⟩ => by
        have e : xs = q4 q := persV_inj e
        subst e
        exact hz (ch.at hp hij ha hb).2.2
      refine wss_nil (wss_cons (ws_for PassesOwn.never (wi_enumT (F.bn _ (by decide +kernel)) (we_var 1 rfl ⟨nsD xs, eP, ?_⟩))))
      refine ⟨fun i ρ' M2 => M2 = M' ∧ (∀ i1 j a b, i1 < i → i1 < j → xs[i1]? = some a → xs[j]? = some b → b ≠ a ∧ knP ps a b = decide (j = i1 + 1)) ∧ ∃ o2 o3 o4, ρ' = [some (webD R n ps), some (avD (.tup (xs.map natV))), o2, o3, o4], ⟨rfl, fun i1 j a b h => absurd h (Nat.not_lt_zero _), _, _, _, rfl⟩, ?_, ?_⟩
      · rintro i x ρ' M2 hx ⟨rfl, hG, o2, o3, o4, rfl⟩
        obtain ⟨y, hy, rfl⟩ := enumD_get hx
        obtain ⟨a, ha, rfl⟩ := nsD_get hy
        have hi4 : i < 4 := by rw [← l4]; exact (List.getElem?_eq_some_iff.mp ha).1
        refine wg_tup ⟨rfl, rfl, wgs_cons (wg_name 3 (wgs_cons (wg_name 2 (wgs_nil ⟨rfl, ?_⟩) nd)) nd)⟩
        refine wss_cons (ws_for PassesOwn.never (wi_range2 (F.bn _ (by decide +kernel)) (wa_cons (we_addI (we_var 3 rfl (we_int ⟨_, _, rfl, rfl, wa_cons (we_gint gQ (wa_nil ⟨_, _, rfl, ⟨by omega, by omega, by decide, by decide⟩, ?_⟩))⟩))))))
        refine ⟨fun j ρ' M3 => M3 = M2 ∧ (∀ j1 b, j1 < j → xs[i + 1 + j1]? = some b → b ≠ a ∧ knP ps a b = decide (i + 1 + j1 = i + 1)) ∧ ∃ o4, ρ' = [some (webD R n ps), some (avD (.tup (xs.map natV))), some (.int (a : Nat)), some (.int (i : Nat)), o4], ⟨rfl, fun j1 b h => absurd h (Nat.not_lt_zero _), _, rfl⟩, ?_, ?_⟩
        · rintro j z ρ' M3 hz ⟨rfl, hJ, o4, rfl⟩
          obtain ⟨hj, rfl⟩ := rngD_get hz
          have hj4 : i + 1 + j < 4 := by omega
          obtain ⟨b, hb⟩ : ∃ b, xs[i + 1 + j]? = some b := ⟨_, List.getElem?_eq_getElem (by omega)⟩
          have k1 := xl a (List.mem_of_getElem? ha)
          rw [show ((i : Nat) : Int) + 1 + (j : Nat) = ((i + 1 + j : Nat) : Int) by omega]
          have ix : ∀ {M : Mp}, IxD M (avD (.tup (xs.map natV))) ((i + 1 + j : Nat) : Int) (.int (b : Nat)) := fun {M} => at_ hb
          refine wg_name 4 ?_ nd
          refine wss_cons (ws_if (wt_ww (ww_or (wt_eqS (we_ix (we_var 1 rfl (we_var 4 rfl ⟨_, _, rfl, ix, we_var 2 rfl ⟨decide (((b : Nat) : Int) = (a : Nat)), rfl, ?_⟩⟩)))))))
          by_cases hba : b = a
          · rw [decide_eq_true (show ((b : Nat) : Int) = (a : Nat) by omega)]
            exact wss_cons (ws_ret (we_bl (Lets.of (bad (by omega) ha hb fun z => z.1 hba))))
          rw [decide_eq_false (show ¬ ((b : Nat) : Int) = (a : Nat) by omega)]
          refine ww_or1 (wt_neS (we_inF hu1 (we_ix (we_var 1 rfl (we_var 4 rfl ⟨_, _, rfl, ix, we_ix (we_fld (C := R) (we_var 0 rfl ⟨_, _, insW, X.cl, X.na _ (by decide +kernel), rfl, we_var 2 rfl ⟨_, _, rfl, friend k1, .inl (b : Int), _, rfl, rfl, we_eqS (we_var 4 rfl (we_addI (we_var 3 rfl (we_int ⟨_, _, rfl, rfl, decide (i + 1 + j = i + 1), decide_eq_decide.mpr (by omega), decide (knP ps a b = decide (i + 1 + j = i + 1)), ?_, ?_⟩))))⟩⟩))⟩)))))
          · rw [fr_val]; rfl
          by_cases hk : knP ps a b = decide (i + 1 + j = i + 1)
          · rw [decide_eq_true hk]
            refine wss_nil (wss_nil ⟨rfl, fun j1 b1 hj1 hb1 => ?_, _, rfl⟩)
            by_cases e : j1 = j
            · subst e
              rw [hb] at hb1; cases hb1
              exact ⟨hba, hk⟩
            · exact hJ j1 b1 (by omega) hb1
          · rw [decide_eq_false hk]
            exact wss_cons (ws_ret (we_bl (Lets.of (bad (by omega) ha hb fun z => hk z.2))))
        · rintro ρ' M3 ⟨rfl, hJ, o4, rfl⟩
          refine wss_nil ⟨rfl, fun i1 j1 a1 b1 h1 h2 h3 h5 => ?_, _, _, _, rfl⟩
          by_cases e : i1 = i
          · subst e
            rw [ha] at h3; cases h3
            have hj1 : j1 < 4 := by rw [← l4]; exact (List.getElem?_eq_some_iff.mp h5).1
            have := hJ (j1 - (i1 + 1)) b1 (by rw [rngD_len]; omega) (by rw [show i1 + 1 + (j1 - (i1 + 1)) = j1 by omega]; exact h5)
            rw [show i1 + 1 + (j1 - (i1 + 1)) = j1 by omega] at this
            exact this
          · exact hG i1 j1 a1 b1 (by omega) h2 h3 h5
      · rintro ρ' M2 ⟨rfl, hG, o2, o3, o4, rfl⟩
        refine wss_cons (ws_ret (we_bl (Lets.of (hc true ⟨fun _ => ch_of l4 xl fun i j a b h1 h2 h3 => hG i j a b ?_ h1 h2 h3, fun _ => rfl⟩))))
        have := (List.getElem?_eq_some_iff.mp h2).1
        show i < (enumD (nsD xs)).length
        rw [enumD_len]
        rw [nsD_len]; exact this
end
end W
namespace W
open PySem PySem.Spec PyProof.Rows L2 DL SX PL SlX
section
variable {P : Program} {w : World} {K : PySem.W.Frag} {mg : Str → Option Value} {base : Heap} {C G : Addr}
def cNmsN (C : Addr) : Con := fun ds M Φ => ∃ t, ds = [planN C t] ∧ Φ (.tup ((nmT t).map D.str)) M
theorem insN {M : Mp} {t : T} : InsOf M C (planN C t) (fldsN C t) := by rw [planN_ins]; exact ⟨rfl, rfl⟩
theorem ok_names_p (X : Px K mg C) : BodyOk P w K mg base "Plan.names" s_Plan_names ["self"] 1 0 (cNmsN C) := by
  intro f cdv A outer s H E hr ds M Φ hl hc
  obtain ⟨t, rfl, hc⟩ := hc
  exact wss_cons (ws_ret (we_fld (C := C) (we_var 0 rfl ⟨_, _, insN, X.cl, X.na _ (by decide +kernel), lk_names, Lets.of hc⟩)))
theorem nms_lt {t : T} (hg : Good t) : ∀ x ∈ nmT t, ∀ c ∈ x.cps.toList, c < 0x110000 := fun x hx => by
  rw [nmT_mem] at hx
  revert hx
  suffices h : ∀ t : T, Good t → ∀ x ∈ lv t, ∀ c ∈ x.cps.toList, c < 0x110000 from h t hg x
  intro t
  exact T.rec (motive_1 := fun t => Good t → ∀ x ∈ lv t, ∀ c ∈ x.cps.toList, c < 0x110000) (motive_2 := fun ts => Goods ts → ∀ x ∈ lvL ts, ∀ c ∈ x.cps.toList, c < 0x110000)
    (fun _ x hx => by rw [lv] at hx; cases hx)
    (fun y hg x hx c hc => by
      rw [lv, List.mem_singleton] at hx
      subst hx
      have h1 := hg.2.2 c hc
      simp [letter] at h1
      omega)
    (fun s n u ih hg x hx => ih hg.2.2 x (by rw [lv] at hx; exact hx))
    (fun s ts ih hg x hx => ih hg.2 x (by rw [lv] at hx; exact hx))
    (fun _ x hx => by rw [lvL] at hx; cases hx)
    (fun t ts ih1 ih2 hg x hx => by
      rw [lvL] at hx
      rcases List.mem_append.mp hx with h | h
      · exact ih1 hg.1 x h
      · exact ih2 hg.2 x h) t
end
end W
namespace W
open PySem PySem.Spec PyProof.Rows L2 DL SX PL SlX
/-- a value tells a person of the plan for each one of the web -/
def PplTo (ps : List (Nat × Nat)) (n : Nat) (t : T) (v : AV) : Prop := ∃ as : List (List Nat), v = .tup (as.map persV) ∧ as.length = n ∧ (∀ p ∈ as, isPers t p = true) ∧ ∀ i j p q, i < j → as[i]? = some p → as[j]? = some q → p ≠ q ∧ knowsB t p q = knP ps i j
def IsTo (ps : List (Nat × Nat)) (n : Nat) (t : T) (v : AV) : Prop := ppl t = n ∧ PplTo ps n t v
/-- what is told of a value in a plan's place -/
inductive ToldR (C : Addr) (ps : List (Nat × Nat)) (n : Nat) (v : AV) : D → Bool → Prop
  | av (a : AV) : ToldR C ps n v (avD a) false
  | opn (t : T) : Good t → nmT t ≠ [] → ToldR C ps n v (planN C t) false
  | cl (t : T) (b : Bool) : Ok t → ht t ≤ 30 → (b = true ↔ IsTo ps n t v) → ToldR C ps n v (planD C t) b
theorem per_eqv (p q : List Nat) : PyData.eqv (.tuple (p.map fun (i : Nat) => PyData.int (i : Nat))) (.tuple (q.map fun (i : Nat) => PyData.int (i : Nat))) = decide (p = q) := by
  simp only [PyData.eqv]
  rw [eqv_nats]
theorem pers_all {t : T} : ∀ {l : List AV}, (∀ x ∈ l, isPersA t x = true) → ∃ as : List (List Nat), l = as.map persV ∧ ∀ p ∈ as, isPers t p = true
  | [], _ => ⟨[], rfl, fun p h => (by cases h)⟩
  | x :: l, hl => by
    obtain ⟨p, rfl, hp⟩ := isPersA_nat (hl x List.mem_cons_self)
    obtain ⟨as, rfl, ha⟩ := pers_all fun y hy => hl y (List.mem_cons_of_mem _ hy)
    exact ⟨p :: as, rfl, fun q hq => by rcases List.mem_cons.mp hq with e | hq; rw [e]; exact hp; exact ha q hq⟩
theorem mapP_inj {as bs : List (List Nat)} (h : as.map persV = bs.map persV) : as = bs := List.map_inj_right (fun _ _ e => persV_inj e) |>.mp h
theorem mapP_D (as : List (List Nat)) : avD (.tup (as.map persV)) = .tup (as.map perD) := by
  rw [avD, avsD_map, List.map_map]
  exact congrArg D.tup (List.map_congr_left fun p _ => persV_D p)
section
variable {P : Program} {w : World} {K : PySem.W.Frag} {mg : Str → Option Value} {base : Heap} {C R U V : Addr}
def cIsToldA (C R : Addr) : Con := fun ds M Φ => ∃ n ps d v b, ds = [webD R n ps, d, avD v] ∧ n ≤ 30 ∧ Prs n ps ∧ ToldR C ps n v d b ∧ Φ (.bl b) M
theorem ok_is_told_a (F : Fx w K mg) (X : Qx K mg R) (Y : Px K mg C) (XO : OwnC K C) (hk : PySem.W.kitOne K (.type "NoneType") (.ref C) = some false) (F1 : Fc P w K mg base "is_tuple" [] 1 2 cIsTupA) (F2 : Fc P w K mg base "is_person" [] 3 2 (cIsPersonA C)) (F3 : Fc P w K mg base "do_know" [] 3 3 (cDoKnow C)) (F4 : Pc P w K mg base C "names" 1 (cGet C fun t => .tup [])) (F5 : Pc P w K mg base C "names" 1 (cNmsN C)) :
    BodyOk P w K mg base "is_told" s_is_told nIsTold 3 4 (cIsToldA C R) := by
  intro f cdv A outer s H E hr ds M Φ hl hc
  obtain ⟨n, ps, d, v, b, rfl, n30, hp, hR, hc⟩ := hc
  have nd : nIsTold.Nodup := by decide +kernel
  have hu1 := unitsA hr
  have friend : ∀ {a : Nat} (_ : a < n) {M : Mp}, IxD M (.lst ((List.range n).map fun i => D.fdK (frD (nb ps i)))) (a : Int) (.fdK (frD (nb ps a))) := fun {a} h {M} => ixL (atI_nat (by rw [List.getElem?_map, List.getElem?_range h]; rfl))
  cases hR with
  | av a =>
    refine wss_cons (ws_if (wt_ww (ww_or (wt_not (wt_val (we_isi (F.bn _ (by decide +kernel)) (we_var 1 rfl (we_gref Y.at_ (d := .fn C) (fun _ _ _ => .fn C) ⟨.type (avT a), .ref C, false, avTy M a, rfl, (by intro C h; cases h), kit_avC hk a, _, rfl, ?_⟩))))))))
    exact wss_cons (ws_ret (we_bl (Lets.of hc)))
  | opn t hg hn =>
    refine wss_cons (ws_if (wt_ww (ww_or (wt_not (wt_val (we_isi (F.bn _ (by decide +kernel)) (we_var 1 rfl (we_gref Y.at_ (d := .fn C) (fun _ _ _ => .fn C) ⟨.ref C, .ref C, true, by rw [planN_ins]; rfl, rfl, (by intro C' h; cases h; exact XO), by unfold PySem.W.kitOne; simp, _, rfl, ?_⟩))))))))
    have hcm : CmpDs ((nmT t).map D.str) ((nmT t).map PyData.str) 1 := cmps_map (j := 0) (by decide) fun y hy => cmp_str (nms_lt hg y hy)
    refine ww_or (wt_neNilT hr.units (we_prop F5 (hr.mono (by decide)) (we_var 1 rfl ⟨_, insN, t, rfl, _, _, 1, rfl, hcm, by decide, ?_⟩)))
    cases hm : nmT t with
    | nil => exact absurd hm hn
    | cons x r => exact wss_cons (ws_ret (we_bl (Lets.of hc)))
  | cl t _ ok h30 hb =>
    have no : ¬ IsTo ps n t v → Φ (.bl false) M := fun h => by
      cases b with
      | false => exact hc
      | true => exact absurd (hb.mp rfl) h
    refine wss_cons (ws_if (wt_ww (ww_or (wt_not (wt_val (we_isi (F.bn _ (by decide +kernel)) (we_var 1 rfl (we_gref Y.at_ (fun _ _ _ => .fn _) ⟨.ref C, .ref C, true, by rw [planD_told ok.2.1]; rfl, rfl, (by intro C' h; cases h; exact XO), by unfold PySem.W.kitOne; simp, _, rfl, ?_⟩))))))))
    refine ww_or (wt_neNilT hr.units (we_prop F4 (hr.mono (by decide)) (we_var 1 rfl ⟨_, insP ok.2.1, t, rfl, ok, [], [], 0, rfl, cmps_nil, by decide, ?_⟩)))
    refine ww_or1 (wt_neS (we_fld (C := C) (we_var 1 rfl ⟨_, _, insP ok.2.1, Y.cl, Y.na _ (by decide +kernel), lk_people, we_fld (C := R) (we_var 0 rfl ⟨_, _, insW, X.cl, X.na _ (by decide +kernel), rfl, decide (((ppl t : Nat) : Int) = (n : Nat)), rfl, ?_⟩)⟩)))
    by_cases hm : ppl t = n
    · rw [decide_eq_true (show ((ppl t : Nat) : Int) = (n : Nat) by omega)]
      refine wss_nil (wss_cons (ws_if (wt_ww (ww_or (wt_not (wt_val (we_call F1 (hr.mono (by decide)) (wa_cons (we_var 2 rfl (wa_cons (we_fld (C := R) (we_var 0 rfl ⟨_, _, insW, X.cl, X.na _ (by decide +kernel), rfl, wa_nil ⟨rfl, v, (n : Nat), rfl, _, rfl, ?_⟩⟩))))))))))))
      cases ht : tupB v (n : Nat) with
      | false =>
        refine wss_cons (ws_ret (we_bl (Lets.of (no ?_))))
        rintro ⟨_, as, e, e2, _⟩
        rw [e] at ht
        have ht : decide ((((as.map persV).length : Nat) : Int) = (n : Nat)) = false := ht
        rw [List.length_map, e2] at ht
        exact of_decide_eq_false ht rfl
      | true =>
        obtain ⟨l, rfl, ln⟩ := tupB_len ht
        have eD : avD (.tup l) = .tup (avsD l) := by rw [avD]
        refine ww_or1 (wt_not (wt_val (we_all (F.bn _ (by decide +kernel)) (we_lc nd (blkOk_by (N := nIsTold) (sc := defScope s_is_told) (own := [("one", 3)]) (by decide +kernel)) (fun _ _ _ _ _ => pg_name (i := 3) nd rfl (Or.inl rfl)) (gt_name (by decide)) (fun _ _ _ _ _ => pts_nil) tk_nil (wi_tup (we_var 2 rfl ⟨avsD l, eD, ?_⟩))))))
        refine ⟨by rw [avsD_len, ln, sizeLine_eq]; omega, fun i acc M' => M' = M ∧ acc = ((l.take i).map (isPersA t)).map D.bl, ⟨rfl, rfl⟩, ?_, ?_⟩
        · rintro i x acc M' hx ⟨rfl, rfl⟩
          obtain ⟨u, hu, rfl⟩ := avsD_get hx
          intro s1 H1 C1 cl1 fp1
          refine we_call F2 (hr.mono (by decide)) (wa_cons (we_var 1 rfl (wa_cons (we_var 3 rfl (wa_nil ⟨rfl, t, u, rfl, ok, ?_⟩)))))
          exact ⟨rfl, by rw [take_snoc hu, List.map_append, List.map_append]; rfl⟩
        rintro acc M' ⟨rfl, rfl⟩
        rw [avsD_len, List.take_length]
        refine ⟨_, rfl, _, rfl, ?_⟩
        cases hall : ((l.map (isPersA t)).all id) with
        | false =>
          refine wss_cons (ws_ret (we_bl (Lets.of (no ?_))))
          rintro ⟨_, as, e, _, e3, _⟩
          have e : l = as.map persV := by injection e
          have : ((l.map (isPersA t)).all id) = true := by
            rw [e, List.map_map, List.all_map]
            exact List.all_eq_true.mpr fun p hp => isPersA_of (e3 p hp)
          rw [this] at hall; cases hall
        | true =>
          obtain ⟨as, rfl, ha⟩ := pers_all (t := t) fun x hx => List.all_eq_true.mp hall _ (List.mem_map.mpr ⟨x, hx, rfl⟩)
          rw [List.length_map] at ln
          rw [mapP_D] at eD ⊢
          have bad : ∀ {i j : Nat} {p q : List Nat}, i < j → as[i]? = some p → as[j]? = some q → ¬ (p ≠ q ∧ knowsB t p q = knP ps i j) → Φ (.bl false) M' := fun {i j p q} hij hp1 hq1 hz => no fun ⟨_, bs, e, _, _, e4⟩ => by
            have e : as = bs := mapP_inj (by injection e)
            subst e
            exact hz (e4 i j p q hij hp1 hq1)
          refine wss_nil (wss_cons (ws_for PassesOwn.never (wi_enumT (F.bn _ (by decide +kernel)) (we_var 2 rfl ⟨as.map perD, rfl, ?_⟩))))
          refine ⟨fun i ρ' M2 => M2 = M' ∧ (∀ i1 j p q, i1 < i → i1 < j → as[i1]? = some p → as[j]? = some q → p ≠ q ∧ knowsB t p q = knP ps i1 j) ∧ ∃ o3 o4 o5, ρ' = [some (webD R n ps), some (planD C t), some (.tup (as.map perD)), o3, o4, o5], ⟨rfl, fun i1 j p q h => absurd h (Nat.not_lt_zero _), _, _, _, rfl⟩, ?_, ?_⟩
          · rintro i x ρ' M2 hx ⟨rfl, hG, o3, o4, o5, rfl⟩
            obtain ⟨y, hy, rfl⟩ := enumD_get hx
            rw [List.getElem?_map] at hy
            obtain ⟨p, hp2, rfl⟩ := Option.map_eq_some_iff.mp hy
            have hi : i < n := by rw [← ln]; exact (List.getElem?_eq_some_iff.mp hp2).1
            refine wg_tup ⟨rfl, rfl, wgs_cons (wg_name 4 (wgs_cons (wg_name 3 (wgs_nil ⟨rfl, ?_⟩) nd)) nd)⟩
            refine wss_cons (ws_for PassesOwn.never (wi_range2 (F.bn _ (by decide +kernel)) (wa_cons (we_addI (we_var 4 rfl (we_int ⟨_, _, rfl, rfl, wa_cons (we_len (F.bn _ (by decide +kernel)) (we_var 2 rfl ⟨_, lenT, wa_nil ⟨_, _, rfl, ⟨by omega, by omega, ?_, ?_⟩, ?_⟩⟩))⟩))))))
            · rw [List.length_map, ln]; omega
            · rw [List.length_map, ln]; omega
            rw [List.length_map, ln]
            refine ⟨fun j ρ' M3 => M3 = M2 ∧ (∀ j1 q, j1 < j → as[i + 1 + j1]? = some q → p ≠ q ∧ knowsB t p q = knP ps i (i + 1 + j1)) ∧ ∃ o5, ρ' = [some (webD R n ps), some (planD C t), some (.tup (as.map perD)), some (perD p), some (.int (i : Nat)), o5], ⟨rfl, fun j1 q h => absurd h (Nat.not_lt_zero _), _, rfl⟩, ?_, ?_⟩
            · rintro j z ρ' M3 hz ⟨rfl, hJ, o5, rfl⟩
              obtain ⟨hj, rfl⟩ := rngD_get hz
              have hjn : i + 1 + j < n := by omega
              obtain ⟨r, hr2⟩ : ∃ r, as[i + 1 + j]? = some r := ⟨_, List.getElem?_eq_getElem (by rw [ln]; exact hjn)⟩
              rw [show ((i : Nat) : Int) + 1 + (j : Nat) = ((i + 1 + j : Nat) : Int) by omega]
              have ix : ∀ {M : Mp}, IxD M (.tup (as.map perD)) ((i + 1 + j : Nat) : Int) (perD r) := fun {M} => ixT (atI_nat (by rw [List.getElem?_map, hr2]; rfl))
              refine wg_name 5 ?_ nd
              refine wss_cons (ws_if (wt_ww (ww_or (wt_eqD hr.units (we_ix (we_var 2 rfl (we_var 5 rfl ⟨_, _, rfl, ix, we_var 3 rfl ⟨_, _, (perD_cmp r).eq, (perD_cmp p).eq, (perD_cmp r).shaped (by decide), (perD_cmp p).shaped (by decide), ?_⟩⟩)))))))
              rw [per_eqv]
              by_cases hrp : r = p
              · rw [decide_eq_true hrp]
                exact wss_cons (ws_ret (we_bl (Lets.of (bad (by omega) hp2 hr2 fun z => z.1 hrp.symm))))
              rw [decide_eq_false hrp]
              refine ww_or1 (wt_neS (we_call F3 (hr.mono (by decide)) (wa_cons (we_var 1 rfl (wa_cons (we_var 3 rfl (wa_cons (we_ix (we_var 2 rfl (we_var 5 rfl ⟨_, _, rfl, ix, wa_nil ⟨rfl, t, p, r, rfl, ok, ha p (List.mem_of_getElem? hp2), ha r (List.mem_of_getElem? hr2), we_inF hu1 (we_var 5 rfl (we_ix (we_fld (C := R) (we_var 0 rfl ⟨_, _, insW, X.cl, X.na _ (by decide +kernel), rfl, we_var 4 rfl ⟨_, _, rfl, friend hi, .inl ((i + 1 + j : Nat) : Int), _, rfl, rfl, decide (knowsB t p r = knP ps i (i + 1 + j)), ?_, ?_⟩⟩))))⟩⟩))))))))))
              · rw [fr_val]; rfl
              by_cases hkn : knowsB t p r = knP ps i (i + 1 + j)
              · rw [decide_eq_true hkn]
                refine wss_nil (wss_nil ⟨rfl, fun j1 q hj1 hq1 => ?_, _, rfl⟩)
                by_cases e : j1 = j
                · subst e
                  rw [hr2] at hq1; cases hq1
                  exact ⟨Ne.symm hrp, hkn⟩
                · exact hJ j1 q (by omega) hq1
              · rw [decide_eq_false hkn]
                exact wss_cons (ws_ret (we_bl (Lets.of (bad (by omega) hp2 hr2 fun z => hkn z.2))))
            · rintro ρ' M3 ⟨rfl, hJ, o5, rfl⟩
              refine wss_nil ⟨rfl, fun i1 j1 p1 q1 h1 h2 h3 h5 => ?_, _, _, _, rfl⟩
              by_cases e : i1 = i
              · subst e
                rw [hp2] at h3; cases h3
                have hj1 : j1 < n := by rw [← ln]; exact (List.getElem?_eq_some_iff.mp h5).1
                have := hJ (j1 - (i1 + 1)) q1 (by rw [rngD_len]; omega) (by rw [show i1 + 1 + (j1 - (i1 + 1)) = j1 by omega]; exact h5)
                rw [show i1 + 1 + (j1 - (i1 + 1)) = j1 by omega] at this
                exact this
              · exact hG i1 j1 p1 q1 (by omega) h2 h3 h5
          · rintro ρ' M2 ⟨rfl, hG, o3, o4, o5, rfl⟩
            have yes : IsTo ps n t (.tup (as.map persV)) := ⟨hm, as, rfl, ln, ha, fun i j p q h1 h2 h3 => hG i j p q (by
              have := (List.getElem?_eq_some_iff.mp h2).1
              rw [enumD_len, List.length_map]; exact this) h1 h2 h3⟩
            rw [hb.mpr yes] at hc
            exact wss_cons (ws_ret (we_bl (Lets.of hc)))
    · rw [decide_eq_false (show ¬ ((ppl t : Nat) : Int) = (n : Nat) by omega)]
      exact wss_cons (ws_ret (we_bl (Lets.of (no fun z => hm z.1))))
end
end W
namespace W
open PySem PySem.Spec PyProof.Rows L2 DL SX PL SlX
/-- what is told of a tuple whose first entry is a text -/
inductive FitW (C : Addr) (ps : List (Nat × Nat)) (n : Nat) : Str → List D → Bool → Prop
  | word (x : Str) (xs : List D) : x ≠ "chain" → x ≠ "plan" → FitW C ps n x xs false
  | chl (xs : List D) : xs.length ≠ 1 → FitW C ps n "chain" xs false
  | ch (v : AV) (b : Bool) : AvG v → RpD v → (b = true ↔ IsCh ps n v) → FitW C ps n "chain" [avD v] b
  | pll (xs : List D) : xs.length ≠ 2 → FitW C ps n "plan" xs false
  | pl (d : D) (v : AV) (b : Bool) : (∀ l, v = .tup l → ∀ x ∈ l, AvG x ∧ RpD x) → ToldR C ps n v d b → FitW C ps n "plan" [d, avD v] b
/-- what is told of any value -/
inductive FitR (K : PySem.W.Frag) (C : Addr) (ps : List (Nat × Nat)) (n : Nat) : D → Bool → Prop
  | nt (d : D) (t : Value) : (∀ M, TyD M d t) → (∀ C', t = .ref C' → OwnC K C') → PySem.W.kitOne K t (.type "tuple") = some false → FitR K C ps n d false
  | nil : FitR K C ps n (.tup []) false
  | hd (x : D) (xs : List D) (t : Value) : (∀ M, TyD M x t) → (∀ C', t = .ref C' → OwnC K C') → PySem.W.kitOne K t (.type "str") = some false → FitR K C ps n (.tup (x :: xs)) false
  | wd (x : Str) (xs : List D) (b : Bool) : FitW C ps n x xs b → FitR K C ps n (.tup (.str x :: xs)) b
section
variable {P : Program} {w : World} {K : PySem.W.Frag} {mg : Str → Option Value} {base : Heap} {C R U V : Addr}
def cShowsA (C R : Addr) (K : PySem.W.Frag) : Con := fun ds M Φ => ∃ n ps d b, ds = [webD R n ps, d] ∧ n ≤ 30 ∧ Prs n ps ∧ FitR K C ps n d b ∧ Φ (.bl b) M
theorem ok_shows_a (F : Fx w K mg) (gC : ∃ t, mg "CHAIN" = some (.str "chain" t)) (gP : ∃ t, mg "PLAN" = some (.str "plan" t)) (g2 : ∃ t, mg "PAIR" = some (.int 2 t)) (g3 : ∃ t, mg "TRIPLE" = some (.int 3 t)) (F1 : Fc P w K mg base "is_chain" [] 3 2 (cIsChainA R)) (F2 : Fc P w K mg base "is_told" [] 5 3 (cIsToldA C R)) :
    BodyOk P w K mg base "shows_told_back" s_shows_told_back ["web", "value"] 2 5 (cShowsA C R K) := by
  intro f cdv A outer s H E hr ds M Φ hl hc
  obtain ⟨n, ps, d, b, rfl, n30, hp, hR, hc⟩ := hc
  cases hR with
  | nt _ t hty hown hk =>
    refine wss_cons (ws_if (wt_ww (ww_or (wt_not (wt_val (we_isi (F.bn _ (by decide +kernel)) (we_var 1 rfl (we_bty (F.bn _ (by decide +kernel)) rfl ⟨t, _, false, hty M, rfl, hown, hk, _, rfl, ?_⟩))))))))
    exact wss_cons (ws_ret (we_bl (Lets.of hc)))
  | nil =>
    refine wss_cons (ws_if (wt_ww (ww_or (wt_not (wt_val (we_isi (F.bn _ (by decide +kernel)) (we_var 1 rfl (we_bty (F.bn _ (by decide +kernel)) rfl ⟨_, _, true, rfl, rfl, (by intro C h; cases h), rfl, _, rfl, ?_⟩))))))))
    refine ww_or (wt_eqNilTA hr.units (we_var 1 rfl ⟨_, rfl, ?_⟩))
    exact wss_cons (ws_ret (we_bl (Lets.of hc)))
  | hd x xs t hty hown hk =>
    refine wss_cons (ws_if (wt_ww (ww_or (wt_not (wt_val (we_isi (F.bn _ (by decide +kernel)) (we_var 1 rfl (we_bty (F.bn _ (by decide +kernel)) rfl ⟨_, _, true, rfl, rfl, (by intro C h; cases h), rfl, _, rfl, ?_⟩))))))))
    refine ww_or (wt_eqNilTA hr.units (we_var 1 rfl ⟨_, rfl, ?_⟩))
    refine ww_or1 (wt_not (wt_val (we_isi (F.bn _ (by decide +kernel)) (we_ix (we_var 1 rfl (we_int ⟨0, _, rfl, ixT (atI_nat (j := 0) rfl), we_bty (F.bn _ (by decide +kernel)) rfl ⟨t, _, false, hty M, rfl, hown, hk, _, rfl, ?_⟩⟩))))))
    exact wss_cons (ws_ret (we_bl (Lets.of hc)))
  | wd x xs _ hw =>
    refine wss_cons (ws_if (wt_ww (ww_or (wt_not (wt_val (we_isi (F.bn _ (by decide +kernel)) (we_var 1 rfl (we_bty (F.bn _ (by decide +kernel)) rfl ⟨_, _, true, rfl, rfl, (by intro C h; cases h), rfl, _, rfl, ?_⟩))))))))
    refine ww_or (wt_eqNilTA hr.units (we_var 1 rfl ⟨_, rfl, ?_⟩))
    refine ww_or1 (wt_not (wt_val (we_isi (F.bn _ (by decide +kernel)) (we_ix (we_var 1 rfl (we_int ⟨0, _, rfl, ixT (atI_nat (j := 0) rfl), we_bty (F.bn _ (by decide +kernel)) rfl ⟨_, _, true, rfl, rfl, (by intro C h; cases h), rfl, _, rfl, ?_⟩⟩))))))
    refine wss_nil (wss_cons (ws_if (wt_eqS (we_ix (we_var 1 rfl (we_int ⟨0, _, rfl, ixT (atI_nat (j := 0) rfl), we_gstr gC ⟨_, rfl, ?_⟩⟩))))))
    have lenI : ∀ {k : Int}, decide ((((D.str x :: xs).length : Nat) : Int) = k) = decide (((xs.length : Nat) : Int) = k - 1) := fun {k} => decide_eq_decide.mpr (by rw [List.length_cons]; omega)
    cases hw with
    | word _ _ h1 h2 =>
      rw [decide_eq_false h1]
      refine wss_nil (wss_cons (ws_ret (we_and (we_eqS (we_ix (we_var 1 rfl (we_int ⟨0, _, rfl, ixT (atI_nat (j := 0) rfl), we_gstr gP ⟨_, rfl, _, rfl, ?_⟩⟩)))))))
      rw [decide_eq_false h2]
      exact Lets.of hc
    | chl _ h1 =>
      rw [decide_eq_true rfl]
      refine wss_cons (ws_ret (we_and (we_eqS (we_len (F.bn _ (by decide +kernel)) (we_var 1 rfl ⟨_, lenT, we_gint g2 ⟨_, rfl, _, rfl, ?_⟩⟩)))))
      rw [lenI, decide_eq_false (by omega)]
      exact Lets.of hc
    | ch v _ _ _ hb =>
      rw [decide_eq_true rfl]
      refine wss_cons (ws_ret (we_and (we_eqS (we_len (F.bn _ (by decide +kernel)) (we_var 1 rfl ⟨_, lenT, we_gint g2 ⟨true, rfl, _, rfl, ?_⟩⟩)))))
      refine we_one (we_call F1 (hr.mono (by decide)) (wa_cons (we_var 0 rfl (wa_cons (we_ix (we_var 1 rfl (we_int ⟨1, _, rfl, ixT (atI_nat (j := 1) rfl), wa_nil ⟨rfl, n, ps, v, rfl, n30, hp, fun b2 h2 => ?_⟩⟩)))))))
      rw [show b2 = b from Bool.eq_iff_iff.mpr (h2.trans hb.symm)]
      exact Lets.of hc
    | pll _ h1 =>
      rw [show decide (("plan" : Str) = "chain") = false by decide +kernel]
      refine wss_nil (wss_cons (ws_ret (we_and (we_eqS (we_ix (we_var 1 rfl (we_int ⟨0, _, rfl, ixT (atI_nat (j := 0) rfl), we_gstr gP ⟨_, rfl, _, rfl, ?_⟩⟩)))))))
      rw [decide_eq_true rfl]
      refine we_and (we_eqS (we_len (F.bn _ (by decide +kernel)) (we_var 1 rfl ⟨_, lenT, we_gint g3 ⟨_, rfl, _, rfl, ?_⟩⟩)))
      rw [lenI, decide_eq_false (by omega)]
      exact Lets.of hc
    | pl d v _ _ hT =>
      rw [show decide (("plan" : Str) = "chain") = false by decide +kernel]
      refine wss_nil (wss_cons (ws_ret (we_and (we_eqS (we_ix (we_var 1 rfl (we_int ⟨0, _, rfl, ixT (atI_nat (j := 0) rfl), we_gstr gP ⟨_, rfl, _, rfl, ?_⟩⟩)))))))
      rw [decide_eq_true rfl]
      refine we_and (we_eqS (we_len (F.bn _ (by decide +kernel)) (we_var 1 rfl ⟨_, lenT, we_gint g3 ⟨true, rfl, _, rfl, ?_⟩⟩)))
      exact we_one (we_call F2 (hr.mono (by decide)) (wa_cons (we_var 0 rfl (wa_cons (we_ix (we_var 1 rfl (we_int ⟨1, _, rfl, ixT (atI_nat (j := 1) rfl), wa_cons (we_ix (we_var 1 rfl (we_int ⟨2, _, rfl, ixT (atI_nat (j := 2) rfl), wa_nil ⟨rfl, n, ps, d, v, b, rfl, n30, hp, hT, Lets.of hc⟩⟩)))⟩)))))))
end
end W
namespace W
open PySem PySem.Spec PyProof.Rows L2 DL SX PL SlX
/-- what comes of a tuple at its own place -/
def leafD (xs : List D) : List D := [.lst xs, .tup (DL.cutD xs (some 1) none), .tup (xs ++ DL.cutD xs (some (-1)) none), .tup xs.reverse, .tup [], .tup [.tup xs], .non]
def S0 (x : D) : Prop := ∃ n : Nat, n < 31 ∧ x = .int (n : Nat)
def E0 (x y : D) : Prop := ∃ n : Nat, x = .int (n : Nat) ∧ y ∈ [D.int ((n : Nat) + 1), .int ((n : Nat) - 1), .bl (decide (((n : Nat) : Int) = 1)), .str (toString ((n : Nat) : Int)), .int 0]
def Sw (x : D) : Prop := x = .str "plan" ∨ x = .str "chain"
def Ew (x y : D) : Prop := ∃ s : Str, x = .str s ∧ y ∈ [D.str (Txt.upper s), .str "plan", .str "chain", .lst [.str s], .non]
def S1 (S : D → Prop) (x : D) : Prop := ∃ xs, x = .tup xs ∧ xs.length ≤ 40 ∧ ∀ y ∈ xs, S y
def E1 (E : D → D → Prop) (x y : D) : Prop := ∃ xs, x = .tup xs ∧ (y ∈ leafD xs ∨ ∃ k z u, xs[k]? = some z ∧ E z u ∧ y = .tup (xs.take k ++ [u] ++ xs.drop (k + 1)))
def cBn (S : D → Prop) (E : D → D → Prop) (b : Int) : Con := fun ds M Φ => ∃ p x a c d, ds = [.ob p, x] ∧ S x ∧ M p = some (potL a c d) ∧ cOk c ∧ 0 ≤ d ∧ d + b < 100000 ∧ ∀ y a' d', E x y → d ≤ d' → d' ≤ d + b → Φ y (mset M p (potL a' c d'))
theorem cut_len {α : Type} (l : List α) (lo hi : Option Int) : (DL.cutD l lo hi).length ≤ l.length := by
  obtain ⟨a, b, e⟩ := cut_sub l lo hi
  have := congrArg List.length e
  rw [List.length_append, List.length_append] at this
  omega
section
variable {P : Program} {w : World} {K : PySem.W.Frag} {mg : Str → Option Value} {base : Heap} {C R U V : Addr}
abbrev nBent : List Str := ["_law_pot_here", "_law_value", "_law_spot"]
theorem bent_or {S S' : D → Prop} {E E' : D → D → Prop} {b b' : Int} {k : Nat} (h0 : 0 ≤ b) (h1 : 0 ≤ b') (H1 : BodyOk P w K mg base "_law_bent" s__law_bent nBent 2 k (cBn S E b)) (H2 : BodyOk P w K mg base "_law_bent" s__law_bent nBent 2 k (cBn S' E' b')) : BodyOk P w K mg base "_law_bent" s__law_bent nBent 2 k (cBn (fun x => S x ∨ S' x) (fun x y => (S x ∧ E x y) ∨ (S' x ∧ E' x y)) (b + b')) := by
  intro f cdv A outer s H E2 hr ds M Φ hl hc
  obtain ⟨p, x, a, c, d, rfl, hS, hM, co, d0, d1, hc⟩ := hc
  rcases hS with hS | hS
  · exact H1 f cdv A outer s H E2 hr _ M Φ hl ⟨p, x, a, c, d, rfl, hS, hM, co, d0, by omega, fun y a' d' hE k1 k2 => hc y a' d' (.inl ⟨hS, hE⟩) k1 (by omega)⟩
  · exact H2 f cdv A outer s H E2 hr _ M Φ hl ⟨p, x, a, c, d, rfl, hS, hM, co, d0, by omega, fun y a' d' hE k1 k2 => hc y a' d' (.inr ⟨hS, hE⟩) k1 (by omega)⟩
theorem ok_bent_int (k : Nat) (hk : 2 ≤ k) (F : Fx w K mg) (F2 : Fc P w K mg base "_law_of" [] 2 2 cOf) : BodyOk P w K mg base "_law_bent" s__law_bent nBent 2 k (cBn S0 E0 1) := by
  intro f cdv A outer s H E hr ds M Φ hl hc
  obtain ⟨p, x, a, c, d, rfl, ⟨n, hn, rfl⟩, hM, co, d0, d1, hc⟩ := hc
  have nd : nBent.Nodup := by decide +kernel
  have l0 : ((n : Int)).natAbs.log2 < 1920 := by
    rw [Int.natAbs_natCast]
    exact Nat.lt_of_le_of_lt (Nat.log2_le_self n) (by omega)
  refine wss_cons (ws_if (wt_ww (ww_and (wt_val (we_isi (F.bn _ (by decide +kernel)) (we_var 1 rfl (we_bty (F.bn _ (by decide +kernel)) rfl ⟨_, _, false, rfl, rfl, (by intro C h; cases h), rfl, _, rfl, ?_⟩)))))))
  refine wss_nil (wss_cons (ws_if (wt_val (we_isi (F.bn _ (by decide +kernel)) (we_var 1 rfl (we_bty (F.bn _ (by decide +kernel)) rfl ⟨_, _, false, rfl, rfl, (by intro C h; cases h), rfl, _, rfl, ?_⟩))))))
  refine wss_nil (wss_cons (ws_if (wt_ww (ww_and (wt_val (we_isi (F.bn _ (by decide +kernel)) (we_var 1 rfl (we_bty (F.bn _ (by decide +kernel)) rfl ⟨_, _, true, rfl, rfl, (by intro C h; cases h), rfl, _, rfl, ?_⟩))))))))
  refine ww_and1 (wt_not (wt_val (we_isi (F.bn _ (by decide +kernel)) (we_var 1 rfl (we_bty (F.bn _ (by decide +kernel)) rfl ⟨_, _, false, rfl, rfl, (by intro C h; cases h), rfl, _, rfl, ?_⟩)))))
  refine wss_cons (ws_ret (we_call F2 (hr.mono (by omega)) (wa_cons (we_var 0 rfl (wa_cons (we_lst (wa_cons (we_addI (we_var 1 rfl (we_int ⟨_, _, rfl, rfl, wa_cons (we_subI (we_var 1 rfl (we_int ⟨_, _, rfl, rfl, wa_cons (we_eqS (we_var 1 rfl (we_int ⟨decide ((n : Int) = 1), rfl, wa_cons (we_strI (F.bn _ (by decide +kernel)) (we_var 1 rfl ⟨(n : Int), rfl, l0, wa_cons (we_int (wa_nil ⟨by show 5 ≤ sizeLine; decide, wa_nil ⟨rfl, p, _, a, c, d, rfl, by simp, by show 5 ≤ 1000000; decide, hM, co, d0, by omega, fun y a' d' hy k1 k2 => Lets.of (hc y a' d' ⟨n, rfl, hy⟩ k1 k2)⟩⟩))⟩))⟩)))⟩)))⟩))))))))))
theorem ok_bent_str (k : Nat) (hk : 2 ≤ k) (F : Fx w K mg) (F2 : Fc P w K mg base "_law_of" [] 2 2 cOf) : BodyOk P w K mg base "_law_bent" s__law_bent nBent 2 k (cBn Sw Ew 1) := by
  intro f cdv A outer s H E hr ds M Φ hl hc
  obtain ⟨p, x, a, c, d, rfl, hS, hM, co, d0, d1, hc⟩ := hc
  have nd : nBent.Nodup := by decide +kernel
  obtain ⟨s', rfl, hs'⟩ : ∃ s' : Str, x = .str s' ∧ s'.length ≤ 5592405 := by
    rcases hS with e | e
    · exact ⟨_, e, by decide +kernel⟩
    · exact ⟨_, e, by decide +kernel⟩
  refine wss_cons (ws_if (wt_ww (ww_and (wt_val (we_isi (F.bn _ (by decide +kernel)) (we_var 1 rfl (we_bty (F.bn _ (by decide +kernel)) rfl ⟨_, _, false, rfl, rfl, (by intro C h; cases h), rfl, _, rfl, ?_⟩)))))))
  refine wss_nil (wss_cons (ws_if (wt_val (we_isi (F.bn _ (by decide +kernel)) (we_var 1 rfl (we_bty (F.bn _ (by decide +kernel)) rfl ⟨_, _, false, rfl, rfl, (by intro C h; cases h), rfl, _, rfl, ?_⟩))))))
  refine wss_nil (wss_cons (ws_if (wt_ww (ww_and (wt_val (we_isi (F.bn _ (by decide +kernel)) (we_var 1 rfl (we_bty (F.bn _ (by decide +kernel)) rfl ⟨_, _, false, rfl, rfl, (by intro C h; cases h), rfl, _, rfl, ?_⟩))))))))
  refine wss_nil (wss_cons (ws_if (wt_val (we_isi (F.bn _ (by decide +kernel)) (we_var 1 rfl (we_bty (F.bn _ (by decide +kernel)) rfl ⟨_, _, true, rfl, rfl, (by intro C h; cases h), rfl, _, rfl, ?_⟩))))))
  refine wss_cons (ws_ret (we_call F2 (hr.mono (by omega)) (wa_cons (we_var 0 rfl (wa_cons (we_lst (wa_cons (we_upper (we_var 1 rfl ⟨_, rfl, hs', wa_cons (we_str (wa_cons (we_str (wa_cons (we_lst (wa_cons (we_var 1 rfl (wa_nil ⟨sz1, wa_cons (we_non (wa_nil ⟨by show 5 ≤ sizeLine; decide, wa_nil ⟨rfl, p, _, a, c, d, rfl, by simp, by show 5 ≤ 1000000; decide, hM, co, d0, by omega, fun y a' d' hy k1 k2 => Lets.of (hc y a' d' ⟨s', rfl, hy⟩ k1 k2)⟩⟩))⟩))))))))⟩)))))))))
/-- a plan's place -/
def Sp (C : Addr) (x : D) : Prop := ∃ t, Ok t ∧ x = planD C t
def Ep (x y : D) : Prop := ∃ v ∈ odds, y = avD v
theorem ok_bent_plan (k : Nat) (hk : 3 ≤ k) (F : Fx w K mg) (XO : OwnC K C) (hkT : PySem.W.kitOne K (.ref C) (.type "tuple") = some false) (hkI : PySem.W.kitOne K (.ref C) (.type "int") = some false) (hkS : PySem.W.kitOne K (.ref C) (.type "str") = some false) (F3 : Fc P w K mg base "_law_odd" [] 3 1 cOdd) : BodyOk P w K mg base "_law_bent" s__law_bent nBent 2 k (cBn (Sp C) Ep 1) := by
  intro f cdv A outer s H E hr ds M Φ hl hc
  obtain ⟨p, x, a, c, d, rfl, ⟨t, ok, rfl⟩, hM, co, d0, d1, hc⟩ := hc
  have nd : nBent.Nodup := by decide +kernel
  have ty : ∀ M, TyD M (planD C t) (.ref C) := fun M => by rw [planD_told ok.2.1]; rfl
  have own : ∀ C', Value.ref C = .ref C' → OwnC K C' := by intro C' h; cases h; exact XO
  refine wss_cons (ws_if (wt_ww (ww_and (wt_val (we_isi (F.bn _ (by decide +kernel)) (we_var 1 rfl (we_bty (F.bn _ (by decide +kernel)) rfl ⟨_, _, false, ty M, rfl, own, hkT, _, rfl, ?_⟩)))))))
  refine wss_nil (wss_cons (ws_if (wt_val (we_isi (F.bn _ (by decide +kernel)) (we_var 1 rfl (we_bty (F.bn _ (by decide +kernel)) rfl ⟨_, _, false, ty M, rfl, own, hkT, _, rfl, ?_⟩))))))
  refine wss_nil (wss_cons (ws_if (wt_ww (ww_and (wt_val (we_isi (F.bn _ (by decide +kernel)) (we_var 1 rfl (we_bty (F.bn _ (by decide +kernel)) rfl ⟨_, _, false, ty M, rfl, own, hkI, _, rfl, ?_⟩))))))))
  refine wss_nil (wss_cons (ws_if (wt_val (we_isi (F.bn _ (by decide +kernel)) (we_var 1 rfl (we_bty (F.bn _ (by decide +kernel)) rfl ⟨_, _, false, ty M, rfl, own, hkS, _, rfl, ?_⟩))))))
  exact wss_nil (wss_cons (ws_ret (we_call F3 (hr.mono (by omega)) (wa_cons (we_var 0 rfl (wa_nil ⟨rfl, p, a, c, d, rfl, hM, co, d0, by omega, fun v a' d' hv k1 k2 => Lets.of (hc (avD v) a' d' ⟨v, hv, rfl⟩ k1 k2)⟩))))))
theorem ok_bent_tup (S : D → Prop) (E : D → D → Prop) (b : Int) (hb : 0 ≤ b) (k : Nat) (hk : 2 ≤ k) (F : Fx w K mg) (F1 : Fc P w K mg base "_law_take" [] 1 2 cTake) (F2 : Fc P w K mg base "_law_of" [] 2 2 cOf) (F3 : Fc P w K mg base "_law_bent" [] k 2 (cBn S E b)) : BodyOk P w K mg base "_law_bent" s__law_bent nBent 2 k (cBn (S1 S) (E1 E) (b + 3)) := by
  intro f cdv A outer s H E2 hr ds M Φ hl hc
  obtain ⟨p, x, a, c, d, rfl, ⟨xs, rfl, hx40, hxs⟩, hM, co, d0, d1, hc⟩ := hc
  have nd : nBent.Nodup := by decide +kernel
  have zs : (40 : Nat) + 60 ≤ sizeLine := by rw [sizeLine_eq]; decide
  have hcl := cut_len xs
  have leaf : ∀ (a1 d1 : Int), d ≤ d1 → d1 ≤ d + 1 → WSs (bx P w K mg base nBent "_law_bent" (defScope s__law_bent) f cdv A outer s H E2) [some (.ob p), some (.tup xs), none] (mset M p (potL a1 c d1)) ((defBody s__law_bent).drop 1) { nx := fun _ M' => Φ .non M', rt := Lets Φ } := fun a1 d1 k1 k2 => by
    refine wss_cons (ws_if (wt_val (we_isi (F.bn _ (by decide +kernel)) (we_var 1 rfl (we_bty (F.bn _ (by decide +kernel)) rfl ⟨_, _, true, rfl, rfl, (by intro C h; cases h), rfl, _, rfl, ?_⟩)))))
    refine wss_cons (ws_ret (we_call F2 (hr.mono (by omega)) (wa_cons (we_var 0 rfl (wa_cons (we_lst (wa_cons (we_listOf (F.bn _ (by decide +kernel)) (we_var 1 rfl ⟨_, .inr rfl, wa_cons (we_slice (we_var 1 rfl (we_int ⟨_, rfl, _, .inr (.inl ⟨_, rfl, rfl⟩), wa_cons (we_addT (we_var 1 rfl (we_slice (we_var 1 rfl (we_negI (we_int ⟨1, rfl, _, rfl, _, .inr (.inl ⟨_, rfl, rfl⟩), _, _, rfl, rfl, by have := hcl (some (-1)) none; omega, wa_cons (we_revT (we_var 1 rfl ⟨_, rfl, wa_cons (we_tup (wa_nil ⟨Nat.zero_le _, wa_cons (we_tup (wa_cons (we_var 1 rfl (wa_nil ⟨sz1, wa_cons (we_non (wa_nil ⟨by show 7 ≤ sizeLine; decide, wa_nil ⟨rfl, p, _, a1, c, d1, rfl, by simp, by show 7 ≤ 1000000; decide, mset_same, co, by omega, by omega, fun y a' d' hy k3 k4 => Lets.of ?_⟩⟩))⟩))))⟩))⟩))⟩))))))⟩)))⟩)))))))))
    rw [mset_mset]
    exact hc y a' d' ⟨xs, rfl, .inl hy⟩ (by omega) (by omega)
  refine wss_cons (ws_if (wt_ww (ww_and (wt_val (we_isi (F.bn _ (by decide +kernel)) (we_var 1 rfl (we_bty (F.bn _ (by decide +kernel)) rfl ⟨_, _, true, rfl, rfl, (by intro C h; cases h), rfl, _, rfl, ?_⟩)))))))
  refine ww_and (wt_neNilTA hr.units (we_var 1 rfl ⟨_, rfl, ?_⟩))
  cases hx : xs with
  | nil =>
    subst hx
    have := leaf a d (Int.le_refl _) (by omega)
    rw [mset_self hM] at this
    exact wss_nil this
  | cons z0 r0 =>
    rw [← hx]
    rw [if_pos (show (!xs.isEmpty) = true by rw [hx]; rfl)]
    refine ww_and1 (wt_gtI (we_call F1 (hr.mono (by omega)) (wa_cons (we_var 0 rfl (wa_cons (we_int (wa_nil ⟨rfl, p, _, a, c, d, rfl, by decide, by decide +kernel, hM, co, d0, by omega, ?_⟩)))))))
    intro q0 a1 e1 _ _ k1 k2
    refine we_int ⟨_, _, rfl, rfl, ?_⟩
    by_cases h0 : 0 < q0
    · rw [decide_eq_true h0]
      have hn1 : 1 ≤ xs.length := by rw [hx, List.length_cons]; omega
      refine wss_cons (ws_set 2 nd (we_call F1 (hr.mono (by omega)) (wa_cons (we_var 0 rfl (wa_cons (we_len (F.bn _ (by decide +kernel)) (we_var 1 rfl ⟨_, lenT, wa_nil ⟨rfl, p, _, a1, c, e1, rfl, by omega, ?_, mset_same, co, by omega, by omega, ?_⟩⟩)))))))
      · have e40 : (40 : Int) ≤ 10 ^ 40 := by decide +kernel
        omega
      intro s0 a2 e2 s1 s2 k3 k4
      rw [mset_mset]
      obtain ⟨j, rfl⟩ := Int.eq_ofNat_of_zero_le s1
      have hj : j < xs.length := by omega
      obtain ⟨z, hz⟩ : ∃ z, xs[j]? = some z := ⟨_, List.getElem?_eq_getElem hj⟩
      refine wss_cons (ws_ret (we_addT (we_addT (we_slice (we_var 1 rfl (we_var 2 rfl ⟨_, rfl, _, .inr (.inl ⟨_, rfl, rfl⟩), we_tup (wa_cons (we_call F3 (hr.mono (by omega)) (wa_cons (we_var 0 rfl (wa_cons (we_ix (we_var 1 rfl (we_var 2 rfl ⟨_, _, rfl, ixT (atI_nat hz), wa_nil ⟨rfl, p, z, a2, c, e2, rfl, hxs z (List.mem_of_getElem? hz), mset_same, co, by omega, by omega, fun u a' d' hu k5 k6 => wa_nil ⟨sz1, ?_⟩⟩⟩))))))))⟩))))))
      rw [mset_mset]
      refine ⟨_, _, rfl, rfl, by have := hcl none (some (j : Nat)); simp only [List.length_cons, List.length_nil]; omega, ?_⟩
      refine we_slice (we_var 1 rfl (we_addI (we_var 2 rfl (we_int ⟨_, _, rfl, rfl, _, rfl, _, .inr (.inl ⟨_, rfl, rfl⟩), ?_⟩))))
      refine ⟨_, _, rfl, rfl, by have := hcl none (some (j : Nat)); have := hcl (some ((j : Nat) + 1)) none; simp only [List.length_append, List.length_cons, List.length_nil]; omega, Lets.of ?_⟩
      refine hc _ a' d' ⟨xs, rfl, .inr ⟨j, z, u, hz, hu, ?_⟩⟩ (by omega) (by omega)
      rw [cut_to xs j, show (((j : Nat) : Int) + 1) = ((j + 1 : Nat) : Int) by omega, cut_from _ (by omega)]
    · rw [decide_eq_false h0]
      exact wss_nil (leaf a1 e1 k1 (by omega))
end
end W
namespace DL
open PySem PySem.Spec PyProof.Rows L2
section
variable {P : Program} {w : World} {A : Around} {E : Value → Shared → Prop} {s : Shared}
abbrev hp0 (w : World) (s : Shared) : Heap := s.heap.push (emptySet w)
end
theorem nd_leG {α : Type} [DecidableEq α] : ∀ (l m : List α), l.Nodup → (∀ x ∈ l, x ∈ m) → l.length ≤ m.length
  | [], _, _, _ => Nat.zero_le _
  | x :: l, m, nd, sub => by
    obtain ⟨hx, nd'⟩ := List.nodup_cons.mp nd
    have hm := sub x List.mem_cons_self
    have le := nd_leG l (m.erase x) nd' fun y hy => (List.mem_erase_of_ne fun e => hx (by rw [← e]; exact hy)).mpr (sub y (List.mem_cons_of_mem _ hy))
    have := List.length_erase_of_mem hm
    have := List.length_pos_of_mem hm
    simp only [List.length_cons]
    omega
end DL
namespace DL
open PySem PySem.Spec PyProof.Rows L2
inductive FzEN (M M' : Mp) : Rho → Rho → Prop where
  | nil : FzEN M M' [] []
  | val {d d' : D} {ρ ρ' : Rho} : FzN M M' d d' → FzEN M M' ρ ρ' → FzEN M M' (some d :: ρ) (some d' :: ρ')
  | drop {o : Option D} {ρ ρ' : Rho} : FzEN M M' ρ ρ' → FzEN M M' (o :: ρ) (none :: ρ')
theorem FzEN.env {K : PySem.W.Frag} {M M' : Mp} {Z : Zn} {H : Hp} (l : Les M' M) (w : Wd K M Z H) : ∀ {σ : L2.St} {ρ ρ' : Rho}, FzEN M M' ρ ρ' → EnvR K M Z H σ ρ → EnvR K M' Z H σ ρ'
  | _, _, _, .nil, .nil => .nil
  | _, _, _, .drop t, .any u => .any (FzEN.env l w t u)
  | _, _, _, .drop t, .val r u => .any (FzEN.env l w t u)
  | _, _, _, .val f t, .val r u => .val (f.rep l w r) (FzEN.env l w t u)
/-- go on with less, lists of objects let go -/
theorem wss_letN {X : Cx} {ρ ρ' : Rho} {M M' : Mp} {sts : List Stmt} {Ψ : DE} (l : Les M' M) (f : FzEN M M' ρ ρ') (h : WSs X ρ' M' sts Ψ) : WSs X ρ M sts Ψ := .mk fun σ H E en w k =>
  h.run σ H E (FzEN.env l w f en) (l.w w) (k.step (l.ext w))
/-- new objects stand at qs, all else is as it was -/
structure FamM (M M' : Mp) (qs : List Addr) (g : Nat → MO) : Prop where
  nd : qs.Nodup
  new : ∀ q ∈ qs, M q = none
  out : ∀ b, b ∉ qs → M' b = M b
  inn : ∀ i q, qs[i]? = some q → M' q = some (g i)
theorem FamM.nil {M : Mp} {g : Nat → MO} : FamM M M [] g := ⟨.nil, (by intro _ h; cases h), fun _ _ => rfl, (by intro i q h; simp at h)⟩
theorem FamM.snoc {M M' : Mp} {qs : List Addr} {g : Nat → MO} {q : Addr} {o : MO} (F : FamM M M' qs g) (hq : M' q = none) (hg : g qs.length = o) : FamM M (mset M' q o) (qs ++ [q]) g := by
  have hn : q ∉ qs := fun h => by
    obtain ⟨i, hi, e⟩ := List.getElem_of_mem h
    have := F.inn i q (by rw [List.getElem?_eq_getElem hi, e])
    rw [hq] at this; cases this
  refine ⟨List.nodup_append.mpr ⟨F.nd, List.pairwise_singleton _ _, fun x hx y hy e => hn (by rw [← List.mem_singleton.mp hy, ← e]; exact hx)⟩, fun x hx => ?_, fun b hb => ?_, fun i x hx => ?_⟩
  · rcases List.mem_append.mp hx with h | h
    · exact F.new x h
    · rw [List.mem_singleton.mp h, ← F.out q hn]; exact hq
  · rw [mset_ne (fun e => hb (by rw [e]; exact List.mem_append_right _ (List.mem_singleton.mpr rfl)))]
    exact F.out b fun h => hb (List.mem_append_left _ h)
  · rcases Nat.lt_or_ge i qs.length with hi | hi
    · rw [List.getElem?_append_left hi] at hx
      rw [mset_ne (fun e => hn (by rw [← e]; exact List.mem_of_getElem? hx))]
      exact F.inn i x hx
    · rw [List.getElem?_append_right hi] at hx
      obtain ⟨h0, e⟩ := List.getElem?_eq_some_iff.mp hx
      rw [List.length_singleton] at h0
      rw [List.getElem_singleton] at e
      rw [← e, mset_same, show i = qs.length by omega, hg]
theorem FamM.same {M M' : Mp} {qs : List Addr} {g : Nat → MO} (F : FamM M M' qs g) {i j : Nat} {q : Addr} (hi : qs[i]? = some q) (hj : qs[j]? = some q) : i = j := by
  obtain ⟨h1, e1⟩ := List.getElem?_eq_some_iff.mp hi
  obtain ⟨h2, e2⟩ := List.getElem?_eq_some_iff.mp hj
  exact (List.getElem_inj F.nd).mp (e1.trans e2.symm)
theorem FamM.put {M M' : Mp} {qs : List Addr} {g g' : Nat → MO} {i : Nat} {q : Addr} {o : MO} (F : FamM M M' qs g) (hq : qs[i]? = some q) (h1 : g' i = o) (h2 : ∀ j, j < qs.length → j ≠ i → g' j = g j) : FamM M (mset M' q o) qs g' := by
  refine ⟨F.nd, F.new, fun b hb => ?_, fun j x hx => ?_⟩
  · rw [mset_ne (fun e => hb (by rw [e]; exact List.mem_of_getElem? hq))]
    exact F.out b hb
  · by_cases e : j = i
    · subst e
      rw [hq] at hx; cases hx
      rw [mset_same, h1]
    · rw [mset_ne (fun z => e (F.same (by rw [hx, z]) hq)), h2 j (List.getElem?_eq_some_iff.mp hx).1 e]
      exact F.inn j x hx
theorem FamM.ext {M M' : Mp} {qs : List Addr} {g g' : Nat → MO} (F : FamM M M' qs g) (h : ∀ i, i < qs.length → g' i = g i) : FamM M M' qs g' := ⟨F.nd, F.new, F.out, fun i q hq => by rw [h i (List.getElem?_eq_some_iff.mp hq).1]; exact F.inn i q hq⟩
theorem FamM.les {M M' : Mp} {qs : List Addr} {g : Nat → MO} (F : FamM M M' qs g) : Les M M' := fun b => by
  rcases Classical.em (b ∈ qs) with h | h
  · exact .inr (F.new b h)
  · exact .inl (F.out b h).symm
/-- lists let go -/
theorem FamM.fzL {M M' : Mp} {g : Nat → List D} : ∀ {qs : List Addr} (k : Nat), (∀ i q, qs[i]? = some q → M' q = some (.lst (g (k + i)))) → (∀ q ∈ qs, M q = none) → FzNs M' M (qs.map D.ob) ((List.range' k qs.length).map fun i => D.lst (g i))
  | [], _, _, _ => .nil
  | q :: qs, k, h, hn => by
    rw [List.map_cons, List.length_cons, List.range'_succ, List.map_cons]
    exact .cons (.of (.lst (h 0 q rfl) (hn q List.mem_cons_self))) (FamM.fzL (k + 1) (fun i x hx => by have := h (i + 1) x hx; rwa [show k + (i + 1) = k + 1 + i by omega] at this) fun x hx => hn x (List.mem_cons_of_mem _ hx))
end DL
namespace W
open PySem PySem.Spec PyProof.Rows L2 DL SX PL SlX
theorem ixN_in {n k : Nat} (h : k < n) : ixN n ((k : Nat) : Int) = some k := by
  unfold ixN
  simp only [Int.toNat_natCast]
  rw [if_pos (by omega), if_pos (by omega)]
abbrev rowK (f : Nat → Nat → Bool) (n i : Nat) : List D := (List.range n).map fun j => D.bl (f i j)
abbrev kwD (f : Nat → Nat → Bool) (n : Nat) : D := .lst ((List.range n).map fun i => .lst (rowK f n i))
theorem rowK_at {f : Nat → Nat → Bool} {n i j : Nat} (h : j < n) : (rowK f n i)[j]? = some (.bl (f i j)) := by
  rw [List.getElem?_map, List.getElem?_range h]; rfl
theorem kw_at {f : Nat → Nat → Bool} {n i : Nat} {M : Mp} (h : i < n) : IxD M (kwD f n) (i : Int) (.lst (rowK f n i)) := ixL (atI_nat (by rw [List.getElem?_map, List.getElem?_range h]; rfl))
theorem kr_at {f : Nat → Nat → Bool} {n i j : Nat} {M : Mp} (h : j < n) : IxD M (.lst (rowK f n i)) (j : Int) (.bl (f i j)) := ixL (atI_nat (rowK_at h))
/-- one more tie -/
def tie (f : Nat → Nat → Bool) (a b i j : Nat) : Bool := if i = a ∧ j = b then true else f i j
theorem rowK_tie {f : Nat → Nat → Bool} {n a b : Nat} : (rowK f n a).set b (.bl true) = rowK (tie f a b) n a := by
  refine List.ext_getElem? fun j => ?_
  rw [List.getElem?_set]
  by_cases h : b = j
  · subst h
    rw [if_pos rfl, List.length_map, List.length_range]
    by_cases hb : b < n
    · rw [if_pos hb, rowK_at hb, tie, if_pos ⟨rfl, rfl⟩]
    · rw [if_neg hb, List.getElem?_eq_none (by rw [List.length_map, List.length_range]; omega)]
  · rw [if_neg h, List.getElem?_map, List.getElem?_map]
    cases hj : (List.range n)[j]? with
    | none => rfl
    | some k =>
      obtain ⟨_, e⟩ := List.getElem?_eq_some_iff.mp hj
      rw [List.getElem_range] at e
      show some (D.bl (f a k)) = some (D.bl (tie f a b a k))
      rw [tie, if_neg (by omega)]
theorem rowK_else {f : Nat → Nat → Bool} {n a b i : Nat} (h : i ≠ a) : rowK (tie f a b) n i = rowK f n i := List.map_congr_left fun j _ => by rw [tie, if_neg fun e => h e.1]
theorem rowK_ext {f g : Nat → Nat → Bool} (n i : Nat) (h : ∀ j, f i j = g i j) : rowK f n i = rowK g n i := List.map_congr_left fun j _ => by rw [h]
theorem knP_tie {ps : List (Nat × Nat)} {q : Nat × Nat} (hq : q.1 ≠ q.2) (i j : Nat) : knP (ps ++ [q]) i j = tie (tie (knP ps) q.1 q.2) q.2 q.1 i j := by
  have key : j ∈ nb (ps ++ [q]) i ↔ (i = q.2 ∧ j = q.1) ∨ (i = q.1 ∧ j = q.2) ∨ j ∈ nb ps i := by
    rw [nb_iff, nb_iff, List.mem_append, List.mem_append, List.mem_singleton, List.mem_singleton]
    obtain ⟨x, y⟩ := q
    simp only [Prod.mk.injEq]
    constructor
    · rintro ((h | h) | (h | h))
      · exact .inr (.inr (.inl h))
      · exact .inr (.inl h)
      · exact .inr (.inr (.inr h))
      · exact .inl ⟨h.2, h.1⟩
    · rintro (h | h | h | h)
      · exact .inr (.inr ⟨h.2, h.1⟩)
      · exact .inl (.inr h)
      · exact .inl (.inl h)
      · exact .inr (.inl h)
  unfold tie
  by_cases h1 : i = q.2 ∧ j = q.1
  · rw [if_pos h1]; exact decide_eq_true (key.mpr (.inl h1))
  · rw [if_neg h1]
    by_cases h2 : i = q.1 ∧ j = q.2
    · rw [if_pos h2]; exact decide_eq_true (key.mpr (.inr (.inl h2)))
    · rw [if_neg h2]
      exact decide_eq_decide.mpr ⟨fun h => by
        rcases key.mp h with h | h | h
        · exact absurd h h1
        · exact absurd h h2
        · exact h, fun h => key.mpr (.inr (.inr h))⟩
end W
namespace W
open PySem PySem.Spec PyProof.Rows L2 DL SX PL SlX
theorem _root_.DL.FamM.over {M M' : Mp} {qs : List Addr} {g : Nat → MO} (F : FamM M M' qs g) {q : Addr} {u : MO} (hq : M' q = none) : FamM (mset M q u) (mset M' q u) qs g ∧ q ∉ qs ∧ M q = none := by
  have hn : q ∉ qs := fun h => by
    obtain ⟨i, hi⟩ := List.mem_iff_getElem?.mp h
    rw [F.inn i q hi] at hq; cases hq
  have hM : M q = none := by rw [← F.out q hn]; exact hq
  refine ⟨⟨F.nd, fun b hb => ?_, fun b hb => ?_, fun i b hb => ?_⟩, hn, hM⟩
  · rw [mset_ne (fun e : b = q => hn (by rw [← e]; exact hb))]; exact F.new b hb
  · by_cases e : b = q
    · rw [e, mset_same, mset_same]
    · rw [mset_ne e, mset_ne e]; exact F.out b hb
  · rw [mset_ne (fun e : b = q => hn (by rw [← e]; exact List.mem_of_getElem? hb))]; exact F.inn i b hb
abbrev Q4 := Nat × Nat × Nat × Nat
section
variable (kn : Nat → Nat → Bool) (n : Nat)
def isL (b c d : Nat) : Bool := decide (d ≠ b) && (kn c d && !kn b d)
def c3 (a b c k : Nat) : List Q4 := ((List.range k).filter fun d => isL kn b c d && !kn a d).map fun d => (a, b, c, d)
def isF (a b c : Nat) : Bool := decide (a ≠ c) && (kn a b && !kn a c)
def c2 (b c i : Nat) : List Q4 := (List.range i).flatMap fun a => if isF kn a b c = true then c3 kn a b c n else []
def c1 (E : List (Nat × Nat)) : List Q4 := E.flatMap fun e => c2 kn n e.1 e.2 n
theorem c3_succ (a b c k : Nat) : c3 kn a b c (k + 1) = c3 kn a b c k ++ if (isL kn b c k && !kn a k) = true then [(a, b, c, k)] else [] := by
  unfold c3
  rw [List.range_succ, List.filter_append, List.map_append]
  congr 1
  cases h : (isL kn b c k && !kn a k) <;> simp [List.filter_cons, h]
theorem c2_succ (b c i : Nat) : c2 kn n b c (i + 1) = c2 kn n b c i ++ if isF kn i b c = true then c3 kn i b c n else [] := by
  unfold c2
  rw [List.range_succ, List.flatMap_append]
  congr 1
  simp
theorem c3_len (a b c k : Nat) : (c3 kn a b c k).length ≤ k := by
  unfold c3
  rw [List.length_map]
  exact Nat.le_trans (List.length_filter_le _ _) (by rw [List.length_range]; exact Nat.le_refl _)
theorem flat_len {α β : Type} {f : α → List β} {m : Nat} (h : ∀ x, (f x).length ≤ m) : ∀ l : List α, (l.flatMap f).length ≤ l.length * m
  | [] => by simp
  | x :: l => by
    rw [List.flatMap_cons, List.length_append, List.length_cons, Nat.succ_mul]
    have := h x
    have := flat_len h l
    omega
theorem c2_len (b c i : Nat) : (c2 kn n b c i).length ≤ i * n := by
  have := flat_len (f := fun a => if isF kn a b c = true then c3 kn a b c n else []) (m := n) (fun a => by
    split
    · exact c3_len kn a b c n
    · exact Nat.zero_le _) (List.range i)
  rw [List.length_range] at this
  exact this
theorem c1_len (E : List (Nat × Nat)) : (c1 kn n E).length ≤ E.length * (n * n) := flat_len (f := fun e : Nat × Nat => c2 kn n e.1 e.2 n) (fun e => c2_len kn n e.1 e.2 n) E
theorem c1_mem {E : List (Nat × Nat)} {q : Q4} : q ∈ c1 kn n E ↔ (q.2.1, q.2.2.1) ∈ E ∧ q.1 < n ∧ q.2.2.2 < n ∧ isF kn q.1 q.2.1 q.2.2.1 = true ∧ isL kn q.2.1 q.2.2.1 q.2.2.2 = true ∧ kn q.1 q.2.2.2 = false := by
  obtain ⟨a, b, c, d⟩ := q
  unfold c1 c2 c3
  simp only [List.mem_flatMap, List.mem_range, Prod.exists]
  constructor
  · rintro ⟨b', c', he, a', ha, h⟩
    split at h
    · rename_i hf
      simp only [List.mem_map, List.mem_filter, List.mem_range, Prod.mk.injEq, Bool.and_eq_true, Bool.not_eq_true'] at h
      obtain ⟨d', ⟨h1, h2, h3⟩, rfl, rfl, rfl, rfl⟩ := h
      exact ⟨he, ha, h1, hf, h2, h3⟩
    · cases h
  · rintro ⟨he, ha, hd, hf, h2, h3⟩
    refine ⟨b, c, he, a, ha, ?_⟩
    rw [if_pos hf]
    simp only [List.mem_map, List.mem_filter, List.mem_range, Prod.mk.injEq, Bool.and_eq_true, Bool.not_eq_true']
    exact ⟨d, ⟨hd, h2, h3⟩, by simp⟩
end
def bothE (ps : List (Nat × Nat)) : List (Nat × Nat) := ps ++ ps.map fun q => (q.2, q.1)
theorem both_iff {ps : List (Nat × Nat)} {b c : Nat} : (b, c) ∈ bothE ps ↔ knP ps b c = true := by
  unfold bothE knP
  rw [decide_eq_true_eq, nb_iff, List.mem_append]
  refine or_congr Iff.rfl ⟨fun h => ?_, fun h => List.mem_map.mpr ⟨_, h, rfl⟩⟩
  obtain ⟨q, hq, e⟩ := List.mem_map.mp h
  simp only [Prod.mk.injEq] at e
  obtain ⟨rfl, rfl⟩ := e
  exact hq
theorem chains_iff {ps : List (Nat × Nat)} {n : Nat} (hp : Prs n ps) {q : Q4} : q ∈ c1 (knP ps) n (bothE ps) ↔ Ch ps n q := by
  rw [c1_mem, both_iff]
  obtain ⟨a, b, c, d⟩ := q
  unfold isF isL
  simp only [Bool.and_eq_true, decide_eq_true_eq, Bool.not_eq_true']
  have lt : ∀ {x y : Nat}, knP ps x y = true → x < n ∧ y < n := fun {x y} h => by
    unfold knP at h
    rcases nb_iff.mp (of_decide_eq_true h) with h | h
    · have := hp.inn _ h; exact ⟨by omega, by omega⟩
    · have := hp.inn _ h; exact ⟨by omega, by omega⟩
  constructor
  · rintro ⟨h1, ha, hd, ⟨_, h2, h3⟩, ⟨_, h4, h5⟩, h6⟩
    exact ⟨ha, (lt h1).1, (lt h1).2, hd, ⟨h2, h1, h4, h3, h5, h6⟩⟩
  · rintro ⟨ha, hb, hc, hd, p4⟩
    obtain ⟨n1, n2, n3, n4, n5, n6⟩ := p4.ne (knP_gr hp)
    exact ⟨p4.bc, ha, hd, ⟨n2, p4.ab, p4.ac⟩, ⟨Ne.symm n5, p4.cd, p4.bd⟩, p4.ad⟩
section
variable {P : Program} {w : World} {K : PySem.W.Frag} {mg : Str → Option Value} {base : Heap} {C R U V : Addr}
def cLChains : Con := fun ds M Φ => ∃ n ps, ds = [.int (n : Nat), .tup (ps.map pairD)] ∧ n ≤ 30 ∧ Prs n ps ∧ Φ (.lst ((c1 (knP ps) n (bothE ps)).map qD)) M
abbrev nLChains : List Str := ["_law_many", "_law_pairs", "_law_known", "_law_found", "_law_one", "_law_other", "_law_second", "_law_third", "_law_first", "_law_last", "_law_is_last"]
theorem ok_lchains (F : Fx w K mg) : BodyOk P w K mg base "_law_chains" s__law_chains nLChains 2 0 cLChains := by
  intro f cdv A outer s H E hr ds M Φ hl hc
  obtain ⟨n, ps, rfl, n30, hp, hc⟩ := hc
  have nd : nLChains.Nodup := by decide +kernel
  have hpl := prs_len hp
  have hnn : n * n ≤ 900 := Nat.mul_le_mul n30 n30
  refine wss_cons (ws_par 2 3 nd (wa_cons (we_lc nd (blkOk_by (N := nLChains) (sc := defScope s__law_chains) (own := [("_law_one", 4)]) (by decide +kernel)) (fun _ _ _ _ _ => pg_name (i := 4) nd rfl (Or.inl rfl)) (gt_name (by decide)) (fun _ _ _ _ _ => pts_nil) tk_nil (wi_range1 (F.bn _ (by decide +kernel)) (wa_cons (we_var 0 rfl (wa_nil ⟨_, rfl, by omega, by omega, ?_⟩)))))))
  rw [show ((n : Nat) : Int).toNat = n by omega]
  refine ⟨by rw [rngD_len, sizeLine_eq]; omega, fun i acc M2 => ∃ qs : List Addr, qs.length = i ∧ acc = qs.map D.ob ∧ FamM M M2 qs (fun i => .lst (rowK (knP []) n i)), ⟨[], rfl, rfl, .nil⟩, ?_, ?_⟩
  · rintro i x acc M2 hx ⟨qs, hql, rfl, hF⟩
    intro s1 H1 C' cl fp
    refine we_repM (we_lst (wa_cons (we_bl (wa_nil ⟨by show 1 ≤ sizeLine; rw [sizeLine_eq]; decide, we_var 0 rfl ⟨.bl false, n, rfl, rfl, by rw [sizeLine_eq]; omega, fun q hq => ⟨qs ++ [q], by rw [List.length_append, hql]; rfl, by rw [List.map_append]; rfl, hF.snoc hq ?_⟩⟩⟩))))
    show MO.lst (rowK (knP []) n qs.length) = _
    congr 1
    refine List.ext_getElem (by rw [List.length_map, List.length_range, List.length_replicate]) fun j h1 h2 => ?_
    rw [List.getElem_map, List.getElem_replicate]; rfl
  rintro acc M2 ⟨qs, hql, rfl, hF⟩
  rw [rngD_len] at hql
  refine wa_cons (we_lstM (wa_nil ⟨Nat.zero_le _, fun r hr0 => wa_nil ⟨_, _, rfl, ?_⟩⟩))
  obtain ⟨hF, hrq, hMr⟩ := hF.over (u := .lst []) hr0
  generalize hB : mset M r (.lst []) = B at hF
  refine wss_cons (ws_for PassesOwn.never (wi_tup (we_var 1 rfl ⟨_, rfl, ?_⟩)))
  refine ⟨fun i ρ' M3 => ∃ o3 o4, ρ' = [some (.int (n : Nat)), some (.tup (ps.map pairD)), some (.lst (qs.map D.ob)), some (.ob r), o3, o4, none, none, none, none, none] ∧ FamM B M3 qs (fun j => .lst (rowK (knP (ps.take i)) n j)), ⟨_, _, rfl, hF⟩, ?_, ?_⟩
  · rintro i x ρ' M3 hx ⟨o3, o4, rfl, hF3⟩
    rw [List.getElem?_map] at hx
    obtain ⟨q, hq, rfl⟩ := Option.map_eq_some_iff.mp hx
    have hq2 := hp.inn q (List.mem_of_getElem? hq)
    obtain ⟨x1, hx1⟩ : ∃ x1, qs[q.1]? = some x1 := ⟨_, List.getElem?_eq_getElem (by omega)⟩
    obtain ⟨x2, hx2⟩ : ∃ x2, qs[q.2]? = some x2 := ⟨_, List.getElem?_eq_getElem (by omega)⟩
    have ob : ∀ {M : Mp} {a : Nat} {y : Addr}, qs[a]? = some y → IxD M (.lst (qs.map D.ob)) (a : Int) (.ob y) := fun {M a y} h => ixL (atI_nat (by rw [List.getElem?_map, h]; rfl))
    have ixn : ∀ {f : Nat → Nat → Bool} {a b : Nat}, b < n → ixN (rowK f n a).length (b : Int) = some b := fun {f a b} h => by
      rw [List.length_map, List.length_range]; exact ixN_in h
    have hF4 := hF3.put (o := .lst (rowK (tie (knP (ps.take i)) q.1 q.2) n q.1)) (g' := fun j => .lst (rowK (tie (knP (ps.take i)) q.1 q.2) n j)) hx1 rfl fun j _ hj => by rw [rowK_else hj]
    have hF5 := hF4.put (o := .lst (rowK (tie (tie (knP (ps.take i)) q.1 q.2) q.2 q.1) n q.2)) (g' := fun j => .lst (rowK (tie (tie (knP (ps.take i)) q.1 q.2) q.2 q.1) n j)) hx2 rfl fun j _ hj => by rw [rowK_else hj]
    refine wg_tup ⟨rfl, rfl, wgs_cons (wg_name 4 (wgs_cons (wg_name 5 (wgs_nil ⟨rfl, ?_⟩) nd)) nd)⟩
    refine wss_cons (ws_asg (we_tup (wa_cons (we_bl (wa_cons (we_bl (wa_nil ⟨by show 2 ≤ sizeLine; rw [sizeLine_eq]; decide, wg_tup ⟨rfl, rfl, wgs_cons (wg_sub (we_ix (we_var 2 rfl (we_var 4 rfl ⟨_, _, rfl, ob hx1, we_var 5 rfl ⟨x1, _, _, q.2, rfl, rfl, hF3.inn _ _ hx1, ixn (by omega), ?_⟩⟩))))⟩⟩)))))))
    rw [rowK_tie]
    refine wgs_cons (wg_sub (we_ix (we_var 2 rfl (we_var 5 rfl ⟨_, _, rfl, ob hx2, we_var 4 rfl ⟨x2, _, _, q.1, rfl, rfl, hF4.inn _ _ hx2, ixn (by omega), wgs_nil ⟨rfl, ?_⟩⟩⟩))))
    rw [rowK_tie]
    refine wss_nil ⟨_, _, rfl, hF5.ext fun j _ => ?_⟩
    rw [take_snoc hq, rowK_ext n j fun k => knP_tie (by omega) j k]
  rintro ρ' M3 ⟨o3, o4, rfl, hF3⟩
  rw [List.length_map, List.take_length] at hF3
  have fz := FamM.fzL (M := B) (M' := M3) (g := fun j => rowK (knP ps) n j) (qs := qs) 0 (fun i q hq => by rw [Nat.zero_add]; exact hF3.inn i q hq) hF3.new
  rw [hql, ← List.range_eq_range'] at fz
  refine wss_letN (ρ' := [some (.int (n : Nat)), some (.tup (ps.map pairD)), some (kwD (knP ps) n), some (.ob r), none, none, none, none, none, none, none]) hF3.les (.val (.of (.same _)) (.val (.of (.same _)) (.val (.lst fz) (.val (.of (.same _)) (.drop (.drop (.drop (.drop (.drop (.drop (.drop .nil))))))))))) ?_
  subst hB
  generalize hkn : knP ps = kn at hc ⊢
  have eI : ∀ {i : Nat}, ((0 : Int) + (i : Nat)) = (i : Nat) := fun {i} => by omega
  refine wss_cons (ws_for PassesOwn.never (wi_list (we_addL (we_listOf (F.bn _ (by decide +kernel)) (we_var 1 rfl ⟨_, .inr rfl, we_lc nd (blkOk_by (N := nLChains) (sc := defScope s__law_chains) (own := [("_law_one", 4), ("_law_other", 5)]) (by decide +kernel)) (fun _ _ _ _ _ => pg_tup rfl (pgs_cons (pg_name (i := 4) nd rfl (Or.inl rfl)) (pgs_cons (pg_name (i := 5) nd rfl (Or.inl rfl)) pgs_nil)) rfl rfl) (gt_two (by decide) (by decide)) (fun _ _ _ _ _ => pts_nil) tk_nil (wi_tup (we_var 1 rfl ⟨_, rfl, ?_⟩))⟩)))))
  refine ⟨by rw [List.length_map, sizeLine_eq]; omega, fun i acc M4 => M4 = mset M r (.lst []) ∧ acc = ((ps.take i).map fun q => (q.2, q.1)).map pairD, ⟨rfl, rfl⟩, ?_, ?_⟩
  · rintro i x acc M4 hx ⟨rfl, rfl⟩
    rw [List.getElem?_map] at hx
    obtain ⟨q, hq, rfl⟩ := Option.map_eq_some_iff.mp hx
    refine ⟨_, _, rfl, ?_⟩
    intro s1 H1 C' cl fp
    exact we_tup (wa_cons (we_var 5 rfl (wa_cons (we_var 4 rfl (wa_nil ⟨by show 2 ≤ sizeLine; rw [sizeLine_eq]; decide, rfl, by rw [take_snoc hq, List.map_append, List.map_append]; rfl⟩)))))
  rintro acc M4 ⟨rfl, rfl⟩
  rw [List.length_map, List.take_length]
  refine ⟨_, _, rfl, rfl, by rw [List.length_map, List.length_map, List.length_map, sizeLine_eq]; omega, _, .inl rfl, ?_⟩
  rw [← List.map_append]
  have hE : ps ++ ps.map (fun q => (q.2, q.1)) = bothE ps := rfl
  rw [hE]
  have hEl : (bothE ps).length ≤ 1800 := by unfold bothE; rw [List.length_append, List.length_map]; omega
  have hEn : ∀ e ∈ bothE ps, e.1 < n ∧ e.2 < n := fun e he => by
    unfold bothE at he
    rcases List.mem_append.mp he with h | h
    · have := hp.inn _ h; exact ⟨by omega, by omega⟩
    · obtain ⟨z, hz, rfl⟩ := List.mem_map.mp h
      have := hp.inn _ hz
      exact ⟨this.2, by show z.1 < n; omega⟩
  generalize bothE ps = E2 at hc hEl hEn ⊢
  have hnn2 : E2.length * (n * n) ≤ 1800 * 900 := Nat.mul_le_mul hEl hnn
  refine ⟨fun j ρ' M4 => M4 = mset M r (.lst ((c1 kn n (E2.take j)).map qD)) ∧ ∃ o6 o7 o8 o9 o10, ρ' = [some (.int (n : Nat)), some (.tup (ps.map pairD)), some (kwD kn n), some (.ob r), none, none, o6, o7, o8, o9, o10], ⟨rfl, _, _, _, _, _, rfl⟩, ?_, ?_⟩
  · rintro j x ρ' M4 hx ⟨rfl, o6, o7, o8, o9, o10, rfl⟩
    rw [List.getElem?_map] at hx
    obtain ⟨⟨b, c⟩, he, rfl⟩ := Option.map_eq_some_iff.mp hx
    obtain ⟨hb, hcn⟩ := hEn _ (List.mem_of_getElem? he)
    have hb : b < n := hb
    have hcn : c < n := hcn
    have hj : j < E2.length := (List.getElem?_eq_some_iff.mp he).1
    have l1 := c1_len kn n (E2.take j)
    have l1 : (c1 kn n (E2.take j)).length ≤ 1800 * 900 := Nat.le_trans l1 (Nat.mul_le_mul (by rw [List.length_take]; omega) hnn)
    have e1 : c1 kn n (E2.take (j + 1)) = c1 kn n (E2.take j) ++ c2 kn n b c n := by
      unfold c1
      rw [take_snoc he, List.flatMap_append]; simp
    generalize hL1 : c1 kn n (E2.take j) = L1 at l1 e1
    refine wg_tup ⟨rfl, rfl, wgs_cons (wg_name 6 (wgs_cons (wg_name 7 (wgs_nil ⟨rfl, ?_⟩) nd)) nd)⟩
    refine wss_cons (ws_for PassesOwn.never (wi_range1 (F.bn _ (by decide +kernel)) (wa_cons (we_var 0 rfl (wa_nil ⟨_, rfl, by omega, by omega, ?_⟩)))))
    rw [show ((n : Nat) : Int).toNat = n by omega]
    refine ⟨fun i ρ' M5 => M5 = mset M r (.lst ((L1 ++ c2 kn n b c i).map qD)) ∧ ∃ o8 o9 o10, ρ' = [some (.int (n : Nat)), some (.tup (ps.map pairD)), some (kwD kn n), some (.ob r), none, none, some (.int (b : Nat)), some (.int (c : Nat)), o8, o9, o10], ⟨by rw [show c2 kn n b c 0 = [] from rfl, List.append_nil], _, _, _, rfl⟩, ?_, ?_⟩
    · rintro i x ρ' M5 hx2 ⟨rfl, o8, o9, o10, rfl⟩
      obtain ⟨hi, rfl⟩ := rngD_get hx2
      have hi : i < n := hi
      have e2 := c2_succ kn n b c i
      have l2 := c2_len kn n b c i
      have l2 : (c2 kn n b c i).length ≤ 900 := Nat.le_trans l2 (Nat.mul_le_mul (show i ≤ 30 by omega) n30)
      rw [eI]
      refine wg_name 8 ?_ nd
      have next : isF kn i b c = false → ∀ o9 o10, (mset M r (.lst ((L1 ++ c2 kn n b c i).map qD)) = mset M r (.lst ((L1 ++ c2 kn n b c (i + 1)).map qD)) ∧ ∃ o8 o9' o10', [some (.int (n : Nat)), some (.tup (ps.map pairD)), some (kwD kn n), some (.ob r), none, none, some (.int (b : Nat)), some (.int (c : Nat)), some (.int (i : Nat)), o9, o10] = [some (.int (n : Nat)), some (.tup (ps.map pairD)), some (kwD kn n), some (.ob r), none, none, some (.int (b : Nat)), some (.int (c : Nat)), o8, o9', o10']) := fun h o9 o10 => ⟨by rw [e2, h]; simp, _, _, _, rfl⟩
      refine wss_cons (ws_if (wt_ww (ww_and (wt_neS (we_var 8 rfl (we_var 7 rfl ⟨decide (i = c), decide_eq_decide.mpr (by omega), ?_⟩))))))
      by_cases hic : i = c
      · rw [decide_eq_true hic]
        exact wss_nil (wss_nil (next (by unfold isF; rw [decide_eq_false fun z => z hic]; rfl) _ _))
      rw [decide_eq_false hic]
      refine ww_and (wt_val (we_ix (we_ix (we_var 2 rfl (we_var 8 rfl ⟨_, _, rfl, kw_at hi, we_var 6 rfl ⟨_, _, rfl, kr_at hb, _, rfl, ?_⟩⟩)))))
      cases hab : kn i b with
      | false => exact wss_nil (wss_nil (next (by unfold isF; rw [hab]; simp) _ _))
      | true =>
      refine ww_and1 (wt_not (wt_val (we_ix (we_ix (we_var 2 rfl (we_var 8 rfl ⟨_, _, rfl, kw_at hi, we_var 7 rfl ⟨_, _, rfl, kr_at hcn, _, rfl, ?_⟩⟩))))))
      cases hac : kn i c with
      | true => exact wss_nil (wss_nil (next (by unfold isF; rw [hac]; simp) _ _))
      | false =>
      have hF : isF kn i b c = true := by unfold isF; rw [hab, hac, decide_eq_true hic]; rfl
      refine wss_cons (ws_for PassesOwn.never (wi_range1 (F.bn _ (by decide +kernel)) (wa_cons (we_var 0 rfl (wa_nil ⟨_, rfl, by omega, by omega, ?_⟩)))))
      rw [show ((n : Nat) : Int).toNat = n by omega]
      refine ⟨fun k ρ' M6 => M6 = mset M r (.lst ((L1 ++ c2 kn n b c i ++ c3 kn i b c k).map qD)) ∧ ∃ o9 o10, ρ' = [some (.int (n : Nat)), some (.tup (ps.map pairD)), some (kwD kn n), some (.ob r), none, none, some (.int (b : Nat)), some (.int (c : Nat)), some (.int (i : Nat)), o9, o10], ⟨by rw [show c3 kn i b c 0 = [] from rfl, List.append_nil], _, _, rfl⟩, ?_, ?_⟩
      · rintro k x ρ' M6 hx3 ⟨rfl, o9, o10, rfl⟩
        obtain ⟨hk, rfl⟩ := rngD_get hx3
        have hk : k < n := hk
        have l3 := c3_len kn i b c k
        have e3 := c3_succ kn i b c k
        rw [eI]
        refine wg_name 9 ?_ nd
        refine wss_cons (ws_set 10 nd (WE.imp (Φ' := fun d M' => d = .bl (isL kn b c k) ∧ M' = mset M r (.lst ((L1 ++ c2 kn n b c i ++ c3 kn i b c k).map qD))) ?_ ?_))
        · unfold isL
          refine we_and (we_neS (we_var 9 rfl (we_var 6 rfl ⟨decide (k = b), decide_eq_decide.mpr (by omega), _, rfl, ?_⟩)))
          by_cases hkb : k = b
          · rw [decide_eq_true hkb, decide_eq_false fun z => z hkb]
            exact ⟨rfl, rfl⟩
          rw [decide_eq_false hkb, decide_eq_true (p := k ≠ b) hkb]
          refine we_and (we_ix (we_ix (we_var 2 rfl (we_var 7 rfl ⟨_, _, rfl, kw_at hcn, we_var 9 rfl ⟨_, _, rfl, kr_at hk, _, rfl, ?_⟩⟩))))
          cases hck : kn c k with
          | false => exact ⟨rfl, rfl⟩
          | true => exact we_one (we_not (we_ix (we_ix (we_var 2 rfl (we_var 6 rfl ⟨_, _, rfl, kw_at hb, we_var 9 rfl ⟨_, _, rfl, kr_at hk, _, rfl, rfl, rfl⟩⟩)))))
        rintro d M' ⟨rfl, rfl⟩
        have nx3 : (isL kn b c k && !kn i k) = false → (mset M r (.lst ((L1 ++ c2 kn n b c i ++ c3 kn i b c k).map qD)) = mset M r (.lst ((L1 ++ c2 kn n b c i ++ c3 kn i b c (k + 1)).map qD))) := fun h => by rw [e3, h]; simp
        refine wss_cons (ws_if (wt_ww (ww_and (wt_val (we_var 10 rfl ⟨_, rfl, ?_⟩)))))
        cases hL : isL kn b c k with
        | false => exact wss_nil (wss_nil ⟨nx3 (by rw [hL]; rfl), _, _, rfl⟩)
        | true =>
        refine ww_and1 (wt_not (wt_val (we_ix (we_ix (we_var 2 rfl (we_var 8 rfl ⟨_, _, rfl, kw_at hi, we_var 9 rfl ⟨_, _, rfl, kr_at hk, _, rfl, ?_⟩⟩))))))
        cases had : kn i k with
        | true => exact wss_nil (wss_nil ⟨nx3 (by rw [had]; simp), _, _, rfl⟩)
        | false =>
        refine wss_cons (ws_expr (we_append (we_var 3 rfl ⟨r, _, rfl, mset_same, we_tup (wa_cons (we_var 8 rfl (wa_cons (we_var 6 rfl (wa_cons (we_var 7 rfl (wa_cons (we_var 9 rfl (wa_nil ⟨by show 4 ≤ sizeLine; rw [sizeLine_eq]; decide, _, mset_same, ?_, ?_⟩)))))))))⟩)))
        · rw [List.length_map, List.length_append, List.length_append, sizeLine_eq]; omega
        rw [mset_mset]
        refine wss_nil (wss_nil ⟨?_, _, _, rfl⟩)
        rw [e3, hL, had]
        show _ = mset M r (.lst ((L1 ++ c2 kn n b c i ++ (c3 kn i b c k ++ [(i, b, c, k)])).map qD))
        rw [← List.append_assoc, List.map_append (l₂ := [(i, b, c, k)])]
        rfl
      · rintro ρ' M6 ⟨rfl, o9, o10, rfl⟩
        rw [rngD_len]
        refine wss_nil (wss_nil ⟨?_, _, _, _, rfl⟩)
        rw [e2, hF, List.append_assoc]; rfl
    · rintro ρ' M5 ⟨rfl, o8, o9, o10, rfl⟩
      rw [rngD_len]
      refine wss_nil ⟨?_, _, _, _, _, _, rfl⟩
      rw [e1]
  · rintro ρ' M4 ⟨rfl, o6, o7, o8, o9, o10, rfl⟩
    rw [List.length_map, List.take_length]
    refine wss_cons (ws_ret (we_var 3 rfl ⟨_, M, fun a => ?_, .lst mset_same hMr, hc⟩))
    by_cases e : a = r
    · subst e; exact .inr hMr
    · exact .inl (mset_ne e).symm
end
end W
namespace PL
open PySem SX TL
theorem nd_map {i : Nat} {L : List (List Nat)} (h : L.Nodup) : (L.map (i :: ·)).Nodup := by
  unfold List.Nodup
  rw [List.pairwise_map]
  exact h.imp fun {x y} hxy e => hxy (List.cons.inj e).2
theorem nd_flat {f : Nat → List (List Nat)} (h : ∀ j, (f j).Nodup) (n : Nat) : ((List.range n).flatMap fun j => (f j).map (j :: ·)).Nodup := by
  unfold List.Nodup
  rw [List.pairwise_flatMap]
  refine ⟨fun j _ => nd_map (h j), ?_⟩
  refine (List.nodup_range (n := n)).imp fun {a b} hab x hx y hy e => ?_
  obtain ⟨x', _, rfl⟩ := List.mem_map.mp hx
  obtain ⟨y', _, rfl⟩ := List.mem_map.mp hy
  exact hab (List.cons.inj e).1
theorem flat_mem {f : Nat → List (List Nat)} {n j : Nat} {q : List Nat} (hj : j < n) (hq : q ∈ f j) : j :: q ∈ (List.range n).flatMap fun j => (f j).map (j :: ·) :=
  List.mem_flatMap.mpr ⟨j, List.mem_range.mpr hj, List.mem_map_of_mem hq⟩
theorem nd_pers (n : Nat) : ∀ {t : T}, ht t ≤ n → (persL t).Nodup := by
  induction n with
  | zero =>
    intro t hn
    cases h : isOneT t with
    | true =>
      cases t with
      | one => rw [persL]; exact List.pairwise_singleton _ _
      | _ => cases h
    | false =>
      rw [persL_upTo h, show upTo t (cnt t) = (List.range (cnt t)).flatMap fun j => (match piece t j with | some u => persL u | none => []).map (j :: ·) from fm_congr fun j _ => by unfold pieceP; cases piece t j <;> rfl]
      refine nd_flat (fun j => ?_) _
      cases e : piece t j with
      | none => exact List.Pairwise.nil
      | some u => have := piece_ht e; omega
  | succ n ih =>
    intro t hn
    cases h : isOneT t with
    | true =>
      cases t with
      | one => rw [persL]; exact List.pairwise_singleton _ _
      | _ => cases h
    | false =>
      rw [persL_upTo h, show upTo t (cnt t) = (List.range (cnt t)).flatMap fun j => (match piece t j with | some u => persL u | none => []).map (j :: ·) from fm_congr fun j _ => by unfold pieceP; cases piece t j <;> rfl]
      refine nd_flat (fun j => ?_) _
      cases e : piece t j with
      | none => exact List.Pairwise.nil
      | some u => exact ih (by have := piece_ht e; omega)
end PL
namespace DL
open PySem PySem.Spec PyProof.Rows L2
section
variable {P : Program} {w : World} {K : PySem.W.Frag} {mg : Str → Option Value} {base : Heap} {x qual : Str} {st : Stmt} {kws : List (Str × V)} {f : Addr} {fd : FuncData} {N ps : List Str} {k n : Nat} {c : Con} {cd : Addr}
/-- a body keeps a contract where nothing is being shown; its code object stands at cd -/
def BodyC (P : Program) (w : World) (K : PySem.W.Frag) (mg : Str → Option Value) (base : Heap) (qual : Str) (st : Stmt) (N : List Str) (n k : Nat) (cd : Addr) (c : Con) : Prop :=
  ∀ (f : Addr) (A : Around) (outer : List Env) (s : Shared) (H : Hp) (E : XK), (A.deeper (envOfC qual (defScope st) s.heap.objs.size f (.ref cd))).guards = some [] → Room k (A.deeper (envOfC qual (defScope st) s.heap.objs.size f (.ref cd))) → ∀ ds M Φ, ds.length = n → c ds M Φ →
      WSs (bx P w K mg base N qual (defScope st) f (.ref cd) A outer s H E) (start N ds) M (defBody st) { nx := fun _ M' => Φ .non M', rt := Lets Φ }
theorem fnC_ok {dvs : List V} (F : FunD K x qual (defArgs st) (defBody st) (defScope st) dvs kws f fd) (hcd : fd.code = .ref cd) (S : FnScope N ps (defScope st)) (h : BodyC P w K mg base qual st N ps.length k cd c) : FnG P w K mg base (k + 1) f fd ps (spD K ps.length c) := by
  obtain ⟨oc, od, dV, kV, doc, pm, an, cdv, ct, osl, rfl, lk, hq, _, _⟩ := F.ex
  obtain rfl : cdv = .ref cd := hcd
  have ln : ∀ vs H Q E, spD K ps.length c vs H Q E → vs.length = ps.length := fun vs H Q E q => by
    obtain ⟨ds, M, Z, Φ, hl, r, _⟩ := q
    rw [r.length, hl]
  refine ⟨ln, fun A outer s H args us vs Q E hg hr e0 hb rv hsp => ?_⟩
  have hlen := ln _ _ _ _ hsp
  have hK : K.In s.heap := e0.mod.kin.keeps fun b o z => (e0.bs b o z).1
  have hlim : s.heap.NoLimit := e0.mod.nolimit.keeps fun b o z => (e0.bs b o z).1
  have kinds : ∀ y ∈ ps.zip us, (defScope st).names.lookup y.1 = some .local ∨ ((defScope st).names.lookup y.1 = some .cell ∧ ((cellsFrom (s.heap.objs.size + 1) (defScope st).names []).lookup y.1).isSome = true) := fun y hy => by
    rcases S.par y.1 (List.of_mem_zip hy).1 with z | z
    · exact .inl z
    · exact .inr ⟨z, PySem.W.cellsFrom_some _ _ _ (.inl z)⟩
  refine codeAny_call_function hr.depth (hK _ _ lk) rfl S.co S.gen rfl (PySem.W.codeRec_of hK hq) (hb _ _ _ _ (wpAny_newFunctionEnv_cells S.kind kinds fun env he s1 xx => ?_))
  subst he
  refine ⟨hlim.keeps xx.toInCall.keep, codeAny_func ?_⟩
  obtain ⟨ds, M, Z, Φ, hl, r, wd, hc, kk⟩ := hsp
  have I : Inv (cxOf CX0 P w K mg base N qual (defScope st) f (.ref cd) A outer s H E) [] (L2.start N vs) H s1 := inv_start S hr.hd e0 hlen rv xx
  have body := (h f A outer s H E hg (hr.deeper _) ds M Φ hl hc).run (L2.start N vs) H { nx := fun _ H' => Q .non H', rt := Q } (env_start r) wd ⟨fun σ' ρ' H' M' x w' en z => kk _ .non H' M' x w' .non z, lets_k kk, fun _ _ _ _ _ _ _ z => z.elim, fun _ _ _ _ _ _ _ z => z.elim⟩
  have done : ∀ {σ' : L2.St} {H' : Hp} {v : V} {u : Value} {s' : Shared}, Inv (cxOf CX0 P w K mg base N qual (defScope st) f (.ref cd) A outer s H E) [] σ' H' s' → RelV v u → Q v H' → CE outer P w H s Q u s' := fun {σ' H' v u s'} J ru q => ⟨v, H', J.os, J.bare, J.base, J.hok, ru, q⟩
  refine wpAny_mono ((PSs.nox (pss_sem (X := bx P w K mg base N qual (defScope st) f (.ref cd) A outer s H E))).run [] s1 (L2.start N vs) H _ I body) (fun fl s' hs => ?_) fun e s' hs => hs
  cases fl with
  | ret u => obtain ⟨v, σ', H', J, ru, q⟩ := hs; exact done J ru q
  | next => obtain ⟨σ', H', J, q⟩ := hs; exact done (v := V.non) (u := Value.none) J rfl q
  | brk => obtain ⟨_, _, _, q⟩ := hs; exact q.elim
  | cont => obtain ⟨_, _, _, q⟩ := hs; exact q.elim
/-- the module's def x is the statement st, its code object stands at cd -/
structure Dc (K : PySem.W.Frag) (mg : Str → Option Value) (x : Str) (st : Stmt) (cd : Addr) : Prop where
  ex : ∃ (f : Addr) (fd : FuncData), FunD K x x (defArgs st) (defBody st) (defScope st) [] [] f fd ∧ mg x = some (.ref f) ∧ fd.code = .ref cd
theorem Dc.gc (D : Dc K mg x st cd) (S : FnScope N ps (defScope st))
    (hb : ∀ (kV doc pm : Value) (an : Option Addr) (cdv ct : Value) (us : List Value), us.length = ps.length → bindArgs (PySem.W.fnOf x x (defArgs st) (defBody st) (defScope st) .none kV doc pm an cdv ct) ⟨us, []⟩ = pure (ps.zip us))
    (h : BodyC P w K mg base x st N ps.length k cd c) : Gc P w K mg base x (k + 1) ps.length c := by
  obtain ⟨f, fd, F, hm, hcd⟩ := D.ex
  exact ⟨f, fd, ps, fnC_ok F hcd S h, hm, F.kp, F.bindsN hb⟩
end
end DL
namespace DL
open PySem PySem.Spec PyProof.Rows L2 SlX
/-- the slots, one stored -/
def putO (i : Nat) (d : D) (os : List (Option D)) : List (Option D) := (os ++ List.replicate (i + 1 - os.length) none).set i (some d)
section
variable {K : PySem.W.Frag} {M : Mp} {Z : Zn} {H : Hp}
theorem RepO.length : ∀ {vs : List (Option V)} {os : List (Option D)}, RepO K M Z H vs os → vs.length = os.length
  | _, _, .nil => rfl
  | _, _, .val _ t => by rw [List.length_cons, List.length_cons, t.length]
  | _, _, .any t => by rw [List.length_cons, List.length_cons, t.length]
theorem RepO.append : ∀ {vs ws : List (Option V)} {os us : List (Option D)}, RepO K M Z H vs os → RepO K M Z H ws us → RepO K M Z H (vs ++ ws) (os ++ us)
  | _, _, _, _, .nil, q => q
  | _, _, _, _, .val r t, q => .val r (t.append q)
  | _, _, _, _, .any t, q => .any (t.append q)
theorem RepO.nones : ∀ n : Nat, RepO K M Z H (List.replicate n none) (List.replicate n none)
  | 0 => .nil
  | n + 1 => .any (RepO.nones n)
theorem RepO.set {v : V} {d : D} (r : Rep K M Z H v d) : ∀ {vs : List (Option V)} {os : List (Option D)} (i : Nat), RepO K M Z H vs os → RepO K M Z H (vs.set i (some v)) (os.set i (some d))
  | _, _, _, .nil => .nil
  | _, _, 0, .val _ t => .val r t
  | _, _, 0, .any t => .val r t
  | _, _, i + 1, .val q t => .val q (RepO.set r i t)
  | _, _, i + 1, .any t => .any (RepO.set r i t)
theorem RepO.put {v : V} {d : D} {vs : List (Option V)} {os : List (Option D)} (r : Rep K M Z H v d) (i : Nat) (q : RepO K M Z H vs os) : RepO K M Z H (SlX.putS i v vs) (putO i d os) := by
  unfold SlX.putS putO
  rw [q.length]
  exact RepO.set r i (q.append (RepO.nones _))
theorem RepO.get : ∀ {vs : List (Option V)} {os : List (Option D)} {i : Nat} {d : D}, RepO K M Z H vs os → os[i]? = some (some d) → ∃ v, vs[i]? = some (some v) ∧ Rep K M Z H v d
  | _, _, _, _, .nil, e => by simp at e
  | _, _, 0, _, .val r _, e => by simp at e; subst e; exact ⟨_, rfl, r⟩
  | _, _, 0, _, .any _, e => by simp at e
  | _, _, i + 1, d, .val _ t, e => RepO.get (i := i) t (by simpa using e)
  | _, _, i + 1, d, .any t, e => RepO.get (i := i) t (by simpa using e)
end
def spS (K : PySem.W.Frag) (C : Addr) (n : Nat) (c : ConX) : Sp := fun vs H Q E => ∃ a dx ds M Z Φ Ξ, H a = some (.ins C dx []) ∧ ds.length = n ∧ Reps K M Z (slH H a C dx []) vs ds ∧ Wd K M Z (slH H a C dx []) ∧ c ds M Φ Ξ ∧ KE K M Z (slH H a C dx []) Φ Q ∧ KX K M Z (slH H a C dx []) Ξ E
section
variable {P : Program} {w : World} {K : PySem.W.Frag} {mg : Str → Option Value} {base : Heap} {x qual : Str} {st : Stmt} {dvs : List V} {kws : List (Str × V)} {f C : Addr} {fd : FuncData} {N ps : List Str} {k n : Nat} {c : ConX} {dd : List D}
/-- the slotted class of the name x, the contract of its __init__, which may raise -/
structure Ksx (P : Program) (w : World) (K : PySem.W.Frag) (mg : Str → Option Value) (base : Heap) (x : Str) (C : Addr) (dd : List D) (k n : Nat) (c : ConX) : Prop where
  at_ : mg x = some (.ref C)
  ex : ∃ (f : Addr) (fd : FuncData) (ps : List Str) (dvs : List V) (ds : List Value), FnOk P w K mg base (CX P w) k f fd ps (spS K C n c) ∧ Mk K C f ∧ Binds K fd ps ds ∧ Vals dvs ds ∧ ∀ M Z H, Reps K M Z H dvs dd
theorem Ksx.up {j : Nat} (F : Ksx P w K mg base x C dd j n c) (h : j ≤ k) : Ksx P w K mg base x C dd k n c := by
  obtain ⟨f, fd, ps, dvs, ds, G, r⟩ := F.ex
  exact ⟨F.at_, f, fd, ps, dvs, ds, G.mono h, r⟩
end
end DL
namespace DL
open PySem PySem.Spec PyProof.Rows L2
section
variable {X : Cx} {ρ : Rho} {M : Mp} {Φ : D → Mp → Prop} {Θ : Bool → Mp → Prop} {a b o e : Expr} {pos apos cpos p : Pos}
theorem we_sortedS (hm : X.mg "sorted" = none) (h : WE X ρ M e fun d M1 => ∃ zs : List Str, LstOf M1 d (zs.map D.str) ∧ zs.length < 64 ∧ ∀ ys : List Str, ys.Perm zs → sortedS ys = true → Φ (.lst (ys.map D.str)) M1) (hg : Gl X "sorted" := by rfl)
    (he : starEach [e] X.env = (false, eval e X.env) :: starEach [] X.env := by rfl) (hpl : (backTo pos (starEach [] X.env)).any (·.1) = false := by rfl) : WE X ρ M (.Call (.Name "sorted" p) [e] [] pos) Φ :=
  we_callB cr_sortedS hm (by decide +kernel) (wa_cons (h.imp fun d M1 hz => wa_nil fun Z vs H Q w rr k => by
    obtain ⟨zs, hl, hn, hz⟩ := hz
    obtain ⟨v, rfl, r1⟩ := rr.one
    obtain ⟨q, us, rfl, hq, rs⟩ := r1.asLst w hl
    obtain rfl := rs.strs
    exact ⟨q, zs, rfl, hq, hn, fun ys t pm hs ht => k.new w ht (.lst upd_same (w.fresh ht) (Reps.ofStrs ys)) (hz ys pm hs)⟩) he) hg (he := he) (hpl := hpl)
end
end DL
namespace W
open PySem PySem.Spec PyProof.Rows L2 DL SX PL SlX
def Sm (l : List Nat) : Prop := ∀ c ∈ l, c < 0x110000
theorem sm_app {a b : List Nat} (ha : Sm a) (hb : Sm b) : Sm (a ++ b) := fun c h => (List.mem_append.mp h).elim (ha c) (hb c)
theorem hex_sm (w c : Nat) : Sm (List.replicate (w - ((Nat.toDigits 16 c).map Char.toNat).length) 48 ++ (Nat.toDigits 16 c).map Char.toNat) := sm_app (fun x h => by rw [List.eq_of_mem_replicate h]; decide) fun x h => by
  obtain ⟨y, _, rfl⟩ := List.mem_map.mp h
  have := y.valid
  show y.val.toNat < 0x110000
  unfold UInt32.isValidChar Nat.isValidChar at this
  omega
theorem char_sm {q c : Nat} (hc : c < 0x110000) : Sm (Builtin.Str.reprChar q c) := by
  unfold Builtin.Str.reprChar
  dsimp only
  repeat' split
  all_goals first
    | exact sm_app (fun x h => by simp at h; omega) (hex_sm _ c)
    | (intro x h; simp at h; omega)
theorem fold_sm {q : Nat} : ∀ (l : List Nat) (acc : Array Nat), Sm acc.toList → Sm l → Sm (l.foldl (fun out c => out ++ (Builtin.Str.reprChar q c).toArray) acc).toList
  | [], acc, h, _ => h
  | c :: l, acc, h, hl => by
    rw [List.foldl_cons]
    refine fold_sm l _ ?_ fun x hx => hl x (List.mem_cons_of_mem _ hx)
    rw [Array.toList_append]
    exact sm_app h (char_sm (hl c List.mem_cons_self))
theorem repr_sm {x : Str} (h : Sm x.cps.toList) : Sm (TL.tl (reprText x)) := by
  unfold reprText
  show Sm (Array.push _ _).toList
  have q : reprQuote x < 0x110000 := by rcases quote_is x with e | e <;> rw [e] <;> decide
  rw [Array.toList_push, ← Array.foldl_toList]
  refine sm_app (fold_sm _ _ (fun c hc => ?_) h) fun c hc => ?_
  · rw [show c = reprQuote x by simpa using hc]; exact q
  · rw [show c = reprQuote x by simpa using hc]; exact q
theorem join_sm : ∀ {ts : List (List Nat)}, (∀ t ∈ ts, Sm t) → Sm (TL.joinL [44, 32] ts)
  | [], _ => fun c h => by simp [TL.joinL] at h
  | [x], h => h x List.mem_cons_self
  | x :: y :: r, h => sm_app (h x List.mem_cons_self) (sm_app (fun c hc => by simp at hc; omega) (join_sm fun t ht => h t (List.mem_cons_of_mem _ ht)))
theorem from_sm : ∀ (ts : List Str) (k : Nat) (acc : Str), Sm (TL.tl acc) → (∀ t ∈ ts, Sm (TL.tl t)) → Sm (TL.tl (textFrom k acc ts))
  | [], k, acc, h, _ => h
  | t :: ts, k, acc, h, ht => by
    rw [textFrom]
    refine from_sm ts _ _ ?_ fun u hu => ht u (List.mem_cons_of_mem _ hu)
    rw [TL.tl_append, TL.tl_append]
    refine sm_app (sm_app h ?_) (ht t List.mem_cons_self)
    by_cases hk : k > 0
    · rw [if_pos hk, show TL.tl (", " : String) = [44, 32] by decide +kernel]
      intro c hc; simp at hc; omega
    · rw [if_neg hk, show TL.tl ("" : String) = [] by decide +kernel]
      intro c hc; cases hc
mutual
theorem shown_sm : ∀ {v : AV}, AvG v → Sm (shL v)
  | .non, _ => by unfold shL Sm; rw [avP]; decide +kernel
  | .bl b, _ => by unfold shL Sm; rw [avP]; cases b <;> decide +kernel
  | .int i, h => by
    rcases h with ⟨n, rfl, _⟩ | rfl
    · show Sm (shL (natV n))
      rw [shL_nat]
      intro c hc
      have := TL.numL_digits n c hc
      omega
    · unfold shL Sm; rw [avP]; decide +kernel
  | .str x, h => by
    unfold shL
    rw [avP]
    simp only [PyData.shown]
    exact repr_sm h.1
  | .tup l, h => by
    rw [shL_tup]
    intro c hc
    rcases List.mem_cons.mp hc with rfl | hc
    · decide
    refine sm_app (sm_app (join_sm (shows_sm (l := l) h)) ?_) (fun c hc => by simp at hc; omega) c hc
    split
    · intro c hc; simp at hc; omega
    · intro c hc; cases hc
  | .lst l, h => by
    unfold shL
    rw [avP]
    simp only [PyData.shown]
    unfold listText
    rw [TL.tl_append]
    refine sm_app (from_sm _ _ _ (by unfold Sm; decide +kernel) fun t ht => ?_) (by unfold Sm; decide +kernel)
    rw [shs_map] at ht
    obtain ⟨v, hv, rfl⟩ := List.mem_map.mp ht
    exact shows_sm (l := l) h _ (List.mem_map.mpr ⟨v, hv, rfl⟩)
  | .dic, h => h.elim
  | .dct _ _ _, h => h.elim
theorem shows_sm : ∀ {l : List AV}, AvsG l → ∀ t ∈ l.map shL, Sm t
  | [], _, t, ht => by cases ht
  | v :: l, h, t, ht => by
    rw [List.map_cons] at ht
    rcases List.mem_cons.mp ht with rfl | ht
    · exact shown_sm h.1
    · exact shows_sm h.2 t ht
end
theorem eqv_strs : ∀ p q : List Str, PyData.eqvAll (p.map PyData.str) (q.map PyData.str) = decide (p = q)
  | [], [] => by simp [PyData.eqvAll]
  | [], j :: q => by simp [PyData.eqvAll]
  | i :: p, [] => by simp [PyData.eqvAll]
  | i :: p, j :: q => by
    rw [List.map_cons, List.map_cons, PyData.eqvAll, eqv_strs p q, PyData.eqv]
    rw [Bool.eq_iff_iff]
    simp
theorem perm_of_map {α β : Type} {g : α → β} (hg : ∀ x y, g x = g y → x = y) {a b : List α} (h : (a.map g).Perm (b.map g)) : a.Perm b := by
  classical
  by_cases hne : Nonempty α
  · obtain ⟨x0⟩ := hne
    let f : β → α := fun y => if h : ∃ x, g x = y then h.choose else x0
    have fg : ∀ x, f (g x) = x := fun x => by
      have hx : ∃ z, g z = g x := ⟨x, rfl⟩
      show (if h : ∃ z, g z = g x then h.choose else x0) = x
      rw [dif_pos hx]
      exact hg _ _ hx.choose_spec
    have := h.map f
    rw [List.map_map, List.map_map] at this
    have e : f ∘ g = id := funext fg
    rw [e, List.map_id, List.map_id] at this
    exact this
  · cases a with
    | nil =>
      cases b with
      | nil => exact .refl _
      | cons x _ => exact absurd ⟨x⟩ hne
    | cons x _ => exact absurd ⟨x⟩ hne
abbrev shS (v : AV) : Str := (avP v).shown
theorem pers_list : ∀ {l : List AV} {ps : List (List Nat)}, (∀ x ∈ l, ∃ p ∈ ps, x = persV p) → ∃ as : List (List Nat), l = as.map persV
  | [], _, _ => ⟨[], rfl⟩
  | x :: l, ps, h => by
    obtain ⟨p, _, rfl⟩ := h x List.mem_cons_self
    obtain ⟨as, rfl⟩ := pers_list (ps := ps) fun y hy => h y (List.mem_cons_of_mem _ hy)
    exact ⟨p :: as, rfl⟩
theorem shP_inj (p q : List Nat) (e : shS (persV p) = shS (persV q)) : p = q := by
  have e : shL (persV p) = shL (persV q) := congrArg TL.tl e
  have hp : ∀ p : List Nat, (p.map natV).map shL = p.map TL.numL := fun p => by rw [List.map_map]; exact List.map_congr_left fun n _ => shL_nat n
  unfold persV at e
  rw [shL_tup, shL_tup, hp, hp] at e
  injection e with _ e
  exact in_inj (List.append_inj_left' e rfl)
theorem sorted_iff {l : List AV} {ps : List (List Nat)} {ys zs : List Str} (hv : ∀ x ∈ l, AvG x) (h1 : ys.Perm (l.map shS)) (s1 : sortedS ys = true) (h2 : zs.Perm (ps.map fun p => shS (persV p))) (s2 : sortedS zs = true) : ys = zs ↔ ∃ as : List (List Nat), l = as.map persV ∧ as.Perm ps := by
  constructor
  · intro e
    subst e
    have hp := h1.symm.trans h2
    obtain ⟨as, rfl⟩ := pers_list (l := l) (ps := ps) fun x hx => by
      have : shS x ∈ ps.map fun p => shS (persV p) := hp.mem_iff.mp (List.mem_map.mpr ⟨x, hx, rfl⟩)
      obtain ⟨p, hp2, e⟩ := List.mem_map.mp this
      exact ⟨p, hp2, shown_pers (hv x hx) e.symm⟩
    refine ⟨as, rfl, ?_⟩
    rw [List.map_map] at hp
    exact perm_of_map (g := fun p => shS (persV p)) shP_inj hp
  · rintro ⟨as, rfl, hp⟩
    refine pw_perm_eq (sorted_pw ys s1) (sorted_pw zs s2) (h1.trans (.trans ?_ h2.symm))
    rw [List.map_map]
    exact hp.map _
end W
namespace W
open PySem PySem.Spec PyProof.Rows L2 DL SX PL SlX
section
variable {P : Program} {w : World} {K : PySem.W.Frag} {mg : Str → Option Value} {base : Heap} {C G : Addr}
theorem ok_person_at (F1 : Fc P w K mg base "check_told" [] 3 1 (cTold C)) (F2 : Fc P w K mg base "is_integer" [] 1 3 cIsInt) (F3 : Fc P w K mg base "nth_person" [] 3 2 (cNth C)) (X : Px K mg C) : BodyOk P w K mg base "person_at" s_person_at ["plan", "number"] 2 3 (cNth C) := by
  intro f cdv A outer s H E hr ds M Φ hl hc
  obtain ⟨t, l, p, rfl, ok, hbig, h60, hp, hc⟩ := hc
  have hlt : l < ppl t := by
    have := (List.getElem?_eq_some_iff.mp hp).1
    rw [persL_len ok.2.1] at this; exact this
  refine wss_cons (ws_expr (we_call F1 (hr.mono (by decide)) (wa_cons (we_var 0 rfl (wa_nil ⟨rfl, t, rfl, ok, ?_⟩)))))
  refine wss_cons (ws_if (wt_not (wt_val (we_call F2 (hr.mono (by decide)) (wa_cons (we_var 1 rfl (wa_cons (we_int (wa_cons (we_subI (we_fld (C := C) (we_var 0 rfl ⟨_, _, insP ok.2.1, X.cl, X.na _ (by decide +kernel), lk_people, we_int ⟨_, _, rfl, rfl, wa_nil ⟨rfl, _, _, _, rfl, _, rfl, ?_⟩⟩⟩))))))))))))
  have e : (decide ((0 : Int) ≤ (l : Nat)) && decide (((l : Nat) : Int) ≤ (ppl t : Nat) - 1)) = true := by
    rw [decide_eq_true (show (0 : Int) ≤ (l : Nat) by omega), decide_eq_true (show ((l : Nat) : Int) ≤ (ppl t : Nat) - 1 by omega)]; rfl
  rw [e]
  exact wss_nil (wss_cons (ws_ret (we_call F3 (hr.mono (by decide)) (wa_cons (we_var 0 rfl (wa_cons (we_var 1 rfl (wa_nil ⟨rfl, t, l, p, rfl, ok, hbig, h60, hp, Lets.of hc⟩))))))))
end
end W
namespace W
open PySem PySem.Spec PyProof.Rows L2 DL SX PL SlX
section
variable {P : Program} {w : World} {K : PySem.W.Frag} {mg : Str → Option Value} {base : Heap} {C G : Addr}
theorem ok_people (X : Px K mg C) : BodyOk P w K mg base "Plan.people" s_Plan_people ["self"] 1 0 (cGet C fun t => .int (ppl t : Nat)) := by
  intro f cdv A outer s H E hr ds M Φ hl hc
  obtain ⟨t, rfl, ok, hc⟩ := hc
  refine wss_cons (ws_ret (we_if (wt_eqNilT hr.units (we_fld (C := C) (we_var 0 rfl ⟨_, _, insP ok.2.1, X.cl, X.na _ (by decide +kernel), lk_names, [], [], 0, rfl, cmps_nil, by decide, ?_⟩)))))
  exact we_fld (C := C) (we_var 0 rfl ⟨_, _, insP ok.2.1, X.cl, X.na _ (by decide +kernel), lk_people, Lets.of hc⟩)
end
end W
namespace DL
open PySem PySem.Spec PyProof.Rows L2
section
variable {X : Cx} {ρ : Rho} {M : Mp} {Φ : D → Mp → Prop} {Θ : Bool → Mp → Prop} {a b : Expr} {pos : Pos}
def rInDT (K : PySem.W.Frag) : R2 := fun x y H Q => ∃ d ds, Dp K H x d ∧ Dp K H y (.tuple ds) ∧ SeqAt.shaped d = true ∧ SeqAt.shaped (.tuple ds) = true ∧ Q (.bl (ds.any fun z => PyData.eqv z d)) H
theorem op_inDT (hu : X.A.units + 65 < cLine) : OpR X (compareOp .In) (rInDT X.K) := by
  intro pins s σ H x y v u Q I rx ry ⟨d, ds, hd, he, sd, se, q⟩
  obtain ⟨as, r1⟩ := Dp.reads I d x v hd rx
  obtain ⟨bs, r2⟩ := Dp.reads I (.tuple ds) y u he ry
  exact SeqAt.in_tuple_reads r2 r1 (SeqAt.canLay_of_shaped se) (SeqAt.canLay_of_shaped sd) (room_in_shaped sd hu) ⟨.bl _, H, I, rfl, q⟩
theorem rd_inDT {x y : D} (h : ∃ p q, toPy x = some p ∧ toPy y = some (.tuple q) ∧ SeqAt.shaped p = true ∧ SeqAt.shaped (.tuple q) = true ∧ Φ (.bl (q.any fun z => PyData.eqv z p)) M) : RD X.K (rInDT X.K) x y M Φ := fun Z v u H Q w r1 r2 k => by
  obtain ⟨p, q, e1, e2, s1, s2, h⟩ := h
  exact ⟨p, q, r1.dp e1, r2.dp e2, s1, s2, k.now w (.bl _) h⟩
theorem we_inDT (hu : X.A.units + 65 < cLine) (h : WE X ρ M a fun x M1 => WE X ρ M1 b fun y M2 => ∃ p q, toPy x = some p ∧ toPy y = some (.tuple q) ∧ SeqAt.shaped p = true ∧ SeqAt.shaped (.tuple q) = true ∧ Φ (.bl (q.any fun z => PyData.eqv z p)) M2) (hm : behindInMarks .In b = false := by rfl) : WE X ρ M (.Compare a [.In] [b] pos) Φ :=
  we_cmp (op_inDT hu) hm (h.imp fun _ _ h => h.imp fun _ _ h => rd_inDT h)
end
end DL
namespace W
open PySem PySem.Spec PyProof.Rows L2 DL SX PL SlX
theorem pers_small : ∀ {p : List Nat} {t : T}, isPers t p = true → Good t → ∀ i ∈ p, i < ppl t
  | [], _, _, _, i, hi => by simp at hi
  | j :: p, t, h, hg, i, hi => by
    obtain ⟨u, h1, h2, h3⟩ := pers_cons h
    obtain ⟨h4, h5⟩ := piece_le' h2 hg
    have h6 := cnt_le1 hg
    rcases List.mem_cons.mp hi with rfl | hi
    · omega
    · have := pers_small h3 h5 i hi; omega
theorem rp_pers {p : List Nat} (h1 : p.length ≤ 60) (h2 : ∀ i ∈ p, i < 10 ^ 40) : AvG (persV p) ∧ RpD (persV p) := by
  have hg : AvG (persV p) := by
    unfold persV
    rw [AvG, avsG_all]
    intro v hv
    obtain ⟨i, hi, rfl⟩ := List.mem_map.mp hv
    exact .inl ⟨i, rfl, h2 i hi⟩
  have d : avsDp (p.map natV) = 0 := by
    clear h1 h2 hg
    induction p with
    | nil => rw [List.map_nil, avsDp]
    | cons i p ih => rw [List.map_cons, avsDp, ih]; unfold natV; rw [avDp]; rfl
  have e : avsLn (p.map natV) = 43 * p.length := by
    clear h1 h2 hg d
    induction p with
    | nil => rw [List.map_nil, avsLn]; rfl
    | cons i p ih => rw [List.map_cons, avsLn, ih]; unfold natV; rw [avLn, List.length_cons]; omega
  refine ⟨hg, rp_of hg ?_ ?_⟩
  · unfold persV; rw [avDp, d]; decide
  · unfold persV; rw [avLn, e, sizeLine_eq]; omega
theorem any_str (s : Str) : ∀ L : List Str, ((L.map PyData.str).any fun z => PyData.eqv z (.str s)) = decide (s ∈ L)
  | [] => by simp
  | x :: L => by
    rw [List.map_cons, List.any_cons, any_str s L, PyData.eqv, Bool.eq_iff_iff]
    simp only [Bool.or_eq_true, decide_eq_true_eq, List.mem_cons, beq_iff_eq]
    exact or_congr eq_comm Iff.rfl
theorem cmp_strs {L : List Str} (h : ∀ x ∈ L, Sm x.cps.toList) : CmpD (.lst (L.map D.str)) (.list (L.map PyData.str)) 1 := cmp_lst (cmps_map (k := 0) (j := 0) (Nat.le_refl _) fun x hx => cmp_str (h x hx))
theorem cmp_prT (ps : List (Nat × Nat)) : CmpD (.tup (ps.map pairD)) (.tuple (ps.map fun q => .tuple [.int (q.1 : Nat), .int (q.2 : Nat)])) 2 := cmp_tup (cmps_map (k := 1) (Nat.le_refl _) fun q _ => cmp_pr q)
theorem knP_lt {n : Nat} {ps : List (Nat × Nat)} (hp : Prs n ps) {i j : Nat} (h : i < j) : knP ps i j = decide ((i, j) ∈ ps) := by
  unfold knP
  refine decide_eq_decide.mpr ?_
  rw [nb_iff]
  refine ⟨fun z => z.elim id fun z => ?_, .inl⟩
  have := (hp.inn _ z).1
  have : j < i := this
  omega
theorem perm_fullP {a b : List (List Nat)} (na : a.Nodup) (nb : b.Nodup) (h : ∀ x ∈ a, x ∈ b) (l : b.length ≤ a.length) : a.Perm b := by
  refine (List.perm_ext_iff_of_nodup na nb).mpr fun x => ⟨h x, fun hx => ?_⟩
  by_cases hm : x ∈ a
  · exact hm
  · have := nd_leG (x :: a) b (List.nodup_cons.mpr ⟨hm, na⟩) fun y hy => by
      rcases List.mem_cons.mp hy with e | hy
      · rw [e]; exact hx
      · exact h y hy
    rw [List.length_cons] at this
    omega
section
variable {X : Cx} {ρ : Rho} {M : Mp} {Φ : D → Mp → Prop} {a b : Expr} {pos : Pos}
theorem we_inTx (hu : X.A.units + 65 < cLine) (h : WE X ρ M a fun x M1 => WE X ρ M1 b fun y M2 => ∃ (s : Str) (L : List Str), x = .str s ∧ y = .lst (L.map D.str) ∧ Sm s.cps.toList ∧ (∀ x ∈ L, Sm x.cps.toList) ∧ Φ (.bl (decide (s ∈ L))) M2) (hm : behindInMarks .In b = false := by rfl) : WE X ρ M (.Compare a [.In] [b] pos) Φ :=
  we_cmp (op_inD hu) hm (h.imp fun _ _ h => h.imp fun _ _ ⟨s, L, e1, e2, h1, h2, h⟩ => rd_inD ⟨_, _, by rw [e1]; exact (cmp_str h1).eq, by rw [e2]; exact (cmp_strs h2).eq, (cmp_str h1).shaped (by decide), (cmp_strs h2).shaped (by decide), by rw [any_str]; exact h⟩)
end
section
variable {P : Program} {w : World} {K : PySem.W.Frag} {mg : Str → Option Value} {base : Heap} {C R U V : Addr}
def cIsDue (C : Addr) (K : PySem.W.Frag) : Con := fun ds M Φ => ∃ n ps d b, ds = [.int (n : Nat), .tup (ps.map pairD), d] ∧ n ≤ 30 ∧ Prs n ps ∧ FitR K C ps n d b ∧ Φ (.bl b) M
abbrev nIsDue : List Str := ["_law_many", "_law_pairs", "_law_value", "_law_plan", "_law_people_here", "_law_texts", "_law_one", "_law_other", "_law_which"]
theorem ok_is_due (F : Fx w K mg) (gR : mg "repr" = none) (Y : Px K mg C) (XO : OwnC K C) (hk : PySem.W.kitOne K (.type "NoneType") (.ref C) = some false) (F1 : Fc P w K mg base "_law_chains" [] 1 2 cLChains) (F2 : Fc P w K mg base "person_at" [] 4 2 (cNth C)) (F3 : Fc P w K mg base "knows" [] 5 3 (cDoKnow C)) (F4 : Pc P w K mg base C "names" 1 (cGet C fun t => .tup [])) (F5 : Pc P w K mg base C "names" 1 (cNmsN C)) (F6 : Pc P w K mg base C "people" 1 (cGet C fun t => .int (ppl t : Nat))) :
    BodyG P w K mg base "_law_is_due" s__law_is_due nIsDue 3 5 (cIsDue C K) := by
  intro f cdv A outer s H E hg hr ds M Φ hl hc
  obtain ⟨n, ps, d, b, rfl, n30, hp, hR, hc⟩ := hc
  have nd : nIsDue.Nodup := by decide +kernel
  have hu65 : (A.deeper (envOfC "_law_is_due" (defScope s__law_is_due) s.heap.objs.size f cdv)).units + 65 < cLine := by have := hr.un; show (A.deeper _).units + 65 < cLine; omega
  cases hR with
  | nt _ t hty hown hk =>
    refine wss_cons (ws_if (wt_ww (ww_or (wt_not (wt_val (we_isi (F.bn _ (by decide +kernel)) (we_var 2 rfl (we_bty (F.bn _ (by decide +kernel)) rfl ⟨t, _, false, hty M, rfl, hown, hk, _, rfl, ?_⟩))))))))
    exact wss_cons (ws_ret (we_bl (Lets.of hc)))
  | nil =>
    refine wss_cons (ws_if (wt_ww (ww_or (wt_not (wt_val (we_isi (F.bn _ (by decide +kernel)) (we_var 2 rfl (we_bty (F.bn _ (by decide +kernel)) rfl ⟨_, _, true, rfl, rfl, (by intro C h; cases h), rfl, _, rfl, ?_⟩))))))))
    refine ww_or (wt_eqNilTA hr.units (we_var 2 rfl ⟨_, rfl, ?_⟩))
    exact wss_cons (ws_ret (we_bl (Lets.of hc)))
  | hd x xs t hty hown hk =>
    refine wss_cons (ws_if (wt_ww (ww_or (wt_not (wt_val (we_isi (F.bn _ (by decide +kernel)) (we_var 2 rfl (we_bty (F.bn _ (by decide +kernel)) rfl ⟨_, _, true, rfl, rfl, (by intro C h; cases h), rfl, _, rfl, ?_⟩))))))))
    refine ww_or (wt_eqNilTA hr.units (we_var 2 rfl ⟨_, rfl, ?_⟩))
    refine ww_or1 (wt_not (wt_val (we_isi (F.bn _ (by decide +kernel)) (we_ix (we_var 2 rfl (we_int ⟨0, _, rfl, ixT (atI_nat (j := 0) rfl), we_bty (F.bn _ (by decide +kernel)) rfl ⟨t, _, false, hty M, rfl, hown, hk, _, rfl, ?_⟩⟩))))))
    exact wss_cons (ws_ret (we_bl (Lets.of hc)))
  | wd x xs _ hw =>
    refine wss_cons (ws_if (wt_ww (ww_or (wt_not (wt_val (we_isi (F.bn _ (by decide +kernel)) (we_var 2 rfl (we_bty (F.bn _ (by decide +kernel)) rfl ⟨_, _, true, rfl, rfl, (by intro C h; cases h), rfl, _, rfl, ?_⟩))))))))
    refine ww_or (wt_eqNilTA hr.units (we_var 2 rfl ⟨_, rfl, ?_⟩))
    refine ww_or1 (wt_not (wt_val (we_isi (F.bn _ (by decide +kernel)) (we_ix (we_var 2 rfl (we_int ⟨0, _, rfl, ixT (atI_nat (j := 0) rfl), we_bty (F.bn _ (by decide +kernel)) rfl ⟨_, _, true, rfl, rfl, (by intro C h; cases h), rfl, _, rfl, ?_⟩⟩))))))
    refine wss_nil (wss_cons (ws_if (wt_eqS (we_ix (we_var 2 rfl (we_int ⟨0, _, rfl, ixT (atI_nat (j := 0) rfl), we_str ⟨_, rfl, ?_⟩⟩))))))
    have lenI : ∀ {k : Int}, decide ((((D.str x :: xs).length : Nat) : Int) = k) = decide (((xs.length : Nat) : Int) = k - 1) := fun {k} => decide_eq_decide.mpr (by rw [List.length_cons]; omega)
    cases hw with
    | word _ _ h1 h2 =>
      rw [decide_eq_false h1]
      refine wss_nil (wss_cons (ws_if (wt_ww (ww_or (wt_neS (we_ix (we_var 2 rfl (we_int ⟨0, _, rfl, ixT (atI_nat (j := 0) rfl), we_str ⟨_, rfl, ?_⟩⟩))))))))
      rw [decide_eq_false h2]
      exact wss_cons (ws_ret (we_bl (Lets.of hc)))
    | chl _ h1 =>
      rw [decide_eq_true rfl]
      refine wss_cons (ws_ret (we_and (we_eqS (we_len (F.bn _ (by decide +kernel)) (we_var 2 rfl ⟨_, lenT, we_int ⟨_, rfl, _, rfl, ?_⟩⟩)))))
      rw [lenI, decide_eq_false (by omega)]
      exact Lets.of hc
    | ch v _ hv hrp hb =>
      rw [decide_eq_true rfl]
      refine wss_cons (ws_ret (we_and (we_eqS (we_len (F.bn _ (by decide +kernel)) (we_var 2 rfl ⟨_, lenT, we_int ⟨true, rfl, _, rfl, ?_⟩⟩)))))
      refine we_one (we_inTx hu65 (we_reprV gR hg hr.units (we_ix (we_var 2 rfl (we_int ⟨1, _, rfl, ixT (atI_nat (j := 1) rfl), v, rfl, hrp, we_lc nd (blkOk_by (N := nIsDue) (sc := defScope s__law_is_due) (own := [("_law_one", 6)]) (by decide +kernel)) (fun _ _ _ _ _ => pg_name (i := 6) nd rfl (Or.inl rfl)) (gt_name (by decide)) (fun _ _ _ _ _ => pts_nil) tk_nil (wi_list (we_call F1 (hr.mono (by decide)) (wa_cons (we_var 0 rfl (wa_cons (we_var 1 rfl (wa_nil ⟨rfl, n, ps, rfl, n30, hp, _, .inl rfl, ?_⟩)))))))⟩)))))
      have hlen := c1_len (knP ps) n (bothE ps)
      have hEl : (bothE ps).length ≤ 1800 := by
        have := prs_len hp
        have : n * n ≤ 30 * 30 := Nat.mul_le_mul n30 n30
        unfold bothE; rw [List.length_append, List.length_map]; omega
      have hlen : (c1 (knP ps) n (bothE ps)).length ≤ 1800 * (30 * 30) := Nat.le_trans hlen (Nat.mul_le_mul hEl (Nat.mul_le_mul n30 n30))
      refine ⟨by rw [List.length_map, sizeLine_eq]; omega, fun i acc M' => M' = M ∧ acc = (((c1 (knP ps) n (bothE ps)).take i).map fun q => shS (persV (q4 q))).map D.str, ⟨rfl, rfl⟩, ?_, ?_⟩
      · rintro i x acc M' hx ⟨rfl, rfl⟩
        rw [List.getElem?_map] at hx
        obtain ⟨q, hq, rfl⟩ := Option.map_eq_some_iff.mp hx
        have hch := (chains_iff hp).mp (List.mem_of_getElem? hq)
        have hq4 : ∀ i ∈ q4 q, i < 10 ^ 40 := fun i hi => by
          have b1 := hch.a
          have b2 := hch.b
          have b3 := hch.c
          have b4 := hch.d
          have hi : i ∈ [q.1, q.2.1, q.2.2.1, q.2.2.2] := hi
          simp only [List.mem_cons, List.not_mem_nil, or_false] at hi
          have : (30 : Nat) < 10 ^ 40 := by decide
          omega
        intro s1 H1 C1 cl1 fp1
        refine we_reprV gR hg hr.units (we_var 6 rfl ⟨persV (q4 q), by rw [persV_D]; rfl, (rp_pers (by show 4 ≤ 60; decide) hq4).2, rfl, ?_⟩)
        rw [take_snoc hq, List.map_append, List.map_append]; rfl
      rintro acc M' ⟨rfl, rfl⟩
      rw [List.length_map, List.take_length]
      refine ⟨_, _, rfl, rfl, shown_sm hv, fun x hx => ?_, ?_⟩
      · obtain ⟨q, hq, rfl⟩ := List.mem_map.mp hx
        have hch := (chains_iff hp).mp hq
        have hq4 : ∀ i ∈ q4 q, i < 10 ^ 40 := fun i hi => by
          have b1 := hch.a
          have b2 := hch.b
          have b3 := hch.c
          have b4 := hch.d
          have hi : i ∈ [q.1, q.2.1, q.2.2.1, q.2.2.2] := hi
          simp only [List.mem_cons, List.not_mem_nil, or_false] at hi
          have : (30 : Nat) < 10 ^ 40 := by decide
          omega
        exact shown_sm (rp_pers (by show 4 ≤ 60; decide) hq4).1
      refine Lets.of ?_
      rw [show decide ((avP v).shown ∈ (c1 (knP ps) n (bothE ps)).map fun q => shS (persV (q4 q))) = b from Bool.eq_iff_iff.mpr ?_]
      · exact hc
      rw [decide_eq_true_eq, hb]
      constructor
      · intro h
        obtain ⟨q, hq, e⟩ := List.mem_map.mp h
        exact ⟨q, shown_pers hv e.symm, (chains_iff hp).mp hq⟩
      · rintro ⟨q, rfl, hch⟩
        exact List.mem_map.mpr ⟨q, (chains_iff hp).mpr hch, rfl⟩
    | pll _ h1 =>
      rw [show decide (("plan" : Str) = "chain") = false by decide +kernel]
      refine wss_nil (wss_cons (ws_if (wt_ww (ww_or (wt_neS (we_ix (we_var 2 rfl (we_int ⟨0, _, rfl, ixT (atI_nat (j := 0) rfl), we_str ⟨_, rfl, ?_⟩⟩))))))))
      rw [decide_eq_true rfl]
      refine ww_or (wt_neS (we_len (F.bn _ (by decide +kernel)) (we_var 2 rfl ⟨_, lenT, we_int ⟨_, rfl, ?_⟩⟩)))
      rw [lenI, decide_eq_false (by omega)]
      exact wss_cons (ws_ret (we_bl (Lets.of hc)))
    | pl d v _ hv hT =>
      rw [show decide (("plan" : Str) = "chain") = false by decide +kernel]
      refine wss_nil (wss_cons (ws_if (wt_ww (ww_or (wt_neS (we_ix (we_var 2 rfl (we_int ⟨0, _, rfl, ixT (atI_nat (j := 0) rfl), we_str ⟨_, rfl, ?_⟩⟩))))))))
      rw [decide_eq_true rfl]
      refine ww_or (wt_neS (we_len (F.bn _ (by decide +kernel)) (we_var 2 rfl ⟨_, lenT, we_int ⟨true, rfl, ?_⟩⟩)))
      cases hT with
      | av a =>
        refine ww_or1 (wt_not (wt_val (we_isi (F.bn _ (by decide +kernel)) (we_ix (we_var 2 rfl (we_int ⟨1, _, rfl, ixT (atI_nat (j := 1) rfl), we_gref Y.at_ (d := .fn C) (fun _ _ _ => .fn C) ⟨.type (avT a), .ref C, false, avTy M a, rfl, (by intro C h; cases h), kit_avC hk a, _, rfl, ?_⟩⟩))))))
        exact wss_cons (ws_ret (we_bl (Lets.of hc)))
      | opn t hgd hn =>
        refine ww_or1 (wt_not (wt_val (we_isi (F.bn _ (by decide +kernel)) (we_ix (we_var 2 rfl (we_int ⟨1, _, rfl, ixT (atI_nat (j := 1) rfl), we_gref Y.at_ (d := .fn C) (fun _ _ _ => .fn C) ⟨.ref C, .ref C, true, by rw [planN_ins]; rfl, rfl, (by intro C' h; cases h; exact XO), by unfold PySem.W.kitOne; simp, _, rfl, ?_⟩⟩))))))
        refine wss_nil (wss_cons (ws_asg (we_tup (wa_cons (we_ix (we_var 2 rfl (we_int ⟨1, _, rfl, ixT (atI_nat (j := 1) rfl), wa_cons (we_ix (we_var 2 rfl (we_int ⟨2, _, rfl, ixT (atI_nat (j := 2) rfl), wa_nil ⟨by show 2 ≤ sizeLine; rw [sizeLine_eq]; decide, wg_tup ⟨rfl, rfl, wgs_cons (wg_name 3 (wgs_cons (wg_name 4 (wgs_nil ⟨rfl, ?_⟩) nd)) nd)⟩⟩⟩)))⟩)))))))
        have hcm : CmpDs ((nmT t).map D.str) ((nmT t).map PyData.str) 1 := cmps_map (j := 0) (by decide) fun y hy => cmp_str (nms_lt hgd y hy)
        refine wss_cons (ws_if (wt_ww (ww_or (wt_neNilT hr.units (we_prop F5 (hr.mono (by decide)) (we_var 3 rfl ⟨_, insN, t, rfl, _, _, 1, rfl, hcm, by decide, ?_⟩))))))
        cases hm : nmT t with
        | nil => exact absurd hm hn
        | cons x r => exact wss_cons (ws_ret (we_bl (Lets.of hc)))
      | cl t _ ok h30 hb =>
        have no : ¬ IsTo ps n t v → Φ (.bl false) M := fun h => by
          cases b with
          | false => exact hc
          | true => exact absurd (hb.mp rfl) h
        refine ww_or1 (wt_not (wt_val (we_isi (F.bn _ (by decide +kernel)) (we_ix (we_var 2 rfl (we_int ⟨1, _, rfl, ixT (atI_nat (j := 1) rfl), we_gref Y.at_ (d := .fn C) (fun _ _ _ => .fn C) ⟨.ref C, .ref C, true, by rw [planD_told ok.2.1]; rfl, rfl, (by intro C' h; cases h; exact XO), by unfold PySem.W.kitOne; simp, _, rfl, ?_⟩⟩))))))
        refine wss_nil (wss_cons (ws_asg (we_tup (wa_cons (we_ix (we_var 2 rfl (we_int ⟨1, _, rfl, ixT (atI_nat (j := 1) rfl), wa_cons (we_ix (we_var 2 rfl (we_int ⟨2, _, rfl, ixT (atI_nat (j := 2) rfl), wa_nil ⟨by show 2 ≤ sizeLine; rw [sizeLine_eq]; decide, wg_tup ⟨rfl, rfl, wgs_cons (wg_name 3 (wgs_cons (wg_name 4 (wgs_nil ⟨rfl, ?_⟩) nd)) nd)⟩⟩⟩)))⟩)))))))
        refine wss_cons (ws_if (wt_ww (ww_or (wt_neNilT hr.units (we_prop F4 (hr.mono (by decide)) (we_var 3 rfl ⟨_, insP ok.2.1, t, rfl, ok, [], [], 0, rfl, cmps_nil, by decide, ?_⟩))))))
        refine ww_or (wt_neS (we_prop F6 (hr.mono (by decide)) (we_var 3 rfl ⟨_, insP ok.2.1, t, rfl, ok, we_var 0 rfl ⟨decide (((ppl t : Nat) : Int) = (n : Nat)), rfl, ?_⟩⟩)))
        by_cases hm : ppl t = n
        · rw [decide_eq_true (show ((ppl t : Nat) : Int) = (n : Nat) by omega)]
          refine ww_or (wt_not (wt_val (we_isi (F.bn _ (by decide +kernel)) (we_var 4 rfl (we_bty (F.bn _ (by decide +kernel)) rfl ⟨_, _, _, avTy M v, rfl, (by intro C h; cases h), kit_tup v, _, rfl, ?_⟩)))))
          cases hT : isT v with
          | false =>
            refine wss_cons (ws_ret (we_bl (Lets.of (no ?_))))
            rintro ⟨_, as, rfl, _⟩
            cases hT
          | true =>
          obtain ⟨l, rfl⟩ : ∃ l, v = .tup l := by cases v <;> first | exact ⟨_, rfl⟩ | cases hT
          have hv := hv l rfl
          have eD : avD (.tup l) = .tup (l.map avD) := by rw [avD, avsD_map]
          rw [eD]
          refine ww_or1 (wt_neS (we_len (F.bn _ (by decide +kernel)) (we_var 4 rfl ⟨_, lenT, we_var 0 rfl ⟨_, rfl, ?_⟩⟩)))
          rw [List.length_map]
          by_cases hln : l.length = n
          · rw [decide_eq_true (show ((l.length : Nat) : Int) = (n : Nat) by omega)]
            refine wss_nil (wss_cons (ws_setLc 5 nd (blkOk_by (N := nIsDue) (sc := defScope s__law_is_due) (own := [("_law_which", 8)]) (by decide +kernel)) (fun _ _ _ _ _ => pg_name (i := 8) nd rfl (Or.inl rfl)) (gt_name (by decide)) (fun _ _ _ _ _ => pts_nil) tk_nil (wi_range1 (F.bn _ (by decide +kernel)) (wa_cons (we_var 0 rfl (wa_nil ⟨_, rfl, by omega, by omega, ?_⟩)))) rfl))
            rw [show ((n : Nat) : Int).toNat = n by omega]
            have hPl : (persL t).length = n := by rw [persL_len ok.2.1, hm]
            have per : ∀ p ∈ persL t, AvG (persV p) ∧ RpD (persV p) := fun p hp2 => by
              have hi := pers_is _ (Nat.le_refl _) hp2
              refine rp_pers (by have := pers_ht hi; omega) fun i h => ?_
              have := pers_small hi ok.1 i h
              have : (30 : Nat) < 10 ^ 40 := by decide
              omega
            refine ⟨by rw [rngD_len, sizeLine_eq]; omega, fun i acc M' => M' = M ∧ acc = (((persL t).take i).map fun p => shS (persV p)).map D.str, ⟨rfl, rfl⟩, ?_, ?_⟩
            · rintro i x acc M' hx ⟨rfl, rfl⟩
              obtain ⟨hi, rfl⟩ := rngD_get hx
              have hi : i < n := hi
              obtain ⟨p, hp2⟩ : ∃ p, (persL t)[i]? = some p := ⟨_, List.getElem?_eq_getElem (by omega)⟩
              intro s1 H1 C1 cl1 fp1
              refine we_reprV gR hg hr.units (we_call F2 (hr.mono (by decide)) (wa_cons (we_var 3 rfl (wa_cons (we_var 8 rfl (wa_nil ⟨rfl, t, i, p, by rw [Int.zero_add]; rfl, ok, ?_, by omega, hp2, persV p, (persV_D p).symm, (per p (List.mem_of_getElem? hp2)).2, rfl, ?_⟩))))))
              · have : (30 : Nat) < 10 ^ 40 := by decide
                omega
              · rw [take_snoc hp2, List.map_append, List.map_append]; rfl
            rintro acc M' ⟨rfl, rfl⟩
            rw [rngD_len, List.take_of_length_le (by omega)]
            refine wss_cons (ws_if (wt_neD hr.units (we_sortedS (F.bn _ (by decide +kernel)) (we_lc nd (blkOk_by (N := nIsDue) (sc := defScope s__law_is_due) (own := [("_law_one", 6)]) (by decide +kernel)) (fun _ _ _ _ _ => pg_name (i := 6) nd rfl (Or.inl rfl)) (gt_name (by decide)) (fun _ _ _ _ _ => pts_nil) tk_nil (wi_tup (we_var 4 rfl ⟨_, rfl, ?_⟩))))))
            refine ⟨by rw [List.length_map, sizeLine_eq]; omega, fun i acc M2 => M2 = M' ∧ acc = ((l.take i).map shS).map D.str, ⟨rfl, rfl⟩, ?_, ?_⟩
            · rintro i x acc M2 hx ⟨rfl, rfl⟩
              rw [List.getElem?_map] at hx
              obtain ⟨u, hu, rfl⟩ := Option.map_eq_some_iff.mp hx
              intro s1 H1 C1 cl1 fp1
              refine we_reprV gR hg hr.units (we_var 6 rfl ⟨u, rfl, (hv u (List.mem_of_getElem? hu)).2, rfl, ?_⟩)
              rw [take_snoc hu, List.map_append, List.map_append]; rfl
            rintro acc M2 ⟨rfl, rfl⟩
            rw [List.length_map, List.take_length]
            refine ⟨_, rfl, by rw [List.length_map]; omega, fun ys y1 y2 => we_sortedS (F.bn _ (by decide +kernel)) (we_var 5 rfl ⟨_, rfl, by rw [List.length_map]; omega, fun zs z1 z2 => ⟨_, _, (cmp_strs ?_).eq, (cmp_strs ?_).eq, (cmp_strs ?_).shaped (by decide), (cmp_strs ?_).shaped (by decide), ?_⟩⟩)⟩
            · exact fun x hx => by
                obtain ⟨u, hu, rfl⟩ := List.mem_map.mp (y1.mem_iff.mp hx)
                exact shown_sm (hv u hu).1
            · exact fun x hx => by
                obtain ⟨p, hp2, rfl⟩ := List.mem_map.mp (z1.mem_iff.mp hx)
                exact shown_sm (per p hp2).1
            · exact fun x hx => by
                obtain ⟨u, hu, rfl⟩ := List.mem_map.mp (y1.mem_iff.mp hx)
                exact shown_sm (hv u hu).1
            · exact fun x hx => by
                obtain ⟨p, hp2, rfl⟩ := List.mem_map.mp (z1.mem_iff.mp hx)
                exact shown_sm (per p hp2).1
            have key := sorted_iff (l := l) (fun x hx => (hv x hx).1) y1 y2 z1 z2
            have e2 : PyData.eqv (.list (ys.map PyData.str)) (.list (zs.map PyData.str)) = decide (ys = zs) := by
              simp only [PyData.eqv]
              exact eqv_strs ys zs
            rw [e2]
            have ndP := nd_pers (ht t) (t := t) (Nat.le_refl _)
            by_cases hyz : ys = zs
            · rw [decide_eq_true hyz]
              obtain ⟨as, rfl, hpm⟩ := key.mp hyz
              have ndA : as.Nodup := hpm.nodup_iff.mpr ndP
              rw [List.length_map] at hln
              have hpa : ∀ p ∈ as, isPers t p = true := fun p h => pers_is _ (Nat.le_refl _) (hpm.mem_iff.mp h)
              have eM : (as.map persV).map avD = as.map perD := by rw [List.map_map]; exact List.map_congr_left fun p _ => persV_D p
              have ix : ∀ {M : Mp} {k : Nat} {p : List Nat}, as[k]? = some p → IxD M (.tup ((as.map persV).map avD)) ((k : Nat) : Int) (perD p) := fun {M k p} h => by rw [eM]; exact ixT (atI_nat (by rw [List.getElem?_map, h]; rfl))
              have bad : ∀ {i j : Nat} {p q : List Nat}, i < j → as[i]? = some p → as[j]? = some q → ¬ (knowsB t p q = decide ((i, j) ∈ ps)) → Φ (.bl false) M2 := fun {i j p q} hij hp1 hq1 hz => no fun ⟨_, bs, e, _, _, e4⟩ => by
                have e : as = bs := mapP_inj (by injection e)
                subst e
                exact hz (by rw [← knP_lt hp hij]; exact (e4 i j p q hij hp1 hq1).2)
              have eI : ∀ {i : Nat}, ((0 : Int) + (i : Nat)) = (i : Nat) := fun {i} => by omega
              generalize htx : D.lst (List.map D.str (List.map (fun p => shS (persV p)) (persL t))) = tx
              refine wss_nil (wss_cons (ws_for PassesOwn.never (wi_range1 (F.bn _ (by decide +kernel)) (wa_cons (we_var 0 rfl (wa_nil ⟨_, rfl, by omega, by omega, ?_⟩))))))
              rw [show ((n : Nat) : Int).toNat = n by omega]
              refine ⟨fun i ρ' M3 => M3 = M2 ∧ (∀ i1 j p q, i1 < i → i1 < j → as[i1]? = some p → as[j]? = some q → knowsB t p q = decide ((i1, j) ∈ ps)) ∧ ∃ o6 o7, ρ' = [some (.int (n : Nat)), some (.tup (ps.map pairD)), some (.tup [.str "plan", planD C t, .tup ((as.map persV).map avD)]), some (planD C t), some (.tup ((as.map persV).map avD)), some tx, o6, o7, none], ⟨rfl, fun i1 j p q h => absurd h (Nat.not_lt_zero _), _, _, rfl⟩, ?_, ?_⟩
              · rintro i x ρ' M3 hx ⟨rfl, hG, o6, o7, rfl⟩
                obtain ⟨hi, rfl⟩ := rngD_get hx
                have hi : i < n := hi
                rw [eI]
                obtain ⟨p, hp2⟩ : ∃ p, as[i]? = some p := ⟨_, List.getElem?_eq_getElem (by omega)⟩
                refine wg_name 6 ?_ nd
                refine wss_cons (ws_for PassesOwn.never (wi_range2 (F.bn _ (by decide +kernel)) (wa_cons (we_addI (we_var 6 rfl (we_int ⟨_, _, rfl, rfl, wa_cons (we_var 0 rfl (wa_nil ⟨_, _, rfl, ⟨by omega, by omega, by omega, by omega⟩, ?_⟩))⟩))))))
                refine ⟨fun j ρ' M4 => M4 = M3 ∧ (∀ j1 q, j1 < j → as[i + 1 + j1]? = some q → knowsB t p q = decide ((i, i + 1 + j1) ∈ ps)) ∧ ∃ o7, ρ' = [some (.int (n : Nat)), some (.tup (ps.map pairD)), some (.tup [.str "plan", planD C t, .tup ((as.map persV).map avD)]), some (planD C t), some (.tup ((as.map persV).map avD)), some tx, some (.int (i : Nat)), o7, none], ⟨rfl, fun j1 q h => absurd h (Nat.not_lt_zero _), _, rfl⟩, ?_, ?_⟩
                · rintro j z ρ' M4 hz ⟨rfl, hJ, o7, rfl⟩
                  obtain ⟨hj, rfl⟩ := rngD_get hz
                  have hjn : i + 1 + j < n := by omega
                  obtain ⟨r, hr2⟩ : ∃ r, as[i + 1 + j]? = some r := ⟨_, List.getElem?_eq_getElem (by omega)⟩
                  rw [show ((i : Nat) : Int) + 1 + (j : Nat) = ((i + 1 + j : Nat) : Int) by omega]
                  refine wg_name 7 ?_ nd
                  refine wss_cons (ws_if (wt_neS (we_call F3 (hr.mono (by decide)) (wa_cons (we_var 3 rfl (wa_cons (we_ix (we_var 4 rfl (we_var 6 rfl ⟨_, _, rfl, ix hp2, wa_cons (we_ix (we_var 4 rfl (we_var 7 rfl ⟨_, _, rfl, ix hr2, wa_nil ⟨rfl, t, p, r, rfl, ok, hpa p (List.mem_of_getElem? hp2), hpa r (List.mem_of_getElem? hr2), we_inDT hu65 (we_tup (wa_cons (we_var 6 rfl (wa_cons (we_var 7 rfl (wa_nil ⟨by show 2 ≤ sizeLine; rw [sizeLine_eq]; decide, we_var 1 rfl ⟨_, _, (cmp_pr (i, i + 1 + j)).eq, (cmp_prT ps).eq, (cmp_pr (i, i + 1 + j)).shaped (by decide), (cmp_prT ps).shaped (by decide), decide (knowsB t p r = decide ((i, i + 1 + j) ∈ ps)), ?_, ?_⟩⟩))))))⟩⟩)))⟩)))))))))
                  · rw [any_pair]; rfl
                  by_cases hkn : knowsB t p r = decide ((i, i + 1 + j) ∈ ps)
                  · rw [decide_eq_true hkn]
                    refine wss_nil (wss_nil ⟨rfl, fun j1 q hj1 hq1 => ?_, _, rfl⟩)
                    by_cases e : j1 = j
                    · subst e
                      rw [hr2] at hq1; cases hq1
                      exact hkn
                    · exact hJ j1 q (by omega) hq1
                  · rw [decide_eq_false hkn]
                    exact wss_cons (ws_ret (we_bl (Lets.of (bad (by omega) hp2 hr2 hkn))))
                · rintro ρ' M4 ⟨rfl, hJ, o7, rfl⟩
                  refine wss_nil ⟨rfl, fun i1 j1 p1 q1 h1 h2 h3 h5 => ?_, _, _, rfl⟩
                  by_cases e : i1 = i
                  · subst e
                    rw [hp2] at h3; cases h3
                    have hj1 : j1 < n := by rw [← hln]; exact (List.getElem?_eq_some_iff.mp h5).1
                    have := hJ (j1 - (i1 + 1)) q1 (by rw [rngD_len]; omega) (by rw [show i1 + 1 + (j1 - (i1 + 1)) = j1 by omega]; exact h5)
                    rw [show i1 + 1 + (j1 - (i1 + 1)) = j1 by omega] at this
                    exact this
                  · exact hG i1 j1 p1 q1 (by omega) h2 h3 h5
              · rintro ρ' M3 ⟨rfl, hG, o6, o7, rfl⟩
                rw [rngD_len] at hG
                have yes : IsTo ps n t (.tup (as.map persV)) := ⟨hm, as, rfl, hln, hpa, fun i j p q h1 h2 h3 => ⟨fun e => ?_, ?_⟩⟩
                · rw [hb.mpr yes] at hc
                  exact wss_cons (ws_ret (we_bl (Lets.of hc)))
                · subst e
                  obtain ⟨l1, e1⟩ := List.getElem?_eq_some_iff.mp h2
                  obtain ⟨l2, e2⟩ := List.getElem?_eq_some_iff.mp h3
                  exact absurd ((List.getElem_inj ndA).mp (e1.trans e2.symm)) (by omega)
                · rw [knP_lt hp h1]
                  exact hG i j p q (by have := (List.getElem?_eq_some_iff.mp h2).1; omega) h1 h2 h3
            · rw [decide_eq_false hyz]
              refine wss_cons (ws_ret (we_bl (Lets.of (no ?_))))
              rintro ⟨_, as, e, e2, e3, e4⟩
              have e : l = as.map persV := by injection e
              refine hyz (key.mpr ⟨as, e, perm_fullP (List.pairwise_iff_getElem.mpr fun i j hi hj hij => (e4 i j _ _ hij (List.getElem?_eq_getElem hi) (List.getElem?_eq_getElem hj)).1) ndP (fun p h => is_pers_mem ok (e3 p h)) (by omega)⟩)
          · rw [decide_eq_false (show ¬ ((l.length : Nat) : Int) = (n : Nat) by omega)]
            refine wss_cons (ws_ret (we_bl (Lets.of (no ?_))))
            rintro ⟨_, as, e, e2, _⟩
            have e : l = as.map persV := by injection e
            rw [e, List.length_map] at hln
            exact hln e2
        · rw [decide_eq_false (show ¬ ((ppl t : Nat) : Int) = (n : Nat) by omega)]
          exact wss_cons (ws_ret (we_bl (Lets.of (no fun z => hm z.1))))
end
end W
namespace W
open PySem PySem.Spec PyProof.Rows L2 DL SX PL SlX
theorem avD_tup_inv {v : AV} {xs : List D} (h : avD v = .tup xs) : ∃ l, v = .tup l ∧ xs = l.map avD := by
  cases v with
  | tup l => rw [avTup] at h; exact ⟨l, rfl, by injection h with h; exact h.symm⟩
  | lst l => rw [avD] at h; cases h
  | _ => rw [avD] at h; cases h
theorem avD_int_inv {v : AV} {i : Int} (h : avD v = .int i) : v = .int i := by
  cases v with
  | int j => rw [avD] at h; injection h with h; rw [h]
  | tup l => rw [avD] at h; cases h
  | lst l => rw [avD] at h; cases h
  | _ => rw [avD] at h; cases h
def AvE (S : D → Prop) (E : D → D → Prop) : Prop := ∀ v y, AvG v → S (avD v) → E (avD v) y → ∃ u, y = avD u ∧ Bent v u
theorem avE0 : AvE S0 E0 := by
  rintro v y hg hS ⟨n, h, hy⟩
  obtain rfl := avD_int_inv h
  obtain ⟨m, hm, e⟩ := hS
  have hn : n < 31 := by rw [avD] at e; injection e with e; omega
  simp only [List.mem_cons, List.not_mem_nil, or_false] at hy
  rcases hy with rfl | rfl | rfl | rfl | rfl
  · exact ⟨.int (n + 1), by rw [avD], .inl ⟨n + 1, by omega, by omega⟩, by simp only [avDp]; omega, by simp only [avLn]; omega⟩
  · refine ⟨.int (n - 1), by rw [avD], ?_, by simp only [avDp]; omega, by simp only [avLn]; omega⟩
    by_cases h0 : n = 0
    · subst h0; exact .inr rfl
    · exact .inl ⟨n - 1, by omega, by omega⟩
  · exact ⟨.bl _, by rw [avD], trivial, by simp only [avDp]; omega, by simp only [avLn]; omega⟩
  · exact ⟨.str (toString (n : Int)), by rw [avD], by rw [AvG]; exact stG_num n hn, by simp only [avDp]; omega, by simp only [avLn]; omega⟩
  · exact ⟨.int 0, by rw [avD], .inl ⟨0, rfl, by decide⟩, by simp only [avDp]; omega, by simp only [avLn]; omega⟩
def bents (l : List AV) : List AV := [.lst l, .tup (DL.cutD l (some 1) none), .tup (l ++ DL.cutD l (some (-1)) none), .tup l.reverse, .tup [], .tup [.tup l], .non]
theorem avsDp_rev : ∀ l : List AV, avsDp l.reverse = avsDp l
  | [] => rfl
  | v :: l => by rw [List.reverse_cons, avsDp_app, avsDp_rev l, avsDp, avsDp, avsDp, Nat.max_zero, Nat.max_comm]
theorem avsLn_rev : ∀ l : List AV, avsLn l.reverse = avsLn l
  | [] => rfl
  | v :: l => by rw [List.reverse_cons, avsLn_app, avsLn_rev l, avsLn, avsLn, avsLn, Nat.add_zero, Nat.add_comm]
theorem bents_ok {l : List AV} (g : AvsG l) : ∀ v ∈ bents l, Bent (.tup l) v := by
  obtain ⟨c1, c2, c3⟩ := cut_le (some 1) none g
  obtain ⟨e1, e2, e3⟩ := cut_le (some (-1)) none g
  intro v hv
  simp only [bents, List.mem_cons, List.not_mem_nil, or_false] at hv
  rcases hv with rfl | rfl | rfl | rfl | rfl | rfl | rfl
  · exact ⟨by rw [AvG]; exact g, by rw [avDp, avDp]; omega, by rw [avLn, avLn]; omega⟩
  · exact ⟨by rw [AvG]; exact c1, by rw [avDp, avDp]; omega, by rw [avLn, avLn]; omega⟩
  · exact ⟨by rw [AvG, avsG_app]; exact ⟨g, e1⟩, by rw [avDp, avDp, avsDp_app]; omega, by rw [avLn, avLn, avsLn_app]; omega⟩
  · exact ⟨by rw [AvG, avsG_all]; exact fun v hv => avsG_all.mp g v (List.mem_reverse.mp hv), by rw [avDp, avDp, avsDp_rev]; omega, by rw [avLn, avLn, avsLn_rev]; omega⟩
  · exact ⟨by rw [AvG]; trivial, by simp only [avDp, avsDp]; omega, by simp only [avLn, avsLn]; omega⟩
  · exact ⟨by rw [AvG]; exact ⟨by rw [AvG]; exact g, trivial⟩, by simp only [avDp, avsDp]; omega, by simp only [avLn, avsLn]; omega⟩
  · exact ⟨trivial, by simp only [avDp]; omega, by simp only [avLn]; omega⟩
theorem avE1 {S : D → Prop} {E : D → D → Prop} (h : AvE S E) : AvE (S1 S) (E1 E) := by
  rintro v y hg hS ⟨xs, e, hy⟩
  obtain ⟨l, rfl, rfl⟩ := avD_tup_inv e
  have hG : AvsG l := by rw [AvG] at hg; exact hg
  rcases hy with hy | ⟨k, z, u, hz, hu, rfl⟩
  · have hy : y ∈ (bents l).map avD := by
      simp only [bents, List.map_cons, List.map_nil, avTup, avD, avsD_map, List.map_append, ← cutD_map, List.map_reverse]
      exact hy
    obtain ⟨u, hu, rfl⟩ := List.mem_map.mp hy
    exact ⟨u, rfl, bents_ok hG u hu⟩
  · rw [List.getElem?_map] at hz
    obtain ⟨w, hw, rfl⟩ := Option.map_eq_some_iff.mp hz
    obtain ⟨xs, e2, _, hS2⟩ := hS
    rw [avTup] at e2
    injection e2 with e2
    obtain ⟨b, rfl, hb⟩ := h w u (avsG_all.mp hG w (List.mem_of_getElem? hw)) (hS2 _ (by rw [← e2]; exact List.mem_map.mpr ⟨w, List.mem_of_getElem? hw, rfl⟩)) hu
    refine ⟨.tup (l.take k ++ [b] ++ l.drop (k + 1)), ?_, hb.up hG hw⟩
    rw [avTup, List.map_append, List.map_append, List.map_take, List.map_drop]; rfl
def FitD (K : PySem.W.Frag) (C : Addr) (ps : List (Nat × Nat)) (n : Nat) (d : D) : Prop := ∃ b, FitR K C ps n d b
section
variable {K : PySem.W.Frag} {C : Addr} {ps : List (Nat × Nat)} {n : Nat}
theorem ex_b (p : Prop) : ∃ b : Bool, b = true ↔ p := by
  by_cases h : p
  · exact ⟨true, fun _ => h, fun _ => rfl⟩
  · exact ⟨false, fun z => (by cases z), fun z => absurd z h⟩
def El (v : AV) : Prop := ∀ l, v = .tup l → ∀ x ∈ l, AvG x ∧ RpD x
theorem fd_ch (v : AV) (h1 : AvG v) (h2 : RpD v) : FitD K C ps n (.tup [.str "chain", avD v]) := by
  obtain ⟨b, hb⟩ := ex_b (IsCh ps n v)
  exact ⟨b, .wd _ _ b (.ch v b h1 h2 hb)⟩
theorem fd_cl {t : T} (ok : Ok t) (h30 : ht t ≤ 30) {v : AV} (h : El v) : FitD K C ps n (.tup [.str "plan", planD C t, avD v]) := by
  obtain ⟨b, hb⟩ := ex_b (IsTo ps n t v)
  exact ⟨b, .wd _ _ b (.pl _ v b h (.cl t b ok h30 hb))⟩
theorem fd_opn {t : T} (hg : Good t) (hn : nmT t ≠ []) {v : AV} (h : El v) : FitD K C ps n (.tup [.str "plan", planN C t, avD v]) := ⟨false, .wd _ _ _ (.pl _ v _ h (.opn t hg hn))⟩
theorem fd_av (a : AV) {v : AV} (h : El v) : FitD K C ps n (.tup [.str "plan", avD a, avD v]) := ⟨false, .wd _ _ _ (.pl _ v _ h (.av a))⟩
theorem fd_lst (xs : List D) : FitD K C ps n (.lst xs) := ⟨false, .nt _ (.type "list") (fun _ => rfl) (fun _ h => by cases h) rfl⟩
theorem fd_non : FitD K C ps n .non := ⟨false, .nt _ (.type "NoneType") (fun _ => rfl) (fun _ h => by cases h) rfl⟩
theorem fd_hT (ys xs : List D) : FitD K C ps n (.tup (.tup ys :: xs)) := ⟨false, .hd _ _ (.type "tuple") (fun _ => rfl) (fun _ h => by cases h) rfl⟩
theorem fd_hL (ys xs : List D) : FitD K C ps n (.tup (.lst ys :: xs)) := ⟨false, .hd _ _ (.type "list") (fun _ => rfl) (fun _ h => by cases h) rfl⟩
theorem fd_hN (xs : List D) : FitD K C ps n (.tup (.non :: xs)) := ⟨false, .hd _ _ (.type "NoneType") (fun _ => rfl) (fun _ h => by cases h) rfl⟩
theorem fd_hP {t : T} (ok : Ok t) (XO : OwnC K C) (hkS : PySem.W.kitOne K (.ref C) (.type "str") = some false) (xs : List D) : FitD K C ps n (.tup (planD C t :: xs)) := ⟨false, .hd _ _ (.ref C) (fun _ => by rw [planD_told ok.2.1]; rfl) (fun C' h => by cases h; exact XO) hkS⟩
theorem fd_wd (x : Str) (xs : List D) (h1 : x ≠ "chain") (h2 : x ≠ "plan") : FitD K C ps n (.tup (.str x :: xs)) := ⟨false, .wd _ _ _ (.word x xs h1 h2)⟩
theorem fd_c (xs : List D) (h : xs.length ≠ 1) : FitD K C ps n (.tup (.str "chain" :: xs)) := ⟨false, .wd _ _ _ (.chl xs h)⟩
theorem fd_p (xs : List D) (h : xs.length ≠ 2) : FitD K C ps n (.tup (.str "plan" :: xs)) := ⟨false, .wd _ _ _ (.pll xs h)⟩
theorem kit_str (v : AV) (h : ∀ x, v ≠ .str x) : PySem.W.kitOne K (.type (avT v)) (.type "str") = some false := by
  cases v with
  | str x => exact absurd rfl (h x)
  | _ => rfl
theorem fd_odd : ∀ v ∈ odds, FitD K C ps n (avD v) := by
  intro v hv
  have nt : ∀ v : AV, isT v = false → FitD K C ps n (avD v) := fun v h => ⟨false, .nt _ (.type (avT v)) (fun M => avTy M v) (fun _ h => by cases h) (by rw [kit_tup, h])⟩
  have hd : ∀ (v : AV) (l : List AV), (∀ x, v ≠ .str x) → FitD K C ps n (avD (.tup (v :: l))) := fun v l h => by
    rw [avTup, List.map_cons]
    exact ⟨false, .hd _ _ (.type (avT v)) (fun M => avTy M v) (fun _ h => by cases h) (kit_str v h)⟩
  simp only [odds, odds1, odds2, List.mem_append, List.mem_cons, List.not_mem_nil, or_false] at hv
  rcases hv with (rfl | rfl | rfl | rfl | rfl | rfl | rfl | rfl | rfl | rfl | rfl | rfl | rfl | rfl | rfl | rfl | rfl | rfl) | (rfl | rfl | rfl | rfl | rfl)
  all_goals first
    | exact nt _ rfl
    | (rw [avTup]; exact ⟨false, .nil⟩)
    | (rw [avTup, List.map_cons, avD]; exact fd_wd _ _ (by decide +kernel) (by decide +kernel))
    | exact hd _ _ (fun x e => by cases e)
end
end W
namespace W
open PySem PySem.Spec PyProof.Rows L2 DL SX PL SlX
theorem pv_dp (p : List Nat) : avDp (persV p) = 1 := by
  have d : avsDp (p.map natV) = 0 := by
    induction p with
    | nil => rw [List.map_nil, avsDp]
    | cons i p ih => rw [List.map_cons, avsDp, ih]; unfold natV; rw [avDp]; rfl
  unfold persV; rw [avDp, d]
theorem pv_ln (p : List Nat) : avLn (persV p) = 43 * p.length + 3 := by
  have e : avsLn (p.map natV) = 43 * p.length := by
    induction p with
    | nil => rw [List.map_nil, avsLn]; rfl
    | cons i p ih => rw [List.map_cons, avsLn, ih]; unfold natV; rw [avLn, List.length_cons]; omega
  unfold persV; rw [avLn, e]
/-- people that can be bent -/
structure Pe (as : List (List Nat)) : Prop where
  len : as.length ≤ 31
  per : ∀ p ∈ as, p.length ≤ 31 ∧ ∀ i ∈ p, i < 31
theorem pe_rp {as : List (List Nat)} (h : Pe as) : ∀ p ∈ as, AvG (persV p) ∧ RpD (persV p) := fun p hp => rp_pers (by have := (h.per p hp).1; omega) fun i hi => by
  have := (h.per p hp).2 i hi
  have : (31 : Nat) < 10 ^ 40 := by decide
  omega
theorem pe_el {as : List (List Nat)} (h : Pe as) : El (.tup (as.map persV)) := fun l e x hx => by
  injection e with e
  subst e
  obtain ⟨p, hp, rfl⟩ := List.mem_map.mp hx
  exact pe_rp h p hp
theorem pe_sz : ∀ {as : List (List Nat)}, (∀ p ∈ as, p.length ≤ 31 ∧ ∀ i ∈ p, i < 31) → avsDp (as.map persV) ≤ 1 ∧ avsLn (as.map persV) ≤ 1400 * as.length
  | [], _ => by rw [List.map_nil, avsDp, avsLn]; exact ⟨by decide, Nat.zero_le _⟩
  | p :: as, h => by
    obtain ⟨h1, h2⟩ := pe_sz fun q hq => h q (List.mem_cons_of_mem _ hq)
    have := (h p List.mem_cons_self).1
    rw [List.map_cons, avsDp, avsLn, pv_dp, pv_ln, List.length_cons]
    exact ⟨by omega, by omega⟩
theorem pe_G {as : List (List Nat)} (h : Pe as) : AvG (.tup (as.map persV)) := by
  rw [AvG, avsG_all]
  intro v hv
  obtain ⟨p, hp, rfl⟩ := List.mem_map.mp hv
  exact (pe_rp h p hp).1
theorem bent_rp {v u : AV} (h : Bent v u) (hd : avDp v ≤ 10) (hl : avLn v ≤ 60000) : AvG u ∧ RpD u ∧ El u := by
  have h1 := h.dp
  have h2 := h.ln
  have zl := sizeLine_eq
  refine ⟨h.g, rp_of h.g (by omega) (by omega), fun l e x hx => ?_⟩
  subst e
  have hg := h.g
  rw [AvG] at hg
  obtain ⟨k, hk⟩ := List.mem_iff_getElem?.mp hx
  have a := avsDp_get hk
  have b := avsLn_get hk
  rw [avDp] at h1
  rw [avLn] at h2
  have gx := avsG_all.mp hg x hx
  exact ⟨gx, rp_of gx (by omega) (by omega)⟩
abbrev SA (C : Addr) (x : D) : Prop := Sw x ∨ Sp C x
abbrev EA (C : Addr) (x y : D) : Prop := (Sw x ∧ Ew x y) ∨ (Sp C x ∧ Ep x y)
abbrev SB (x : D) : Prop := S1 S0 x ∨ S1 (S1 S0) x
abbrev EB (x y : D) : Prop := (S1 S0 x ∧ E1 E0 x y) ∨ (S1 (S1 S0) x ∧ E1 (E1 E0) x y)
abbrev SU (C : Addr) (x : D) : Prop := SA C x ∨ SB x
abbrev EU (C : Addr) (x y : D) : Prop := (SA C x ∧ EA C x y) ∨ (SB x ∧ EB x y)
theorem s0_pers {p : List Nat} (h : p.length ≤ 31 ∧ ∀ i ∈ p, i < 31) : S1 S0 (perD p) := ⟨_, rfl, by rw [List.length_map]; omega, fun y hy => by
  obtain ⟨i, hi, rfl⟩ := List.mem_map.mp hy
  exact ⟨i, h.2 i hi, rfl⟩⟩
theorem s0_ps {as : List (List Nat)} (h : Pe as) : S1 (S1 S0) (.tup (as.map perD)) := ⟨_, rfl, by have := h.len; rw [List.length_map]; omega, fun y hy => by
  obtain ⟨p, hp, rfl⟩ := List.mem_map.mp hy
  exact s0_pers (h.per p hp)⟩
theorem sb_tup {x : D} (h : SB x) : ∃ xs, x = .tup xs := by
  rcases h with ⟨xs, e, _⟩ | ⟨xs, e, _⟩ <;> exact ⟨xs, e⟩
section
variable {K : PySem.W.Frag} {C : Addr} {ps : List (Nat × Nat)} {n : Nat}
theorem eu_str {s : Str} {y : D} (h : EU C (.str s) y) : y ∈ [D.str (Txt.upper s), .str "plan", .str "chain", .lst [.str s], .non] := by
  rcases h with ⟨_, ⟨_, ⟨s', e, h⟩⟩ | ⟨⟨t, ok, e⟩, _⟩⟩ | ⟨hb, _⟩
  · injection e with e; subst e; exact h
  · rw [planD_told ok.2.1] at e; cases e
  · obtain ⟨xs, e⟩ := sb_tup hb; cases e
theorem eu_plan {t : T} (ok : Ok t) {y : D} (h : EU C (planD C t) y) : ∃ v ∈ odds, y = avD v := by
  rcases h with ⟨_, ⟨hw, _⟩ | ⟨_, h⟩⟩ | ⟨hb, _⟩
  · rw [planD_told ok.2.1] at hw
    rcases hw with e | e <;> cases e
  · exact h
  · obtain ⟨xs, e⟩ := sb_tup hb
    rw [planD_told ok.2.1] at e; cases e
theorem eu_tup {v : AV} {xs : List D} (hg : AvG v) (hv : avD v = .tup xs) {y : D} (h : EU C (avD v) y) : ∃ u, y = avD u ∧ Bent v u := by
  rcases h with ⟨hs, _⟩ | ⟨_, ⟨hS, hE⟩ | ⟨hS, hE⟩⟩
  · rw [hv] at hs
    rcases hs with (e | e) | ⟨t, ok, e⟩
    · cases e
    · cases e
    · rw [planD_told ok.2.1] at e; cases e
  · exact avE1 avE0 v y hg hS hE
  · exact avE1 (avE1 avE0) v y hg hS hE
theorem qD_V (q : Nat × Nat × Nat × Nat) : qD q = avD (persV (q4 q)) := by rw [persV_D]; rfl
theorem ps_V (as : List (List Nat)) : D.tup (as.map perD) = avD (.tup (as.map persV)) := (mapP_D as).symm
theorem up_chain : Txt.upper ("chain" : Str) = "CHAIN" := by decide +kernel
theorem up_plan : Txt.upper ("plan" : Str) = "PLAN" := by decide +kernel
theorem fd_chl (q : Nat × Nat × Nat × Nat) (hq : Pe [q4 q]) : FitD K C ps n (chainD q) := by
  have h := pe_rp hq (q4 q) (List.mem_singleton.mpr rfl)
  show FitD K C ps n (.tup [.str "chain", qD q])
  rw [qD_V]
  exact fd_ch _ h.1 h.2
theorem fd_told {t : T} {as : List (List Nat)} (ok : Ok t) (h30 : ht t ≤ 30) (h : Pe as) : FitD K C ps n (toldD C t as) := by
  show FitD K C ps n (.tup [.str "plan", planD C t, .tup (as.map perD)])
  rw [ps_V]
  exact fd_cl ok h30 (pe_el h)
theorem su_chain (q : Nat × Nat × Nat × Nat) (hq : Pe [q4 q]) : S1 (SU C) (chainD q) := ⟨_, rfl, by show 2 ≤ 40; decide, fun y hy => by
  simp only [List.mem_cons, List.not_mem_nil, or_false] at hy
  rcases hy with rfl | rfl
  · exact .inl (.inl (.inr rfl))
  · exact .inr (.inl (s0_pers (p := q4 q) (hq.per _ (List.mem_singleton.mpr rfl))))⟩
theorem su_told {t : T} {as : List (List Nat)} (ok : Ok t) (h : Pe as) : S1 (SU C) (toldD C t as) := ⟨_, rfl, by show 3 ≤ 40; decide, fun y hy => by
  simp only [List.mem_cons, List.not_mem_nil, or_false] at hy
  rcases hy with rfl | rfl | rfl
  · exact .inl (.inl (.inl rfl))
  · exact .inl (.inr ⟨t, ok, rfl⟩)
  · exact .inr (.inr (s0_ps h))⟩
theorem fb_chain (q : Nat × Nat × Nat × Nat) (hq : Pe [q4 q]) {y : D} (h : E1 (EU C) (chainD q) y) : FitD K C ps n y := by
  have hrp := pe_rp hq (q4 q) (List.mem_singleton.mpr rfl)
  obtain ⟨xs, e, h⟩ := h
  injection e with e
  subst e
  rcases h with h | ⟨k, z, u, hz, hu, rfl⟩
  · simp only [leafD, List.mem_cons, List.not_mem_nil, or_false] at h
    rcases h with rfl | rfl | rfl | rfl | rfl | rfl | rfl
    · exact fd_lst _
    · exact fd_hT _ _
    · exact fd_c _ (by show (2 : Nat) ≠ 1; decide)
    · exact fd_hT _ _
    · exact ⟨false, .nil⟩
    · exact fd_hT _ _
    · exact fd_non
  · match k with
    | 0 =>
      cases Option.some.inj hz
      have hu := eu_str hu
      rw [up_chain] at hu
      simp only [List.mem_cons, List.not_mem_nil, or_false] at hu
      show FitD K C ps n (.tup [u, qD q])
      rcases hu with rfl | rfl | rfl | rfl | rfl
      · exact fd_wd _ _ (by decide +kernel) (by decide +kernel)
      · exact fd_p _ (by simp)
      · rw [qD_V]; exact fd_ch _ hrp.1 hrp.2
      · exact fd_hL _ _
      · exact fd_hN _
    | 1 =>
      cases Option.some.inj hz
      rw [qD_V] at hu
      obtain ⟨w, rfl, hb⟩ := eu_tup hrp.1 (persV_D _) hu
      obtain ⟨b1, b2, _⟩ := bent_rp hb (by rw [pv_dp]; decide) (by rw [pv_ln]; show 43 * 4 + 3 ≤ 60000; decide)
      exact fd_ch w b1 b2
    | k + 2 => cases hz
theorem fb_told (XO : OwnC K C) (hkS : PySem.W.kitOne K (.ref C) (.type "str") = some false) {t : T} {as : List (List Nat)} (ok : Ok t) (h30 : ht t ≤ 30) (hp : Pe as) {y : D} (h : E1 (EU C) (toldD C t as) y) : FitD K C ps n y := by
  obtain ⟨xs, e, h⟩ := h
  injection e with e
  subst e
  rcases h with h | ⟨k, z, u, hz, hu, rfl⟩
  · simp only [leafD, List.mem_cons, List.not_mem_nil, or_false] at h
    rcases h with rfl | rfl | rfl | rfl | rfl | rfl | rfl
    · exact fd_lst _
    · exact fd_hP ok XO hkS _
    · exact fd_p _ (by show (3 : Nat) ≠ 2; decide)
    · exact fd_hT _ _
    · exact ⟨false, .nil⟩
    · exact fd_hT _ _
    · exact fd_non
  · match k with
    | 0 =>
      cases Option.some.inj hz
      have hu := eu_str hu
      rw [up_plan] at hu
      simp only [List.mem_cons, List.not_mem_nil, or_false] at hu
      show FitD K C ps n (.tup [u, planD C t, .tup (as.map perD)])
      rcases hu with rfl | rfl | rfl | rfl | rfl
      · exact fd_wd _ _ (by decide +kernel) (by decide +kernel)
      · exact fd_told ok h30 hp
      · exact fd_c _ (by simp)
      · exact fd_hL _ _
      · exact fd_hN _
    | 1 =>
      cases Option.some.inj hz
      obtain ⟨v, _, rfl⟩ := eu_plan ok hu
      show FitD K C ps n (.tup [.str "plan", avD v, .tup (as.map perD)])
      rw [ps_V]
      exact fd_av v (pe_el hp)
    | 2 =>
      cases Option.some.inj hz
      rw [ps_V] at hu
      obtain ⟨w, rfl, hb⟩ := eu_tup (pe_G hp) (mapP_D as) hu
      obtain ⟨d1, l1⟩ := pe_sz hp.per
      have := hp.len
      obtain ⟨b1, b2, b3⟩ := bent_rp hb (by rw [avDp]; omega) (by rw [avLn]; omega)
      exact fd_cl ok h30 b3
    | k + 3 => cases hz
end
theorem body_imp {P : Program} {w : World} {K : PySem.W.Frag} {mg : Str → Option Value} {base : Heap} {name : Str} {st : Stmt} {N : List Str} {n k : Nat} {c c' : Con} (H : BodyOk P w K mg base name st N n k c) (hi : ∀ ds M Φ, c' ds M Φ → c ds M Φ) : BodyOk P w K mg base name st N n k c' := fun f cdv A outer s H2 E hr ds M Φ hl hc => H f cdv A outer s H2 E hr ds M Φ hl (hi _ _ _ hc)
end W
namespace W
open PySem PySem.Spec PyProof.Rows L2 DL SX PL SlX
theorem wss_stepV {X : Cx} {ρ : Rho} {M : Mp} {st : Stmt} {rest : List Stmt} {Ψ : DE} (R : Rho → Mp → Prop) (h : WS X ρ M st { Ψ with nx := R }) (k : ∀ ρ' M', R ρ' M' → WSs X ρ' M' rest Ψ) : WSs X ρ M (st :: rest) Ψ := wss_cons (.mk fun σ H E en w q => h.run σ H E en w ⟨fun σ' ρ' H' M' x w' en' z => q.nx σ' ρ' H' M' x w' en' (k ρ' M' z), q.rt, q.bk, q.ct⟩)
/-- the law's pot and its list of values, all else as it was -/
structure VS (M : Mp) (p f : Addr) (c : Int) (M' : Mp) (vs : List D) (a d : Int) : Prop where
  pot : M' p = some (potL a c d)
  fnd : M' f = some (.lst vs)
  les : ∀ b, b ≠ p → b ≠ f → M' b = M b ∨ M b = none
  nf : M f = none
  ne : p ≠ f
section
variable {M M' : Mp} {p f : Addr} {c : Int} {vs : List D} {a d : Int}
theorem VS.draw (h : VS M p f c M' vs a d) (a2 d2 : Int) : VS M p f c (mset M' p (potL a2 c d2)) vs a2 d2 := ⟨mset_same, by rw [mset_ne (Ne.symm h.ne)]; exact h.fnd, fun b h1 h2 => by rw [mset_ne h1]; exact h.les b h1 h2, h.nf, h.ne⟩
theorem VS.put (h : VS M p f c M' vs a d) (vs2 : List D) : VS M p f c (mset M' f (.lst vs2)) vs2 a d := ⟨by rw [mset_ne h.ne]; exact h.pot, mset_same, fun b h1 h2 => by rw [mset_ne h2]; exact h.les b h1 h2, h.nf, h.ne⟩
theorem VS.other (h : VS M p f c M' vs a d) {r : Addr} (h1 : r ≠ p) (h2 : r ≠ f) (hM : M r = none) (o : MO) : VS M p f c (mset M' r o) vs a d := ⟨by rw [mset_ne (Ne.symm h1)]; exact h.pot, by rw [mset_ne (Ne.symm h2)]; exact h.fnd, fun b q1 q2 => by
  by_cases e : b = r
  · rw [e]; exact .inr hM
  · rw [mset_ne e]; exact h.les b q1 q2, h.nf, h.ne⟩
theorem VS.fresh (h : VS M p f c M' vs a d) {r : Addr} (hr : M' r = none) : r ≠ p ∧ r ≠ f ∧ M r = none := by
  have h1 : r ≠ p := fun e => by rw [e, h.pot] at hr; cases hr
  have h2 : r ≠ f := fun e => by rw [e, h.fnd] at hr; cases hr
  exact ⟨h1, h2, (h.les r h1 h2).elim (fun e => by rw [← e]; exact hr) id⟩
theorem VS.done (h : VS M p f c M' vs a d) : Les (mset M p (potL a c d)) M' := fun b => by
  by_cases e : b = p
  · rw [e, mset_same, h.pot]; exact .inl rfl
  · rw [mset_ne e]
    by_cases e2 : b = f
    · rw [e2]; exact .inr h.nf
    · exact (h.les b e e2).elim (fun z => .inl z.symm) .inr
end
theorem cut_map {α β : Type} (g : α → β) (l : List α) (lo hi : Option Int) : DL.cutD (l.map g) lo hi = (DL.cutD l lo hi).map g := by
  unfold DL.cutD
  rw [List.length_map, List.map_take, List.map_drop]
theorem cut_mem {α : Type} {l : List α} {lo hi : Option Int} {x : α} (h : x ∈ DL.cutD l lo hi) : x ∈ l := by
  obtain ⟨a, b, e⟩ := cut_sub l lo hi
  rw [e]
  exact List.mem_append_left _ (List.mem_append_right _ h)
theorem Pe.of {as bs : List (List Nat)} (h : Pe as) (hl : bs.length ≤ 31) (hb : ∀ p ∈ bs, p ∈ as) : Pe bs := ⟨hl, fun p hp => h.per p (hb p hp)⟩
/-- copies of one person -/
abbrev cpT (s : Bool) (m : Nat) : T := .cop s m .one
theorem cpT_ok (s : Bool) {m : Nat} (h2 : 2 ≤ m) (h30 : m ≤ 30) : Ok (cpT s m) := by
  have l := TL.numL_len (k := 2) (by decide) (show m < 10 ^ 2 by omega)
  refine ⟨⟨h2, Nat.le_trans h30 (by decide), trivial⟩, trivial, ?_⟩
  rw [txt]
  simp only [List.length_cons, List.length_append, List.length_nil]
  rw [show txt .one = [49] from rfl]
  simp only [List.length_cons, List.length_nil]
  omega
theorem cpT_tS (m : Nat) : D.str ((("[" : Str) ++ Str.ofString (toString ((m : Nat) : Int))) ++ (" 1]" : Str)) = tS (txt (cpT false m)) := by
  rw [show ("[" : Str) = S [91] by decide +kernel, show (" 1]" : Str) = S [32, 49, 93] by decide +kernel, num_S, S_cat, S_cat]
  show D.str _ = D.str _
  rw [txt]
  simp [opn, cls, txt]
theorem cpT_tS2 (m : Nat) : D.str ((("{" : Str) ++ Str.ofString (toString ((m : Nat) : Int))) ++ (" 1}" : Str)) = tS (txt (cpT true m)) := by
  rw [show ("{" : Str) = S [123] by decide +kernel, show (" 1}" : Str) = S [32, 49, 125] by decide +kernel, num_S, S_cat, S_cat]
  show D.str _ = D.str _
  rw [txt]
  simp [opn, cls, txt]
abbrev xT : T := .name [120]
theorem xT_ok : Good xT ∧ nmT xT ≠ [] := ⟨⟨by decide, by decide, by decide⟩, by decide +kernel⟩
section
variable {P : Program} {w : World} {K : PySem.W.Frag} {mg : Str → Option Value} {base : Heap} {C R U V : Addr}
/-- what is told back -/
structure Tb (K : PySem.W.Frag) (C : Addr) (ps : List (Nat × Nat)) (n : Nat) (xs : List D) : Prop where
  len : xs.length ≤ 3
  one : 2 ≤ xs.length
  all : FitD K C ps n (.tup xs)
  cut : FitD K C ps n (.tup (DL.cutD xs none (some (-1))))
  more : FitD K C ps n (.tup (xs ++ [.int 0]))
  su : S1 (SU C) (.tup xs)
  bent : ∀ y, E1 (EU C) (.tup xs) y → FitD K C ps n y
  kind : (∃ q, xs = [.str "chain", qD q] ∧ 2 ≤ n) ∨ ∃ t as, xs = [.str "plan", planD C t, .tup (as.map perD)] ∧ Ok t ∧ ht t ≤ 30 ∧ Pe as ∧ as.length = n
theorem ch_pe {ps : List (Nat × Nat)} {n : Nat} {q : Nat × Nat × Nat × Nat} (n30 : n ≤ 30) (h : Ch ps n q) : Pe [q4 q] := ⟨by show 1 ≤ 31; decide, fun p hp => by
  rw [List.mem_singleton.mp hp]
  refine ⟨by show 4 ≤ 31; decide, fun i hi => ?_⟩
  have b1 := h.a
  have b2 := h.b
  have b3 := h.c
  have b4 := h.d
  have hi : i ∈ [q.1, q.2.1, q.2.2.1, q.2.2.2] := hi
  simp only [List.mem_cons, List.not_mem_nil, or_false] at hi
  omega⟩
theorem to_pe {ps : List (Nat × Nat)} {n : Nat} {t : T} {as : List (List Nat)} (n30 : n ≤ 30) (h : TO ps n t as) : Pe as := ⟨by rw [h.len]; omega, fun p hp => by
  have hi := h.pers p hp
  refine ⟨by have := pers_ht hi; have := h.hgt; omega, fun i q => ?_⟩
  have := pers_small hi h.ok.1 i q
  have := h.many
  omega⟩
theorem tb_chain {ps : List (Nat × Nat)} {n : Nat} {q : Nat × Nat × Nat × Nat} (hps : Prs n ps) (n30 : n ≤ 30) (h : Ch ps n q) : Tb K C ps n [.str "chain", qD q] := by
  have hp := ch_pe n30 h
  exact ⟨by simp, by simp, fd_chl q hp, fd_c _ (by show (0 : Nat) ≠ 1; decide), fd_c _ (by show (2 : Nat) ≠ 1; decide), su_chain q hp, fun y hy => fb_chain q hp hy, .inl ⟨q, rfl, by have := (h.p4.ne (knP_gr hps)).1; have := h.a; have := h.b; omega⟩⟩
theorem tb_told (XO : OwnC K C) (hkS : PySem.W.kitOne K (.ref C) (.type "str") = some false) {ps : List (Nat × Nat)} {n : Nat} {t : T} {as : List (List Nat)} (n30 : n ≤ 30) (h : TO ps n t as) : Tb K C ps n [.str "plan", planD C t, .tup (as.map perD)] := by
  have hp := to_pe n30 h
  exact ⟨by simp, by simp, fd_told h.ok h.hgt hp, fd_p _ (by show (1 : Nat) ≠ 2; decide), fd_p _ (by show (3 : Nat) ≠ 2; decide), su_told h.ok hp, fun y hy => fb_told XO hkS h.ok h.hgt hp hy, .inr ⟨t, as, rfl, h.ok, h.hgt, hp, h.len⟩⟩
def cVals (K : PySem.W.Frag) (C : Addr) : Con := fun ds M Φ => ∃ (p : Addr) (n : Nat) (ps : List (Nat × Nat)) (xs : List D) (a c d : Int), ds = [.ob p, .int (n : Nat), .tup (ps.map pairD), .tup xs] ∧ 1 ≤ n ∧ n ≤ 30 ∧ Prs n ps ∧ Tb K C ps n xs ∧ M p = some (potL a c d) ∧ cOk c ∧ 0 ≤ d ∧ d + 40 < 100000 ∧ ∀ vs a' d', (∀ v ∈ vs, FitD K C ps n v) → vs.length ≤ 60 → d ≤ d' → d' ≤ d + 40 → Φ (.lst vs) (mset M p (potL a' c d'))
abbrev nVals : List Str := ["_law_pot_here", "_law_many", "_law_pairs", "_law_told", "_law_some_here", "_law_found", "_law_people_here", "_law_mixed", "_law_one", "_law_other", "_law_which", "_law_chain"]
theorem ok_vals (F : Fx w K mg) (Y : Px K mg C) (F0 : Fc P w K mg base "_law_take" [] 1 2 cTake) (F3 : Fc P w K mg base "_law_odd" [] 3 1 cOdd) (F4 : Fc P w K mg base "_law_some" [] 2 3 cSome) (F5 : Fc P w K mg base "_law_bent" [] 7 2 (cBn (S1 (SU C)) (E1 (EU C)) 16)) (F6 : Fc P w K mg base "_law_chains" [] 1 2 cLChains) (F7 : Kc P w K mg base "Plan" C [] 12 2 (cInitN C 3)) (F8 : Pc P w K mg base C "text" 1 (cGet C fun t => tS (txt t))) :
    BodyOk P w K mg base "_law_values" s__law_values nVals 4 13 (cVals K C) := by
  intro f0 cdv A outer s H E hr ds M Φ hl hc
  obtain ⟨p, n, ps, xs, a, c, d, rfl, n1, n30, hp, hT, hM, co, d0, d1, hc⟩ := hc
  have nd : nVals.Nodup := by decide +kernel
  have zs : 1000 ≤ sizeLine := by rw [sizeLine_eq]; decide
  have z2 : 2 ≤ sizeLine := by omega
  have z3 : 3 ≤ sizeLine := by omega
  have b40 : (31 : Int) ≤ 10 ^ 40 := by decide +kernel
  have hmx : ∃ m : Nat, (if ((n : Nat) : Int) > 4 then ((n : Nat) : Int) else 4) = (m : Nat) ∧ 4 ≤ m ∧ m ≤ 30 := by
    by_cases h : ((n : Nat) : Int) > 4
    · exact ⟨n, by rw [if_pos h], by omega, n30⟩
    · exact ⟨4, by rw [if_neg h]; rfl, by omega, by omega⟩
  obtain ⟨m, em, m4, m30⟩ := hmx
  refine wss_cons (ws_set 4 nd (we_tupleOf (F.bn _ (by decide +kernel)) (we_call F4 (hr.mono (by decide)) (wa_cons (we_var 0 rfl (wa_cons (we_listRg1 (F.bn _ (by decide +kernel)) (F.bn _ (by decide +kernel)) (we_max2 (F.bn _ (by decide +kernel)) (we_int (we_var 1 rfl ⟨4, (n : Nat), rfl, rfl, _, rfl, ?_, wa_cons (we_int (wa_nil ⟨rfl, p, _, 4, a, c, d, rfl, ?_, ?_, hM, co, d0, by omega, fun ys a1 e1 hlen hin hnd j1 j2 => ⟨_, .inl rfl, ?_⟩⟩))⟩))))))))))
  · rw [em]; exact ⟨by omega, by omega, by omega⟩
  · rw [em, rngD_len]; omega
  · rw [em, rngD_len]; omega
  rw [em, show ((m : Nat) : Int).toNat = m by omega] at hin
  obtain ⟨os, rfl, ho⟩ := drawn_nats hin
  rw [List.length_map] at hlen
  have hos : Pe [os] := ⟨by show 1 ≤ 31; decide, fun q hq => by rw [List.mem_singleton.mp hq]; exact ⟨by omega, fun i hi => by have := ho i hi; omega⟩⟩
  have hosr : Pe [os.reverse] := ⟨by show 1 ≤ 31; decide, fun q hq => by rw [List.mem_singleton.mp hq]; exact ⟨by rw [List.length_reverse]; omega, fun i hi => by have := ho i (List.mem_reverse.mp hi); omega⟩⟩
  have chV : ∀ q : List Nat, Pe [q] → FitD K C ps n (.tup [.str "chain", perD q]) := fun q hq => by
    rw [← persV_D]
    have h := pe_rp hq q (List.mem_singleton.mpr rfl)
    exact fd_ch _ h.1 h.2
  have eos : D.tup (os.map fun (i : Nat) => D.int (i : Nat)) = perD os := rfl
  rw [eos]
  have hx0 : xs.length + 1 ≤ sizeLine := by have := hT.len; omega
  refine wss_cons (ws_set 5 nd (we_lstM (wa_cons (we_var 3 rfl (wa_cons (we_slice (we_var 3 rfl (we_negI (we_int ⟨1, rfl, _, rfl, _, .inr (.inl ⟨_, rfl, rfl⟩), wa_cons (we_addT (we_var 3 rfl (we_tup (wa_cons (we_int (wa_nil ⟨sz1, _, _, rfl, rfl, hx0, wa_cons (we_listOf (F.bn _ (by decide +kernel)) (we_var 3 rfl ⟨_, .inr rfl, wa_cons (we_call F5 (hr.mono (by decide)) (wa_cons (we_var 0 rfl (wa_cons (we_var 3 rfl (wa_nil ⟨rfl, p, _, a1, c, e1, rfl, hT.su, mset_same, co, by omega, by omega, fun y a2 e2 hE j3 j4 => wa_cons (we_tup (wa_cons (we_str (wa_cons (we_var 4 rfl (wa_nil ⟨z2, wa_cons (we_tup (wa_cons (we_str (wa_cons (we_revT (we_var 4 rfl ⟨_, rfl, wa_nil ⟨z2, wa_nil ⟨by show 7 ≤ sizeLine; omega, fun f hf => ?_⟩⟩⟩))))))⟩))))))⟩))))))⟩))⟩))))))⟩)))))))))
  rw [mset_mset] at hf ⊢
  have npf : p ≠ f := fun e => by rw [← e, mset_same] at hf; cases hf
  have hMf : M f = none := by rw [mset_ne (Ne.symm npf)] at hf; exact hf
  have st0 : VS M p f c (mset (mset M p (potL a2 c e2)) f (.lst [.tup xs, .tup (DL.cutD xs none (some (-1))), .tup (xs ++ [.int 0]), .lst xs, y, .tup [.str "chain", perD os], .tup [.str "chain", .tup (os.map fun (i : Nat) => D.int (i : Nat)).reverse]])) [.tup xs, .tup (DL.cutD xs none (some (-1))), .tup (xs ++ [.int 0]), .lst xs, y, .tup [.str "chain", perD os], .tup [.str "chain", .tup (os.map fun (i : Nat) => D.int (i : Nat)).reverse]] a2 e2 := ⟨by rw [mset_ne npf, mset_same], mset_same, fun b h1 h2 => by rw [mset_ne h2, mset_ne h1]; exact .inl rfl, hMf, npf⟩
  have ft0 : ∀ v ∈ [D.tup xs, .tup (DL.cutD xs none (some (-1))), .tup (xs ++ [.int 0]), .lst xs, y, .tup [.str "chain", perD os], .tup [.str "chain", .tup (os.map fun (i : Nat) => D.int (i : Nat)).reverse]], FitD K C ps n v := fun v hv => by
    simp only [List.mem_cons, List.not_mem_nil, or_false] at hv
    rcases hv with rfl | rfl | rfl | rfl | rfl | rfl | rfl
    · exact hT.all
    · exact hT.cut
    · exact hT.more
    · exact fd_lst _
    · exact hT.bent _ hE
    · exact chV os hos
    · rw [← List.map_reverse]
      exact chV os.reverse hosr
  generalize hvs : [D.tup xs, .tup (DL.cutD xs none (some (-1))), .tup (xs ++ [.int 0]), .lst xs, y, .tup [.str "chain", perD os], .tup [.str "chain", .tup (os.map fun (i : Nat) => D.int (i : Nat)).reverse]] = vs0 at st0 ft0
  have vl0 : vs0.length = 7 := by rw [← hvs]; rfl
  clear hvs
  have ea : ((([some (.ob p), some (.int (n : Nat)), some (.tup (ps.map pairD)), some (.tup xs), some (perD os), some (.ob f), none, none, none, none, none, none] : Rho))) = [some (.ob p), some (.int (n : Nat)), some (.tup (ps.map pairD)), some (.tup xs), some (perD os), some (.ob f), none, none, none, none, none, none] := rfl
  refine wss_stepV (R := fun ρ' M' => ∃ o6 o7 o8 o9 o10 vs a' d', ρ' = [some (.ob p), some (.int (n : Nat)), some (.tup (ps.map pairD)), some (.tup xs), some (perD os), some (.ob f), o6, o7, o8, o9, o10, none] ∧ VS M p f c M' vs a' d' ∧ (∀ v ∈ vs, FitD K C ps n v) ∧ vs.length ≤ 12 ∧ d ≤ d' ∧ d' ≤ d + 23) ?_ ?_
  · have snoc : ∀ {vs : List D} {v : D}, (∀ v ∈ vs, FitD K C ps n v) → FitD K C ps n v → ∀ u ∈ vs ++ [v], FitD K C ps n u := fun h1 h2 u hu => (List.mem_append.mp hu).elim (h1 u) fun h => by rw [List.mem_singleton.mp h]; exact h2
    rcases hT.kind with ⟨q, rfl, n2⟩ | ⟨t, as, rfl, ok, h30, hpe, hal⟩
    · refine ws_if (wt_eqS (we_ix (we_var 3 rfl (we_int ⟨0, _, rfl, ixT (atI_nat (j := 0) rfl), we_str ⟨_, rfl, ?_⟩⟩))))
      rw [show decide (("chain" : Str) = "plan") = false by decide +kernel]
      have l0 : ((n : Int)).natAbs.log2 < 1920 := by
        rw [Int.natAbs_natCast]
        exact Nat.lt_of_le_of_lt (Nat.log2_le_self n) (by omega)
      have okc := cpT_ok true n2 n30
      have nl : (toString ((n : Nat) : Int) : Str).length ≤ 2 := by
        show (Str.ofString (toString ((n : Nat) : Int))).length ≤ 2
        rw [num_S, S_len]
        exact TL.numL_len (by decide) (show n < 10 ^ 2 by omega)
      have k1 : ("{" : Str).length = 1 := by decide +kernel
      have k3 : (" 1}" : Str).length = 3 := by decide +kernel
      refine wss_cons (ws_expr (we_append (we_var 5 rfl ⟨f, _, rfl, st0.fnd, we_tup (wa_cons (we_str (wa_cons (we_plan_n F7 (hr.mono (by decide)) (we_addS (we_addS (we_str (we_strI (F.bn _ (by decide +kernel)) (we_var 1 rfl ⟨((n : Nat) : Int), rfl, l0, _, _, rfl, rfl, ?_, we_str ⟨_, _, rfl, rfl, ?_, cpT true n, cpT_tS2 n, okc.1, by rw [lv_told okc.2.1]; decide, by rw [nmT_told okc.2.1]; decide, okc.2.2, by show 1 ≤ 3; decide, by show 1 ≤ 60; decide, wa_cons (we_tupleOf (F.bn _ (by decide +kernel)) (we_lc nd (blkOk_by (N := nVals) (sc := defScope s__law_values) (own := [("_law_which", 10)]) (by decide +kernel)) (fun _ _ _ _ _ => pg_name (i := 10) nd rfl (Or.inl rfl)) (gt_name (by decide)) (fun _ _ _ _ _ => pts_nil) tk_nil (wi_range1 (F.bn _ (by decide +kernel)) (wa_cons (we_var 1 rfl (wa_nil ⟨_, rfl, by omega, by omega, ?_⟩))))))⟩⟩)))))))))⟩)))
      · omega
      · rw [show (("{" : Str) ++ (toString ((n : Nat) : Int) : Str)).length = ("{" : Str).length + (toString ((n : Nat) : Int) : Str).length from strLen_append _ _]
        omega
      rw [show ((n : Nat) : Int).toNat = n by omega]
      generalize hM2 : mset (mset M p (potL a2 c e2)) f (.lst vs0) = M2 at st0 ⊢
      refine ⟨by rw [rngD_len]; omega, fun i acc M' => M' = M2 ∧ acc = ((List.range i).map fun j => [j]).map perD, ⟨rfl, rfl⟩, ?_, ?_⟩
      · rintro i x acc M' hx ⟨rfl, rfl⟩
        obtain ⟨hi, rfl⟩ := rngD_get hx
        rw [Int.zero_add]
        intro s1 H1 C1 cl1 fp1
        exact we_tup (wa_cons (we_var 10 rfl (wa_nil ⟨sz1, rfl, by rw [List.range_succ, List.map_append, List.map_append]; rfl⟩)))
      rintro acc M' ⟨rfl, rfl⟩
      rw [rngD_len]
      refine ⟨_, .inl rfl, wa_nil ⟨z3, _, st0.fnd, by omega, ?_⟩⟩
      refine wss_nil ⟨_, _, _, _, _, _, _, _, rfl, st0.put _, snoc ft0 ?_, by rw [List.length_append, vl0]; show 7 + 1 ≤ 12; decide, by omega, by omega⟩
      rw [planN_told C okc.2.1, ps_V]
      exact fd_cl okc (by show 1 ≤ 30; decide) (pe_el ⟨by rw [List.length_map, List.length_range]; omega, fun q hq => by
        obtain ⟨j, hj, rfl⟩ := List.mem_map.mp hq
        have := List.mem_range.mp hj
        exact ⟨by simp, fun i hi => by rw [List.mem_singleton.mp hi]; omega⟩⟩)
    · refine ws_if (wt_eqS (we_ix (we_var 3 rfl (we_int ⟨0, _, rfl, ixT (atI_nat (j := 0) rfl), we_str ⟨_, rfl, ?_⟩⟩))))
      rw [decide_eq_true rfl]
      refine wss_cons (ws_par 6 7 nd (wa_cons (we_ix (we_var 3 rfl (we_int ⟨2, _, rfl, ixT (atI_nat (j := 2) rfl), wa_cons (we_listOfM (F.bn _ (by decide +kernel)) (we_ix (we_var 3 rfl (we_int ⟨2, _, rfl, ixT (atI_nat (j := 2) rfl), _, .inr rfl, fun r hr0 => wa_nil ⟨_, _, rfl, ?_⟩⟩))))⟩)))))
      obtain ⟨rp, rf, hMr⟩ := st0.fresh hr0
      have st1 := st0.other rp rf hMr (.lst (as.map perD))
      refine wss_cons (ws_par 8 9 nd (wa_cons (we_call F0 (hr.mono (by decide)) (wa_cons (we_var 0 rfl (wa_cons (we_var 1 rfl (wa_nil ⟨rfl, p, _, a2, c, e2, rfl, by omega, by omega, st1.pot, co, by omega, by omega, fun x1 a3 e3 x10 x1n j5 j6 => wa_cons (we_call F0 (hr.mono (by decide)) (wa_cons (we_var 0 rfl (wa_cons (we_var 1 rfl (wa_nil ⟨rfl, p, _, a3, c, e3, rfl, by omega, by omega, mset_same, co, by omega, by omega, fun x2 a4 e4 x20 x2n j7 j8 => wa_nil ⟨_, _, rfl, ?_⟩⟩))))))⟩))))))))
      rw [mset_mset]
      have st2 := st1.draw a4 e4
      obtain ⟨i1, rfl⟩ := Int.eq_ofNat_of_zero_le x10
      obtain ⟨i2, rfl⟩ := Int.eq_ofNat_of_zero_le x20
      have hi1 : i1 < n := by omega
      have hi2 : i2 < n := by omega
      obtain ⟨p1, hp1⟩ : ∃ p1, as[i1]? = some p1 := ⟨_, List.getElem?_eq_getElem (by omega)⟩
      obtain ⟨p2, hp2⟩ : ∃ p2, as[i2]? = some p2 := ⟨_, List.getElem?_eq_getElem (by omega)⟩
      have ix : ∀ {M : Mp} {k : Nat} {x : List Nat}, as[k]? = some x → IxD M (.tup (as.map perD)) (k : Int) (perD x) := fun {M k x} h => ixT (atI_nat (by rw [List.getElem?_map, h]; rfl))
      have hr1 : mset (mset (mset (mset M p (potL a2 c e2)) f (.lst vs0)) r (.lst (as.map perD))) p (potL a4 c e4) r = some (.lst (as.map perD)) := by rw [mset_ne rp, mset_same]
      generalize hM2 : mset (mset (mset (mset M p (potL a2 c e2)) f (.lst vs0)) r (.lst (as.map perD))) p (potL a4 c e4) = M2 at st2 hr1 ⊢
      have inN : ∀ {l : List (List Nat)} {k : Nat}, l.length = n → k < n → ixN (l.map perD).length ((k : Nat) : Int) = some k := fun {l k} h1 h2 => by
        unfold ixN
        simp only [Int.toNat_natCast, List.length_map]
        rw [if_pos (by omega), if_pos (by omega)]
      refine wss_cons (ws_asg (we_ix (we_var 6 rfl (we_var 9 rfl ⟨_, _, rfl, ix hp2, wg_sub (we_var 7 rfl (we_var 8 rfl ⟨r, _, _, i1, rfl, rfl, hr1, inN hal hi1, ?_⟩))⟩))))
      rw [← List.map_set]
      refine wss_cons (ws_asg (we_ix (we_var 6 rfl (we_var 8 rfl ⟨_, _, rfl, ix hp1, wg_sub (we_var 7 rfl (we_var 9 rfl ⟨r, _, _, i2, rfl, rfl, mset_same, inN (by rw [List.length_set]; exact hal) hi2, ?_⟩))⟩))))
      rw [← List.map_set, mset_mset]
      have hms : ∀ x ∈ (as.set i1 p2).set i2 p1, x ∈ as := fun x hx => by
        rcases List.mem_or_eq_of_mem_set hx with hx | e
        · rcases List.mem_or_eq_of_mem_set hx with hx | e
          · exact hx
          · rw [e]; exact List.mem_of_getElem? hp2
        · rw [e]; exact List.mem_of_getElem? hp1
      have hml : ((as.set i1 p2).set i2 p1).length ≤ 31 := by rw [List.length_set, List.length_set]; omega
      generalize (as.set i1 p2).set i2 p1 = ms at hms hml ⊢
      have st3 := st2.other rp rf hMr (.lst (ms.map perD))
      have hr3 : mset M2 r (.lst (ms.map perD)) r = some (.lst (ms.map perD)) := mset_same
      clear hr1 st1 st0
      generalize mset M2 r (.lst (ms.map perD)) = M3 at st3 hr3 ⊢
      clear st2
      have lng : ∀ k, vs0.length + k ≤ 12 → vs0.length + k < sizeLine := fun k h => by omega
      -- exchanged
      refine wss_cons (ws_expr (we_append (we_var 5 rfl ⟨f, _, rfl, st3.fnd, we_tup (wa_cons (we_str (wa_cons (we_ix (we_var 3 rfl (we_int ⟨1, _, rfl, ixT (atI_nat (j := 1) rfl), wa_cons (we_tupleOf (F.bn _ (by decide +kernel)) (we_var 7 rfl ⟨_, .inl hr3, wa_nil ⟨z3, _, st3.fnd, by omega, ?_⟩⟩))⟩))))))⟩)))
      have st4 := st3.put (vs0 ++ [.tup [.str "plan", planD C t, .tup (ms.map perD)]])
      have ft4 := snoc ft0 (show FitD K C ps n (.tup [.str "plan", planD C t, .tup (ms.map perD)]) from fd_told ok h30 (hpe.of hml hms))
      clear hr3
      have vl4 : (vs0 ++ [D.tup [.str "plan", planD C t, .tup (ms.map perD)]]).length = 8 := by rw [List.length_append, vl0]; rfl
      generalize vs0 ++ [D.tup [.str "plan", planD C t, .tup (ms.map perD)]] = vs4 at st4 ft4 vl4 ⊢
      generalize mset M3 f (.lst vs4) = M4 at st4 ⊢
      clear st3
      -- turned about
      refine wss_cons (ws_expr (we_append (we_var 5 rfl ⟨f, _, rfl, st4.fnd, we_tup (wa_cons (we_str (wa_cons (we_ix (we_var 3 rfl (we_int ⟨1, _, rfl, ixT (atI_nat (j := 1) rfl), wa_cons (we_addT (we_slice (we_var 6 rfl (we_negI (we_int ⟨1, rfl, _, rfl, _, .inr (.inl ⟨_, rfl, rfl⟩), we_slice (we_var 6 rfl (we_int ⟨1, rfl, _, .inr (.inl ⟨_, rfl, rfl⟩), _, _, rfl, rfl, ?_, wa_nil ⟨z3, _, st4.fnd, by omega, ?_⟩⟩))⟩)))))⟩))))))⟩)))
      · have h1 := cut_len (as.map perD) none (some (-1))
        have h2 := cut_len (as.map perD) none (some 1)
        have := hpe.len
        rw [List.length_map] at h1 h2
        omega
      rw [cut_map, cut_map, ← List.map_append]
      have hl5 : (DL.cutD as none (some (-1)) ++ DL.cutD as none (some 1)).length ≤ 31 := by
        rw [List.length_append]
        have h1 := cut_len as none (some (-1))
        have h2 : (DL.cutD as none (some ((1 : Nat) : Int))).length ≤ 1 := by rw [cut_to as 1, List.length_take]; omega
        have h2 : (DL.cutD as none (some 1)).length ≤ 1 := h2
        omega
      have hm5 : ∀ x ∈ DL.cutD as none (some (-1)) ++ DL.cutD as none (some 1), x ∈ as := fun x hx => (List.mem_append.mp hx).elim cut_mem cut_mem
      generalize DL.cutD as none (some (-1)) ++ DL.cutD as none (some 1) = bs at hl5 hm5 ⊢
      have st5 := st4.put (vs4 ++ [.tup [.str "plan", planD C t, .tup (bs.map perD)]])
      have ft5 := snoc ft4 (show FitD K C ps n (.tup [.str "plan", planD C t, .tup (bs.map perD)]) from fd_told ok h30 (hpe.of hl5 hm5))
      have vl5 : (vs4 ++ [D.tup [.str "plan", planD C t, .tup (bs.map perD)]]).length = 9 := by rw [List.length_append, vl4]; rfl
      generalize vs4 ++ [D.tup [.str "plan", planD C t, .tup (bs.map perD)]] = vs5 at st5 ft5 vl5 ⊢
      generalize mset M4 f (.lst vs5) = M5 at st5 ⊢
      clear st4
      -- another plan
      have hm2 : ∃ m : Nat, (if ((n : Nat) : Int) > 2 then ((n : Nat) : Int) else 2) = (m : Nat) ∧ 2 ≤ m ∧ m ≤ 30 := by
        by_cases h : ((n : Nat) : Int) > 2
        · exact ⟨n, by rw [if_pos h], by omega, n30⟩
        · exact ⟨2, by rw [if_neg h]; rfl, by omega, by omega⟩
      obtain ⟨k, ek, k2, k30⟩ := hm2
      have l0 : ((k : Int)).natAbs.log2 < 1920 := by
        rw [Int.natAbs_natCast]
        exact Nat.lt_of_le_of_lt (Nat.log2_le_self k) (by omega)
      have okc := cpT_ok false k2 k30
      have nl : (toString ((k : Nat) : Int) : Str).length ≤ 2 := by
        show (Str.ofString (toString ((k : Nat) : Int))).length ≤ 2
        rw [num_S, S_len]
        exact TL.numL_len (by decide) (show k < 10 ^ 2 by omega)
      have k1 : ("[" : Str).length = 1 := by decide +kernel
      have k3 : (" 1]" : Str).length = 3 := by decide +kernel
      refine wss_cons (ws_expr (we_append (we_var 5 rfl ⟨f, _, rfl, st5.fnd, we_tup (wa_cons (we_str (wa_cons (we_plan_n F7 (hr.mono (by decide)) (we_addS (we_addS (we_str (we_strI (F.bn _ (by decide +kernel)) (we_max2 (F.bn _ (by decide +kernel)) (we_int (we_var 1 rfl ⟨2, ((n : Nat) : Int), rfl, rfl, ((k : Nat) : Int), by rw [ek], l0, _, _, rfl, rfl, ?_, we_str ⟨_, _, rfl, rfl, ?_, cpT false k, cpT_tS k, okc.1, by rw [lv_told okc.2.1]; decide, by rw [nmT_told okc.2.1]; decide, okc.2.2, by show 1 ≤ 3; decide, by show 1 ≤ 60; decide, wa_cons (we_var 6 rfl (wa_nil ⟨z3, _, st5.fnd, by omega, ?_⟩))⟩⟩)))))))))))⟩)))
      · omega
      · rw [show (("[" : Str) ++ (toString ((k : Nat) : Int) : Str)).length = ("[" : Str).length + (toString ((k : Nat) : Int) : Str).length from strLen_append _ _]
        omega
      rw [planN_told C okc.2.1]
      have st6 := st5.put (vs5 ++ [.tup [.str "plan", planD C (cpT false k), .tup (as.map perD)]])
      have ft6 := snoc ft5 (show FitD K C ps n (.tup [.str "plan", planD C (cpT false k), .tup (as.map perD)]) from fd_told okc (by show 1 ≤ 30; decide) hpe)
      have vl6 : (vs5 ++ [D.tup [.str "plan", planD C (cpT false k), .tup (as.map perD)]]).length = 10 := by rw [List.length_append, vl5]; rfl
      generalize vs5 ++ [D.tup [.str "plan", planD C (cpT false k), .tup (as.map perD)]] = vs6 at st6 ft6 vl6 ⊢
      generalize mset M5 f (.lst vs6) = M6 at st6 ⊢
      clear st5
      -- a plan with a name
      have exT : D.str ("x" : Str) = tS (txt xT) := by rw [show ("x" : Str) = S [120] by decide +kernel]; rfl
      refine wss_cons (ws_expr (we_append (we_var 5 rfl ⟨f, _, rfl, st6.fnd, we_tup (wa_cons (we_str (wa_cons (we_plan_n F7 (hr.mono (by decide)) (we_str ⟨xT, exT, xT_ok.1, by decide +kernel, by decide +kernel, by decide +kernel, by show 0 ≤ 3; decide, by show 0 ≤ 60; decide, wa_cons (we_var 6 rfl (wa_nil ⟨z3, _, st6.fnd, by omega, ?_⟩))⟩)))))⟩)))
      have st7 := st6.put (vs6 ++ [.tup [.str "plan", planN C xT, .tup (as.map perD)]])
      have ft7 := snoc ft6 (show FitD K C ps n (.tup [.str "plan", planN C xT, .tup (as.map perD)]) by rw [ps_V]; exact fd_opn xT_ok.1 xT_ok.2 (pe_el hpe))
      have vl7 : (vs6 ++ [D.tup [.str "plan", planN C xT, .tup (as.map perD)]]).length = 11 := by rw [List.length_append, vl6]; rfl
      generalize vs6 ++ [D.tup [.str "plan", planN C xT, .tup (as.map perD)]] = vs7 at st7 ft7 vl7 ⊢
      generalize mset M6 f (.lst vs7) = M7 at st7 ⊢
      clear st6
      -- its text
      refine wss_cons (ws_expr (we_append (we_var 5 rfl ⟨f, _, rfl, st7.fnd, we_tup (wa_cons (we_str (wa_cons (we_prop F8 (hr.mono (by decide)) (we_ix (we_var 3 rfl (we_int ⟨1, _, rfl, ixT (atI_nat (j := 1) rfl), _, insP ok.2.1, t, rfl, ok, wa_cons (we_var 6 rfl (wa_nil ⟨z3, _, st7.fnd, by omega, ?_⟩))⟩)))))))⟩)))
      refine wss_nil ⟨_, _, _, _, _, _, _, _, rfl, st7.put _, snoc ft7 ?_, by rw [List.length_append, vl7]; show 11 + 1 ≤ 12; decide, by omega, by omega⟩
      have e := fd_av (K := K) (C := C) (ps := ps) (n := n) (.str (S (txt t))) (v := .tup (as.map persV)) (pe_el hpe)
      rw [← ps_V, show avD (.str (S (txt t))) = tS (txt t) by rw [avD]] at e
      exact e
  · rintro ρ' M' ⟨o6, o7, o8, o9, o10, vs, a', d', rfl, st, ft, hvl, q1, q2⟩
    have lch := c1_len (knP ps) n (bothE ps)
    refine wss_cons (ws_for PassesOwn.never (wi_list (we_slice (we_call F6 (hr.mono (by decide)) (wa_cons (we_var 1 rfl (wa_cons (we_var 2 rfl (wa_nil ⟨rfl, n, ps, rfl, n30, hp, we_int ⟨2, rfl, _, .inl ⟨_, rfl, rfl⟩, _, .inl rfl, ?_⟩⟩)))))))))
    rw [show (2 : Int) = ((2 : Nat) : Int) from rfl, cut_to _ 2]
    refine ⟨fun i ρ' M2 => i ≤ 2 ∧ ∃ o11 vs2, ρ' = [some (.ob p), some (.int (n : Nat)), some (.tup (ps.map pairD)), some (.tup xs), some (perD os), some (.ob f), o6, o7, o8, o9, o10, o11] ∧ VS M p f c M2 vs2 a' d' ∧ (∀ v ∈ vs2, FitD K C ps n v) ∧ vs2.length ≤ 12 + 4 * i, ⟨by decide, _, vs, rfl, st, ft, by omega⟩, ?_, ?_⟩
    · rintro i x ρ' M2 hx ⟨_, o11, vs2, rfl, st2, ft2, hl2⟩
      have hi2 : i < 2 := by
        have := (List.getElem?_eq_some_iff.mp hx).1
        rw [List.length_take] at this
        omega
      have hx := List.mem_of_mem_take (List.mem_of_getElem? hx)
      obtain ⟨q, hq, rfl⟩ := List.mem_map.mp hx
      have hch := (chains_iff hp).mp hq
      have hpq := ch_pe n30 hch
      have hrp := pe_rp hpq (q4 q) (List.mem_singleton.mpr rfl)
      refine wg_name 11 ?_ nd
      refine wss_cons (ws_expr (we_extend (we_var 5 rfl ⟨f, _, rfl, st2.fnd, we_lst (wa_cons (we_tup (wa_cons (we_str (wa_cons (we_var 11 rfl (wa_nil ⟨z2, wa_cons (we_tup (wa_cons (we_str (wa_cons (we_listOf (F.bn _ (by decide +kernel)) (we_var 11 rfl ⟨_, .inr rfl, wa_nil ⟨z2, wa_cons (we_tup (wa_cons (we_str (wa_cons (we_var 11 rfl (wa_nil ⟨z2, wa_cons (we_tup (wa_cons (we_str (wa_cons (we_addT (we_slice (we_var 11 rfl (we_int ⟨1, rfl, _, .inr (.inl ⟨_, rfl, rfl⟩), we_slice (we_var 11 rfl (we_int ⟨1, rfl, _, .inr (.inl ⟨_, rfl, rfl⟩), _, _, rfl, rfl, ?_, wa_nil ⟨z2, wa_nil ⟨by show 4 ≤ sizeLine; omega, _, _, st2.fnd, rfl, ?_, ?_⟩⟩⟩))⟩))))))))⟩))))))⟩⟩))))))⟩)))))))⟩)))
      · show 4 ≤ sizeLine; omega
      · show _ + 4 ≤ sizeLine; omega
      refine wss_nil ⟨by omega, _, _, rfl, st2.put _, fun v hv => ?_, by rw [List.length_append]; show _ + 4 ≤ _; omega⟩
      rcases List.mem_append.mp hv with hv | hv
      · exact ft2 v hv
      simp only [List.mem_cons, List.not_mem_nil, or_false] at hv
      rcases hv with rfl | rfl | rfl | rfl
      · exact fd_chl q hpq
      · have hg : AvG (.lst ((q4 q).map natV)) := by
          have h0 : AvG (.tup ((q4 q).map natV)) := hrp.1
          rw [AvG] at h0
          rw [AvG]; exact h0
        have e : D.lst [.int (q.1 : Nat), .int (q.2.1 : Nat), .int (q.2.2.1 : Nat), .int (q.2.2.2 : Nat)] = avD (.lst ((q4 q).map natV)) := by
          rw [avD_lst, List.map_map]; rfl
        rw [e]
        have h1 := pv_dp (q4 q)
        have h2 := pv_ln (q4 q)
        unfold persV at h1 h2
        rw [avDp] at h1
        rw [avLn] at h2
        exact fd_ch _ hg (rp_of hg (by rw [avDp]; omega) (by rw [avLn, h2, sizeLine_eq]; show 43 * 4 + 3 ≤ 16777216; decide))
      · exact fd_p _ (by simp)
      · exact chV [q.2.1, q.2.2.1, q.2.2.2, q.1] ⟨by show 1 ≤ 31; decide, fun z hz => by
          rw [List.mem_singleton.mp hz]
          refine ⟨by show 4 ≤ 31; decide, fun i hi => ?_⟩
          have := (hpq.per (q4 q) (List.mem_singleton.mpr rfl)).2
          simp only [List.mem_cons, List.not_mem_nil, or_false] at hi
          rcases hi with rfl | rfl | rfl | rfl
          · exact this _ (by unfold q4; simp)
          · exact this _ (by unfold q4; simp)
          · exact this _ (by unfold q4; simp)
          · exact this _ (by unfold q4; simp)⟩
    · rintro ρ' M2 ⟨hi, o11, vs2, rfl, st2, ft2, hl2⟩
      refine wss_letN (ρ' := [some (.ob p), none, none, none, none, some (.lst vs2), none, none, none, none, none, none]) st2.done (.val (.of (.same _)) (.drop (.drop (.drop (.drop (.val (.of (.lst st2.fnd (by rw [mset_ne (Ne.symm st2.ne)]; exact st2.nf))) (.drop (.drop (.drop (.drop (.drop (.drop .nil)))))))))))) ?_
      refine wss_cons (ws_ret (we_addL (we_var 5 rfl (we_lst (wa_cons (we_call F3 (hr.mono (by decide)) (wa_cons (we_var 0 rfl (wa_nil ⟨rfl, p, a', c, d', rfl, mset_same, co, by omega, by omega, fun v a9 d9 hv k1 k2 => wa_nil ⟨sz1, _, _, rfl, rfl, ?_, Lets.of ?_⟩⟩)))))))))
      · show _ + 1 ≤ sizeLine; omega
      rw [mset_mset]
      refine hc _ a9 d9 (fun u hu => ?_) (by rw [List.length_append]; show _ + 1 ≤ 60; omega) (by omega) (by omega)
      rcases List.mem_append.mp hu with hu | hu
      · exact ft2 u hu
      · rw [List.mem_singleton.mp hu]; exact fd_odd v hv
end
end W
namespace W
open PySem PySem.Spec PyProof.Rows L2 DL SX PL SlX
theorem rp_blB (b : Bool) : RpD (.bl b) := rp_of (v := .bl b) trivial (by rw [avDp]; decide) (by rw [avLn, sizeLine_eq]; decide)
section
variable {P : Program} {w : World} {K : PySem.W.Frag} {mg : Str → Option Value} {base : Heap} {C R U V : Addr}
def cRight50 : Con := fun ds M Φ => ∃ (p : Addr) (a c d : Int), ds = [.ob p] ∧ M p = some (potL a c d) ∧ cOk c ∧ 0 ≤ d ∧ d + 3100 < 100000 ∧ ∀ a' d', d ≤ d' → d' ≤ d + 3100 → Φ (.bl true) (mset M p (potL a' c d'))
abbrev nRight50 : List Str := ["_law_pot_here", "_law_many", "_law_pairs", "_law_web_here", "_law_value"]
theorem ok_right50 (F : Fx w K mg) (gR : mg "repr" = none) (XO : OwnC K C) (hkS : PySem.W.kitOne K (.ref C) (.type "str") = some false) (F1 : Fc P w K mg base "_law_web" [] 14 2 cWebD) (F2 : Kc P w K mg base "Web" R [] 3 3 (cWebInit R)) (F3 : Fc P w K mg base "told_back" [] 95 1 (cTold2 C R)) (F4 : Fc P w K mg base "_law_values" [] 14 4 (cVals K C))
    (F5 : Fc P w K mg base "shows_told_back" [] 6 2 (cShowsA C R K)) (F6 : Gc P w K mg base "_law_is_due" 6 3 (cIsDue C K)) :
    BodyG P w K mg base "_law_right" s__law_right nRight50 1 95 cRight50 := by
  intro f cdv A outer s H E hg hr ds M Φ hl hc
  obtain ⟨p, a, c, d, rfl, hM, co, d0, d1, hc⟩ := hc
  have nd : nRight50.Nodup := by decide +kernel
  refine wss_cons (ws_asg (we_call F1 (hr.mono (by decide)) (wa_cons (we_var 0 rfl (wa_cons (we_int (wa_nil ⟨rfl, p, 9, a, c, d, rfl, by decide, by decide, hM, co, d0, by omega, fun n ps a' d' n1 nm hp k1 k2 => ?_⟩)))))))
  refine wg_tup ⟨rfl, rfl, wgs_cons (wg_name 1 (wgs_cons (wg_name 2 (wgs_nil ⟨rfl, ?_⟩) nd)) nd)⟩
  have n30 : n ≤ 30 := Nat.le_trans nm (by decide)
  refine wss_cons (ws_set 3 nd (we_web F2 (hr.mono (by decide)) (wa_cons (we_var 1 rfl (wa_cons (we_var 2 rfl (wa_nil ⟨n, ps, rfl, n1, n30, hp, ?_⟩)))))))
  have hM1 : mset M p (potL a' c d') p = some (potL a' c d') := mset_same
  refine wss_cons (ws_for PassesOwn.never (wi_list (we_call F4 (hr.mono (by decide)) (wa_cons (we_var 0 rfl (wa_cons (we_var 1 rfl (wa_cons (we_var 2 rfl (wa_cons (we_call F3 (hr.mono (by decide)) (wa_cons (we_var 3 rfl (wa_nil ⟨rfl, n, ps, rfl, n1, n30, hp, fun q ch => wa_nil ⟨rfl, p, n, ps, _, a', c, d', rfl, n1, n30, hp, tb_chain hp n30 ch, hM1, co, by omega, by omega, ?_⟩, fun t as to => wa_nil ⟨rfl, p, n, ps, _, a', c, d', rfl, n1, n30, hp, tb_told XO hkS n30 to, hM1, co, by omega, by omega, ?_⟩⟩))))))))))))))
  all_goals
    intro vs a2 d2 hv hvl k3 k4
    rw [mset_mset]
    refine ⟨_, .inl rfl, fun i ρ' M' => M' = mset M p (potL a2 c d2) ∧ ∃ o4, ρ' = [some (.ob p), some (.int (n : Nat)), some (.tup (ps.map pairD)), some (webD R n ps), o4], ⟨rfl, _, rfl⟩, ?_, ?_⟩
    · rintro i x ρ' M' hx ⟨rfl, o4, rfl⟩
      obtain ⟨b, hb⟩ := hv x (List.mem_of_getElem? hx)
      refine wg_name 4 ?_ nd
      refine wss_cons (ws_if (wt_neS (we_reprV gR hg hr.units (we_call F5 (hr.mono (by decide)) (wa_cons (we_var 3 rfl (wa_cons (we_var 4 rfl (wa_nil ⟨rfl, n, ps, x, b, rfl, n30, hp, hb, .bl b, by rw [avD], rp_blB b, we_reprV gR hg hr.units (we_callG F6 hg (hr.mono (by decide)) (wa_cons (we_var 1 rfl (wa_cons (we_var 2 rfl (wa_cons (we_var 4 rfl (wa_nil ⟨rfl, n, ps, x, b, rfl, n30, hp, hb, .bl b, by rw [avD], rp_blB b, true, (decide_eq_true rfl).symm, wss_nil (wss_nil ⟨rfl, _, rfl⟩)⟩))))))))⟩)))))))))
    · rintro ρ' M' ⟨rfl, o4, rfl⟩
      exact wss_cons (ws_ret (we_bl (Lets.of (hc a2 d2 (by omega) (by omega)))))
def cLaw : Con := fun ds M Φ => ∃ ns, ds = [scrD ns] ∧ ∀ M', Φ (.bl true) M'
abbrev nLaw : List Str := ["_law_script", "_law_place", "_law_pot_here", "_law_lap"]
theorem ok_law50 (F : Fx w K mg) (F1 : Fc P w K mg base "_law_cells" [] 1 2 cCells) (F2 : Fc P w K mg base "_law_pot" [] 1 2 cPot) (F3 : Gc P w K mg base "_law_right" 96 1 cRight50) : BodyG P w K mg base "law" s_law nLaw 1 96 cLaw := by
  intro f cdv A outer s H E hgd hr ds M Φ hl hc
  obtain ⟨ns, rfl, hc⟩ := hc
  have nd : nLaw.Nodup := by decide +kernel
  refine wss_cons (ws_for PassesOwn.never (wi_list (we_call F1 (hr.mono (by decide)) (wa_cons (we_var 0 rfl (wa_cons (we_int (wa_nil ⟨rfl, ns, 4, rfl, by decide, by decide, fun n hn => ⟨_, .inl rfl, ?_⟩⟩))))))))
  refine ⟨fun i ρ' M' => ∃ o1 o2 o3, ρ' = [some (scrD ns), o1, o2, o3], ⟨none, none, none, rfl⟩, ?_, ?_⟩
  · rintro i x ρ' M' hx ⟨o1, o2, o3, rfl⟩
    obtain ⟨hi, rfl⟩ := rngD_get hx
    refine wg_name 1 ?_ nd
    refine wss_cons (ws_set 2 nd (we_call F2 (hr.mono (by decide)) (wa_cons (we_var 0 rfl (wa_cons (we_var 1 rfl (wa_nil ⟨rfl, ns, i, by rw [Int.zero_add]; rfl, by omega, ?_⟩)))))))
    intro p a c hp co
    refine wss_cons (ws_if (wt_not (wt_val (we_all (F.bn _ (by decide +kernel)) (we_lc nd (blkOk_by (N := nLaw) (sc := defScope s_law) (own := [("_law_lap", 3)]) (by decide +kernel)) (fun _ _ _ _ _ => pg_name (i := 3) nd rfl (Or.inl rfl)) (gt_name (by decide)) (fun _ _ _ _ _ => pts_nil) tk_nil (wi_range1 (F.bn _ (by decide +kernel)) (wa_cons (we_int (wa_nil ⟨_, rfl, by decide, by decide, ?_⟩)))))))))
    refine ⟨by rw [rngD_len]; decide, fun k acc M2 => k ≤ 3 ∧ acc = (List.replicate k true).map D.bl ∧ ∃ a' d', M2 p = some (potL a' c d') ∧ 0 ≤ d' ∧ d' ≤ 3100 * (k : Nat), ⟨by decide, rfl, a, 0, mset_same, by omega, by omega⟩, ?_, ?_⟩
    · rintro k x acc M2 hx ⟨k3, rfl, a', d', hM2, q0, q1⟩
      obtain ⟨hk, rfl⟩ := rngD_get hx
      have hk : k < 3 := hk
      intro s' H' C' cl' fp'
      refine we_callG F3 hgd (hr.mono (by decide)) (wa_cons (we_var 2 rfl (wa_nil ⟨rfl, p, a', c, d', rfl, hM2, co, q0, by omega, fun a2 d2 l1 l2 => ?_⟩)))
      exact ⟨hk, by rw [List.replicate_succ', List.map_append]; rfl, a2, d2, mset_same, by omega, by omega⟩
    · rintro acc M2 ⟨k3, rfl, a', d', hM2, q0, q1⟩
      rw [rngD_len]
      exact ⟨_, rfl, _, rfl, wss_nil (wss_nil ⟨_, _, _, rfl⟩)⟩
  · rintro ρ' M' ⟨o1, o2, o3, rfl⟩
    exact wss_cons (ws_ret (we_bl (Lets.of (hc _))))
end
end W
namespace W
open PySem PySem.Spec PyProof.Rows L2 DL He HK
section
variable {P : Program} {w : World} {K : PySem.W.Frag} {mg : Str → Option Value} {base h : Heap}
theorem mkFx (X : K.In h) (G : h.Ns mainGlobals mg) (c : Says spec w K) : Fx w K mg where
  bn := fun x hx => free_ok X G (c.fa (mem_bn hx))
  gONE := str_ok X G (c.fa (f := .str "ONE" "one") (mem_co 0 rfl))
  gNAME := str_ok X G (c.fa (f := .str "NAME" "name") (mem_co 1 rfl))
  gBESIDE := str_ok X G (c.fa (f := .str "BESIDE" "beside") (mem_co 2 rfl))
  gINTRODUCED := str_ok X G (c.fa (f := .str "INTRODUCED" "introduced") (mem_co 3 rfl))
  gBLANK := str_ok X G (c.fa (f := .str "BLANK" " ") (mem_co 4 rfl))
  gLETTERS := str_ok X G (c.fa (f := .str "LETTERS" "abcdefghijklmnopqrstuvwxyz") (mem_co 5 rfl))
  gFIGURES := str_ok X G (c.fa (f := .str "FIGURES" "0123456789") (mem_co 6 rfl))
  gMOST_LETTERS := int_ok X G (c.fa (f := .int "MOST_LETTERS" 8) (mem_co 7 rfl))
  gPERSON := str_ok X G (c.fa (f := .str "PERSON" "1") (mem_co 8 rfl))
  gLEAST_MANY := int_ok X G (c.fa (f := .int "LEAST_MANY" 2) (mem_co 9 rfl))
  gMOST_MANY := int_ok X G (c.fa (f := .int "MOST_MANY" (10 ^ 30)) (mem_co 10 rfl))
  gMOST_NAMES := int_ok X G (c.fa (f := .int "MOST_NAMES" 3) (mem_co 11 rfl))
  gMOST_DEPTH := int_ok X G (c.fa (f := .int "MOST_DEPTH" 60) (mem_co 12 rfl))
  gSIGNS := let ⟨kvs, h1, h2⟩ := c.ta 0 (x := "SIGNS") (qs := tSigns) rfl (by decide +kernel); ⟨_, kvs, glo_ok X G (c.fa (f := .glo "SIGNS") (mem_glo (by decide +kernel))), h1, h2⟩
  gAROUND := let ⟨kvs, h1, h2⟩ := c.ta 1 (x := "AROUND") (qs := tAround) rfl (by decide +kernel); ⟨_, kvs, glo_ok X G (c.fa (f := .glo "AROUND") (mem_glo (by decide +kernel))), h1, h2⟩
  gTURNED := let ⟨kvs, h1, h2⟩ := c.ta 2 (x := "TURNED") (qs := tTurned) rfl (by decide +kernel); ⟨_, kvs, glo_ok X G (c.fa (f := .glo "TURNED") (mem_glo (by decide +kernel))), h1, h2⟩
theorem mkPx (X : K.In h) (G : h.Ns mainGlobals mg) (c : Says spec w K) : Px K mg (ga K "Plan") where
  at_ := glo_ok X G (c.fa (f := .glo "Plan") (mem_glo (by decide +kernel)))
  cl := cls_ok (c.fa (f := .cls "Plan") (mem_co 13 rfl))
  na := fun f hf => noat_ok (c.fa (mem_na hf))
  init := ⟨_, mkr_ok (c.fa (f := .mkr "Plan") (mem_co 15 rfl)), ⟨c.dd 1 rfl⟩⟩
  text := ⟨_, _, propB_ok (c.pr (q := ("Plan", "text")) (by decide +kernel)), ⟨c.dd 2 rfl⟩⟩
  names := ⟨_, _, propB_ok (c.pr (q := ("Plan", "names")) (by decide +kernel)), ⟨c.dd 3 rfl⟩⟩
  word := ⟨_, _, propB_ok (c.pr (q := ("Plan", "word")) (by decide +kernel)), ⟨c.dd 4 rfl⟩⟩
  many := ⟨_, _, propB_ok (c.pr (q := ("Plan", "many")) (by decide +kernel)), ⟨c.dd 5 rfl⟩⟩
  invert := ⟨_, meth_ok (c.fa (f := .meth "Plan" "__invert__") (mem_co 14 rfl)), ⟨c.dd 7 rfl⟩⟩
theorem mkDf (X : K.In h) (G : h.Ns mainGlobals mg) (c : Says spec w K) (i : Nat) {x : Str} {st : Stmt} (hd : dds[i]? = some (gl x st)) (hx : x ∈ globsA) : Df K mg x st [] :=
  let ⟨fd, F⟩ := c.dd i hd
  ⟨_, fd, F, glo_ok X G (c.fa (mem_glo hx))⟩
theorem mkQx (X : K.In h) (G : h.Ns mainGlobals mg) (c : Says spec w K) : Qx K mg (ga K "Web") where
  at_ := glo_ok X G (c.fa (f := .glo "Web") (mem_glo (by decide +kernel)))
  cl := cls_ok (c.fa (f := .cls "Web") (mem_co 22 rfl))
  na := fun f hf => by
    rcases List.mem_cons.mp hf with rfl | hf
    · exact noat_ok (c.fa (f := .noat "Web" "own_many") (mem_co 23 rfl))
    rcases List.mem_cons.mp hf with rfl | hf
    · exact noat_ok (c.fa (f := .noat "Web" "own_pairs") (mem_co 24 rfl))
    rw [List.mem_singleton.mp hf]; exact noat_ok (c.fa (f := .noat "Web" "own_friends") (mem_co 25 rfl))
  init := ⟨_, mkr_ok (c.fa (f := .mkr "Web") (mem_co 26 rfl)), ⟨c.dd 9 rfl⟩⟩
  many := ⟨_, _, propB_ok (c.pr (q := ("Web", "many")) (by decide +kernel)), ⟨c.dd 11 rfl⟩⟩
  pairs := ⟨_, _, propB_ok (c.pr (q := ("Web", "pairs")) (by decide +kernel)), ⟨c.dd 12 rfl⟩⟩
theorem mkRx (X : K.In h) (G : h.Ns mainGlobals mg) (c : Says spec w K) : Rx K mg (ga K "Reading") where
  at_ := glo_ok X G (c.fa (f := .glo "Reading") (mem_glo (by decide +kernel)))
  cl := cls_ok (c.fa (f := .cls "Reading") (mem_co 27 rfl))
  na := fun f hf => by
    rcases List.mem_cons.mp hf with rfl | hf
    · exact noat_ok (c.fa (f := .noat "Reading" "own_reading") (mem_co 28 rfl))
    rcases List.mem_cons.mp hf with rfl | hf
    · exact noat_ok (c.fa (f := .noat "Reading" "own_persons") (mem_co 29 rfl))
    rw [List.mem_singleton.mp hf]; exact noat_ok (c.fa (f := .noat "Reading" "own_chain") (mem_co 30 rfl))
  init := ⟨_, mkr_ok (c.fa (f := .mkr "Reading") (mem_co 31 rfl)), ⟨c.dd 10 rfl⟩⟩
  read := ⟨_, meth_ok (c.fa (f := .meth "Reading" "read") (mem_co 32 rfl)), ⟨c.dd 8 rfl⟩⟩
theorem chain {C : Addr} {f : Addr} {fd : FuncData} (F : Fx w K mg) (X : Px K mg C) (X_people : ∃ p f, PropOf K C "people" p f ∧ Md K C "people" "Plan.people" s_Plan_people f) {RF : Addr} (XR : Qx K mg RF) {RG : Addr} (XG : Rx K mg RG) (gi2 : ∃ t, mg "PAIR" = some (.int 2 t)) (gi3 : ∃ t, mg "TRIPLE" = some (.int 3 t)) (gi4 : ∃ t, mg "QUARTET" = some (.int 4 t)) (gW : ∃ t, mg "MOST_WEB" = some (.int 30 t)) (gP : ∃ t, mg "PLAN" = some (.str "plan" t)) (gC : ∃ t, mg "CHAIN" = some (.str "chain" t)) (XE : KiT K C ∧ OwnC K C ∧ PySem.W.findIn K (.ref C) "__ne__" = some (some (.builtin "object.__ne__"))) (DI : Df K mg "is_integer" s_is_integer [.non, .non]) (D : ∀ (i : Nat) {x : Str} {st : Stmt}, dds[i]? = some (gl x st) → x ∈ globsA → Df K mg x st [])
    (L : FunD K "law" "law" (defArgs s_law) (defBody s_law) (defScope s_law) [] [] f fd) : FnG P w K mg base 97 f fd ["_law_script"] (spD K 1 cLaw) := by
  have FI : Fc P w K mg base "is_integer" [] 1 3 cIsInt := DI.fcD (N := ["value", "low", "high"]) (ps := ["value", "low", "high"]) ⟨rfl, rfl, rfl, by decide +kernel, rfl, by decide +kernel, by decide +kernel⟩ 3 2 (by simp) rfl (fun _ _ _ => .nil) (fun _ _ _ _ _ _ _ us its h1 h2 => match us, its, h1, h2 with | [_, _, _], [_, _], _, _ => ⟨_, rfl, rfl⟩) (ok_is_integer F)
  have fName : Fc P w K mg base "is_name" [] 1 1 cIsName := (D 13 rfl (by decide +kernel)).fc (N := ["value", "letter"]) (ps := ["value"]) ⟨rfl, rfl, rfl, by decide +kernel, rfl, by decide +kernel, by decide +kernel⟩ (fun _ _ _ _ _ _ us hl => match us, hl with | [_], _ => rfl) (ok_is_name F)
  have fNum : Fc P w K mg base "number_in" [] 1 1 cNumberIn := (D 14 rfl (by decide +kernel)).fc (N := ["text", "figure"]) (ps := ["text"]) ⟨rfl, rfl, rfl, by decide +kernel, rfl, by decide +kernel, by decide +kernel⟩ (fun _ _ _ _ _ _ us hl => match us, hl with | [_], _ => rfl) (ok_number_in F)
  have fPar : Fc P w K mg base "parted" [] 1 2 cParted := (D 15 rfl (by decide +kernel)).fc (N := ["text", "sign", "found", "depth", "begin", "at", "letter"]) (ps := ["text", "sign"]) ⟨rfl, rfl, rfl, by decide +kernel, rfl, by decide +kernel, by decide +kernel⟩ (fun _ _ _ _ _ _ us hl => match us, hl with | [_, _], _ => rfl) (ok_parted F)
  have fCop : Fc P w K mg base "copies_in" [] 2 1 cCopiesIn := (D 16 rfl (by decide +kernel)).fc (N := ["text", "word", "head", "end", "number", "blank", "rest", "many"]) (ps := ["text"]) ⟨rfl, rfl, rfl, by decide +kernel, rfl, by decide +kernel, by decide +kernel⟩ (fun _ _ _ _ _ _ us hl => match us, hl with | [_], _ => rfl) (ok_copies_in F fNum)
  have fRow : Fc P w K mg base "row_in" [] 2 1 cRowIn := (D 17 rfl (by decide +kernel)).fc (N := ["text", "word", "sign", "parts", "part"]) (ps := ["text"]) ⟨rfl, rfl, rfl, by decide +kernel, rfl, by decide +kernel, by decide +kernel⟩ (fun _ _ _ _ _ _ us hl => match us, hl with | [_], _ => rfl) (ok_row_in F fPar)
  have fGrp : Fc P w K mg base "groups_in" [] 3 1 cGroupsIn := (D 18 rfl (by decide +kernel)).fc (N := ["text", "found"]) (ps := ["text"]) ⟨rfl, rfl, rfl, by decide +kernel, rfl, by decide +kernel, by decide +kernel⟩ (fun _ _ _ _ _ _ us hl => match us, hl with | [_], _ => rfl) (ok_groups_in F fName fCop fRow)
  have fPt : ∀ h, Fc P w K mg base "is_plan_text" [] (h + 4) 2 (cPlanText h) := by
    intro h
    induction h with
    | zero => exact (D 19 rfl (by decide +kernel)).fc (N := ["text", "depth", "found", "many", "part"]) (ps := ["text", "depth"]) ⟨rfl, rfl, rfl, by decide +kernel, rfl, by decide +kernel, by decide +kernel⟩ (fun _ _ _ _ _ _ us hl => match us, hl with | [_, _], _ => rfl) (ok_is_plan_text 0 F fGrp (fun j hj => by omega))
    | succ h ih => exact (D 19 rfl (by decide +kernel)).fc (N := ["text", "depth", "found", "many", "part"]) (ps := ["text", "depth"]) ⟨rfl, rfl, rfl, by decide +kernel, rfl, by decide +kernel, by decide +kernel⟩ (fun _ _ _ _ _ _ us hl => match us, hl with | [_, _], _ => rfl) (ok_is_plan_text (h + 1) F fGrp (fun j hj => by cases hj; exact ih))
  have FIA : Fc P w K mg base "is_integer" [] 1 3 cIsIntA := DI.fcD (N := ["value", "low", "high"]) (ps := ["value", "low", "high"]) ⟨rfl, rfl, rfl, by decide +kernel, rfl, by decide +kernel, by decide +kernel⟩ 3 2 (by simp) rfl (fun _ _ _ => .nil) (fun _ _ _ _ _ _ _ us its h1 h2 => match us, its, h1, h2 with | [_, _, _], [_, _], _, _ => ⟨_, rfl, rfl⟩) (ok_is_integer_a F)
  have fNm : ∀ h, Fc P w K mg base "names_in" [] (h + 4) 1 (cNamesN h) := by
    intro h
    induction h with
    | zero => exact (D 20 rfl (by decide +kernel)).fc (N := nNin) (ps := ["text"]) ⟨rfl, rfl, rfl, by decide +kernel, rfl, by decide +kernel, by decide +kernel⟩ (fun _ _ _ _ _ _ us hl => match us, hl with | [_], _ => rfl) (ok_names_n 0 F fGrp (fun j hj => by omega))
    | succ h ih => exact (D 20 rfl (by decide +kernel)).fc (N := nNin) (ps := ["text"]) ⟨rfl, rfl, rfl, by decide +kernel, rfl, by decide +kernel, by decide +kernel⟩ (fun _ _ _ _ _ _ us hl => match us, hl with | [_], _ => rfl) (ok_names_n (h + 1) F fGrp (fun j hj => by cases hj; exact ih))
  obtain ⟨fi, mk, mi⟩ := X.init
  have kPlanN : ∀ h, Kc P w K mg base "Plan" C [] (2 * h + 6) 2 (cInitN C h) := by
    intro h
    induction h with
    | zero => exact mi.kc X.at_ mk (N := nInit) (ps := ["self", "text"]) ⟨rfl, rfl, rfl, by decide +kernel, rfl, by decide +kernel, by decide +kernel⟩ (fun _ _ _ _ _ _ us hl => match us, hl with | [_, _], _ => rfl) (ok_init_n 0 F X (fPt 0) (fNm 0) fGrp (fun j hj => by omega))
    | succ h ih => exact mi.kc X.at_ mk (N := nInit) (ps := ["self", "text"]) ⟨rfl, rfl, rfl, by decide +kernel, rfl, by decide +kernel, by decide +kernel⟩ (fun _ _ _ _ _ _ us hl => match us, hl with | [_, _], _ => rfl) (ok_init_n (h + 1) F X (fPt (h + 1)) (fNm (h + 1)) fGrp (fun j hj => by cases hj; exact ih))
  have kPlan : ∀ h, Kc P w K mg base "Plan" C [] (2 * h + 6) 2 (cInit C h) := by
    intro h
    cases h with
    | zero => exact mi.kc X.at_ mk (N := nInit) (ps := ["self", "text"]) ⟨rfl, rfl, rfl, by decide +kernel, rfl, by decide +kernel, by decide +kernel⟩ (fun _ _ _ _ _ _ us hl => match us, hl with | [_, _], _ => rfl) (body_imp (ok_init_n 0 F X (fPt 0) (fNm 0) fGrp (fun j hj => by omega)) (fun _ _ _ => init_told))
    | succ h => exact mi.kc X.at_ mk (N := nInit) (ps := ["self", "text"]) ⟨rfl, rfl, rfl, by decide +kernel, rfl, by decide +kernel, by decide +kernel⟩ (fun _ _ _ _ _ _ us hl => match us, hl with | [_, _], _ => rfl) (body_imp (ok_init_n (h + 1) F X (fPt (h + 1)) (fNm (h + 1)) fGrp (fun j hj => by cases hj; exact kPlanN h)) (fun _ _ _ => init_told))
  obtain ⟨p1, g1, pr1, m1⟩ := X.text
  obtain ⟨p2, g2, pr2, m2⟩ := X.names
  obtain ⟨p3, g3, pr3, m3⟩ := X.word
  obtain ⟨p4, g4, pr4, m4⟩ := X.many
  have pText : Pc P w K mg base C "text" 1 (cGet C fun t => tS (PL.txt t)) := m1.pc X.cl pr1 (N := ["self"]) ⟨rfl, rfl, rfl, by decide +kernel, rfl, by decide +kernel, by decide +kernel⟩ (fun _ _ _ _ _ _ us hl => match us, hl with | [_], _ => rfl) (ok_text X)
  have pNames : Pc P w K mg base C "names" 1 (cGet C fun t => .tup []) := m2.pc X.cl pr2 (N := ["self"]) ⟨rfl, rfl, rfl, by decide +kernel, rfl, by decide +kernel, by decide +kernel⟩ (fun _ _ _ _ _ _ us hl => match us, hl with | [_], _ => rfl) (ok_names X)
  have pWord : Pc P w K mg base C "word" 1 (cGet C fun t => .str (wordT t)) := m3.pc X.cl pr3 (N := ["self"]) ⟨rfl, rfl, rfl, by decide +kernel, rfl, by decide +kernel, by decide +kernel⟩ (fun _ _ _ _ _ _ us hl => match us, hl with | [_], _ => rfl) (ok_word X)
  have pMany : Pc P w K mg base C "many" 1 (cGet C fun t => .int (PL.cnt t : Nat)) := m4.pc X.cl pr4 (N := ["self", "many", "part"]) ⟨rfl, rfl, rfl, by decide +kernel, rfl, by decide +kernel, by decide +kernel⟩ (fun _ _ _ _ _ _ us hl => match us, hl with | [_], _ => rfl) (ok_many F X)
  have fTold : Fc P w K mg base "check_told" [] 3 1 (cTold C) := (D 21 rfl (by decide +kernel)).fc (N := ["plan"]) (ps := ["plan"]) ⟨rfl, rfl, rfl, by decide +kernel, rfl, by decide +kernel, by decide +kernel⟩ (fun _ _ _ _ _ _ us hl => match us, hl with | [_], _ => rfl) (ok_check_told pNames)
  have fAt : Fc P w K mg base "part_at" [] 1 2 (cPartAt C) := (D 22 rfl (by decide +kernel)).fc (N := ["plan", "number"]) (ps := ["plan", "number"]) ⟨rfl, rfl, rfl, by decide +kernel, rfl, by decide +kernel, by decide +kernel⟩ (fun _ _ _ _ _ _ us hl => match us, hl with | [_, _], _ => rfl) (ok_part_at X)
  have fIs : Fc P w K mg base "is_person" [] 3 2 (cIsPerson C) := (D 23 rfl (by decide +kernel)).fc (N := ["plan", "value", "here", "number"]) (ps := ["plan", "value"]) ⟨rfl, rfl, rfl, by decide +kernel, rfl, by decide +kernel, by decide +kernel⟩ (fun _ _ _ _ _ _ us hl => match us, hl with | [_, _], _ => rfl) (ok_is_person F FI pMany fAt pWord)
  have fChk : Fc P w K mg base "check_person" [] 4 2 (cCheckPerson C) := (D 24 rfl (by decide +kernel)).fc (N := ["plan", "value"]) (ps := ["plan", "value"]) ⟨rfl, rfl, rfl, by decide +kernel, rfl, by decide +kernel, by decide +kernel⟩ (fun _ _ _ _ _ _ us hl => match us, hl with | [_, _], _ => rfl) (ok_check_person fIs)
  have fDo : Fc P w K mg base "do_know" [] 3 3 (cDoKnow C) := (D 25 rfl (by decide +kernel)).fc (N := ["plan", "one", "other", "here", "mine", "its"]) (ps := ["plan", "one", "other"]) ⟨rfl, rfl, rfl, by decide +kernel, rfl, by decide +kernel, by decide +kernel⟩ (fun _ _ _ _ _ _ us hl => match us, hl with | [_, _, _], _ => rfl) (ok_do_know F fAt pWord)
  have fKn : Fc P w K mg base "knows" [] 5 3 (cDoKnow C) := (D 26 rfl (by decide +kernel)).fc (N := ["plan", "one", "other"]) (ps := ["plan", "one", "other"]) ⟨rfl, rfl, rfl, by decide +kernel, rfl, by decide +kernel, by decide +kernel⟩ (fun _ _ _ _ _ _ us hl => match us, hl with | [_, _, _], _ => rfl) (ok_knows fTold fChk fDo)
  have pNmN : Pc P w K mg base C "names" 1 (cNmsN C) := m2.pc X.cl pr2 (N := ["self"]) ⟨rfl, rfl, rfl, by decide +kernel, rfl, by decide +kernel, by decide +kernel⟩ (fun _ _ _ _ _ _ us hl => match us, hl with | [_], _ => rfl) (ok_names_p X)
  obtain ⟨pPeop, pPeog, pPeopr, pPeom⟩ := X_people
  have pPeo : Pc P w K mg base C "people" 1 (cGet C fun t => .int (PL.ppl t : Nat)) := pPeom.pc X.cl pPeopr (N := ["self"]) ⟨rfl, rfl, rfl, by decide +kernel, rfl, by decide +kernel, by decide +kernel⟩ (fun _ _ _ _ _ _ us hl => match us, hl with | [_], _ => rfl) (ok_people X)
  have fSp : Fc P w K mg base "spot_of" [] 1 2 (cSpot C) := (D 27 rfl (by decide +kernel)).fc (N := ["plan", "number", "size", "spot", "left"]) (ps := ["plan", "number"]) ⟨rfl, rfl, rfl, by decide +kernel, rfl, by decide +kernel, by decide +kernel⟩ (fun _ _ _ _ _ _ us hl => match us, hl with | [_, _], _ => rfl) (ok_spot_of X)
  have fNth : Fc P w K mg base "nth_person" [] 3 2 (cNth C) := (D 28 rfl (by decide +kernel)).fc (N := nNth) (ps := ["plan", "number"]) ⟨rfl, rfl, rfl, by decide +kernel, rfl, by decide +kernel, by decide +kernel⟩ (fun _ _ _ _ _ _ us hl => match us, hl with | [_, _], _ => rfl) (ok_nth_person F pWord fSp fAt)
  have fPA : Fc P w K mg base "person_at" [] 4 2 (cNth C) := (D 29 rfl (by decide +kernel)).fc (N := ["plan", "number"]) (ps := ["plan", "number"]) ⟨rfl, rfl, rfl, by decide +kernel, rfl, by decide +kernel, by decide +kernel⟩ (fun _ _ _ _ _ _ us hl => match us, hl with | [_, _], _ => rfl) (ok_person_at fTold FI fNth X)
  have fIt : Fc P w K mg base "is_tuple" [] 1 2 cIsTup := (D 30 rfl (by decide +kernel)).fc (N := ["value", "many"]) (ps := ["value", "many"]) ⟨rfl, rfl, rfl, by decide +kernel, rfl, by decide +kernel, by decide +kernel⟩ (fun _ _ _ _ _ _ us hl => match us, hl with | [_, _], _ => rfl) (ok_is_tuple F)
  have fItA : Fc P w K mg base "is_tuple" [] 1 2 cIsTupA := (D 30 rfl (by decide +kernel)).fc (N := ["value", "many"]) (ps := ["value", "many"]) ⟨rfl, rfl, rfl, by decide +kernel, rfl, by decide +kernel, by decide +kernel⟩ (fun _ _ _ _ _ _ us hl => match us, hl with | [_, _], _ => rfl) (ok_is_tuple_a F)
  have fIsA : Fc P w K mg base "is_person" [] 3 2 (cIsPersonA C) := (D 23 rfl (by decide +kernel)).fc (N := ["plan", "value", "here", "number"]) (ps := ["plan", "value"]) ⟨rfl, rfl, rfl, by decide +kernel, rfl, by decide +kernel, by decide +kernel⟩ (fun _ _ _ _ _ _ us hl => match us, hl with | [_, _], _ => rfl) (ok_is_person_a F FIA pMany fAt pWord)
  have fIp : Fc P w K mg base "is_pair" [] 2 2 cIsPair := (D 31 rfl (by decide +kernel)).fc (N := nIsPair) (ps := ["many", "value"]) ⟨rfl, rfl, rfl, by decide +kernel, rfl, by decide +kernel, by decide +kernel⟩ (fun _ _ _ _ _ _ us hl => match us, hl with | [_, _], _ => rfl) (ok_is_pair F gi2 fIt FI)
  have fAs : Fc P w K mg base "do_ascend" [] 1 1 cAscend := (D 32 rfl (by decide +kernel)).fc (N := nAscend) (ps := ["values"]) ⟨rfl, rfl, rfl, by decide +kernel, rfl, by decide +kernel, by decide +kernel⟩ (fun _ _ _ _ _ _ us hl => match us, hl with | [_], _ => rfl) (ok_ascend F)
  obtain ⟨kWebf, kWebm, kWebd⟩ := XR.init
  have kWeb : Kc P w K mg base "Web" RF [] 3 3 (cWebInit RF) := kWebd.kc XR.at_ kWebm (N := nWebInit) (ps := ["self", "many", "pairs"]) ⟨rfl, rfl, rfl, by decide +kernel, rfl, by decide +kernel, by decide +kernel⟩ (fun _ _ _ _ _ _ us hl => match us, hl with | [_, _, _], _ => rfl) (ok_web_init F gW XR FI fIp fAs)
  have fPc : Fc P w K mg base "pieces" [] 1 3 (cPieces RF) := (D 33 rfl (by decide +kernel)).fc (N := nPieces) (ps := ["web", "people", "is_known"]) ⟨rfl, rfl, rfl, by decide +kernel, rfl, by decide +kernel, by decide +kernel⟩ (fun _ _ _ _ _ _ us hl => match us, hl with | [_, _, _], _ => rfl) (ok_pieces F XR)
  have fPs : Fc P w K mg base "parts_of" [] 2 2 (cWParts RF) := (D 34 rfl (by decide +kernel)).fc (N := nParts2) (ps := ["web", "people"]) ⟨rfl, rfl, rfl, by decide +kernel, rfl, by decide +kernel, by decide +kernel⟩ (fun _ _ _ _ _ _ us hl => match us, hl with | [_, _], _ => rfl) (ok_parts_of F fPc)
  have fCi : Fc P w K mg base "chain_in" [] 1 2 (cChainIn RF) := (D 35 rfl (by decide +kernel)).fc (N := nChainIn) (ps := ["web", "people"]) ⟨rfl, rfl, rfl, by decide +kernel, rfl, by decide +kernel, by decide +kernel⟩ (fun _ _ _ _ _ _ us hl => match us, hl with | [_, _], _ => rfl) (ok_chain_in F XR)
  obtain ⟨rif, rim, rid⟩ := XG.init
  obtain ⟨rdf, rdm, rdd⟩ := XG.read
  have kRd : ∀ h, Kc P w K mg base "Reading" RG [] (3 * h + 6) 3 (cRdI RG RF h) := by
    intro h
    induction h with
    | zero =>
      have mR : Mc P w K mg base RG "read" [] (3 * 0 + 5) 3 (cRead RG RF 0) := rdd.mc XG.cl rdm (N := nRead) (ps := ["self", "web", "people"]) ⟨rfl, rfl, rfl, by decide +kernel, rfl, by decide +kernel, by decide +kernel⟩ (fun _ _ _ _ _ _ us hl => match us, hl with | [_, _, _], _ => rfl) (ok_read 0 F XG fPs fCi (fun j hj => by omega))
      exact rid.kc XG.at_ rim (N := nRdI) (ps := ["self", "web", "people"]) ⟨rfl, rfl, rfl, by decide +kernel, rfl, by decide +kernel, by decide +kernel⟩ (fun _ _ _ _ _ _ us hl => match us, hl with | [_, _, _], _ => rfl) (ok_rd_init 0 F XG mR)
    | succ h ih =>
      have mR : Mc P w K mg base RG "read" [] (3 * (h + 1) + 5) 3 (cRead RG RF (h + 1)) := rdd.mc XG.cl rdm (N := nRead) (ps := ["self", "web", "people"]) ⟨rfl, rfl, rfl, by decide +kernel, rfl, by decide +kernel, by decide +kernel⟩ (fun _ _ _ _ _ _ us hl => match us, hl with | [_, _, _], _ => rfl) (ok_read (h + 1) F XG fPs fCi (fun j hj => by cases hj; exact ih))
      exact rid.kc XG.at_ rim (N := nRdI) (ps := ["self", "web", "people"]) ⟨rfl, rfl, rfl, by decide +kernel, rfl, by decide +kernel, by decide +kernel⟩ (fun _ _ _ _ _ _ us hl => match us, hl with | [_, _, _], _ => rfl) (ok_rd_init (h + 1) F XG mR)
  have fTb : Fc P w K mg base "told_back" [] 95 1 (cTold2 C RF) := (D 36 rfl (by decide +kernel)).fc (N := nToldB) (ps := ["web"]) ⟨rfl, rfl, rfl, by decide +kernel, rfl, by decide +kernel, by decide +kernel⟩ (fun _ _ _ _ _ _ us hl => match us, hl with | [_], _ => rfl) (ok_told_back F XR XG gC gP (kRd 29) (kPlan 30))
  have fIc : Fc P w K mg base "is_chain" [] 3 2 (cIsChainA RF) := (D 37 rfl (by decide +kernel)).fc (N := nIsChain) (ps := ["web", "value"]) ⟨rfl, rfl, rfl, by decide +kernel, rfl, by decide +kernel, by decide +kernel⟩ (fun _ _ _ _ _ _ us hl => match us, hl with | [_, _], _ => rfl) (ok_is_chain_a F XR gi4 fItA FIA)
  have fId : Fc P w K mg base "is_told" [] 5 3 (cIsToldA C RF) := (D 38 rfl (by decide +kernel)).fc (N := nIsTold) (ps := ["web", "plan", "people"]) ⟨rfl, rfl, rfl, by decide +kernel, rfl, by decide +kernel, by decide +kernel⟩ (fun _ _ _ _ _ _ us hl => match us, hl with | [_, _, _], _ => rfl) (ok_is_told_a F XR X XE.2.1 XE.1.2.2.2 fItA fIsA fDo pNames pNmN)
  have fSh : Fc P w K mg base "shows_told_back" [] 6 2 (cShowsA C RF K) := (D 39 rfl (by decide +kernel)).fc (N := ["web", "value"]) (ps := ["web", "value"]) ⟨rfl, rfl, rfl, by decide +kernel, rfl, by decide +kernel, by decide +kernel⟩ (fun _ _ _ _ _ _ us hl => match us, hl with | [_, _], _ => rfl) (ok_shows_a F gC gP gi2 gi3 fIc fId)
  have fTk : Fc P w K mg base "_law_take" [] 1 2 cTake := (D 40 rfl (by decide +kernel)).fc (N := nTake) (ps := ["_law_pot_here", "_law_upto"]) ⟨rfl, rfl, rfl, by decide +kernel, rfl, by decide +kernel, by decide +kernel⟩ (fun _ _ _ _ _ _ us hl => match us, hl with | [_, _], _ => rfl) (ok_take F)
  have fOf : Fc P w K mg base "_law_of" [] 2 2 cOf := (D 41 rfl (by decide +kernel)).fc (N := ["_law_pot_here", "_law_some_here"]) (ps := ["_law_pot_here", "_law_some_here"]) ⟨rfl, rfl, rfl, by decide +kernel, rfl, by decide +kernel, by decide +kernel⟩ (fun _ _ _ _ _ _ us hl => match us, hl with | [_, _], _ => rfl) (ok_of F fTk)
  have fCe : Fc P w K mg base "_law_cells" [] 1 2 cCells := (D 42 rfl (by decide +kernel)).fc (N := ["_law_script", "_law_most"]) (ps := ["_law_script", "_law_most"]) ⟨rfl, rfl, rfl, by decide +kernel, rfl, by decide +kernel, by decide +kernel⟩ (fun _ _ _ _ _ _ us hl => match us, hl with | [_, _], _ => rfl) (ok_cells F)
  have fPot : Fc P w K mg base "_law_pot" [] 1 2 cPot := (D 43 rfl (by decide +kernel)).fc (N := nPot) (ps := ["_law_script", "_law_which"]) ⟨rfl, rfl, rfl, by decide +kernel, rfl, by decide +kernel, by decide +kernel⟩ (fun _ _ _ _ _ _ us hl => match us, hl with | [_, _], _ => rfl) (ok_pot F)
  have fP1 : Fc P w K mg base "_law_person" [] 1 0 cPers1 := (D 44 rfl (by decide +kernel)).fc (N := ([] : List Str)) (ps := []) ⟨rfl, rfl, rfl, by decide +kernel, rfl, by decide +kernel, by decide +kernel⟩ (fun _ _ _ _ _ _ us hl => match us, hl with | [], _ => rfl) (ok_person1)
  have fSz : ∀ h, Fc P w K mg base "_law_size" [] (h + 1) 1 (cSize h) := by
    intro h
    induction h with
    | zero => exact (D 45 rfl (by decide +kernel)).fc (N := nSize) (ps := ["_law_tree"]) ⟨rfl, rfl, rfl, by decide +kernel, rfl, by decide +kernel, by decide +kernel⟩ (fun _ _ _ _ _ _ us hl => match us, hl with | [_], _ => rfl) (ok_size 0 F (fun j hj => by omega))
    | succ h ih => exact (D 45 rfl (by decide +kernel)).fc (N := nSize) (ps := ["_law_tree"]) ⟨rfl, rfl, rfl, by decide +kernel, rfl, by decide +kernel, by decide +kernel⟩ (fun _ _ _ _ _ _ us hl => match us, hl with | [_], _ => rfl) (ok_size (h + 1) F (fun j hj => by cases hj; exact ih))
  have fSm : ∀ h, h ≤ 6 → Fc P w K mg base "_law_small" [] (h + 7) 3 (cSm h) := by
    intro h
    induction h with
    | zero => intro h5; exact (D 46 rfl (by decide +kernel)).fc (N := nSm) (ps := ["_law_pot_here", "_law_most", "_law_deep"]) ⟨rfl, rfl, rfl, by decide +kernel, rfl, by decide +kernel, by decide +kernel⟩ (fun _ _ _ _ _ _ us hl => match us, hl with | [_, _, _], _ => rfl) (ok_small 0 h5 F fTk fOf fP1 (fSz 5) (fun j hj => by omega))
    | succ h ih => intro h5; exact (D 46 rfl (by decide +kernel)).fc (N := nSm) (ps := ["_law_pot_here", "_law_most", "_law_deep"]) ⟨rfl, rfl, rfl, by decide +kernel, rfl, by decide +kernel, by decide +kernel⟩ (fun _ _ _ _ _ _ us hl => match us, hl with | [_, _, _], _ => rfl) (ok_small (h + 1) h5 F fTk fOf fP1 (fSz 5) (fun j hj => by cases hj; exact ih (by omega)))
  have fTp : Fc P w K mg base "_law_parts_of" [] 1 1 cPartsOf := (D 47 rfl (by decide +kernel)).fc (N := ["_law_tree"]) (ps := ["_law_tree"]) ⟨rfl, rfl, rfl, by decide +kernel, rfl, by decide +kernel, by decide +kernel⟩ (fun _ _ _ _ _ _ us hl => match us, hl with | [_], _ => rfl) (ok_tparts_of F)
  have fT1 : Fc P w K mg base "_law_part" [] 1 2 cPartT := (D 48 rfl (by decide +kernel)).fc (N := ["_law_tree", "_law_which"]) (ps := ["_law_tree", "_law_which"]) ⟨rfl, rfl, rfl, by decide +kernel, rfl, by decide +kernel, by decide +kernel⟩ (fun _ _ _ _ _ _ us hl => match us, hl with | [_, _], _ => rfl) (ok_tpart)
  have fTe : ∀ h, Fc P w K mg base "_law_people" [] (h + 2) 1 (cTPers h) := by
    intro h
    induction h with
    | zero => exact (D 49 rfl (by decide +kernel)).fc (N := nTPers) (ps := ["_law_tree"]) ⟨rfl, rfl, rfl, by decide +kernel, rfl, by decide +kernel, by decide +kernel⟩ (fun _ _ _ _ _ _ us hl => match us, hl with | [_], _ => rfl) (ok_tpeople 0 F fTp fT1 (fun j hj => by omega))
    | succ h ih => exact (D 49 rfl (by decide +kernel)).fc (N := nTPers) (ps := ["_law_tree"]) ⟨rfl, rfl, rfl, by decide +kernel, rfl, by decide +kernel, by decide +kernel⟩ (fun _ _ _ _ _ _ us hl => match us, hl with | [_], _ => rfl) (ok_tpeople (h + 1) F fTp fT1 (fun j hj => by cases hj; exact ih))
  have fTk2 : Fc P w K mg base "_law_is_known" [] 2 3 cKnown := (D 50 rfl (by decide +kernel)).fc (N := nKnown) (ps := ["_law_tree", "_law_one", "_law_other"]) ⟨rfl, rfl, rfl, by decide +kernel, rfl, by decide +kernel, by decide +kernel⟩ (fun _ _ _ _ _ _ us hl => match us, hl with | [_, _, _], _ => rfl) (ok_is_known F fT1)
  have fFr : Fc P w K mg base "_law_friends" [] 9 1 cFriends := (D 51 rfl (by decide +kernel)).fc (N := nFriends) (ps := ["_law_tree"]) ⟨rfl, rfl, rfl, by decide +kernel, rfl, by decide +kernel, by decide +kernel⟩ (fun _ _ _ _ _ _ us hl => match us, hl with | [_], _ => rfl) (ok_lfriends F (fTe 6) fTk2)
  have fPo : Fc P w K mg base "_law_pairs_of" [] 10 1 cPairsOf := (D 52 rfl (by decide +kernel)).fc (N := nPairsOf) (ps := ["_law_tree"]) ⟨rfl, rfl, rfl, by decide +kernel, rfl, by decide +kernel, by decide +kernel⟩ (fun _ _ _ _ _ _ us hl => match us, hl with | [_], _ => rfl) (ok_pairs_of F fFr)
  have fSo : Fc P w K mg base "_law_some" [] 2 3 cSome := (D 53 rfl (by decide +kernel)).fc (N := nSome) (ps := ["_law_pot_here", "_law_pool", "_law_many"]) ⟨rfl, rfl, rfl, by decide +kernel, rfl, by decide +kernel, by decide +kernel⟩ (fun _ _ _ _ _ _ us hl => match us, hl with | [_, _, _], _ => rfl) (ok_some F fTk)
  have fWb : Fc P w K mg base "_law_web" [] 14 2 cWebD := (D 54 rfl (by decide +kernel)).fc (N := nWebD) (ps := ["_law_pot_here", "_law_most"]) ⟨rfl, rfl, rfl, by decide +kernel, rfl, by decide +kernel, by decide +kernel⟩ (fun _ _ _ _ _ _ us hl => match us, hl with | [_, _], _ => rfl) (ok_webd F fTk fOf (fSm 5 (by decide)) (fSz 5) fSo fPo)
  have fOd : Fc P w K mg base "_law_odd" [] 3 1 cOdd := (D 55 rfl (by decide +kernel)).fc (N := ["_law_pot_here", "_law_some_here"]) (ps := ["_law_pot_here"]) ⟨rfl, rfl, rfl, by decide +kernel, rfl, by decide +kernel, by decide +kernel⟩ (fun _ _ _ _ _ _ us hl => match us, hl with | [_], _ => rfl) (ok_odd F fOf)
  have fLc : Fc P w K mg base "_law_chains" [] 1 2 cLChains := (D 56 rfl (by decide +kernel)).fc (N := nLChains) (ps := ["_law_many", "_law_pairs"]) ⟨rfl, rfl, rfl, by decide +kernel, rfl, by decide +kernel, by decide +kernel⟩ (fun _ _ _ _ _ _ us hl => match us, hl with | [_, _], _ => rfl) (ok_lchains F)
  have fDu : Gc P w K mg base "_law_is_due" 6 3 (cIsDue C K) := (D 57 rfl (by decide +kernel)).gc (N := nIsDue) (ps := ["_law_many", "_law_pairs", "_law_value"]) ⟨rfl, rfl, rfl, by decide +kernel, rfl, by decide +kernel, by decide +kernel⟩ (fun _ _ _ _ _ _ us hl => match us, hl with | [_, _, _], _ => rfl) (ok_is_due F (F.bn _ (by decide +kernel)) X XE.2.1 XE.1.2.2.2 fLc fPA fKn pNames pNmN pPeo)
  have fBi : Fc P w K mg base "_law_bent" [] 4 2 (cBn S0 E0 1) := (D 58 rfl (by decide +kernel)).fc (N := nBent) (ps := ["_law_pot_here", "_law_value"]) ⟨rfl, rfl, rfl, by decide +kernel, rfl, by decide +kernel, by decide +kernel⟩ (fun _ _ _ _ _ _ us hl => match us, hl with | [_, _], _ => rfl) (ok_bent_int 3 (by decide) F fOf)
  have fBj : Fc P w K mg base "_law_bent" [] 5 2 (cBn S0 E0 1) := (D 58 rfl (by decide +kernel)).fc (N := nBent) (ps := ["_law_pot_here", "_law_value"]) ⟨rfl, rfl, rfl, by decide +kernel, rfl, by decide +kernel, by decide +kernel⟩ (fun _ _ _ _ _ _ us hl => match us, hl with | [_, _], _ => rfl) (ok_bent_int 4 (by decide) F fOf)
  have fBt : Fc P w K mg base "_law_bent" [] 5 2 (cBn (S1 S0) (E1 E0) (1 + 3)) := (D 58 rfl (by decide +kernel)).fc (N := nBent) (ps := ["_law_pot_here", "_law_value"]) ⟨rfl, rfl, rfl, by decide +kernel, rfl, by decide +kernel, by decide +kernel⟩ (fun _ _ _ _ _ _ us hl => match us, hl with | [_, _], _ => rfl) (ok_bent_tup S0 E0 1 (by decide) 4 (by decide) F fTk fOf fBi)
  have fBu : Fc P w K mg base "_law_bent" [] 6 2 (cBn (SU C) (EU C) (1 + 1 + (1 + 3 + (1 + 3 + 3)))) := (D 58 rfl (by decide +kernel)).fc (N := nBent) (ps := ["_law_pot_here", "_law_value"]) ⟨rfl, rfl, rfl, by decide +kernel, rfl, by decide +kernel, by decide +kernel⟩ (fun _ _ _ _ _ _ us hl => match us, hl with | [_, _], _ => rfl) (bent_or (by decide) (by decide) (bent_or (by decide) (by decide) (ok_bent_str 5 (by decide) F fOf) (ok_bent_plan 5 (by decide) F XE.2.1 XE.1.1 XE.1.2.1 XE.1.2.2.1 fOd)) (bent_or (by decide) (by decide) (ok_bent_tup S0 E0 1 (by decide) 5 (by decide) F fTk fOf fBj) (ok_bent_tup (S1 S0) (E1 E0) (1 + 3) (by decide) 5 (by decide) F fTk fOf fBt)))
  have fBe : Fc P w K mg base "_law_bent" [] 7 2 (cBn (S1 (SU C)) (E1 (EU C)) 16) := (D 58 rfl (by decide +kernel)).fc (N := nBent) (ps := ["_law_pot_here", "_law_value"]) ⟨rfl, rfl, rfl, by decide +kernel, rfl, by decide +kernel, by decide +kernel⟩ (fun _ _ _ _ _ _ us hl => match us, hl with | [_, _], _ => rfl) (ok_bent_tup (SU C) (EU C) (1 + 1 + (1 + 3 + (1 + 3 + 3))) (by decide) 6 (by decide) F fTk fOf fBu)
  have fVa : Fc P w K mg base "_law_values" [] 14 4 (cVals K C) := (D 59 rfl (by decide +kernel)).fc (N := nVals) (ps := ["_law_pot_here", "_law_many", "_law_pairs", "_law_told"]) ⟨rfl, rfl, rfl, by decide +kernel, rfl, by decide +kernel, by decide +kernel⟩ (fun _ _ _ _ _ _ us hl => match us, hl with | [_, _, _, _], _ => rfl) (ok_vals F X fTk fOd fSo fBe fLc (kPlanN 3) pText)
  have fRi : Gc P w K mg base "_law_right" 96 1 cRight50 := (D 60 rfl (by decide +kernel)).gc (N := nRight50) (ps := ["_law_pot_here"]) ⟨rfl, rfl, rfl, by decide +kernel, rfl, by decide +kernel, by decide +kernel⟩ (fun _ _ _ _ _ _ us hl => match us, hl with | [_], _ => rfl) (ok_right50 F (F.bn _ (by decide +kernel)) XE.2.1 XE.1.2.2.1 fWb kWeb fTb fVa fSh fDu)
  exact fnG_ok (N := nLaw) (ps := ["_law_script"]) L ⟨rfl, rfl, rfl, by decide +kernel, rfl, by decide +kernel, by decide +kernel⟩ (ok_law50 F fCe fPot fRi)
theorem spLaw_ok {H : Hp} {a : Addr} {ns : List Int} {E : XK} (hS : SqL K H a (ns.map V.int)) : spD K 1 cLaw [.ref a] H (fun v _ => v = .bl true) E := by
  refine ⟨[scrD ns], fun _ => none, fun _ => False, fun d _ => d = .bl true, rfl, .cons ?_ .nil, ⟨fun b o e => (by cases e), fun b z => z.elim⟩, ⟨ns, rfl, fun _ => rfl⟩, fun v d H' M' x w' r e => ?_⟩
  · rcases hS with h1 | h1
    · exact .rol h1 ⟨rfl, id⟩ (Reps.ofInts ns)
    · exact .rolK h1 (Reps.ofInts ns)
  · subst e; cases r; rfl
theorem facts {f : Addr} (X : K.In h) (G : h.Ns mainGlobals mg) (hfa : mg ("law" : Str) = some (.ref f)) (c : Says spec w K) :
    ∃ fd : FuncData, (∀ (s : Shared) (v : Value), BindsTo s fd ⟨[v], []⟩ [("_law_script", v)]) ∧ ∀ base : Heap, K.In base → base.Ns mainGlobals mg → FnG P w K mg base 97 f fd ["_law_script"] (spD K 1 cLaw) := by
  obtain ⟨fd, L⟩ := c.dd 61 (d := gl "law" s_law) rfl
  have e := hfa.symm.trans (glo_ok X G (c.fa (f := .glo "law") (mem_glo (by decide +kernel))))
  cases e
  have b := FunD.bindsA (ps := ["_law_script"]) L fun _ _ _ _ _ _ us hl => match us, hl with | [_], _ => rfl
  obtain ⟨fi, DI⟩ := c.dd 0 rfl
  exact ⟨fd, fun s v => b s [v] rfl, fun base _ _ => chain (mkFx X G c) (mkPx X G c) ⟨_, _, propB_ok (c.pr (q := ("Plan", "people")) (by decide +kernel)), ⟨c.dd 6 rfl⟩⟩ (mkQx X G c) (mkRx X G c) (int_ok X G (c.fa (f := .int "PAIR" 2) (mem_co 16 rfl))) (int_ok X G (c.fa (f := .int "TRIPLE" 3) (mem_co 17 rfl))) (int_ok X G (c.fa (f := .int "QUARTET" 4) (mem_co 18 rfl))) (int_ok X G (c.fa (f := .int "MOST_WEB" 30) (mem_co 19 rfl))) (str_ok X G (c.fa (f := .str "PLAN" "plan") (mem_co 20 rfl))) (str_ok X G (c.fa (f := .str "CHAIN" "chain") (mem_co 21 rfl))) (c.eqs (List.mem_singleton.mpr rfl)) ⟨_, fi, DI, glo_ok X G (c.fa (f := .glo "is_integer") (mem_glo (by decide +kernel)))⟩ (fun i {x st} hd hx => mkDf X G c i hd hx) L⟩
end
end W
open PySem PySem.W PySem.Calls PyProof.Rows
theorem PySem.Challenge.cw_greetall_k50_other_plans_and_chains_holds : PySem.Challenge.rw_greetall_k50_other_plans_and_chains.Holds := by
  w_on; o_law
  refine HandSHeadRun.head_any (r := W.R) (q := view W.R.prog [94]) (H := W.hk) (ob := W.ob) (M := 9000) (loose := W.names0 ++ W.names1 ++ W.names2 ++ W.names3) (d := HandSHeadRun.topDef W.R.prog 94) (kwd := []) W.ob_eq
    (by kernel_rfl) (fun s => by kernel_rfl) W.run (by kernel_rfl) (by kernel_rfl) (by kernel_rfl) (by rfl) (by first | assumption | decide +kernel) (by decide +kernel) ⟨rfl, rfl, rfl, rfl, rfl, by decide +kernel⟩ ?hw ?hc
  case hw => w_witness2
  case hc =>
    refine DL.walk_ofG (l := PySem.Challenge.rw_greetall_k50_other_plans_and_chains) (n := 63) (k := 97) (x := "_law_script") rfl (by decide) (by kernel_rfl) ⟨rfl, by decide, by decide⟩ ?F
    intro w mg fa h Y G hmg0
    obtain ⟨K, KX, c⟩ := Y
    have hmg : mg ("law" : PySem.Str) = some (.ref fa) := by
      have e : (HandSHeadRun.topDef W.R.prog 94).name = ("law" : PySem.Str) := by kernel_rfl
      rw [← e]
      exact hmg0
    obtain ⟨fd, hb, hF⟩ := W.facts (P := (PySem.Challenge.rw_greetall_k50_other_plans_and_chains).prog) (w := w) KX G hmg c
    exact ⟨K, fd, DL.spD K 1 W.cLaw, KX, hb, fun H a ns hl _ hS => W.spLaw_ok hS, hF⟩
