import PyProof.Rows.All
import Wide.All
import OpenK.AllK
import Wide.FinOn
import HandS.ForMost
import HandS.ForExc
import HandS.ExcInit
import HandS.IsInst
import KE.KExcSuper
import KE.KSuper
import KE.KSuperObj
import HandS.TryOnly
import KE.KExcIs
import KE.KIsAll
import HandS.Lambda
import KE.KeyNested
import KE.KDictKeyed
import HandS.Defaults
import HandS.Wide
import HandS.Flow
import HandS.Zip
import HandS.StrMore
import HandS.FStr
import HandS.Conv
import HandS.More
import HandS.Property
import HandS.OwnEq
import HandS.Slots
import HandS.TupAny
import HandS.Star
import HandS.Strs
import KE.GoesMore
import HandS.Style
import HandS.RaiseMore
import HandS.HeadEnd
import HandS.SortRule
import HandS.TupSets
import PyProof.ReprLen
import HandS.Codes
import KE.KUnpackStar
import HandS.Small
import HandS.Deep
import HandS.List
import HandS.Head0
import HandS.Head1
import HandS.Head2
import HandS.HeadHook1
import HandS.HeadHook2
import HandS.HeadHook3
import HandS.SetFor
import PyProof.Rows.SortShellAny
import KE.BitLaws
import KE.DataMinMax
import KE.GoesEnum
import HandS.NoneIn
import KE.SortData
import HandS.Iter
import KE.KDictWalk
import KE.KDictCopyH
import HandS.TupMul
import PyProof.Rows.CountFlat
import HandS.SortInts
import PyProof.EqAt
import OpenK.KMeth
import HandS.DictComp
import PySem.Challenge.RW_greetall_k14_numbers_by_trying
set_option Elab.async false
set_option linter.all false
set_option maxRecDepth 100000
set_option maxHeartbeats 0
namespace XL
end XL
namespace DL
end DL
namespace HK
end HK
namespace PL
end PL
namespace W
end W
namespace XL
open PySem PySem.W PySem.Calls PyProof.Rows PySem.HandSPX L2
theorem Mod.keeps {K : Frag} {mg : Str → Option Value} {h h' : Heap} (M : L2.Mod K mg h) (k : ∀ b o, h.get? b = some o → h'.get? b = some o) : L2.Mod K mg h' := by
  obtain ⟨mb, nb, hmb⟩ := M.blt
  exact ⟨M.kin.keeps k, M.glob.keeps k, ⟨mb, nb.keeps k, hmb⟩, M.nolimit.keeps k⟩
end XL
namespace XL
open PySem PySem.W PySem.Calls PyProof.Rows PySem.HandSPX L2
/-- an error object: its class, its own dict -/
def XV (a : Addr) (cls : Value) (d : Option Addr) : HO := .ext fun h => ∃ oe vs, h.get? a = some oe ∧ Zc cls d oe ∧ oe.data = .fields vs
end XL
namespace XL
open PySem PySem.W PySem.Calls PyProof.Rows PySem.HandSPX L2 LamX
/-- a lambda at f, its code object at c' -/
def LamO (f : Addr) (q : Str) (params : Arguments) (body : Expr) (scope : Scope) (cells : List (Str × Addr)) (c' : Addr) : HO := .ext fun h => ∃ pm ctv, h.get? f = some (W.kla_obj "<lambda>" q params body scope cells pm c' ctv)
end XL
namespace DL
open PySem L2
/-- a value as data: immutable things by what they hold, mutable ones by their address -/
inductive D where
  | non | bl (b : Bool) | int (i : Int) | str (x : Str)
  | lst (xs : List D) | rol (xs : List D) | tup (xs : List D)
  | dK (kvs : List (Key × D)) | dT (kvs : List (List Key × D))
  | ins (C : Addr) (fs : List (Str × D))
  | ty (n : String) | fn (a : Addr) | ob (a : Addr)
  | key (ks : List Key)
  | fig (C : Addr) (ns : List Int)
  | exc (C : Addr) (fs : List (Str × D))
  | lam (q : Str) (params : Arguments) (body : Expr) (scope : Scope) (cells : List (Str × Addr))
  | fdK (kvs : List (Key × D))
  | slo (C : Addr) (os : List (Option D))
/-- a mutable object's content -/
inductive MO where
  | lst (xs : List D) | dK (kvs : List (Key × D)) | dT (kvs : List (List Key × D)) | ins (C : Addr) (fs : List (Str × D)) | tbl (q : Str) | fdK (kvs : List (Key × D)) | slo (C : Addr) (os : List (Option D)) | dN (w : World) (kvs : List (D × D))
abbrev Mp := Addr → Option MO
abbrev Rho := List (Option D)
/-- addresses that stand hidden: nothing that the code reads leads there -/
abbrev Zn := Addr → Prop
/-- neither mutable nor hidden -/
def Im (M : Mp) (Z : Zn) (a : Addr) : Prop := M a = none ∧ ¬ Z a
/-- a list, a tuple of the written part -/
def WrL (K : PySem.W.Frag) (a : Addr) (xs : List V) : Prop := ∃ (o : Obj) (its : Array Value) (n : Nat), K.lookup a = some o ∧ o.cls = .type "list" ∧ o.dict = none ∧ o.data = .seq its n ∧ its.size ≤ sizeLine ∧ Vals xs its.toList
def WrT (K : PySem.W.Frag) (a : Addr) (xs : List V) : Prop := ∃ (o : Obj) (its : Array Value) (n : Nat), K.lookup a = some o ∧ o.cls = .type "tuple" ∧ o.data = .seq its n ∧ its.size ≤ sizeLine ∧ Vals xs its.toList
mutual
/-- the value v stands for the data d -/
inductive Rep (K : PySem.W.Frag) (M : Mp) (Z : Zn) (H : Hp) : V → D → Prop where
  | non : Rep K M Z H .non .non
  | bl (b : Bool) : Rep K M Z H (.bl b) (.bl b)
  | int (i : Int) : Rep K M Z H (.int i) (.int i)
  | str (x : Str) : Rep K M Z H (.str x) (.str x)
  | ty (n : String) : Rep K M Z H (.ty n) (.ty n)
  | fn (a : Addr) : Rep K M Z H (.ref a) (.fn a)
  | ob (a : Addr) : Rep K M Z H (.ref a) (.ob a)
  | lst {a : Addr} {vs : List V} {ds : List D} (h : H a = some (.lst vs)) (m : Im M Z a) (r : Reps K M Z H vs ds) : Rep K M Z H (.ref a) (.lst ds)
  | rol {a : Addr} {vs : List V} {ds : List D} (h : Rd H a (.lst vs)) (m : Im M Z a) (r : Reps K M Z H vs ds) : Rep K M Z H (.ref a) (.rol ds)
  | rolK {a : Addr} {vs : List V} {ds : List D} (h : WrL K a vs) (r : Reps K M Z H vs ds) : Rep K M Z H (.ref a) (.rol ds)
  | tup {a : Addr} {vs : List V} {ds : List D} (h : Rd H a (.tup vs)) (m : Im M Z a) (r : Reps K M Z H vs ds) : Rep K M Z H (.ref a) (.tup ds)
  | tupK {a : Addr} {vs : List V} {ds : List D} (h : WrT K a vs) (r : Reps K M Z H vs ds) : Rep K M Z H (.ref a) (.tup ds)
  | dK {a : Addr} {vs : List (Key × V)} {ds : List (Key × D)} (h : H a = some (.dK vs)) (m : Im M Z a) (r : RepK K M Z H vs ds) : Rep K M Z H (.ref a) (.dK ds)
  | dT {a : Addr} {vs : List (List Key × V)} {ds : List (List Key × D)} (h : H a = some (.dT vs)) (m : Im M Z a) (r : RepT K M Z H vs ds) : Rep K M Z H (.ref a) (.dT ds)
  | ins {a C dx : Addr} {vs : List (Str × V)} {ds : List (Str × D)} (h : H a = some (.ins C dx vs)) (m : Im M Z a) (r : RepF K M Z H vs ds) : Rep K M Z H (.ref a) (.ins C ds)
  | key {a : Addr} {ks : List Key} (h : H a = some (.tup (ks.map kV))) (m : Im M Z a) : Rep K M Z H (.ref a) (.key ks)
  | fig {a C dx : Addr} {ns : List Int} (h : H a = some (SlX.SlO a C dx (ns.map fun i => some (V.int i)))) (hd : H dx = some (.xd [])) (m : Im M Z a) (md : Im M Z dx) : Rep K M Z H (.ref a) (.fig C ns)
  | exc {a C dd : Addr} {vs : List (Str × V)} {ds : List (Str × D)} (h : H a = some (XL.XV a (.ref C) (some dd))) (hd : H dd = some (.xd vs)) (m : Im M Z a) (md : Im M Z dd) (r : RepF K M Z H vs ds) : Rep K M Z H (.ref a) (.exc C ds)
  | lam {a c : Addr} {q : Str} {ps : Arguments} {b : Expr} {sc : Scope} {cl : List (Str × Addr)} (h : H a = some (XL.LamO a q ps b sc cl c)) (hc : H c = some (LamX.CodeO c q)) (m : Im M Z a) (mc : Im M Z c) : Rep K M Z H (.ref a) (.lam q ps b sc cl)
  | fdK {a : Addr} {o : Obj} {vs : List (Key × V)} {ds : List (Key × D)} (h : H a = some (.frz o (.dK vs))) (m : Im M Z a) (r : RepK K M Z H vs ds) : Rep K M Z H (.ref a) (.fdK ds)
  | slo {a C dx : Addr} {vs : List (Option V)} {os : List (Option D)} (h : H a = some (SlX.SlO a C dx vs)) (hd : H dx = some (.xd [])) (m : Im M Z a) (md : Im M Z dx) (r : RepO K M Z H vs os) : Rep K M Z H (.ref a) (.slo C os)
inductive RepO (K : PySem.W.Frag) (M : Mp) (Z : Zn) (H : Hp) : List (Option V) → List (Option D) → Prop where
  | nil : RepO K M Z H [] []
  | val {v : V} {d : D} {vs : List (Option V)} {os : List (Option D)} (r : Rep K M Z H v d) (t : RepO K M Z H vs os) : RepO K M Z H (some v :: vs) (some d :: os)
  | any {o : Option V} {vs : List (Option V)} {os : List (Option D)} (t : RepO K M Z H vs os) : RepO K M Z H (o :: vs) (none :: os)
inductive Reps (K : PySem.W.Frag) (M : Mp) (Z : Zn) (H : Hp) : List V → List D → Prop where
  | nil : Reps K M Z H [] []
  | cons {v : V} {d : D} {vs : List V} {ds : List D} (r : Rep K M Z H v d) (t : Reps K M Z H vs ds) : Reps K M Z H (v :: vs) (d :: ds)
inductive RepK (K : PySem.W.Frag) (M : Mp) (Z : Zn) (H : Hp) : List (Key × V) → List (Key × D) → Prop where
  | nil : RepK K M Z H [] []
  | cons {k : Key} {v : V} {d : D} {vs : List (Key × V)} {ds : List (Key × D)} (r : Rep K M Z H v d) (t : RepK K M Z H vs ds) : RepK K M Z H ((k, v) :: vs) ((k, d) :: ds)
inductive RepT (K : PySem.W.Frag) (M : Mp) (Z : Zn) (H : Hp) : List (List Key × V) → List (List Key × D) → Prop where
  | nil : RepT K M Z H [] []
  | cons {k : List Key} {v : V} {d : D} {vs : List (List Key × V)} {ds : List (List Key × D)} (r : Rep K M Z H v d) (t : RepT K M Z H vs ds) : RepT K M Z H ((k, v) :: vs) ((k, d) :: ds)
inductive RepF (K : PySem.W.Frag) (M : Mp) (Z : Zn) (H : Hp) : List (Str × V) → List (Str × D) → Prop where
  | nil : RepF K M Z H [] []
  | cons {k : Str} {v : V} {d : D} {vs : List (Str × V)} {ds : List (Str × D)} (r : Rep K M Z H v d) (t : RepF K M Z H vs ds) : RepF K M Z H ((k, v) :: vs) ((k, d) :: ds)
end
/-- what is immutable stays, what is hidden stays -/
def Ext (M : Mp) (Z : Zn) (H : Hp) (M' : Mp) (H' : Hp) : Prop := (∀ b o, H b = some o → Im M Z b → H' b = some o ∧ Im M' Z b) ∧ ∀ b, Z b → H' b = H b ∧ M' b = M b
theorem Ext.refl {M : Mp} {Z : Zn} {H : Hp} : Ext M Z H M H := ⟨fun _ _ h m => ⟨h, m⟩, fun _ _ => ⟨rfl, rfl⟩⟩
theorem Ext.trans {M M1 M2 : Mp} {Z : Zn} {H H1 H2 : Hp} (a : Ext M Z H M1 H1) (b : Ext M1 Z H1 M2 H2) : Ext M Z H M2 H2 := ⟨fun c o h m =>
  b.1 c o (a.1 c o h m).1 (a.1 c o h m).2, fun c z => ⟨(b.2 c z).1.trans (a.2 c z).1, (b.2 c z).2.trans (a.2 c z).2⟩⟩
theorem Ext.rd {M M' : Mp} {Z : Zn} {H H' : Hp} {a : Addr} {u : HO} (e : Ext M Z H M' H') (h : Rd H a u) (m : Im M Z a) : Rd H' a u := by
  rcases h with h | ⟨o, h⟩
  · exact .inl (e.1 _ _ h m).1
  · exact .inr ⟨o, (e.1 _ _ h m).1⟩
theorem Ext.md {M M' : Mp} {Z : Zn} {H H' : Hp} {a : Addr} {u : HO} (e : Ext M Z H M' H') (h : Rd H a u) (m : Im M Z a) : Im M' Z a := by
  rcases h with h | ⟨o, h⟩
  · exact (e.1 _ _ h m).2
  · exact (e.1 _ _ h m).2
/-- .. among other hidden ones -/
def ExI (M : Mp) (Z : Zn) (H : Hp) (M' : Mp) (Z' : Zn) (H' : Hp) : Prop := ∀ b o, H b = some o → Im M Z b → H' b = some o ∧ Im M' Z' b
theorem Ext.i {M M' : Mp} {Z : Zn} {H H' : Hp} (e : Ext M Z H M' H') : ExI M Z H M' Z H' := e.1
theorem ExI.refl {M : Mp} {Z : Zn} {H : Hp} : ExI M Z H M Z H := fun _ _ h m => ⟨h, m⟩
theorem ExI.trans {M M1 M2 : Mp} {Z Z1 Z2 : Zn} {H H1 H2 : Hp} (a : ExI M Z H M1 Z1 H1) (b : ExI M1 Z1 H1 M2 Z2 H2) : ExI M Z H M2 Z2 H2 := fun c o h m => b c o (a c o h m).1 (a c o h m).2
theorem ExI.rd {M M' : Mp} {Z Z' : Zn} {H H' : Hp} {a : Addr} {u : HO} (e : ExI M Z H M' Z' H') (h : Rd H a u) (m : Im M Z a) : Rd H' a u := by
  rcases h with h | ⟨o, h⟩
  · exact .inl (e _ _ h m).1
  · exact .inr ⟨o, (e _ _ h m).1⟩
theorem ExI.md {M M' : Mp} {Z Z' : Zn} {H H' : Hp} {a : Addr} {u : HO} (e : ExI M Z H M' Z' H') (h : Rd H a u) (m : Im M Z a) : Im M' Z' a := by
  rcases h with h | ⟨o, h⟩
  · exact (e _ _ h m).2
  · exact (e _ _ h m).2
section
variable {K : PySem.W.Frag} {M M' : Mp} {Z Z' : Zn} {H H' : Hp}
mutual
theorem Rep.monoI (e : ExI M Z H M' Z' H') : ∀ {v : V} {d : D}, Rep K M Z H v d → Rep K M' Z' H' v d
  | _, _, .non => .non
  | _, _, .bl b => .bl b
  | _, _, .int i => .int i
  | _, _, .str x => .str x
  | _, _, .ty n => .ty n
  | _, _, .fn a => .fn a
  | _, _, .ob a => .ob a
  | _, _, .lst h m r => .lst (e _ _ h m).1 (e _ _ h m).2 (Reps.monoI e r)
  | _, _, .rol h m r => .rol (e.rd h m) (e.md h m) (Reps.monoI e r)
  | _, _, .rolK h r => .rolK h (Reps.monoI e r)
  | _, _, .tup h m r => .tup (e.rd h m) (e.md h m) (Reps.monoI e r)
  | _, _, .tupK h r => .tupK h (Reps.monoI e r)
  | _, _, .dK h m r => .dK (e _ _ h m).1 (e _ _ h m).2 (RepK.monoI e r)
  | _, _, .dT h m r => .dT (e _ _ h m).1 (e _ _ h m).2 (RepT.monoI e r)
  | _, _, .ins h m r => .ins (e _ _ h m).1 (e _ _ h m).2 (RepF.monoI e r)
  | _, _, .key h m => .key (e _ _ h m).1 (e _ _ h m).2
  | _, _, .fig h hd m md => .fig (e _ _ h m).1 (e _ _ hd md).1 (e _ _ h m).2 (e _ _ hd md).2
  | _, _, .exc h hd m md r => .exc (e _ _ h m).1 (e _ _ hd md).1 (e _ _ h m).2 (e _ _ hd md).2 (RepF.monoI e r)
  | _, _, .lam h hc m mc => .lam (e _ _ h m).1 (e _ _ hc mc).1 (e _ _ h m).2 (e _ _ hc mc).2
  | _, _, .fdK h m r => .fdK (e _ _ h m).1 (e _ _ h m).2 (RepK.monoI e r)
  | _, _, .slo h hd m md r => .slo (e _ _ h m).1 (e _ _ hd md).1 (e _ _ h m).2 (e _ _ hd md).2 (RepO.monoI e r)
theorem RepO.monoI (e : ExI M Z H M' Z' H') : ∀ {v : List (Option V)} {d : List (Option D)}, RepO K M Z H v d → RepO K M' Z' H' v d
  | _, _, .nil => .nil
  | _, _, .val r t => .val (Rep.monoI e r) (RepO.monoI e t)
  | _, _, .any t => .any (RepO.monoI e t)
theorem Reps.monoI (e : ExI M Z H M' Z' H') : ∀ {v : List V} {d : List D}, Reps K M Z H v d → Reps K M' Z' H' v d
  | _, _, .nil => .nil
  | _, _, .cons r t => .cons (Rep.monoI e r) (Reps.monoI e t)
theorem RepK.monoI (e : ExI M Z H M' Z' H') : ∀ {v : List (Key × V)} {d : List (Key × D)}, RepK K M Z H v d → RepK K M' Z' H' v d
  | _, _, .nil => .nil
  | _, _, .cons r t => .cons (Rep.monoI e r) (RepK.monoI e t)
theorem RepT.monoI (e : ExI M Z H M' Z' H') : ∀ {v : List (List Key × V)} {d : List (List Key × D)}, RepT K M Z H v d → RepT K M' Z' H' v d
  | _, _, .nil => .nil
  | _, _, .cons r t => .cons (Rep.monoI e r) (RepT.monoI e t)
theorem RepF.monoI (e : ExI M Z H M' Z' H') : ∀ {v : List (Str × V)} {d : List (Str × D)}, RepF K M Z H v d → RepF K M' Z' H' v d
  | _, _, .nil => .nil
  | _, _, .cons r t => .cons (Rep.monoI e r) (RepF.monoI e t)
end
end
theorem Reps.length {K : PySem.W.Frag} {M : Mp} {Z : Zn} {H : Hp} : ∀ {vs : List V} {ds : List D}, Reps K M Z H vs ds → vs.length = ds.length
  | _, _, .nil => rfl
  | _, _, .cons _ t => by rw [List.length_cons, List.length_cons, t.length]
theorem Reps.get {K : PySem.W.Frag} {M : Mp} {Z : Zn} {H : Hp} : ∀ {vs : List V} {ds : List D} {i : Nat} {d : D}, Reps K M Z H vs ds → ds[i]? = some d → ∃ v, vs[i]? = some v ∧ Rep K M Z H v d
  | _, _, _, _, .nil, e => by simp at e
  | _, _, 0, _, .cons r _, e => by simp at e; subst e; exact ⟨_, rfl, r⟩
  | _, _, i + 1, d, .cons _ t, e => by
    obtain ⟨u, h1, h2⟩ := Reps.get (i := i) (d := d) t (by simpa using e)
    exact ⟨u, by simpa using h1, h2⟩
theorem Reps.drop {K : PySem.W.Frag} {M : Mp} {Z : Zn} {H : Hp} : ∀ {vs : List V} {ds : List D} (n : Nat), Reps K M Z H vs ds → Reps K M Z H (vs.drop n) (ds.drop n)
  | _, _, 0, r => r
  | _, _, _ + 1, .nil => .nil
  | _, _, n + 1, .cons _ t => Reps.drop n t
theorem Reps.take {K : PySem.W.Frag} {M : Mp} {Z : Zn} {H : Hp} : ∀ {vs : List V} {ds : List D} (n : Nat), Reps K M Z H vs ds → Reps K M Z H (vs.take n) (ds.take n)
  | _, _, 0, _ => .nil
  | _, _, _ + 1, .nil => .nil
  | _, _, n + 1, .cons r t => .cons r (Reps.take n t)
theorem Reps.ofStrs {K : PySem.W.Frag} {M : Mp} {Z : Zn} {H : Hp} : ∀ (ns : List Str), Reps K M Z H (ns.map V.str) (ns.map D.str)
  | [] => .nil
  | _ :: r => .cons (.str _) (Reps.ofStrs r)
mutual
/-- data as a key -/
def nkD : D → Option NestedKey
  | .non => some .none
  | .bl b => some (.num (if b = true then 1 else 0))
  | .int i => some (.num i)
  | .str x => some (.text x)
  | .tup ds => (nkDs ds).map .tup
  | _ => none
def nkDs : List D → Option (List NestedKey)
  | [] => some []
  | d :: ds => (nkD d).bind fun k => (nkDs ds).map (k :: ·)
end
def entN (w : World) (x : NestedKey × Addr × Value) : DictEntry := entryOfKey (nestedKind default w) x
/-- at a stands the dict with these entries: what is said speaks of this object alone -/
def DNf (w : World) (a : Addr) (xs : List (NestedKey × Addr × V)) (h : Heap) : Prop := xs.length ≤ sizeLine ∧ (a == sysModules) = false ∧ ∃ ys : List (NestedKey × Addr × Value),
  Paired (fun (p : NestedKey × Addr × V) (q : NestedKey × Addr × Value) => p.1 = q.1 ∧ p.2.1 = q.2.1 ∧ RelV p.2.2 q.2.2) xs ys ∧ ∃ o es ep, h.get? a = some o ∧ o.ExactDict ∧ o.data = .dict es ep ∧ es.toList = ys.map (entN w) ∧ (ys.map (·.1)).Nodup
def DNo (w : World) (a : Addr) (xs : List (NestedKey × Addr × V)) : HO := .ext (DNf w a xs)
inductive RepN (K : PySem.W.Frag) (M : Mp) (Z : Zn) (H : Hp) : List (NestedKey × Addr × V) → List (D × D) → Prop where
  | nil : RepN K M Z H [] []
  | cons {k : NestedKey} {a : Addr} {v : V} {dk d : D} {xs : List (NestedKey × Addr × V)} {kvs : List (D × D)} (hk : nkD dk = some k) (dp : k.depth ≤ 8) (rk : Rep K M Z H (.ref a) dk) (r : Rep K M Z H v d) (t : RepN K M Z H xs kvs) : RepN K M Z H ((k, a, v) :: xs) ((dk, d) :: kvs)
theorem RepN.monoI {K : PySem.W.Frag} {M M' : Mp} {Z Z' : Zn} {H H' : Hp} (e : ExI M Z H M' Z' H') : ∀ {xs : List (NestedKey × Addr × V)} {kvs : List (D × D)}, RepN K M Z H xs kvs → RepN K M' Z' H' xs kvs
  | _, _, .nil => .nil
  | _, _, .cons hk dp rk r t => .cons hk dp (rk.monoI e) (r.monoI e) (t.monoI e)
/-- a mutable object is held -/
def RepM (K : PySem.W.Frag) (M : Mp) (Z : Zn) (H : Hp) (a : Addr) : MO → Prop
  | .lst ds => ∃ vs, H a = some (.lst vs) ∧ Reps K M Z H vs ds
  | .dK ds => ∃ vs, H a = some (.dK vs) ∧ RepK K M Z H vs ds
  | .dT ds => ∃ vs, H a = some (.dT vs) ∧ RepT K M Z H vs ds
  | .ins C ds => ∃ dx vs, H a = some (.ins C dx vs) ∧ RepF K M Z H vs ds
  | .fdK ds => ∃ o vs, H a = some (.frz o (.dK vs)) ∧ RepK K M Z H vs ds
  | .slo C os => ∃ dx vs, H a = some (SlX.SlO a C dx vs) ∧ H dx = some (.xd []) ∧ Im M Z dx ∧ RepO K M Z H vs os
  | .dN w ds => ∃ xs, H a = some (DNo w a xs) ∧ RepN K M Z H xs ds
  | .tbl q => ∃ ps, H a = some (.tbl ps) ∧ TriplesOk ps.toList ∧ ∀ (pos : Pos) (cv : Value), codeAmong pos ps.toList = some cv → ∃ c, cv = .ref c ∧ H c = some (LamX.CodeO c q) ∧ Im M Z c
/-- the mutable objects are held, the hidden ones stand -/
def Wd (K : PySem.W.Frag) (M : Mp) (Z : Zn) (H : Hp) : Prop := (∀ a o, M a = some o → RepM K M Z H a o) ∧ ∀ a, Z a → M a = none ∧ ∃ u, H a = some u
theorem RepM.there {K : PySem.W.Frag} {M : Mp} {Z : Zn} {H : Hp} {a : Addr} {o : MO} (h : RepM K M Z H a o) : ∃ u, H a = some u := by
  cases o with
  | lst ds => obtain ⟨vs, e, _⟩ := h; exact ⟨_, e⟩
  | dK ds => obtain ⟨vs, e, _⟩ := h; exact ⟨_, e⟩
  | dT ds => obtain ⟨vs, e, _⟩ := h; exact ⟨_, e⟩
  | ins C ds => obtain ⟨dx, vs, e, _⟩ := h; exact ⟨_, e⟩
  | tbl q => obtain ⟨ps, e, _⟩ := h; exact ⟨_, e⟩
  | fdK ds => obtain ⟨o, vs, e, _⟩ := h; exact ⟨_, e⟩
  | slo C os => obtain ⟨dx, vs, e, _⟩ := h; exact ⟨_, e⟩
  | dN w ds => obtain ⟨xs, e, _⟩ := h; exact ⟨_, e⟩
theorem RepM.stepI {K : PySem.W.Frag} {M M' : Mp} {Z Z' : Zn} {H H' : Hp} {a : Addr} {o : MO} (h : RepM K M Z H a o) (e : ExI M Z H M' Z' H') (k : H' a = H a) : RepM K M' Z' H' a o := by
  cases o with
  | lst ds => obtain ⟨vs, q, r⟩ := h; exact ⟨vs, k.trans q, r.monoI e⟩
  | dK ds => obtain ⟨vs, q, r⟩ := h; exact ⟨vs, k.trans q, r.monoI e⟩
  | dT ds => obtain ⟨vs, q, r⟩ := h; exact ⟨vs, k.trans q, r.monoI e⟩
  | ins C ds => obtain ⟨dx, vs, q, r⟩ := h; exact ⟨dx, vs, k.trans q, r.monoI e⟩
  | fdK ds => obtain ⟨o, vs, q, r⟩ := h; exact ⟨o, vs, k.trans q, r.monoI e⟩
  | slo C os => obtain ⟨dx, vs, q, hd, md, r⟩ := h; exact ⟨dx, vs, k.trans q, (e _ _ hd md).1, (e _ _ hd md).2, r.monoI e⟩
  | dN w ds => obtain ⟨xs, q, r⟩ := h; exact ⟨xs, k.trans q, r.monoI e⟩
  | tbl q => obtain ⟨ps, y, ht, ha⟩ := h; exact ⟨ps, k.trans y, ht, fun pos cv z => let ⟨c, e1, e2, e3⟩ := ha pos cv z; ⟨c, e1, (e c _ e2 e3).1, (e c _ e2 e3).2⟩⟩
theorem RepM.step {K : PySem.W.Frag} {M M' : Mp} {Z : Zn} {H H' : Hp} {a : Addr} {o : MO} (h : RepM K M Z H a o) (e : Ext M Z H M' H') (k : H' a = H a) : RepM K M' Z H' a o := h.stepI e.i k
/-- the slots -/
inductive EnvR (K : PySem.W.Frag) (M : Mp) (Z : Zn) (H : Hp) : St → Rho → Prop where
  | nil : EnvR K M Z H [] []
  | val {v : V} {d : D} {σ : St} {ρ : Rho} (r : Rep K M Z H v d) (t : EnvR K M Z H σ ρ) : EnvR K M Z H (some v :: σ) (some d :: ρ)
  | any {o : Option V} {σ : St} {ρ : Rho} (t : EnvR K M Z H σ ρ) : EnvR K M Z H (o :: σ) (none :: ρ)
theorem EnvR.monoI {K : PySem.W.Frag} {M M' : Mp} {Z Z' : Zn} {H H' : Hp} (e : ExI M Z H M' Z' H') : ∀ {σ : St} {ρ : Rho}, EnvR K M Z H σ ρ → EnvR K M' Z' H' σ ρ
  | _, _, .nil => .nil
  | _, _, .val r t => .val (r.monoI e) (EnvR.monoI e t)
  | _, _, .any t => .any (EnvR.monoI e t)
theorem EnvR.get {K : PySem.W.Frag} {M : Mp} {Z : Zn} {H : Hp} : ∀ {σ : St} {ρ : Rho} {i : Nat} {d : D}, EnvR K M Z H σ ρ → ρ[i]? = some (some d) → ∃ v, σ[i]? = some (some v) ∧ Rep K M Z H v d
  | _, _, _, _, .nil, e => by simp at e
  | _, _, 0, _, .val r _, e => by simp at e; subst e; exact ⟨_, rfl, r⟩
  | _, _, 0, _, .any _, e => by simp at e
  | _, _, i + 1, d, .val _ t, e => EnvR.get (i := i) t (by simpa using e)
  | _, _, i + 1, d, .any t, e => EnvR.get (i := i) t (by simpa using e)
theorem EnvR.set {K : PySem.W.Frag} {M : Mp} {Z : Zn} {H : Hp} {v : V} {d : D} (r : Rep K M Z H v d) : ∀ {σ : St} {ρ : Rho} (i : Nat), EnvR K M Z H σ ρ → EnvR K M Z H (σ.set i (.some v)) (ρ.set i (.some d))
  | _, _, _, .nil => .nil
  | _, _, 0, .val _ t => .val r t
  | _, _, 0, .any t => .val r t
  | _, _, i + 1, .val q t => .val q (EnvR.set r i t)
  | _, _, i + 1, .any t => .any (EnvR.set r i t)
theorem EnvR.empty {K : PySem.W.Frag} {M : Mp} {Z : Zn} {H : Hp} : ∀ (n : Nat), EnvR K M Z H (List.replicate n .none) (List.replicate n .none)
  | 0 => .nil
  | n + 1 => .any (EnvR.empty n)
end DL
namespace DL
open PySem L2
def KE (K : PySem.W.Frag) (M : Mp) (Z : Zn) (H : Hp) (Φ : D → Mp → Prop) (Q : VK) : Prop := ∀ v d H' M', Ext M Z H M' H' → Wd K M' Z H' → Rep K M' Z H' v d → Φ d M' → Q v H'
def KT (K : PySem.W.Frag) (M : Mp) (Z : Zn) (H : Hp) (Φ : Bool → Mp → Prop) (Q : Bool → Hp → Prop) : Prop := ∀ b H' M', Ext M Z H M' H' → Wd K M' Z H' → Φ b M' → Q b H'
def KA (K : PySem.W.Frag) (M : Mp) (Z : Zn) (H : Hp) (Φ : List D → Mp → Prop) (Q : List V → Hp → Prop) : Prop := ∀ vs ds H' M', Ext M Z H M' H' → Wd K M' Z H' → Reps K M' Z H' vs ds → Φ ds M' → Q vs H'
def KG (K : PySem.W.Frag) (M : Mp) (Z : Zn) (H : Hp) (Φ : Rho → Mp → Prop) (Q : L2.St → Hp → Prop) : Prop := ∀ σ' ρ' H' M', Ext M Z H M' H' → Wd K M' Z H' → EnvR K M' Z H' σ' ρ' → Φ ρ' M' → Q σ' H'
/-- what is wanted behind a statement -/
structure DE where
  nx : Rho → Mp → Prop
  rt : D → Mp → Prop
  bk : Rho → Mp → Prop := fun _ _ => False
  ct : Rho → Mp → Prop := fun _ _ => False
structure KS (K : PySem.W.Frag) (M : Mp) (Z : Zn) (H : Hp) (Ψ : DE) (E : Ends) : Prop where
  nx : KG K M Z H Ψ.nx E.nx
  rt : KE K M Z H Ψ.rt E.rt
  bk : KG K M Z H Ψ.bk E.bk
  ct : KG K M Z H Ψ.ct E.ct
section
variable {K : PySem.W.Frag} {M M1 : Mp} {Z : Zn} {H H1 : Hp}
theorem KE.step {Φ : D → Mp → Prop} {Q : VK} (k : KE K M Z H Φ Q) (e : Ext M Z H M1 H1) : KE K M1 Z H1 Φ Q := fun v d H' M' x w r h => k v d H' M' (e.trans x) w r h
theorem KT.step {Φ : Bool → Mp → Prop} {Q : Bool → Hp → Prop} (k : KT K M Z H Φ Q) (e : Ext M Z H M1 H1) : KT K M1 Z H1 Φ Q := fun b H' M' x w h => k b H' M' (e.trans x) w h
theorem KA.step {Φ : List D → Mp → Prop} {Q : List V → Hp → Prop} (k : KA K M Z H Φ Q) (e : Ext M Z H M1 H1) : KA K M1 Z H1 Φ Q := fun v d H' M' x w r h => k v d H' M' (e.trans x) w r h
theorem KG.step {Φ : Rho → Mp → Prop} {Q : L2.St → Hp → Prop} (k : KG K M Z H Φ Q) (e : Ext M Z H M1 H1) : KG K M1 Z H1 Φ Q := fun v d H' M' x w r h => k v d H' M' (e.trans x) w r h
theorem KS.step {Ψ : DE} {E : Ends} (k : KS K M Z H Ψ E) (e : Ext M Z H M1 H1) : KS K M1 Z H1 Ψ E := ⟨k.nx.step e, k.rt.step e, k.bk.step e, k.ct.step e⟩
end
end DL
namespace DL
open PySem PySem.Spec PyProof.Rows L2
/-- a def's contract: arguments, mutable objects, what is wanted behind -/
abbrev Con := List D → Mp → (D → Mp → Prop) → Prop
/-- M' has no more than M -/
def Les (M' M : Mp) : Prop := ∀ b, M' b = M b ∨ M' b = none
theorem Les.refl {M : Mp} : Les M M := fun _ => .inl rfl
theorem Les.x {M M' : Mp} {Z : Zn} {H : Hp} (l : Les M' M) : ExI M Z H M' Z H := fun b o q m => by
  refine ⟨q, ?_, m.2⟩
  rcases l b with e | e
  · rw [e]; exact m.1
  · exact e
theorem Les.w {K : PySem.W.Frag} {M M' : Mp} {Z : Zn} {H : Hp} (l : Les M' M) (w : Wd K M Z H) : Wd K M' Z H := by
  refine ⟨fun a o e => ?_, fun b z => ?_⟩
  · rcases l a with q | q
    · rw [q] at e; exact (w.1 a o e).stepI l.x rfl
    · rw [q] at e; cases e
  · obtain ⟨m, u⟩ := w.2 b z
    rcases l b with q | q
    · exact ⟨q.trans m, u⟩
    · exact ⟨q, u⟩
theorem Les.ext {K : PySem.W.Frag} {M M' : Mp} {Z : Zn} {H : Hp} (l : Les M' M) (w : Wd K M Z H) : Ext M Z H M' H := by
  refine ⟨l.x, fun b z => ⟨rfl, ?_⟩⟩
  have m := (w.2 b z).1
  rcases l b with q | q
  · exact q
  · rw [q, m]
/-- d, read while M stands, is d' where only M' is left -/
inductive Fz (M M' : Mp) : D → D → Prop where
  | same (d : D) : Fz M M' d d
  | lst {a : Addr} {ds : List D} : M a = some (.lst ds) → M' a = none → Fz M M' (.ob a) (.lst ds)
  | dK {a : Addr} {ds : List (Key × D)} : M a = some (.dK ds) → M' a = none → Fz M M' (.ob a) (.dK ds)
  | dT {a : Addr} {ds : List (List Key × D)} : M a = some (.dT ds) → M' a = none → Fz M M' (.ob a) (.dT ds)
  | ins {a C : Addr} {fs : List (Str × D)} : M a = some (.ins C fs) → M' a = none → Fz M M' (.ob a) (.ins C fs)
  | fdK {a : Addr} {ds : List (Key × D)} : M a = some (.fdK ds) → M' a = none → Fz M M' (.ob a) (.fdK ds)
  | slo {a C : Addr} {os : List (Option D)} : M a = some (.slo C os) → M' a = none → Fz M M' (.ob a) (.slo C os)
theorem Fz.rep {K : PySem.W.Frag} {M M' : Mp} {Z : Zn} {H : Hp} {v : V} {d d' : D} (f : Fz M M' d d') (l : Les M' M) (w : Wd K M Z H) (r : Rep K M Z H v d) : Rep K M' Z H v d' := by
  cases f with
  | same d => exact r.monoI l.x
  | lst h h' =>
    cases r
    obtain ⟨vs, e, r⟩ := w.1 _ _ h
    exact .lst e ⟨h', fun z => by have := (w.2 _ z).1; rw [h] at this; cases this⟩ (r.monoI l.x)
  | dK h h' =>
    cases r
    obtain ⟨vs, e, r⟩ := w.1 _ _ h
    exact .dK e ⟨h', fun z => by have := (w.2 _ z).1; rw [h] at this; cases this⟩ (r.monoI l.x)
  | dT h h' =>
    cases r
    obtain ⟨vs, e, r⟩ := w.1 _ _ h
    exact .dT e ⟨h', fun z => by have := (w.2 _ z).1; rw [h] at this; cases this⟩ (r.monoI l.x)
  | ins h h' =>
    cases r
    obtain ⟨dx, vs, e, r⟩ := w.1 _ _ h
    exact .ins e ⟨h', fun z => by have := (w.2 _ z).1; rw [h] at this; cases this⟩ (r.monoI l.x)
  | fdK h h' =>
    cases r
    obtain ⟨o, vs, e, r⟩ := w.1 _ _ h
    exact .fdK e ⟨h', fun z => by have := (w.2 _ z).1; rw [h] at this; cases this⟩ (r.monoI l.x)
  | slo h h' =>
    cases r
    obtain ⟨dx, vs, e, hd, md, r⟩ := w.1 _ _ h
    exact .slo e hd ⟨h', fun z => by have := (w.2 _ z).1; rw [h] at this; cases this⟩ (l.x _ _ hd md).2 (r.monoI l.x)
/-- the end, some objects let go -/
def Lets (Φ : D → Mp → Prop) : D → Mp → Prop := fun d M => ∃ d' M', Les M' M ∧ Fz M M' d d' ∧ Φ d' M'
theorem Lets.of {Φ : D → Mp → Prop} {d : D} {M : Mp} (h : Φ d M) : Lets Φ d M := ⟨d, M, Les.refl, .same d, h⟩
/-- slots, some objects let go -/
inductive FzE (M M' : Mp) : Rho → Rho → Prop where
  | nil : FzE M M' [] []
  | val {d d' : D} {ρ ρ' : Rho} : Fz M M' d d' → FzE M M' ρ ρ' → FzE M M' (some d :: ρ) (some d' :: ρ')
  | drop {o : Option D} {ρ ρ' : Rho} : FzE M M' ρ ρ' → FzE M M' (o :: ρ) (none :: ρ')
theorem FzE.refl {M M' : Mp} : ∀ (ρ : Rho), FzE M M' ρ ρ
  | [] => .nil
  | some d :: ρ => .val (.same d) (FzE.refl ρ)
  | none :: ρ => .drop (FzE.refl ρ)
section
variable {X : Cx} {ρ : Rho} {M : Mp} {Φ : D → Mp → Prop} {e o : Expr} {es : List Expr} {pos p apos : Pos} {x m : Str} {dd : List D} {k n : Nat} {c : Con}
theorem RepF.lookup {K : PySem.W.Frag} {M : Mp} {Z : Zn} {H : Hp} (f : Str) : ∀ {vs : List (Str × V)} {ds : List (Str × D)}, RepF K M Z H vs ds → (ds.lookup f = none → vs.lookup f = none) ∧ ∀ d, ds.lookup f = some d → ∃ v, vs.lookup f = some v ∧ Rep K M Z H v d
  | _, _, .nil => ⟨fun _ => rfl, fun d e => by cases e⟩
  | _, _, .cons (k := g) (v := v) (d := d) (vs := vs) (ds := ds) r t => by
    rw [List.lookup_cons, List.lookup_cons]
    cases hg : f == g with
    | true =>
      refine ⟨fun e => ?_, fun d e => ?_⟩
      · cases e
      · cases e; exact ⟨_, rfl, r⟩
    | false => exact RepF.lookup f t
theorem RepF.length {K : PySem.W.Frag} {M : Mp} {Z : Zn} {H : Hp} : ∀ {vs : List (Str × V)} {ds : List (Str × D)}, RepF K M Z H vs ds → vs.length = ds.length
  | _, _, .nil => rfl
  | _, _, .cons _ t => by rw [List.length_cons, List.length_cons, t.length]
end
end DL
namespace DL
open PySem PySem.Spec PyProof.Rows L2
section
variable {X : Cx} {ρ : Rho} {M : Mp} {Φ : D → Mp → Prop} {Θ : Bool → Mp → Prop} {a b e : Expr} {pos : Pos} {K : PySem.W.Frag}
/-- the answer of == between scalars -/
def EqS : D → D → Bool → Prop
  | .int i, .int j, c => c = decide (i = j)
  | .str i, .str j, c => c = decide (i = j)
  | .bl i, .bl j, c => c = decide (i = j)
  | .non, .non, c => c = true
  | .non, .int _, c => c = false
  | .int _, .non, c => c = false
  | .non, .str _, c => c = false
  | .str _, .non, c => c = false
  | .int _, .str _, c => c = false
  | .str _, .int _, c => c = false
  | _, _, _ => False
theorem EqS.rep {x y : D} {c : Bool} {M : Mp} {Z : Zn} {H : Hp} {v u : V} (h : EqS x y c) (r1 : Rep K M Z H v x) (r2 : Rep K M Z H u y) : scal v u = true ∧ decide (v = u) = c := by
  cases r1 <;> cases r2 <;> first
    | (cases h; exact ⟨rfl, by simp⟩)
    | (exact False.elim h)
    | (cases h; exact ⟨rfl, rfl⟩)
mutual
def toPy : D → Option PyData
  | .non => some .none
  | .bl b => some (.bool b)
  | .int i => some (.int i)
  | .str x => some (.str x)
  | .lst xs => (toPys xs).map .list
  | .rol xs => (toPys xs).map .list
  | .tup xs => (toPys xs).map .tuple
  | _ => none
def toPys : List D → Option (List PyData)
  | [] => some []
  | x :: xs => (toPy x).bind fun d => (toPys xs).map fun ds => d :: ds
end
mutual
theorem Rep.dp {M : Mp} {Z : Zn} {H : Hp} : ∀ {v : V} {d : D} {p : PyData}, Rep K M Z H v d → toPy d = some p → Dp K H v p
  | _, _, _, .non, e => by cases e; exact .non
  | _, _, _, .bl b, e => by cases e; exact .bl b
  | _, _, _, .int i, e => by cases e; exact .int i
  | _, _, _, .str x, e => by cases e; exact .str x
  | _, _, _, .ty n, e => by simp [toPy] at e
  | _, _, _, .fn n, e => by simp [toPy] at e
  | _, _, _, .ob n, e => by simp [toPy] at e
  | _, _, _, .dK h m r, e => by simp [toPy] at e
  | _, _, _, .dT h m r, e => by simp [toPy] at e
  | _, _, _, .ins h m r, e => by simp [toPy] at e
  | _, _, _, .key h m, e => by simp [toPy] at e
  | _, _, _, .fig h hd m md, e => by simp [toPy] at e
  | _, _, _, .exc h hd m md r, e => by simp [toPy] at e
  | _, _, _, .lam h hc m mc, e => by simp [toPy] at e
  | _, _, _, .fdK h m r, e => by simp [toPy] at e
  | _, _, _, .slo h hd m md r, e => by simp [toPy] at e
  | _, _, _, .lst h m r, e => by
    obtain ⟨ps, e1, rfl⟩ := Option.map_eq_some_iff.mp (by simpa only [toPy] using e)
    exact .lst (.inl (.inl h)) (Reps.dp r e1)
  | _, _, _, .rol h m r, e => by
    obtain ⟨ps, e1, rfl⟩ := Option.map_eq_some_iff.mp (by simpa only [toPy] using e)
    exact .lst (.inl h) (Reps.dp r e1)
  | _, _, _, .rolK h r, e => by
    obtain ⟨ps, e1, rfl⟩ := Option.map_eq_some_iff.mp (by simpa only [toPy] using e)
    exact .lst (.inr h) (Reps.dp r e1)
  | _, _, _, .tup h m r, e => by
    obtain ⟨ps, e1, rfl⟩ := Option.map_eq_some_iff.mp (by simpa only [toPy] using e)
    exact .tup (.inl h) (Reps.dp r e1)
  | _, _, _, .tupK h r, e => by
    obtain ⟨ps, e1, rfl⟩ := Option.map_eq_some_iff.mp (by simpa only [toPy] using e)
    exact .tup (.inr h) (Reps.dp r e1)
theorem Reps.dp {M : Mp} {Z : Zn} {H : Hp} : ∀ {vs : List V} {ds : List D} {ps : List PyData}, Reps K M Z H vs ds → toPys ds = some ps → DpAll K H vs ps
  | _, _, _, .nil, e => by cases (show some [] = some _ from (by simpa only [toPys] using e)); exact .nil
  | _, _, _, .cons r t, e => by
    simp only [toPys] at e
    obtain ⟨p, e1, e2⟩ := Option.bind_eq_some_iff.mp e
    obtain ⟨qs, e3, rfl⟩ := Option.map_eq_some_iff.mp e2
    exact .cons (Rep.dp r e1) (Reps.dp t e3)
end
end
end DL
namespace DL
open PySem PySem.Spec PyProof.Rows L2
section
variable {K : PySem.W.Frag} {M : Mp} {Z : Zn} {H : Hp}
theorem Reps.set {v : V} {d : D} (r : Rep K M Z H v d) : ∀ {vs : List V} {ds : List D} (j : Nat), Reps K M Z H vs ds → Reps K M Z H (vs.set j v) (ds.set j d)
  | _, _, _, .nil => .nil
  | _, _, 0, .cons _ t => .cons r t
  | _, _, j + 1, .cons q t => .cons q (Reps.set r j t)
theorem Reps.one {vs : List V} {d : D} (r : Reps K M Z H vs [d]) : ∃ v, vs = [v] ∧ Rep K M Z H v d := by
  cases r with
  | cons r t => cases t; exact ⟨_, rfl, r⟩
end
section
variable {X : Cx} {ρ : Rho} {M : Mp} {Φ : D → Mp → Prop} {Θ : Bool → Mp → Prop} {a b e o : Expr} {es : List Expr} {pos p apos : Pos} {x : Str}
/-- the class of data, as the fragment's deciders take it -/
def TyD (M : Mp) : D → Value → Prop
  | .non, t => t = .type "NoneType"
  | .bl _, t => t = .type "bool"
  | .int _, t => t = .type "int"
  | .str _, t => t = .type "str"
  | .lst _, t => t = .type "list"
  | .tup _, t => t = .type "tuple"
  | .dK _, t => t = .type "dict"
  | .dT _, t => t = .type "dict"
  | .ins C _, t => t = .ref C
  | _, _ => False
/-- what isinstance asks of an own class -/
structure OwnC (K : PySem.W.Frag) (C : Addr) : Prop where
  cl : Cls K C
  ha : PySem.W.findIn K (.ref C) "__class__" = some (some (.builtin "object.__class__"))
  hn : PySem.W.specialIn K (.builtin "object.__class__") "__get__" = some (some (.builtin "getset_descriptor.__get__"))
  htk : PySem.W.takesIn K (.builtin "object.__class__") = some true
  hm : PySem.W.mroIn K C (.type "object") = some true
theorem TyD.rep {K : PySem.W.Frag} {M : Mp} {Z : Zn} {H : Hp} {v : V} {d : D} {t : Value} (r : Rep K M Z H v d) (h : TyD M d t) (own : ∀ C, t = .ref C → OwnC K C) : TyX K H v t := by
  cases r with
  | non => cases h; exact .base .non
  | bl b => cases h; exact .base (.bl b)
  | int i => cases h; exact .base (.int i)
  | str x => cases h; exact .base (.str x)
  | lst h1 m r => cases h; exact .base (.lst h1)
  | tup h1 m r =>
    cases h
    rcases h1 with h1 | ⟨o, h1⟩
    · exact .base (.tup h1)
    · exact .fTuple h1
  | tupK h1 r =>
    cases h
    obtain ⟨o, its, n, hk, hc, _⟩ := h1
    exact .kTuple hk hc
  | dK h1 m r => cases h; exact .base (.dK h1)
  | dT h1 m r => cases h; exact .base (.dT h1)
  | ins h1 m r =>
    cases h
    obtain ⟨cl, ha, hn, htk, hm⟩ := own _ rfl
    exact .base (.ins h1 cl ha hn htk hm)
  | _ => cases h
end
end DL
namespace DL
open PySem PySem.Spec PyProof.Rows L2
/-- at a a dict of the top: these texts with these values, in this order -/
def WrD (K : PySem.W.Frag) (w : World) (a : Addr) (kvs : List (Str × V)) : Prop := ∃ es n, K.lookup a = some ⟨.type "dict", none, .dict es n, #[]⟩ ∧ (a == sysModules) = false ∧ PySem.W.KeysLit w.params es.toList ∧
  Paired (fun (p : Str × V) (e : DictEntry) => (∃ t, e.key = .str p.1 t) ∧ RelV p.2 e.val) kvs es.toList ∧ (kvs.map (·.1)).Nodup
section
variable {X : Cx} {ρ : Rho} {M : Mp} {a : Addr} {e f : Expr} {pos p apos : Pos} {x : Str} {kvs : List (Str × V)}
theorem RepF.get {K : PySem.W.Frag} {M : Mp} {Z : Zn} {H : Hp} : ∀ {vs : List (Str × V)} {ds : List (Str × D)} {i : Nat} {k : Str} {d : D}, RepF K M Z H vs ds → ds[i]? = some (k, d) → ∃ v, vs[i]? = some (k, v) ∧ Rep K M Z H v d
  | _, _, _, _, _, .nil, e => by simp at e
  | _, _, 0, _, _, .cons r _, e => by simp at e; obtain ⟨rfl, rfl⟩ := e; exact ⟨_, rfl, r⟩
  | _, _, i + 1, k, d, .cons _ t, e => by
    obtain ⟨u, h1, h2⟩ := RepF.get (i := i) (d := d) t (by simpa using e)
    exact ⟨u, by simpa using h1, h2⟩
end
end DL
namespace DL
open PySem PySem.Spec PyProof.Rows L2
/-- lists of such -/
structure CmpDs (ds : List D) (ps : List PyData) (k : Nat) : Prop where
  eq : toPys ds = some ps
  lay : PyData.canLayAll0 ps = true
  dep : PyData.depthAll ps ≤ k
theorem CmpDs.length {k : Nat} : ∀ {ds : List D} {ps : List PyData}, CmpDs ds ps k → ps.length = ds.length
  | [], ps, h => by
    have := h.eq
    simp only [toPys, Option.some.injEq] at this
    rw [← this]; rfl
  | d :: ds, ps, h => by
    have := h.eq
    simp only [toPys] at this
    obtain ⟨p, e1, e2⟩ := Option.bind_eq_some_iff.mp this
    obtain ⟨qs, e3, rfl⟩ := Option.map_eq_some_iff.mp e2
    have l := h.lay
    have dd := h.dep
    simp only [PyData.canLayAll0, Bool.and_eq_true, PyData.depthAll] at l dd
    rw [List.length_cons, List.length_cons, CmpDs.length (k := k) ⟨e3, l.2, by omega⟩]
end DL
namespace DL
open PySem PySem.Spec PyProof.Rows L2
/-- as FnOk, where nothing is being shown -/
structure FnG (P : Program) (w : World) (K : PySem.W.Frag) (mg : Str → Option Value) (base : Heap) (k : Nat) (f : Addr) (fd : FuncData) (ps : List Str) (sp : Sp) : Prop where
  len : ∀ vs H Q E, sp vs H Q E → vs.length = ps.length
  run : ∀ (A : Around) (outer : List Env) (s : Shared) (H : Hp) (args : Args) (us : List Value) (vs : List V) (Q : VK) (E : XK), A.guards = some [] → Room k A → Env0 P w K mg base A outer s H → BindsTo s fd args (ps.zip us) → Vals vs us → sp vs H Q E →
    codeAny (model P w) A (.call (.ref f) args) (CR CX0 outer P w H s Q E) s
section
variable {P : Program} {w : World} {K : PySem.W.Frag} {mg : Str → Option Value} {base : Heap} {x qual : Str} {st : Stmt} {kws : List (Str × V)} {f : Addr} {fd : FuncData} {N ps : List Str} {k n : Nat} {c : Con}
theorem FnOk.g {sp : Sp} (F : FnOk P w K mg base CX0 k f fd ps sp) : FnG P w K mg base k f fd ps sp := ⟨F.len, fun A outer s H args us vs Q E _ => F.run A outer s H args us vs Q E⟩
end
end DL
namespace DL
open PySem PySem.Spec PyProof.Rows L2
section
variable {X : Cx} {ρ : Rho} {M : Mp} {Φ : D → Mp → Prop} {Θ : Bool → Mp → Prop} {a b e o i : Expr} {es : List Expr} {pos p : Pos}
def valD (kvs : List (List Key × D)) (k : List Key) : Option D := (kvs.find? fun kv => decide (kv.1 = k)).map (·.2)
theorem RepT.length {K : PySem.W.Frag} {M : Mp} {Z : Zn} {H : Hp} : ∀ {vs : List (List Key × V)} {ds : List (List Key × D)}, RepT K M Z H vs ds → vs.length = ds.length
  | _, _, .nil => rfl
  | _, _, .cons _ t => by rw [List.length_cons, List.length_cons, RepT.length t]
theorem RepT.val {K : PySem.W.Frag} {M : Mp} {Z : Zn} {H : Hp} {k : List Key} {d : D} : ∀ {vs : List (List Key × V)} {ds : List (List Key × D)}, RepT K M Z H vs ds → valD ds k = some d → ∃ v, valV vs k = some v ∧ Rep K M Z H v d
  | _, _, .nil, h => by cases h
  | _, _, .cons (k := j) (v := v) (d := d0) (vs := vs) (ds := ds) r t, h => by
    by_cases e : j = k
    · have h2 : some d0 = some d := by rw [← h]; unfold valD; rw [List.find?_cons_of_pos (by simpa using e)]; rfl
      cases h2
      exact ⟨v, valV_pos (p := (j, v)) e, r⟩
    · have h2 : valD ds k = some d := by rw [← h]; unfold valD; rw [List.find?_cons_of_neg (by simpa using e)]
      obtain ⟨u, hu, ru⟩ := RepT.val t h2
      exact ⟨u, by rw [valV_neg (p := (j, v)) e]; exact hu, ru⟩
theorem RepT.any {K : PySem.W.Frag} {M : Mp} {Z : Zn} {H : Hp} {k : List Key} : ∀ {vs : List (List Key × V)} {ds : List (List Key × D)}, RepT K M Z H vs ds → (vs.any fun kv => decide (kv.1 = k)) = ds.any fun kv => decide (kv.1 = k)
  | _, _, .nil => rfl
  | _, _, .cons r t => by rw [List.any_cons, List.any_cons, RepT.any t]
end
end DL
namespace DL
open PySem PySem.Spec PyProof.Rows L2 SlX
/-- a class with these slots -/
structure SlC (K : PySem.W.Frag) (C : Addr) (fs : List Str) : Prop where
  sc : SCls K C
  sl : ∀ (i : Nat) (f : Str), fs[i]? = some f → ∃ p, Slot1 K C f p i
end DL
namespace HK
open PySem PySem.Spec PyProof.Rows L2 DL He
/-- a def of the text: where it stands -/
structure Dd where
  adr : PySem.W.Frag → Addr
  name : Str
  qual : Str
  st : Stmt
  dfl : List V := []
  dfg : List Str := []
/-- the defaults: shown ones, then what stands under names -/
def Dd.dvs (d : Dd) (K : PySem.W.Frag) : List V := d.dfl ++ d.dfg.map fun x => V.ref (ga K x)
def fnA (K : PySem.W.Frag) (a : Addr) : FnW := match K.lookup a with
  | some ⟨_, _, .func fd, _⟩ => some (fd.name, fd.qualname, fd.params, fd.body, fd.scope, fd.globals, fd.closure, fd.builtins)
  | _ => none
def Dd.val (d : Dd) : FnW := some (d.name, d.qual, defArgs d.st, .stmts (defBody d.st), defScope d.st, mainGlobals, [], builtinsNs)
def Dd.ok (K : PySem.W.Frag) (d : Dd) : Bool := PySem.W.keepIn K (.ref (d.adr K)) && (match K.lookup (d.adr K) with
  | some ⟨_, _, .func fd, _⟩ => PySem.W.codeIn K fd.code d.qual && dflB K fd.defaults (d.dvs K)
  | _ => false)
theorem Dd.funD {K : PySem.W.Frag} {d : Dd} (e : fnA K (d.adr K) = d.val) (c : d.ok K = true) : ∃ fd, FunD K d.name d.qual (defArgs d.st) (defBody d.st) (defScope d.st) (d.dvs K) [] (d.adr K) fd := by
  obtain ⟨kp, c2⟩ := Bool.and_eq_true_iff.mp c
  unfold fnA at e
  cases q : K.lookup (d.adr K) with
  | none => rw [q] at c2; cases c2
  | some o =>
    obtain ⟨oc, od, dt, osl⟩ := o
    rw [q] at c2 e
    cases dt with
    | func fd =>
      obtain ⟨x1, x2, x3, x4, x5, x6, x7, x8, x9, x10, x11, x12, x13, x14, x15⟩ := fd
      have e2 : (some (x1, x2, x3, x4, x5, x6, x7, x15) : FnW) = some (d.name, d.qual, defArgs d.st, .stmts (defBody d.st), defScope d.st, mainGlobals, [], builtinsNs) := e
      simp only [Option.some.injEq, Prod.mk.injEq] at e2
      obtain ⟨h1, h2, h3, h4, h5, h6, h7, h8⟩ := e2
      subst h1 h2 h3 h4 h5 h6 h7 h8
      obtain ⟨y1, y2⟩ := Bool.and_eq_true_iff.mp (show (PySem.W.codeIn K x13 d.qual && dflB K x8 (d.dvs K)) = true from c2)
      exact ⟨_, ⟨oc, od, x8, x9, x10, x11, x12, x13, x14, osl, rfl, q, y1, dflB_ok y2, .inl rfl⟩, kp⟩
    | _ => cases c2
/-- the getter of a property -/
def pgA (C m : Str) (K : PySem.W.Frag) : Addr := match PySem.W.recIn K (ma K (ga K C) m) "property" with
  | some (.ref g :: _) => g
  | _ => 0
def propB (K : PySem.W.Frag) (q : Str × Str) : Bool := eqO (PySem.W.findIn K (.ref (ga K q.1)) q.2) (some (some (.ref (ma K (ga K q.1) q.2)))) && (eqO (PySem.W.specialIn K (.ref (ma K (ga K q.1) q.2)) "__get__") (some (some (.builtin "property.__get__"))) &&
  (decide (PySem.W.takesIn K (.ref (ma K (ga K q.1) q.2)) = some true) && (match PySem.W.recIn K (ma K (ga K q.1) q.2) "property" with
  | some (.ref _ :: _) => true
  | _ => false)))
/-- a value: a text, a tuple of texts, an int -/
inductive Dt where
  | s (z : Str) | t (zs : List Str) | i (n : Int)
def Dt.d : Dt → D
  | .s z => .str z
  | .t zs => .tup (zs.map D.str)
  | .i n => .int n
def Dt.ok (K : PySem.W.Frag) : Dt → Value → Bool
  | .s z, .str y _ => decide (y = z)
  | .i n, .int m _ => decide (m = n)
  | .t zs, .ref b => (match K.lookup b with
    | some ⟨.type c, _, .seq its _, _⟩ => decide (c = "tuple") && (decide (its.size ≤ sizeLine) && relAll (zs.map V.str) its.toList)
    | _ => false)
  | _, _ => false
theorem Dt.rep {K : PySem.W.Frag} {x : Dt} {u : Value} (h : x.ok K u = true) : ∃ v, RelV v u ∧ ∀ M Z H, Rep K M Z H v x.d := by
  cases x with
  | s z =>
    cases u with
    | str y t =>
      obtain rfl : y = z := of_decide_eq_true h
      exact ⟨.str y, ⟨t, rfl⟩, fun _ _ _ => .str y⟩
    | _ => cases h
  | i n =>
    cases u with
    | int y t =>
      obtain rfl : y = n := of_decide_eq_true h
      exact ⟨.int y, ⟨t, rfl⟩, fun _ _ _ => .int y⟩
    | _ => cases h
  | t zs =>
    cases u with
    | ref b =>
      refine ⟨.ref b, rfl, fun M Z H => ?_⟩
      cases q : K.lookup b with
      | none => simp only [Dt.ok, q] at h; cases h
      | some o =>
        obtain ⟨oc, od, dt, osl⟩ := o
        simp only [Dt.ok, q] at h
        cases oc with
        | type c =>
          cases dt with
          | seq its n =>
            obtain ⟨h1, h2⟩ := Bool.and_eq_true_iff.mp (show (decide (c = "tuple") && (decide (its.size ≤ sizeLine) && relAll (zs.map V.str) its.toList)) = true from h)
            obtain ⟨h3, h4⟩ := Bool.and_eq_true_iff.mp h2
            exact .tupK ⟨_, its, n, q, congrArg Value.type (of_decide_eq_true h1), rfl, of_decide_eq_true h3, relAll_ok h4⟩ (Reps.ofStrs zs)
          | _ => cases h
        | _ => cases dt <;> cases h
    | _ => cases h
def entsB (K : PySem.W.Frag) : List (Str × Dt) → List DictEntry → Bool
  | [], [] => true
  | q :: qs, e :: es => (match e.key with
    | .str x _ => decide (x = q.1)
    | _ => false) && (q.2.ok K e.val && entsB K qs es)
  | _, _ => false
theorem entsB_ok {K : PySem.W.Frag} : ∀ {qs : List (Str × Dt)} {es : List DictEntry}, entsB K qs es = true → ∃ kvs : List (Str × V), Paired (fun (p : Str × V) (e : DictEntry) => (∃ t, e.key = .str p.1 t) ∧ RelV p.2 e.val) kvs es ∧ kvs.map (·.1) = qs.map (·.1) ∧ ∀ M Z H, RepF K M Z H kvs (qs.map fun q => (q.1, q.2.d))
  | [], [], _ => ⟨[], .nil, rfl, fun _ _ _ => .nil⟩
  | [], _ :: _, h => by cases h
  | _ :: _, [], h => by cases h
  | q :: qs, e :: es, h => by
    obtain ⟨h1, h2⟩ := Bool.and_eq_true_iff.mp (show ((match e.key with | .str x _ => decide (x = q.1) | _ => false) && (q.2.ok K e.val && entsB K qs es)) = true from h)
    obtain ⟨h3, h4⟩ := Bool.and_eq_true_iff.mp h2
    obtain ⟨kvs, a1, a2, a3⟩ := entsB_ok h4
    obtain ⟨v, b1, b2⟩ := Dt.rep h3
    refine ⟨(q.1, v) :: kvs, .cons ⟨?_, b1⟩ a1, by rw [List.map_cons, List.map_cons, a2], fun M Z H => .cons (b2 M Z H) (a3 M Z H)⟩
    cases hk : e.key with
    | str x t =>
      rw [hk] at h1
      exact ⟨t, by rw [of_decide_eq_true h1]⟩
    | _ => rw [hk] at h1; cases h1
def dicB (K : PySem.W.Frag) (q : Str × List (Str × Dt)) : Bool := match K.lookup (ga K q.1) with
  | some ⟨_, _, .dict es _, _⟩ => entsB K q.2 es.toList
  | _ => false
theorem dicB_ok {K : PySem.W.Frag} {w : World} {x : Str} {qs : List (Str × Dt)} (h : dicB K (x, qs) = true) (hk : dicW K (ga K x) = some (keysIn w.params (qs.map (·.1)))) (nd : (qs.map (·.1)).Nodup) :
    ∃ kvs, WrD K w (ga K x) kvs ∧ ∀ M Z H, RepF K M Z H kvs (qs.map fun q => (q.1, q.2.d)) := by
  obtain ⟨es, n, h1, h2, h3⟩ := dicW_ok hk
  unfold dicB at h
  rw [h1] at h
  obtain ⟨kvs, a1, a2, a3⟩ := entsB_ok (show entsB K qs es.toList = true from h)
  exact ⟨kvs, ⟨es, n, h1, h3, h2, a1, by rw [a2]; exact nd⟩, a3⟩
def slAll (K : PySem.W.Frag) (G : Addr) : Nat → List Str → Bool
  | _, [] => true
  | i, f :: fs => eqO (PySem.W.findIn K (.ref G) f) (some (some (.ref (ma K G f)))) && (eqO (PySem.W.specialIn K (.ref (ma K G f)) "__get__") (some (some (.builtin "member_descriptor.__get__"))) && (decide (PySem.W.takesIn K (.ref (ma K G f)) = some true) && (decide (PySem.W.typeIn K (.ref (ma K G f)) = some (.type "member_descriptor")) && (decide (PySem.W.slotIn K (ma K G f) G = some i) && (decide (i < 1000) && slAll K G (i + 1) fs)))))
theorem slAll_ok {K : PySem.W.Frag} {G : Addr} : ∀ {fs : List Str} {k : Nat}, slAll K G k fs = true → ∀ (i : Nat) (f : Str), fs[i]? = some f → ∃ p, SlX.Slot1 K G f p (k + i)
  | [], _, _, i, f, h => by simp at h
  | f0 :: fs, k, hb, i, f, h => by
    obtain ⟨h1, hb⟩ := Bool.and_eq_true_iff.mp (show (eqO (PySem.W.findIn K (.ref G) f0) (some (some (.ref (ma K G f0)))) && (eqO (PySem.W.specialIn K (.ref (ma K G f0)) "__get__") (some (some (.builtin "member_descriptor.__get__"))) && (decide (PySem.W.takesIn K (.ref (ma K G f0)) = some true) && (decide (PySem.W.typeIn K (.ref (ma K G f0)) = some (.type "member_descriptor")) && (decide (PySem.W.slotIn K (ma K G f0) G = some k) && (decide (k < 1000) && slAll K G (k + 1) fs)))))) = true from hb)
    obtain ⟨h2, hb⟩ := Bool.and_eq_true_iff.mp hb
    obtain ⟨h3, hb⟩ := Bool.and_eq_true_iff.mp hb
    obtain ⟨h4, hb⟩ := Bool.and_eq_true_iff.mp hb
    obtain ⟨h5, hb⟩ := Bool.and_eq_true_iff.mp hb
    obtain ⟨h6, hb⟩ := Bool.and_eq_true_iff.mp hb
    cases i with
    | zero =>
      obtain rfl := Option.some.inj h
      exact ⟨_, eqO_ok h1, eqO_ok h2, of_decide_eq_true h3, of_decide_eq_true h4, of_decide_eq_true h5, of_decide_eq_true h6⟩
    | succ i =>
      obtain ⟨p, q⟩ := slAll_ok hb i f h
      exact ⟨p, by rw [show k + (i + 1) = k + 1 + i by omega]; exact q⟩
def slB (K : PySem.W.Frag) (q : Str × List Str) : Bool := PySem.W.plainGet K (ga K q.1) Str.empty && (PySem.W.isClsIn K (ga K q.1) && (PySem.W.plainOver K (ga K q.1) && (eqO (PySem.W.findIn K (.ref (ga K q.1)) "__setattr__") (some (some (.builtin "object.__setattr__"))) && slAll K (ga K q.1) 0 q.2)))
theorem slB_ok {K : PySem.W.Frag} {x : Str} {fs : List Str} (h : slB K (x, fs) = true) : SlC K (ga K x) fs := by
  obtain ⟨h1, h⟩ := Bool.and_eq_true_iff.mp h
  obtain ⟨h2, h⟩ := Bool.and_eq_true_iff.mp h
  obtain ⟨h3, h⟩ := Bool.and_eq_true_iff.mp h
  obtain ⟨h4, h⟩ := Bool.and_eq_true_iff.mp h
  refine ⟨⟨h1, h2, h3, eqO_ok h4⟩, fun i f hf => ?_⟩
  obtain ⟨p, q⟩ := slAll_ok h i f hf
  exact ⟨p, by rw [Nat.zero_add] at q; exact q⟩
def eqB (K : PySem.W.Frag) (x : Str) : Bool := PySem.W.selfFirst K (ga K x) && ((Fa.cls x).ok K && (eqO (PySem.W.findIn K (.ref (ga K x)) "__class__") (some (some (.builtin "object.__class__"))) && (eqO (PySem.W.specialIn K (.builtin "object.__class__") "__get__") (some (some (.builtin "getset_descriptor.__get__"))) &&
  (decide (PySem.W.takesIn K (.builtin "object.__class__") = some true) && (decide (PySem.W.mroIn K (ga K x) (.type "object") = some true) && eqO (PySem.W.findIn K (.ref (ga K x)) "__ne__") (some (some (.builtin "object.__ne__"))))))))
structure Sp where
  fa : List Fa
  dd : List Dd
  pr : List (Str × Str)
  ta : List (Str × List (Str × Dt))
  sl : List (Str × List Str)
  eq : List Str
  tx : List (Str × List Str)
abbrev Al : Type := Bool × List FnW × List (Option (List (Option (Str × Int))))
def obsK (S : Sp) (K : PySem.W.Frag) : Al := ((S.fa.all fun f => f.ok K) && ((S.dd.all fun d => d.ok K) && ((S.pr.all fun q => propB K q) && ((S.ta.all fun q => dicB K q) && ((S.sl.all fun q => slB K q) && ((S.eq.all fun x => eqB K x) && S.tx.all fun q => (Dt.t q.2).ok K (.ref (ga K q.1))))))), S.dd.map (fun d => fnA K (d.adr K)), S.ta.map fun q => dicW K (ga K q.1))
def valK (S : Sp) (w : World) : Al := (true, S.dd.map Dd.val, S.ta.map fun q => some (keysIn w.params (q.2.map (·.1))))
def Says (S : Sp) (w : World) (K : PySem.W.Frag) : Prop := obsK S K = valK S w
/-- what these names of the module reach, step by step -/
def lv0 (ns : List Str) (g : Addr → Option Obj) : List Addr := match g mainGlobals with
  | some ⟨_, _, .dict es _, _⟩ => es.toList.flatMap fun e => match e.key with
    | .str y _ => if ns.contains y then refV e.val else []
    | _ => []
  | _ => []
def lvs (g : Addr → Option Obj) : Nat → List Addr → List Addr
  | 0, l => l
  | n + 1, l => l ++ lvs g n (l.flatMap fun a => match g a with
    | some o => refsD o
    | none => [])
def asN (n : Nat) (ns : List Str) (g : Addr → Option Obj) : List Addr := mainGlobals :: lvs g n (lv0 ns g)
def obsG (n : Nat) (ns : List Str) (S : Sp) (g : Addr → Option Obj) : Al := obsK S (frG g (asN n ns g))
def hook (n : Nat) (ns : List Str) (S : Sp) : PySem.W.Hook where
  α := Al
  obs := fun s => obsG n ns S s.heap.get?
  val := fun w => valK S w
  says := fun w h => ∃ K : PySem.W.Frag, K.In h ∧ Says S w K
  of := fun _ _ e => ⟨_, frG_in, e⟩
  keeps := fun _ _ _ ⟨K, hK, c⟩ k => ⟨K, PySem.W.Frag.In.keeps hK k, c⟩
section
variable {S : Sp} {w : World} {K : PySem.W.Frag}
theorem Says.fa (c : Says S w K) {f : Fa} (h : f ∈ S.fa) : f.ok K = true := by
  have b := Bool.and_eq_true_iff.mp (congrArg (fun z : Al => z.1) c)
  exact List.all_eq_true.mp b.1 f h
theorem Says.pr (c : Says S w K) {q : Str × Str} (h : q ∈ S.pr) : propB K q = true := by
  have b := Bool.and_eq_true_iff.mp (Bool.and_eq_true_iff.mp (Bool.and_eq_true_iff.mp (congrArg (fun z : Al => z.1) c)).2).2
  exact List.all_eq_true.mp b.1 q h
theorem Says.dd (c : Says S w K) (i : Nat) {d : Dd} (h : S.dd[i]? = some d) : ∃ fd, FunD K d.name d.qual (defArgs d.st) (defBody d.st) (defScope d.st) (d.dvs K) [] (d.adr K) fd := by
  have b := Bool.and_eq_true_iff.mp (Bool.and_eq_true_iff.mp (congrArg (fun z : Al => z.1) c)).2
  have e : S.dd.map (fun d => fnA K (d.adr K)) = S.dd.map Dd.val := congrArg (fun z : Al => z.2.1) c
  have e2 : (S.dd.map fun d => fnA K (d.adr K))[i]? = (S.dd.map Dd.val)[i]? := by rw [e]
  rw [List.getElem?_map, List.getElem?_map, h] at e2
  exact Dd.funD (Option.some.inj e2) (List.all_eq_true.mp b.1 d (List.mem_of_getElem? h))
theorem Says.ta (c : Says S w K) (i : Nat) {x : Str} {qs : List (Str × Dt)} (h : S.ta[i]? = some (x, qs)) (nd : (qs.map (·.1)).Nodup) : ∃ kvs, WrD K w (ga K x) kvs ∧ ∀ M Z H, RepF K M Z H kvs (qs.map fun q => (q.1, q.2.d)) := by
  have b := Bool.and_eq_true_iff.mp (Bool.and_eq_true_iff.mp (Bool.and_eq_true_iff.mp (congrArg (fun z : Al => z.1) c)).2).2
  have e : S.ta.map (fun q => dicW K (ga K q.1)) = S.ta.map fun q => some (keysIn w.params (q.2.map (·.1))) := congrArg (fun z : Al => z.2.2) c
  have e2 : (S.ta.map fun q => dicW K (ga K q.1))[i]? = (S.ta.map fun q => some (keysIn w.params (q.2.map (·.1))))[i]? := by rw [e]
  rw [List.getElem?_map, List.getElem?_map, h] at e2
  exact dicB_ok (List.all_eq_true.mp (Bool.and_eq_true_iff.mp b.2).1 _ (List.mem_of_getElem? h)) (Option.some.inj e2) nd
theorem Says.sl (c : Says S w K) {x : Str} {fs : List Str} (h : (x, fs) ∈ S.sl) : SlC K (ga K x) fs := by
  have b := Bool.and_eq_true_iff.mp (Bool.and_eq_true_iff.mp (Bool.and_eq_true_iff.mp (congrArg (fun z : Al => z.1) c)).2).2
  exact slB_ok (List.all_eq_true.mp (Bool.and_eq_true_iff.mp (Bool.and_eq_true_iff.mp b.2).2).1 _ h)
end
end HK
namespace PL
open PySem SX TL
/-- a plan: a person, an unknown crowd, so many copies, a row; false: beside, true: introduced -/
inductive T where
  | one | name (x : List Nat) | cop (s : Bool) (n : Nat) (t : T) | row (s : Bool) (ts : List T)
def cls (s : Bool) : Nat := if s then 125 else 93
mutual
def ht : T → Nat
  | .one => 0
  | .name _ => 0
  | .cop _ _ t => ht t + 1
  | .row _ ts => hts ts + 1
def hts : List T → Nat
  | [] => 0
  | t :: ts => max (ht t) (hts ts)
end
def wgt (c : Nat) : Int := (if c = 40 ∨ c = 91 ∨ c = 123 then 1 else 0) - (if c = 41 ∨ c = 93 ∨ c = 125 then 1 else 0)
def dep : List Nat → Int
  | [] => 0
  | c :: r => wgt c + dep r
/-- the rest of the walk through L: at place i, depth d, begin b, found f -/
def G (L S : List Nat) : List Nat → Nat → Int → Nat → List (List Nat) → List (List Nat)
  | [], _, _, b, f => f ++ [L.drop b]
  | c :: r, i, d, b, f => if d + wgt c = 0 ∧ pre S (c :: r) = true then G L S r (i + 1) (d + wgt c) (i + S.length) (f ++ [(L.take i).drop b]) else G L S r (i + 1) (d + wgt c) b f
end PL
namespace W
open PySem PySem.Spec PyProof.Rows L2 DL
abbrev pw : Program := PySem.Challenge.pw_greetall_k14_numbers_by_trying
def top (i : Nat) : Stmt := pw.main.body.getD i (.Pass ⟨0, 0, 0, 0⟩)
abbrev s_is_integer : Stmt := top 24
abbrev s_is_name : Stmt := top 25
abbrev s_is_word : Stmt := top 26
abbrev s_number_in : Stmt := top 27
abbrev s_parted : Stmt := top 37
abbrev s_copies_in : Stmt := top 38
abbrev s_row_in : Stmt := top 39
abbrev s_groups_in : Stmt := top 40
abbrev s_is_plan_text : Stmt := top 41
abbrev s_names_in : Stmt := top 42
abbrev s_Plan___init__ : Stmt := inClass (top 43) 0
abbrev s_Plan_text : Stmt := inClass (top 43) 1
abbrev s_Plan_names : Stmt := inClass (top 43) 2
abbrev s_Plan_word : Stmt := inClass (top 43) 3
abbrev s_Plan_many : Stmt := inClass (top 43) 4
abbrev s_Plan___invert__ : Stmt := inClass (top 43) 11
abbrev s_check_told : Stmt := top 44
abbrev s_Figures___init__ : Stmt := inClass (top 49) 1
abbrev s_Figures_told_for : Stmt := inClass (top 49) 2
abbrev s_Figures_copied : Stmt := inClass (top 49) 3
abbrev s_Figures_joined : Stmt := inClass (top 49) 4
abbrev s_figures : Stmt := top 50
abbrev s_check_word : Stmt := top 51
abbrev s_number : Stmt := top 52
abbrev s__law_pot : Stmt := top 54
abbrev s__law_take : Stmt := top 55
abbrev s__law_of : Stmt := top 56
abbrev s__law_cells : Stmt := top 57
abbrev s__law_text : Stmt := top 58
abbrev s__law_plan : Stmt := top 59
abbrev s__law_is_beside : Stmt := top 60
abbrev s__law_count : Stmt := top 61
abbrev s__law_piece : Stmt := top 62
abbrev s__law_built : Stmt := top 63
abbrev s__law_web : Stmt := top 64
abbrev s__law_sets : Stmt := top 65
abbrev s__law_most : Stmt := top 66
abbrev s__law_table : Stmt := top 67
abbrev s__law_rows_of : Stmt := top 68
abbrev s__law_hall_of : Stmt := top 69
abbrev s__law_figures : Stmt := top 70
abbrev s__law_words : Stmt := top 71
abbrev s__law_small : Stmt := top 72
abbrev s__law_right : Stmt := top 73
abbrev s_law : Stmt := top 74
end W
namespace W
open PySem PySem.Spec PyProof.Rows L2 DL SX PL
def bns : List Str := ["isinstance", "int", "bool", "str", "len", "all", "sum", "range", "enumerate", "sorted", "set", "tuple", "list", "zip", "repr", "abs", "max", "min"]
end W
namespace W
open PySem PySem.Spec PyProof.Rows L2 DL SX PL
def fNames : List Str := ["own_text", "own_names", "own_word", "own_groups", "own_copies", "own_people"]
end W
namespace W
open PySem PySem.Spec PyProof.Rows L2 DL He HK
def gl (x : Str) (st : Stmt) : Dd := ⟨fun K => ga K x, x, x, st, [], []⟩
def me (m qual : Str) (st : Stmt) : Dd := ⟨fun K => ma K (ga K "Plan") m, m, qual, st, [], []⟩
def pg (m qual : Str) (st : Stmt) : Dd := ⟨pgA "Plan" m, m, qual, st, [], []⟩
def dds : List Dd := [
  ⟨fun K => ga K "is_integer", "is_integer", "is_integer", s_is_integer, [.non, .non], []⟩, me "__init__" "Plan.__init__" s_Plan___init__, pg "text" "Plan.text" s_Plan_text, pg "names" "Plan.names" s_Plan_names, pg "word" "Plan.word" s_Plan_word, pg "many" "Plan.many" s_Plan_many, me "__invert__" "Plan.__invert__" s_Plan___invert__, ⟨fun K => ma K (ga K "Figures") "copied", "copied", "Figures.copied", s_Figures_copied, [], []⟩,
  ⟨fun K => ma K (ga K "Figures") "joined", "joined", "Figures.joined", s_Figures_joined, [], []⟩, ⟨fun K => ma K (ga K "Figures") "told_for", "told_for", "Figures.told_for", s_Figures_told_for, [], []⟩, ⟨fun K => ma K (ga K "Figures") "__init__", "__init__", "Figures.__init__", s_Figures___init__, [.int 1, .int 1, .int 1, .int 1, .int 1], []⟩, gl "is_name" s_is_name, gl "number_in" s_number_in, gl "parted" s_parted, gl "copies_in" s_copies_in, gl "row_in" s_row_in,
  gl "groups_in" s_groups_in, gl "is_plan_text" s_is_plan_text, gl "names_in" s_names_in, gl "check_told" s_check_told, gl "figures" s_figures, gl "is_word" s_is_word, gl "number" s_number, gl "_law_take" s__law_take,
  gl "_law_of" s__law_of, gl "_law_pot" s__law_pot, gl "_law_cells" s__law_cells, gl "_law_text" s__law_text, gl "_law_is_beside" s__law_is_beside, gl "_law_count" s__law_count, gl "_law_piece" s__law_piece, gl "_law_plan" s__law_plan,
  gl "_law_built" s__law_built, gl "_law_web" s__law_web, gl "_law_table" s__law_table, gl "_law_sets" s__law_sets, gl "_law_most" s__law_most, gl "_law_rows_of" s__law_rows_of, gl "_law_hall_of" s__law_hall_of, gl "_law_figures" s__law_figures,
  gl "_law_words" s__law_words, gl "_law_small" s__law_small, gl "_law_right" s__law_right, ⟨fun K => ga K "check_word", "check_word", "check_word", s_check_word, [], ["WORDS"]⟩, gl "law" s_law]
def globs0 : List Str := ["is_integer", "is_name", "number_in", "parted", "copies_in", "row_in", "groups_in", "is_plan_text", "names_in", "check_told", "figures", "is_word", "number", "_law_take", "_law_of", "_law_pot", "_law_cells", "_law_text"]
def globs1 : List Str := ["_law_is_beside", "_law_count", "_law_piece", "_law_plan", "_law_built", "_law_web", "_law_table", "_law_sets", "_law_most", "_law_rows_of", "_law_hall_of", "_law_figures", "_law_words", "_law_small", "_law_right", "check_word", "law", "Plan"]
def globs2 : List Str := ["SIGNS", "AROUND", "TURNED", "Figures", "WORDS"]
def globsA : List Str := globs0 ++ globs1 ++ globs2
def consts : List Fa := [
  .str "ONE" "one", .str "NAME" "name", .str "BESIDE" "beside", .str "INTRODUCED" "introduced", .str "BLANK" " ", .str "LETTERS" "abcdefghijklmnopqrstuvwxyz", .str "FIGURES" "0123456789", .int "MOST_LETTERS" 8, .str "PERSON" "1", .int "LEAST_MANY" 2, .int "MOST_MANY" (10 ^ 30), .int "MOST_NAMES" 3, .int "MOST_DEPTH" 60,
  .cls "Plan", .meth "Plan" "__invert__", .mkr "Plan", .mkr "Figures", .meth "Figures" "copied", .meth "Figures" "joined", .meth "Figures" "told_for", .str "PEOPLE" "people", .str "CIRCLE" "circle", .str "STRANGERS" "strangers", .str "ROWS" "rows", .str "HALL" "hall", .free "any"]
def fas : List Fa := bns.map Fa.free ++ (globsA.map Fa.glo ++ (fNames.map (Fa.noat "Plan") ++ consts))
def tSigns : List (Str × Dt) := [("beside", .s " + "), ("introduced", .s " * ")]
def tAround : List (Str × Dt) := [("beside", .t ["[", "]"]), ("introduced", .t ["{", "}"])]
def tTurned : List (Str × Dt) := [("+", .s "*"), ("*", .s "+"), ("[", .s "{"), ("{", .s "["), ("]", .s "}"), ("}", .s "]")]
def spec : HK.Sp := ⟨fas, dds, [("Plan", "text"), ("Plan", "names"), ("Plan", "word"), ("Plan", "many")], [("SIGNS", tSigns), ("AROUND", tAround), ("TURNED", tTurned)], [("Figures", ["own_circle", "own_hall", "own_people", "own_rows", "own_strangers"])], [], [("WORDS", ["people", "circle", "strangers", "rows", "hall"])]⟩
abbrev hk : PySem.W.Hook := hook 4 globsA spec
def ob (s : PySem.W.SharedT) : HK.Al := obsG 4 globsA spec (HandSHeadRun.getT s)
def names0 : List PySem.Str := ["__name__", "CrowdError", "Unknown", "BadPlan", "NoPart", "BadMany", "NoName", "NoPlan", "BadWord", "ONE", "NAME", "BESIDE", "INTRODUCED", "PEOPLE", "CIRCLE", "STRANGERS", "ROWS", "HALL", "WORDS", "BLANK", "LETTERS", "FIGURES", "MOST_LETTERS", "is_integer", "is_name", "is_word", "number_in", "PERSON"]
def names1 : List PySem.Str := ["LEAST_MANY", "MOST_MANY", "MOST_NAMES", "MOST_DEPTH", "SIGNS", "AROUND", "TURNED", "parted", "copies_in", "row_in", "groups_in", "is_plan_text", "names_in", "Plan", "check_told", "row_text", "copies_text", "text_put", "Figures", "figures", "check_word", "number", "_law_pot", "_law_take", "_law_of", "_law_cells", "_law_text", "_law_plan"]
def names2 : List PySem.Str := ["_law_is_beside", "_law_count", "_law_piece", "_law_built", "_law_web", "_law_sets", "_law_most", "_law_table", "_law_rows_of", "_law_hall_of", "_law_figures", "_law_words", "_law_small", "_law_right"]
abbrev R : PySem.W.OpenRow := PySem.W.OpenLaw.row PySem.Challenge.rw_greetall_k14_numbers_by_trying
theorem runa (w : World) : HandSHeadRun.RunEq R (PySem.W.view R.prog [74]) (hk) (ob) 9000 (names0 ++ names1 ++ names2) (w.withFollow "special-get-raises" false) := by
  intro os
  kernel_rfl
theorem runb (w : World) : HandSHeadRun.RunEq R (PySem.W.view R.prog [74]) (hk) (ob) 9000 (names0 ++ names1 ++ names2) (w.withFollow "special-get-raises" true) := by
  intro os
  kernel_rfl
theorem run (w : World) : HandSHeadRun.RunEq R (PySem.W.view R.prog [74]) (hk) (ob) 9000 (names0 ++ names1 ++ names2) w :=
  PySem.W.byRow2 "special-get-raises" (P := fun w => HandSHeadRun.RunEq R (PySem.W.view R.prog [74]) (hk) (ob) 9000 (names0 ++ names1 ++ names2) w) runa runb w
end W
namespace DL
open PySem L2
def mset (M : Mp) (a : Addr) (o : MO) : Mp := fun b => if b = a then some o else M b
def mdel (M : Mp) (a : Addr) : Mp := fun b => if b = a then none else M b
theorem mset_same {M : Mp} {a : Addr} {o : MO} : mset M a o a = some o := if_pos rfl
theorem mset_ne {M : Mp} {a b : Addr} {o : MO} (h : b ≠ a) : mset M a o b = M b := if_neg h
theorem mdel_same {M : Mp} {a : Addr} : mdel M a a = none := if_pos rfl
theorem mdel_ne {M : Mp} {a b : Addr} (h : b ≠ a) : mdel M a b = M b := if_neg h
theorem mset_mset {M : Mp} {a : Addr} {o u : MO} : mset (mset M a o) a u = mset M a u := by
  funext b; unfold mset; split <;> rfl
section
variable {K : PySem.W.Frag} {M M' : Mp} {Z : Zn} {H H' : Hp}
theorem Rep.mono (e : Ext M Z H M' H') {v : V} {d : D} (r : Rep K M Z H v d) : Rep K M' Z H' v d := r.monoI e.i
theorem RepO.mono (e : Ext M Z H M' H') {v : List (Option V)} {d : List (Option D)} (r : RepO K M Z H v d) : RepO K M' Z H' v d := r.monoI e.i
theorem Reps.mono (e : Ext M Z H M' H') {v : List V} {d : List D} (r : Reps K M Z H v d) : Reps K M' Z H' v d := r.monoI e.i
theorem RepK.mono (e : Ext M Z H M' H') {v : List (Key × V)} {d : List (Key × D)} (r : RepK K M Z H v d) : RepK K M' Z H' v d := r.monoI e.i
theorem RepT.mono (e : Ext M Z H M' H') {v : List (List Key × V)} {d : List (List Key × D)} (r : RepT K M Z H v d) : RepT K M' Z H' v d := r.monoI e.i
theorem RepF.mono (e : Ext M Z H M' H') {v : List (Str × V)} {d : List (Str × D)} (r : RepF K M Z H v d) : RepF K M' Z H' v d := r.monoI e.i
end
theorem Reps.append {K : PySem.W.Frag} {M : Mp} {Z : Zn} {H : Hp} : ∀ {vs ws : List V} {ds es : List D}, Reps K M Z H vs ds → Reps K M Z H ws es → Reps K M Z H (vs ++ ws) (ds ++ es)
  | _, _, _, _, .nil, s => s
  | _, _, _, _, .cons r t, s => .cons r (Reps.append t s)
theorem Reps.ints {K : PySem.W.Frag} {M : Mp} {Z : Zn} {H : Hp} : ∀ {vs : List V} {ns : List Int}, Reps K M Z H vs (ns.map D.int) → vs = ns.map V.int
  | _, [], .nil => rfl
  | _, _ :: _, .cons (.int _) t => by rw [List.map_cons, Reps.ints t]
theorem Reps.ofInts {K : PySem.W.Frag} {M : Mp} {Z : Zn} {H : Hp} : ∀ (ns : List Int), Reps K M Z H (ns.map V.int) (ns.map D.int)
  | [] => .nil
  | _ :: r => .cons (.int _) (Reps.ofInts r)
theorem Reps.bls {K : PySem.W.Frag} {M : Mp} {Z : Zn} {H : Hp} : ∀ {vs : List V} {ns : List Bool}, Reps K M Z H vs (ns.map D.bl) → vs = ns.map V.bl
  | _, [], .nil => rfl
  | _, _ :: _, .cons (.bl _) t => by rw [List.map_cons, Reps.bls t]
theorem Reps.strs {K : PySem.W.Frag} {M : Mp} {Z : Zn} {H : Hp} : ∀ {vs : List V} {ns : List Str}, Reps K M Z H vs (ns.map D.str) → vs = ns.map V.str
  | _, [], .nil => rfl
  | _, _ :: _, .cons (.str _) t => by rw [List.map_cons, Reps.strs t]
theorem Wd.fresh {K : PySem.W.Frag} {M : Mp} {Z : Zn} {H : Hp} (w : Wd K M Z H) {a : Addr} (h : H a = none) : Im M Z a := by
  refine ⟨?_, fun z => ?_⟩
  · cases e : M a with
    | none => rfl
    | some o =>
      obtain ⟨u, q⟩ := (w.1 a o e).there
      rw [h] at q; cases q
  · obtain ⟨_, u, q⟩ := w.2 a z
    rw [h] at q; cases q
section
variable {K : PySem.W.Frag} {M : Mp} {Z : Zn} {H : Hp} {p : Addr} {o : HO} {u v : MO}
theorem Wd.zne (w : Wd K M Z H) (h : H p = none) : ∀ b, Z b → b ≠ p := fun b z e => by
  obtain ⟨_, u, q⟩ := w.2 b z
  rw [e, h] at q; cases q
theorem Wd.zneM (w : Wd K M Z H) (h : M p = some v) : ∀ b, Z b → b ≠ p := fun b z e => by
  have q := (w.2 b z).1
  rw [e, h] at q; cases q
/-- a new immutable object -/
theorem Ext.new (w : Wd K M Z H) (h : H p = none) : Ext M Z H M (upd H p o) := ⟨fun b u q m => ⟨by rw [upd_ne (ne_of_none q h)]; exact q, m⟩, fun b z => ⟨upd_ne (w.zne h b z), rfl⟩⟩
theorem Wd.new (w : Wd K M Z H) (h : H p = none) : Wd K M Z (upd H p o) := ⟨fun a u e => by
  obtain ⟨z, q⟩ := (w.1 a u e).there
  exact (w.1 a u e).step (Ext.new w h) (upd_ne (ne_of_none q h)), fun b z => by
  obtain ⟨m, u, q⟩ := w.2 b z
  exact ⟨m, u, by rw [upd_ne (w.zne h b z)]; exact q⟩⟩
/-- a new mutable object -/
theorem Ext.newM (w : Wd K M Z H) (h : H p = none) : Ext M Z H (mset M p u) (upd H p o) := ⟨fun b z q m => ⟨by rw [upd_ne (ne_of_none q h)]; exact q, by rw [mset_ne (ne_of_none q h)]; exact m.1, m.2⟩, fun b z => ⟨upd_ne (w.zne h b z), mset_ne (w.zne h b z)⟩⟩
theorem Wd.newM (w : Wd K M Z H) (h : H p = none) (r : RepM K (mset M p u) Z (upd H p o) p u) : Wd K (mset M p u) Z (upd H p o) := ⟨fun a z e => by
  by_cases ha : a = p
  · subst ha; rw [mset_same] at e; cases e; exact r
  · rw [mset_ne ha] at e
    exact (w.1 a z e).step (Ext.newM w h) (upd_ne ha), fun b z => by
  obtain ⟨m, u, q⟩ := w.2 b z
  exact ⟨by rw [mset_ne (w.zne h b z)]; exact m, u, by rw [upd_ne (w.zne h b z)]; exact q⟩⟩
/-- a mutable object changed -/
theorem Ext.put (w : Wd K M Z H) (h : M p = some v) : Ext M Z H (mset M p u) (upd H p o) := ⟨fun b z q m => by
  have n : b ≠ p := fun e => by have m := m.1; rw [e, h] at m; cases m
  exact ⟨by rw [upd_ne n]; exact q, by rw [mset_ne n]; exact m.1, m.2⟩, fun b z => ⟨upd_ne (w.zneM h b z), mset_ne (w.zneM h b z)⟩⟩
theorem Wd.put (w : Wd K M Z H) (h : M p = some v) (r : RepM K (mset M p u) Z (upd H p o) p u) : Wd K (mset M p u) Z (upd H p o) := ⟨fun a z e => by
  by_cases ha : a = p
  · subst ha; rw [mset_same] at e; cases e; exact r
  · rw [mset_ne ha] at e
    exact (w.1 a z e).step (Ext.put w h) (upd_ne ha), fun b z => by
  obtain ⟨m, u, q⟩ := w.2 b z
  exact ⟨by rw [mset_ne (w.zneM h b z)]; exact m, u, by rw [upd_ne (w.zneM h b z)]; exact q⟩⟩
end
theorem EnvR.mono {K : PySem.W.Frag} {M M' : Mp} {Z : Zn} {H H' : Hp} (e : Ext M Z H M' H') {σ : St} {ρ : Rho} (r : EnvR K M Z H σ ρ) : EnvR K M' Z H' σ ρ := r.monoI e.i
theorem EnvR.unset {K : PySem.W.Frag} {M : Mp} {Z : Zn} {H : Hp} {o : Option V} : ∀ {σ : St} {ρ : Rho} (i : Nat), EnvR K M Z H σ ρ → EnvR K M Z H (σ.set i o) (ρ.set i .none)
  | _, _, _, .nil => .nil
  | _, _, 0, .val _ t => .any t
  | _, _, 0, .any t => .any t
  | _, _, i + 1, .val q t => .val q (EnvR.unset i t)
  | _, _, i + 1, .any t => .any (EnvR.unset i t)
theorem EnvR.start {K : PySem.W.Frag} {M : Mp} {Z : Zn} {H : Hp} {σ : St} {ρ : Rho} (t : EnvR K M Z H σ ρ) : ∀ {vs : List V} {ds : List D}, Reps K M Z H vs ds → EnvR K M Z H (vs.map Option.some ++ σ) (ds.map Option.some ++ ρ)
  | _, _, .nil => t
  | _, _, .cons r q => .val r (EnvR.start t q)
/-- the slots at a def's entry -/
def start (N : List Str) (ds : List D) : Rho := ds.map some ++ List.replicate (N.length - ds.length) none
theorem env_start {K : PySem.W.Frag} {M : Mp} {Z : Zn} {H : Hp} {N : List Str} {vs : List V} {ds : List D} (r : Reps K M Z H vs ds) : EnvR K M Z H (L2.start N vs) (start N ds) := by
  unfold L2.start start
  rw [r.length]
  exact EnvR.start (EnvR.empty _) r
end DL
namespace DL
open PySem L2
section
variable (X : Cx)
def eSem (e : Expr) : TE := fun σ H Q => ∀ pins s, Inv X pins σ H s → wpAny (model X.prog X.w) X.A (eval e X.env) (EP X pins σ Q) X.xe s
def tSem (e : Expr) : TT := fun σ H Q => ∀ pins s, Inv X pins σ H s → wpAny (model X.prog X.w) X.A (isTrue e X.env (eval e X.env)) (TP X pins σ Q) X.xe s
def wSem (e : Expr) : TT := fun σ H Q => ∀ (whole : Sem Value) pins s, Inv X pins σ H s → wpAny (model X.prog X.w) X.A (isTrue e X.env whole) (TP X pins σ Q) X.xe s
def aSem (es : List Expr) : TA := fun σ H Q => ∀ pos pins s, Inv X pins σ H s → wpAny (model X.prog X.w) X.A (spliced (backTo pos (starEach es X.env))) (AP X pins σ Q) X.xe s
def sSem (st : Stmt) : TS := fun D σ H => ∀ pins s, Inv X pins σ H s → wpAny (model X.prog X.w) X.A (exec st X.env) (SP X pins D) X.xe s
def ssSem (st : List Stmt) : TS := fun D σ H => ∀ pins s, Inv X pins σ H s → wpAny (model X.prog X.w) X.A (execs st X.env) (SP X pins D) X.xe s
def gSem (tg : Expr) : TG := fun v σ H Q => ∀ pins s u, Inv X pins σ H s → RelV v u → wpAny (model X.prog X.w) X.A (assign tg X.env u) (fun _ s' => ∃ σ' H', Inv X pins σ' H' s' ∧ Q σ' H') X.xe s
def gsSem (ts : List Expr) : TGs := fun vs σ H Q => ∀ pins s us, Inv X pins σ H s → Vals vs us → wpAny (model X.prog X.w) X.A (assignInOrder ((assignEach ts X.env).map (·.2)) us) (fun _ s' => ∃ σ' H', Inv X pins σ' H' s' ∧ Q σ' H') X.xe s
def iSem (tg iter : Expr) : TI := fun σ H R => ∀ pins s, Inv X pins σ H s → wpAny (model X.prog X.w) X.A (eval iter X.env) (fun v s1 => wpAny (model X.prog X.w) X.A (pyIter v) (PIE X pins σ tg R) X.xe s1) X.xe s
end
section
variable {X : Cx} {e tg : Expr} {es : List Expr} {st : Stmt} {sts : List Stmt} {σ : L2.St} {H : Hp}
theorem pe_sem : PE X e (eSem X e) := ⟨fun pins s σ H Q I h => h pins s I⟩
theorem pt_sem : PT X e (tSem X e) := ⟨fun pins s σ H Q I h => h pins s I⟩
theorem pw_sem : PW X e (wSem X e) := ⟨fun wh pins s σ H Q I h => h wh pins s I⟩
theorem pa_sem : PA X es (aSem X es) := ⟨fun pos pins s σ H Q I h => h pos pins s I⟩
theorem ps_sem : PS X st (sSem X st) := ⟨fun pins s σ H D I h => h pins s I⟩
theorem pss_sem : PSs X sts (ssSem X sts) := ⟨fun pins s σ H D I h => h pins s I⟩
theorem pg_sem : PG X tg (gSem X tg) := ⟨fun pins s σ H v u Q I r h => h pins s u I r⟩
theorem pgs_sem : PGs X es (gsSem X es) := ⟨fun pins s σ H v u Q I r h => h pins s u I r⟩
theorem pi_sem : PI X tg e (iSem X tg e) := ⟨fun pins s σ H R I h => h pins s I⟩
theorem eOf {t : TE} {Q : VK} (h : PE X e t) (q : t σ H Q) : eSem X e σ H Q := fun pins s I => h.run pins s σ H Q I q
theorem tOf {t : TT} {Q : Bool → Hp → Prop} (h : PT X e t) (q : t σ H Q) : tSem X e σ H Q := fun pins s I => h.run pins s σ H Q I q
theorem wOf {t : TT} {Q : Bool → Hp → Prop} (h : PW X e t) (q : t σ H Q) : wSem X e σ H Q := fun wh pins s I => h.run wh pins s σ H Q I q
theorem aOf {t : TA} {Q : List V → Hp → Prop} (h : PA X es t) (q : t σ H Q) : aSem X es σ H Q := fun pos pins s I => h.run pos pins s σ H Q I q
theorem sOf {t : TS} {D : Ends} (h : PS X st t) (q : t D σ H) : sSem X st D σ H := fun pins s I => h.run pins s σ H D I q
theorem ssOf {t : TS} {D : Ends} (h : PSs X sts t) (q : t D σ H) : ssSem X sts D σ H := fun pins s I => h.run pins s σ H D I q
theorem gOf {t : TG} {v : V} {Q : L2.St → Hp → Prop} (h : PG X tg t) (q : t v σ H Q) : gSem X tg v σ H Q := fun pins s u I r => h.run pins s σ H v u Q I r q
theorem gsOf {t : TGs} {vs : List V} {Q : L2.St → Hp → Prop} (h : PGs X es t) (q : t vs σ H Q) : gsSem X es vs σ H Q := fun pins s u I r => h.run pins s σ H vs u Q I r q
end
section
variable {K : PySem.W.Frag} {M M1 : Mp} {Z : Zn} {H H1 : Hp}
theorem KE.now {Φ : D → Mp → Prop} {Q : VK} {v : V} {d : D} (k : KE K M Z H Φ Q) (w : Wd K M Z H) (r : Rep K M Z H v d) (h : Φ d M) : Q v H := k v d H M Ext.refl w r h
theorem KE.new {Φ : D → Mp → Prop} {Q : VK} {p : Addr} {o : HO} {d : D} (k : KE K M Z H Φ Q) (w : Wd K M Z H) (hp : H p = none) (r : Rep K M Z (upd H p o) (.ref p) d) (h : Φ d M) : Q (.ref p) (upd H p o) :=
  k _ d _ M (Ext.new w hp) (w.new hp) r h
theorem KT.now {Φ : Bool → Mp → Prop} {Q : Bool → Hp → Prop} {b : Bool} (k : KT K M Z H Φ Q) (w : Wd K M Z H) (h : Φ b M) : Q b H := k b H M Ext.refl w h
end
structure WE (X : Cx) (ρ : Rho) (M : Mp) (e : Expr) (Φ : D → Mp → Prop) : Prop where
  run : ∀ {Z : Zn} σ H (Q : VK), EnvR X.K M Z H σ ρ → Wd X.K M Z H → KE X.K M Z H Φ Q → eSem X e σ H Q
structure WT (X : Cx) (ρ : Rho) (M : Mp) (e : Expr) (Φ : Bool → Mp → Prop) : Prop where
  run : ∀ {Z : Zn} σ H (Q : Bool → Hp → Prop), EnvR X.K M Z H σ ρ → Wd X.K M Z H → KT X.K M Z H Φ Q → tSem X e σ H Q
structure WW (X : Cx) (ρ : Rho) (M : Mp) (e : Expr) (Φ : Bool → Mp → Prop) : Prop where
  run : ∀ {Z : Zn} σ H (Q : Bool → Hp → Prop), EnvR X.K M Z H σ ρ → Wd X.K M Z H → KT X.K M Z H Φ Q → wSem X e σ H Q
structure WA (X : Cx) (ρ : Rho) (M : Mp) (es : List Expr) (Φ : List D → Mp → Prop) : Prop where
  run : ∀ {Z : Zn} σ H (Q : List V → Hp → Prop), EnvR X.K M Z H σ ρ → Wd X.K M Z H → KA X.K M Z H Φ Q → aSem X es σ H Q
structure WS (X : Cx) (ρ : Rho) (M : Mp) (st : Stmt) (Ψ : DE) : Prop where
  run : ∀ {Z : Zn} σ H (E : Ends), EnvR X.K M Z H σ ρ → Wd X.K M Z H → KS X.K M Z H Ψ E → sSem X st E σ H
structure WSs (X : Cx) (ρ : Rho) (M : Mp) (st : List Stmt) (Ψ : DE) : Prop where
  run : ∀ {Z : Zn} σ H (E : Ends), EnvR X.K M Z H σ ρ → Wd X.K M Z H → KS X.K M Z H Ψ E → ssSem X st E σ H
structure WG (X : Cx) (tg : Expr) (d : D) (ρ : Rho) (M : Mp) (Φ : Rho → Mp → Prop) : Prop where
  run : ∀ {Z : Zn} σ H v (Q : L2.St → Hp → Prop), EnvR X.K M Z H σ ρ → Wd X.K M Z H → Rep X.K M Z H v d → KG X.K M Z H Φ Q → gSem X tg v σ H Q
structure WGs (X : Cx) (tg : List Expr) (ds : List D) (ρ : Rho) (M : Mp) (Φ : Rho → Mp → Prop) : Prop where
  run : ∀ {Z : Zn} σ H vs (Q : L2.St → Hp → Prop), EnvR X.K M Z H σ ρ → Wd X.K M Z H → Reps X.K M Z H vs ds → KG X.K M Z H Φ Q → gsSem X tg vs σ H Q
section
variable {X : Cx} {ρ : Rho} {M : Mp} {Φ : D → Mp → Prop} {e a b : Expr} {pos : Pos}
/-- weaken the end -/
theorem WE.imp {Φ' : D → Mp → Prop} (h : WE X ρ M e Φ') (k : ∀ d M', Φ' d M' → Φ d M') : WE X ρ M e Φ := .mk fun σ H Q en w q => h.run σ H Q en w fun v d H' M' x w' r z => q v d H' M' x w' r (k d M' z)
theorem WA.imp {es : List Expr} {Φ Φ' : List D → Mp → Prop} (h : WA X ρ M es Φ') (k : ∀ d M', Φ' d M' → Φ d M') : WA X ρ M es Φ := .mk fun σ H Q en w q => h.run σ H Q en w fun v d H' M' x w' r z => q v d H' M' x w' r (k d M' z)
theorem WT.imp {Φ Φ' : Bool → Mp → Prop} (h : WT X ρ M e Φ') (k : ∀ d M', Φ' d M' → Φ d M') : WT X ρ M e Φ := .mk fun σ H Q en w q => h.run σ H Q en w fun b H' M' x w' z => q b H' M' x w' (k b M' z)
theorem we_var (i : Nat) {x : Str} {d : D} (hr : ρ[i]? = some (some d)) (h : Φ d M) (hN : X.N[i]? = some x := by rfl) (hv : Vis X.env.scope x := by first | exact Or.inl rfl | exact Or.inr (Or.inl rfl) | exact Or.inr (Or.inr rfl))
    (hd : (x == ("__debug__" : Str)) = false := by decide) (hcd : (x == ("__classdict__" : Str)) = false := by decide) : WE X ρ M (.Name x pos) Φ := .mk fun σ H Q en w k => by
  obtain ⟨v, e1, r⟩ := en.get hr
  exact eOf (pe_var hN hv hd hcd) ⟨v, e1, k.now w r h⟩
theorem we_int {i : Int} {j : Nat} (h : Φ (.int i) M) : WE X ρ M (.Constant (.int i) j pos) Φ := .mk fun σ H Q en w k => eOf pe_int (k.now w (.int i) h)
theorem we_bl {i : Bool} {j : Nat} (h : Φ (.bl i) M) : WE X ρ M (.Constant (.bool i) j pos) Φ := .mk fun σ H Q en w k => eOf pe_bl (k.now w (.bl i) h)
theorem we_non {j : Nat} (h : Φ .non M) : WE X ρ M (.Constant .none j pos) Φ := .mk fun σ H Q en w k => eOf pe_non (k.now w .non h)
theorem we_str {i : Str} {j : Nat} (h : Φ (.str i) M) : WE X ρ M (.Constant (.str i) j pos) Φ := .mk fun σ H Q en w k => eOf pe_str (k.now w (.str i) h)
/-- a module's constant -/
theorem we_gint {x : Str} {i : Int} (hm : ∃ t, X.mg x = some (.int i t)) (h : Φ (.int i) M) (hg : Gl X x := by rfl) (hd : (x == ("__debug__" : Str)) = false := by decide) : WE X ρ M (.Name x pos) Φ := .mk fun σ H Q en w k => by
  obtain ⟨t, hm⟩ := hm
  exact eOf (pe_glob (v := .int i) hg hm ⟨t, rfl⟩ hd) (k.now w (.int i) h)
theorem we_gstr {x : Str} {i : Str} (hm : ∃ t, X.mg x = some (.str i t)) (h : Φ (.str i) M) (hg : Gl X x := by rfl) (hd : (x == ("__debug__" : Str)) = false := by decide) : WE X ρ M (.Name x pos) Φ := .mk fun σ H Q en w k => by
  obtain ⟨t, hm⟩ := hm
  exact eOf (pe_glob (v := .str i) hg hm ⟨t, rfl⟩ hd) (k.now w (.str i) h)
/-- a built-in class as a value -/
theorem we_bty {x : Str} {n : String} (hm : X.mg x = none) (hv : bootBuiltins x = some (.type n)) (h : Φ (.ty n) M) (hg : Gl X x := by rfl) (hn : x ≠ "__name__" := by decide) (hd : (x == ("__debug__" : Str)) = false := by decide) : WE X ρ M (.Name x pos) Φ := .mk fun σ H Q en w k =>
  eOf (pe_bltn (v := .ty n) hg hm hv rfl hn hd) (k.now w (.ty n) h)
def RD (K : PySem.W.Frag) (r : R2) (x y : D) (M : Mp) (Φ : D → Mp → Prop) : Prop := ∀ (Z : Zn) v u H Q, Wd K M Z H → Rep K M Z H v x → Rep K M Z H u y → KE K M Z H Φ Q → r v u H Q
def RU (K : PySem.W.Frag) (r : V → Hp → VK → Prop) (x : D) (M : Mp) (Φ : D → Mp → Prop) : Prop := ∀ (Z : Zn) v H Q, Wd K M Z H → Rep K M Z H v x → KE K M Z H Φ Q → r v H Q
def RC (K : PySem.W.Frag) (r : List V → Hp → VK → Prop) (xs : List D) (M : Mp) (Φ : D → Mp → Prop) : Prop := ∀ (Z : Zn) vs H Q, Wd K M Z H → Reps K M Z H vs xs → KE K M Z H Φ Q → r vs H Q
theorem bind2 {Ψ : D → D → Mp → Prop} (h : WE X ρ M a fun x M1 => WE X ρ M1 b fun y M2 => Ψ x y M2) {Z : Zn} {σ : L2.St} {H : Hp} {R : V → V → Hp → Prop} (en : EnvR X.K M Z H σ ρ) (w : Wd X.K M Z H)
    (k : ∀ v u x y H2 M2, Ext M Z H M2 H2 → Wd X.K M2 Z H2 → Rep X.K M2 Z H2 v x → Rep X.K M2 Z H2 u y → Ψ x y M2 → R v u H2) : eSem X a σ H fun x H1 => eSem X b σ H1 fun y H2 => R x y H2 :=
  h.run σ H _ en w fun v x H1 M1 e1 w1 r1 hb => hb.run σ H1 _ (en.mono e1) w1 fun u y H2 M2 e2 w2 r2 hr => k v u x y H2 M2 (e1.trans e2) w2 (r1.mono e2) r2 hr
theorem we_op {op : Operator} {r : R2} (ho : OpR X (binaryOp op) r) (h : WE X ρ M a fun x M1 => WE X ρ M1 b fun y M2 => RD X.K r x y M2 Φ) : WE X ρ M (.BinOp a op b pos) Φ := .mk fun σ H Q en w k =>
  eOf (pe_op ho pe_sem pe_sem) (bind2 h en w fun v u x y H2 M2 e w2 r1 r2 hr => hr _ v u H2 Q w2 r1 r2 (k.step e))
theorem we_cmp {op : CmpOp} {r : R2} (ho : OpR X (compareOp op) r) (hm : behindInMarks op b = false) (h : WE X ρ M a fun x M1 => WE X ρ M1 b fun y M2 => RD X.K r x y M2 Φ) : WE X ρ M (.Compare a [op] [b] pos) Φ := .mk fun σ H Q en w k =>
  eOf (pe_cmpR ho pe_sem pe_sem hm) (bind2 h en w fun v u x y H2 M2 e w2 r1 r2 hr => hr _ v u H2 Q w2 r1 r2 (k.step e))
theorem we_un {op : UnaryOp} {r : V → Hp → VK → Prop} (ho : UnR X (unaryOp op) r) (h : WE X ρ M a fun x M1 => RU X.K r x M1 Φ) : WE X ρ M (.UnaryOp op a pos) Φ := .mk fun σ H Q en w k =>
  eOf (pe_un ho pe_sem) (h.run σ H _ en w fun v x H1 M1 e1 w1 r1 hr => hr _ v H1 Q w1 r1 (k.step e1))
/-- one comparison as a test -/
theorem wt_cmp {op : CmpOp} {r : R2} {Φ : Bool → Mp → Prop} (ho : OpR X (compareOp op) r) (hm : behindInMarks op b = false) (h : WE X ρ M a fun x M1 => WE X ρ M1 b fun y M2 => RD X.K r x y M2 fun d M3 => ∃ c, d = .bl c ∧ Φ c M3) : WT X ρ M (.Compare a [op] [b] pos) Φ := .mk fun σ H Q en w k =>
  tOf (pt_cmpR ho pe_sem pe_sem hm) (bind2 h en w fun v u x y H2 M2 e w2 r1 r2 hr => hr _ v u H2 _ w2 r1 r2 fun z d H3 M3 e3 w3 r3 hz => by
    obtain ⟨c, rfl, hz⟩ := hz
    cases r3
    exact ⟨c, rfl, k c H3 M3 (e.trans e3) w3 hz⟩)
/-- a value that is a bool, as a test -/
theorem wt_val {Φ : Bool → Mp → Prop} (h : WE X ρ M e fun d M1 => ∃ c, d = .bl c ∧ Φ c M1) (he : ∀ whole, isTrue e X.env whole = (do let v ← whole; standAt e.pos; holding [v] (truthy v)) := by intro _; rfl) : WT X ρ M e Φ := .mk fun σ H Q en w k =>
  tOf (pt_val pe_sem he) (h.run σ H _ en w fun v x H1 M1 e1 w1 r1 hz => by
    obtain ⟨c, rfl, hz⟩ := hz
    cases r1
    exact ⟨c, rfl, k c H1 M1 e1 w1 hz⟩)
theorem wt_not {Φ : Bool → Mp → Prop} (h : WT X ρ M a fun c M1 => Φ (!c) M1) : WT X ρ M (.UnaryOp .Not a pos) Φ := .mk fun σ H Q en w k =>
  tOf (pt_not pt_sem) (h.run σ H _ en w fun c H1 M1 e1 w1 hz => k _ H1 M1 e1 w1 hz)
theorem ww_and1 {Φ : Bool → Mp → Prop} (h : WT X ρ M a Φ) : WW X ρ M (.BoolOp .And [a] pos) Φ := .mk fun σ H Q en w k => wOf (pw_and1 pt_sem) (h.run σ H Q en w k)
theorem ww_or1 {Φ : Bool → Mp → Prop} (h : WT X ρ M a Φ) : WW X ρ M (.BoolOp .Or [a] pos) Φ := .mk fun σ H Q en w k => wOf (pw_or1 pt_sem) (h.run σ H Q en w k)
theorem ww_and {Φ : Bool → Mp → Prop} {rest : List Expr} (h : WT X ρ M a fun c M1 => if c = true then WW X ρ M1 (.BoolOp .And (b :: rest) pos) Φ else Φ false M1) : WW X ρ M (.BoolOp .And (a :: b :: rest) pos) Φ := .mk fun σ H Q en w k =>
  wOf (pw_and pt_sem pw_sem) (h.run σ H _ en w fun c H1 M1 e1 w1 hz => by
    cases c with
    | true => exact hz.run σ H1 Q (en.mono e1) w1 (k.step e1)
    | false => exact k false H1 M1 e1 w1 hz)
theorem ww_or {Φ : Bool → Mp → Prop} {rest : List Expr} (h : WT X ρ M a fun c M1 => if c = true then Φ true M1 else WW X ρ M1 (.BoolOp .Or (b :: rest) pos) Φ) : WW X ρ M (.BoolOp .Or (a :: b :: rest) pos) Φ := .mk fun σ H Q en w k =>
  wOf (pw_or pt_sem pw_sem) (h.run σ H _ en w fun c H1 M1 e1 w1 hz => by
    cases c with
    | true => exact k true H1 M1 e1 w1 hz
    | false => exact hz.run σ H1 Q (en.mono e1) w1 (k.step e1))
theorem wt_ww {Φ : Bool → Mp → Prop} (h : WW X ρ M e Φ) : WT X ρ M e Φ := .mk fun σ H Q en w k => tOf pw_sem.pt (h.run σ H Q en w k)
/-- as values (all but the last are bools) -/
theorem we_one {op : BoolOp} (h : WE X ρ M a Φ) : WE X ρ M (.BoolOp op [a] pos) Φ := .mk fun σ H Q en w k => eOf (pe_one pe_sem) (h.run σ H Q en w k)
theorem we_and {rest : List Expr} (h : WE X ρ M a fun d M1 => ∃ c, d = .bl c ∧ if c = true then WE X ρ M1 (.BoolOp .And (b :: rest) pos) Φ else Φ (.bl false) M1) : WE X ρ M (.BoolOp .And (a :: b :: rest) pos) Φ := .mk fun σ H Q en w k =>
  eOf (pe_and pe_sem pe_sem) (h.run σ H _ en w fun v x H1 M1 e1 w1 r1 hz => by
    obtain ⟨c, rfl, hz⟩ := hz
    cases r1
    refine ⟨c, rfl, ?_⟩
    cases c with
    | true => exact hz.run σ H1 Q (en.mono e1) w1 (k.step e1)
    | false => exact k.step e1 |>.now w1 (.bl false) hz)
theorem we_or {rest : List Expr} (h : WE X ρ M a fun d M1 => ∃ c, d = .bl c ∧ if c = true then Φ (.bl true) M1 else WE X ρ M1 (.BoolOp .Or (b :: rest) pos) Φ) : WE X ρ M (.BoolOp .Or (a :: b :: rest) pos) Φ := .mk fun σ H Q en w k =>
  eOf (pe_or pe_sem pe_sem) (h.run σ H _ en w fun v x H1 M1 e1 w1 r1 hz => by
    obtain ⟨c, rfl, hz⟩ := hz
    cases r1
    refine ⟨c, rfl, ?_⟩
    cases c with
    | true => exact k.step e1 |>.now w1 (.bl true) hz
    | false => exact hz.run σ H1 Q (en.mono e1) w1 (k.step e1))
theorem we_not (h : WE X ρ M a fun d M1 => ∃ c, d = .bl c ∧ Φ (.bl (!c)) M1) : WE X ρ M (.UnaryOp .Not a pos) Φ := .mk fun σ H Q en w k =>
  eOf (pe_not pe_sem) (h.run σ H _ en w fun v x H1 M1 e1 w1 r1 hz => by
    obtain ⟨c, rfl, hz⟩ := hz
    cases r1
    exact ⟨c, rfl, k.step e1 |>.now w1 (.bl _) hz⟩)
theorem we_if {c : Expr} (h : WT X ρ M c fun b' M1 => if b' = true then WE X ρ M1 a Φ else WE X ρ M1 b Φ) : WE X ρ M (.IfExp c a b pos) Φ := .mk fun σ H Q en w k =>
  eOf (pe_ifExp pt_sem pe_sem pe_sem) (h.run σ H _ en w fun c H1 M1 e1 w1 hz => by
    cases c with
    | true => exact hz.run σ H1 Q (en.mono e1) w1 (k.step e1)
    | false => exact hz.run σ H1 Q (en.mono e1) w1 (k.step e1))
variable {es : List Expr} {ΦA : List D → Mp → Prop}
theorem wa_nil (h : ΦA [] M) : WA X ρ M [] ΦA := .mk fun σ H Q en w k => aOf pa_nil (k [] [] H M Ext.refl w .nil h)
theorem wa_cons (h : WE X ρ M e fun d M1 => WA X ρ M1 es fun ds M2 => ΦA (d :: ds) M2) (hs : starEach (e :: es) X.env = (false, eval e X.env) :: starEach es X.env := by rfl) : WA X ρ M (e :: es) ΦA := .mk fun σ H Q en w k =>
  aOf (pa_cons pe_sem pa_sem hs) (h.run σ H _ en w fun v d H1 M1 e1 w1 r1 hz => hz.run σ H1 _ (en.mono e1) w1 fun vs ds H2 M2 e2 w2 r2 hy => k (v :: vs) (d :: ds) H2 M2 (e1.trans e2) w2 (.cons (r1.mono e2) r2) hy)
theorem we_tup {k1 : Nat} (h : WA X ρ M es fun ds M1 => ds.length ≤ sizeLine ∧ Φ (.tup ds) M1) : WE X ρ M (.Tuple es k1 pos) Φ := .mk fun σ H Q en w k =>
  eOf (pe_tup pa_sem) (h.run σ H _ en w fun vs ds H1 M1 e1 w1 r1 hz => ⟨by rw [r1.length]; exact hz.1, fun p hp => (k.step e1).new w1 hp (.tup (.inl upd_same) (w1.fresh hp) (r1.mono (Ext.new w1 hp))) hz.2⟩)
theorem we_lst (h : WA X ρ M es fun ds M1 => ds.length ≤ sizeLine ∧ Φ (.lst ds) M1) : WE X ρ M (.List es pos) Φ := .mk fun σ H Q en w k =>
  eOf (pe_lst pa_sem) (h.run σ H _ en w fun vs ds H1 M1 e1 w1 r1 hz => ⟨by rw [r1.length]; exact hz.1, fun p hp => (k.step e1).new w1 hp (.lst upd_same (w1.fresh hp) (r1.mono (Ext.new w1 hp))) hz.2⟩)
/-- a list that will be changed -/
theorem we_lstM (h : WA X ρ M es fun ds M1 => ds.length ≤ sizeLine ∧ ∀ p, M1 p = none → Φ (.ob p) (mset M1 p (.lst ds))) : WE X ρ M (.List es pos) Φ := .mk fun σ H Q en w k =>
  eOf (pe_lst pa_sem) (h.run σ H _ en w fun vs ds H1 M1 e1 w1 r1 hz => ⟨by rw [r1.length]; exact hz.1, fun p hp =>
    (k.step e1) _ (.ob p) _ (mset M1 p (.lst ds)) (Ext.newM w1 hp) (w1.newM hp ⟨vs, upd_same, r1.mono (Ext.newM w1 hp)⟩) (.ob p) (hz.2 p (w1.fresh hp).1)⟩)
end
end DL
namespace DL
open PySem L2
section
variable {X : Cx} {ρ : Rho} {M : Mp} {Ψ : DE} {e a b tg : Expr} {st : Stmt} {rest : List Stmt} {pos : Pos}
theorem wss_nil (h : Ψ.nx ρ M) : WSs X ρ M [] Ψ := .mk fun σ H E en w k => ssOf pss_nil (k.nx σ ρ H M Ext.refl w en h)
theorem wss_cons (h : WS X ρ M st { Ψ with nx := fun ρ' M' => WSs X ρ' M' rest Ψ }) : WSs X ρ M (st :: rest) Ψ := .mk fun σ H E en w k =>
  ssOf (pss_cons ps_sem pss_sem) (h.run σ H _ en w ⟨fun σ1 ρ1 H1 M1 e1 w1 en1 hz => hz.run σ1 H1 E en1 w1 (k.step e1), k.rt, k.bk, k.ct⟩)
theorem ws_expr (h : WE X ρ M e fun _ M1 => Ψ.nx ρ M1) (hs : swapsWith e none pos.line X.env = pure false := by rfl) : WS X ρ M (.Expr e pos) Ψ := .mk fun σ H E en w k =>
  sOf (ps_expr pe_sem hs) (h.run σ H _ en w fun v d H1 M1 e1 w1 r1 hz => k.nx σ ρ H1 M1 e1 w1 (en.mono e1) hz)
theorem ws_ret (h : WE X ρ M e Ψ.rt) : WS X ρ M (.Return (some e) pos) Ψ := .mk fun σ H E en w k => sOf (ps_ret pe_sem) (h.run σ H _ en w k.rt)
theorem ws_if {c : Expr} {sa sb : List Stmt} (h : WT X ρ M c fun b' M1 => if b' = true then WSs X ρ M1 sa Ψ else WSs X ρ M1 sb Ψ) : WS X ρ M (.If c sa sb pos) Ψ := .mk fun σ H E en w k =>
  sOf (ps_if pt_sem pss_sem pss_sem) (h.run σ H _ en w fun c H1 M1 e1 w1 hz => by
    cases c with
    | true => exact hz.run σ H1 E (en.mono e1) w1 (k.step e1)
    | false => exact hz.run σ H1 E (en.mono e1) w1 (k.step e1))
/-- other slots' data, less known -/
theorem WS.imp {Ψ' : DE} (h : WS X ρ M st Ψ') (n : ∀ ρ' M', Ψ'.nx ρ' M' → Ψ.nx ρ' M') (r : ∀ d M', Ψ'.rt d M' → Ψ.rt d M') (bk : ∀ ρ' M', Ψ'.bk ρ' M' → Ψ.bk ρ' M') (ct : ∀ ρ' M', Ψ'.ct ρ' M' → Ψ.ct ρ' M') : WS X ρ M st Ψ := .mk fun σ H E en w k =>
  h.run σ H E en w ⟨fun σ' ρ' H' M' x w' en' z => k.nx σ' ρ' H' M' x w' en' (n _ _ z), fun v d H' M' x w' r' z => k.rt v d H' M' x w' r' (r _ _ z), fun σ' ρ' H' M' x w' en' z => k.bk σ' ρ' H' M' x w' en' (bk _ _ z), fun σ' ρ' H' M' x w' en' z => k.ct σ' ρ' H' M' x w' en' (ct _ _ z)⟩
variable {Φ : Rho → Mp → Prop} {d : D} {ds : List D} {es : List Expr}
theorem wg_name (i : Nat) {x : Str} (h : Φ (ρ.set i (some d)) M) (hN : X.N.Nodup) (hi : X.N[i]? = some x := by rfl) (hx : Loc X.env.scope x := by first | exact Or.inl rfl | exact Or.inr rfl)
    (hf : X.fn x = true ∨ X.env.scope.names.lookup x = some .local := by first | exact .inl rfl | exact .inr rfl) : WG X (.Name x pos) d ρ M Φ := .mk fun σ H v Q en w r k =>
  gOf (pg_name hN hi hx hf) (k _ _ H M Ext.refl w (en.set r i) h)
theorem wgs_nil (h : ds = [] ∧ Φ ρ M) : WGs X [] ds ρ M Φ := .mk fun σ H vs Q en w r k => by
  obtain ⟨rfl, h⟩ := h
  cases r
  exact gsOf pgs_nil ⟨rfl, k _ _ H M Ext.refl w en h⟩
theorem wgs_cons {t : Expr} (h : WG X t d ρ M fun ρ1 M1 => WGs X es ds ρ1 M1 Φ) (hs : (assignEach (t :: es) X.env).map (·.2) = assign t X.env :: (assignEach es X.env).map (·.2) := by rfl) : WGs X (t :: es) (d :: ds) ρ M Φ := .mk fun σ H vs Q en w r k => by
  cases r with
  | cons r1 r2 =>
    exact gsOf (pgs_cons pg_sem pgs_sem hs) ⟨_, _, rfl, h.run σ H _ _ en w r1 fun σ1 ρ1 H1 M1 e1 w1 en1 hz => hz.run σ1 H1 _ Q en1 w1 (r2.mono e1) (k.step e1)⟩
theorem Rep.asTup {K : PySem.W.Frag} {M : Mp} {Z : Zn} {H : Hp} {v : V} {ds : List D} (r : Rep K M Z H v (.tup ds)) : ∃ a vs, v = .ref a ∧ SqT K H a vs ∧ Reps K M Z H vs ds := by
  cases r with
  | tup h m r => exact ⟨_, _, rfl, .inl h, r⟩
  | tupK h r => exact ⟨_, _, rfl, .inr h, r⟩
/-- what can be read as a list -/
def LstOf (M : Mp) : D → List D → Prop
  | .lst xs, ds => ds = xs
  | .rol xs, ds => ds = xs
  | .ob a, ds => M a = some (.lst ds)
  | _, _ => False
theorem Rep.asLst {K : PySem.W.Frag} {M : Mp} {Z : Zn} {H : Hp} {v : V} {d : D} {ds : List D} (w : Wd K M Z H) (r : Rep K M Z H v d) (l : LstOf M d ds) : ∃ a vs, v = .ref a ∧ SqL K H a vs ∧ Reps K M Z H vs ds := by
  cases r with
  | lst h m r => cases l; exact ⟨_, _, rfl, .inl (.inl h), r⟩
  | rol h m r => cases l; exact ⟨_, _, rfl, .inl h, r⟩
  | rolK h r => cases l; exact ⟨_, _, rfl, .inr h, r⟩
  | ob a =>
    obtain ⟨vs, h, r⟩ := w.1 a _ l
    exact ⟨_, _, rfl, .inl (.inl h), r⟩
  | _ => cases l
theorem wg_tup {k1 n : Nat} (h : d = .tup ds ∧ ds.length = n ∧ WGs X es ds ρ M Φ) (hc : X.calm = true := by rfl) (hn : (assignEach es X.env).length = n := by rfl) (hst : (assignEach es X.env).findIdx? (·.1) = none := by rfl) : WG X (.Tuple es k1 pos) d ρ M Φ := .mk fun σ H v Q en w r k => by
  obtain ⟨rfl, hl, h⟩ := h
  obtain ⟨a, vs, rfl, hq, rs⟩ := r.asTup
  exact gOf (pg_tup hc pgs_sem hn hst) ⟨a, vs, rfl, hq, by rw [rs.length]; exact hl, h.run σ H vs Q en w rs k⟩
theorem ws_asg (h : WE X ρ M e fun d M1 => WG X tg d ρ M1 Ψ.nx) (hs : swapsWithSole [tg] e pos.line X.env = pure false := by rfl) (hw : swappedStores [tg] e X.env = pure none := by rfl)
    (h1 : (assignEach [tg] X.env).map (·.2) = [assign tg X.env] := by rfl) : WS X ρ M (.Assign [tg] e pos) Ψ := .mk fun σ H E en w k =>
  sOf (ps_asg pe_sem pg_sem hs hw h1) (h.run σ H _ en w fun v d H1 M1 e1 w1 r1 hz => hz.run σ H1 v _ (en.mono e1) w1 r1 (k.nx.step e1))
theorem ws_set (i : Nat) {x : Str} {pos' : Pos} (hN : X.N.Nodup) (h : WE X ρ M e fun d M1 => Ψ.nx (ρ.set i (some d)) M1) (hi : X.N[i]? = some x := by rfl) (hx : Loc X.env.scope x := by first | exact Or.inl rfl | exact Or.inr rfl)
    (hs : swapsWith e (some (.Name x pos')) pos.line X.env = pure false := by rfl) (hf : X.fn x = true ∨ X.env.scope.names.lookup x = some .local := by first | exact .inl rfl | exact .inr rfl) : WS X ρ M (.Assign [.Name x pos'] e pos) Ψ := .mk fun σ H E en w k =>
  sOf (ps_set hN hi hx pe_sem hs hf) (h.run σ H _ en w fun v d H1 M1 e1 w1 r1 hz => k.nx _ _ H1 M1 e1 w1 ((en.mono e1).set r1 i) hz)
/-- a, b = x, y -/
theorem ws_par (i j : Nat) {x y : Str} {px py pt : Pos} {kt k2 : Nat} {pt2 : Pos} (hN : X.N.Nodup) (h : WA X ρ M [a, b] fun ds M1 => ∃ c d, ds = [c, d] ∧ Ψ.nx ((ρ.set i (some c)).set j (some d)) M1) (hi : X.N[i]? = some x := by rfl) (hj : X.N[j]? = some y := by rfl) (hij : i ≠ j := by decide)
    (hx : X.env.scope.names.lookup x = some .local := by rfl) (hy : X.env.scope.names.lookup y = some .local := by rfl) (hw : swappedStores [.Tuple [.Name x px, .Name y py] kt pt] (.Tuple [a, b] k2 pt2) X.env = pure (some [x, y]) := by rfl)
    (hc : X.calm = true := by rfl) (hs : swapsWithSole [.Tuple [.Name x px, .Name y py] kt pt] (.Tuple [a, b] k2 pt2) pos.line X.env = pure false := by rfl) : WS X ρ M (.Assign [.Tuple [.Name x px, .Name y py] kt pt] (.Tuple [a, b] k2 pt2) pos) Ψ := .mk fun σ H E en w k =>
  sOf (ps_par hc hN hi hj hij hx hy pa_sem hw hs) (h.run σ H _ en w fun vs ds H1 M1 e1 w1 r1 hz => by
    obtain ⟨c, d, rfl, hz⟩ := hz
    cases r1 with
    | cons r1 r2 =>
      cases r2 with
      | cons r2 r3 =>
        cases r3
        exact ⟨_, _, rfl, k.nx _ _ H1 M1 e1 w1 (((en.mono e1).set r1 i).set r2 j) hz⟩)
theorem ite_dec {p A B : Prop} [Decidable p] (h1 : p → A) (h2 : ¬ p → B) : if (decide p) = true then A else B := by
  by_cases h : p
  · rw [decide_eq_true h]; exact h1 h
  · rw [decide_eq_false h]; exact h2 h
/-- the walk J yields these data, whatever comes besides -/
def Sq (K : PySem.W.Frag) (M1 : Mp) (Z1 : Zn) (H1 : Hp) (J : It) (items : List D) : Prop := ∀ i M Z H, ExI M1 Z1 H1 M Z H → Wd K M Z H →
  (i = items.length → J.stop i H) ∧ ∀ d, items[i]? = some d → J.go i H ∧ ∀ x H', J.yld i H x H' → Ext M Z H M H' ∧ Wd K M Z H' ∧ Rep K M Z H' x d
structure WI (X : Cx) (ρ : Rho) (M : Mp) (tg iter : Expr) (Φ : List D → Mp → Prop) : Prop where
  run : ∀ {Z : Zn} σ H (R : It → Hp → Prop), EnvR X.K M Z H σ ρ → Wd X.K M Z H →
  (∀ J items H1 M1, Ext M Z H M1 H1 → Wd X.K M1 Z H1 → Sq X.K M1 Z H1 J items → Φ items M1 → R J H1) → iSem X tg iter σ H R
theorem iOf {iter : Expr} {wi : TI} {σ : L2.St} {H : Hp} {R : It → Hp → Prop} (h : PI X tg iter wi) (q : wi σ H R) : iSem X tg iter σ H R := fun pins s I => h.run pins s σ H R I q
theorem sq_tup {K : PySem.W.Frag} {M1 : Mp} {Z1 : Zn} {H1 : Hp} {a : Addr} {vs : List V} {ds : List D} (hq : ∀ M Z H, ExI M1 Z1 H1 M Z H → SqT K H a vs) (rs : Reps K M1 Z1 H1 vs ds) : Sq K M1 Z1 H1 (Itt K a) ds := fun i M Z H e w => by
  refine ⟨fun hi => ⟨vs, hq M Z H e, by rw [rs.length, hi]; exact Nat.le_refl _⟩, fun d hd => ?_⟩
  obtain ⟨v, hv, r⟩ := rs.get hd
  refine ⟨⟨vs, v, hq M Z H e, hv⟩, fun x H' y => ?_⟩
  obtain ⟨rfl, y⟩ := y
  have := y vs (hq M Z _ e)
  rw [hv] at this
  cases this
  exact ⟨Ext.refl, w, r.monoI e⟩
/-- a list, a tuple that stays -/
theorem Rep.tupKeep {K : PySem.W.Frag} {M : Mp} {Z : Zn} {H : Hp} {v : V} {ds : List D} (r : Rep K M Z H v (.tup ds)) : ∃ a vs, v = .ref a ∧ (∀ M' Z' H', ExI M Z H M' Z' H' → SqT K H' a vs) ∧ Reps K M Z H vs ds := by
  cases r with
  | tup h m r => exact ⟨_, _, rfl, fun M' Z' H' e => .inl (e.rd h m), r⟩
  | tupK h r => exact ⟨_, _, rfl, fun _ _ _ _ => .inr h, r⟩
theorem Rep.lstKeep {K : PySem.W.Frag} {M : Mp} {Z : Zn} {H : Hp} {v : V} {d : D} {ds : List D} (r : Rep K M Z H v d) (hd : d = .lst ds ∨ d = .rol ds) : ∃ a vs, v = .ref a ∧ (∀ M' Z' H', ExI M Z H M' Z' H' → SqL K H' a vs) ∧ Reps K M Z H vs ds := by
  rcases hd with rfl | rfl
  · cases r with
    | lst h m r => exact ⟨_, _, rfl, fun M' Z' H' e => .inl (.inl (e _ _ h m).1), r⟩
  · cases r with
    | rol h m r => exact ⟨_, _, rfl, fun M' Z' H' e => .inl (e.rd h m), r⟩
    | rolK h r => exact ⟨_, _, rfl, fun _ _ _ _ => .inr h, r⟩
theorem wi_list {iter : Expr} {Φ : List D → Mp → Prop} (h : WE X ρ M iter fun d M1 => ∃ ds, (d = .lst ds ∨ d = .rol ds) ∧ Φ ds M1) : WI X ρ M tg iter Φ := .mk fun σ H R en w k =>
  iOf (pi_list pe_sem) (h.run σ H _ en w fun v d H1 M1 e1 w1 r1 hz => by
    obtain ⟨ds, hd, hz⟩ := hz
    obtain ⟨a, vs, rfl, hq, rs⟩ := r1.lstKeep hd
    refine ⟨a, rfl, ⟨vs, hq _ _ _ ExI.refl⟩, k _ ds H1 M1 e1 w1 ?_ hz⟩
    intro i M Z H e w
    refine ⟨fun hi => ⟨vs, hq M Z H e, by rw [rs.length, hi]; exact Nat.le_refl _⟩, fun d hd => ?_⟩
    obtain ⟨v, hv, r⟩ := rs.get hd
    refine ⟨⟨vs, v, hq M Z H e, hv⟩, fun x H' y => ?_⟩
    obtain ⟨rfl, y⟩ := y
    have := y vs (hq M Z _ e)
    rw [hv] at this
    cases this
    exact ⟨Ext.refl, w, r.monoI e⟩)
theorem wi_tup {iter : Expr} {Φ : List D → Mp → Prop} (h : WE X ρ M iter fun d M1 => ∃ ds, d = .tup ds ∧ Φ ds M1) : WI X ρ M tg iter Φ := .mk fun σ H R en w k =>
  iOf (pi_tup pe_sem) (h.run σ H _ en w fun v d H1 M1 e1 w1 r1 hz => by
    obtain ⟨ds, rfl, hz⟩ := hz
    obtain ⟨a, vs, rfl, hq, rs⟩ := r1.tupKeep
    exact ⟨a, rfl, ⟨vs, hq _ _ _ ExI.refl⟩, k _ ds H1 M1 e1 w1 (sq_tup hq rs) hz⟩)
/-- lo, lo + 1, .. -/
def rngD (lo : Int) (n : Nat) : List D := (List.range n).map fun (i : Nat) => D.int (lo + (i : Int))
theorem rngD_len (lo : Int) (n : Nat) : (rngD lo n).length = n := by simp [rngD]
theorem rngD_get {lo : Int} {n i : Nat} {d : D} (h : (rngD lo n)[i]? = some d) : i < n ∧ d = .int (lo + (i : Int)) := by
  have hi : i < (rngD lo n).length := (List.getElem?_eq_some_iff.mp h).1
  rw [rngD_len] at hi
  refine ⟨hi, ?_⟩
  unfold rngD at h
  rw [List.getElem?_map, List.getElem?_range hi] at h
  exact (Option.some.inj h).symm
theorem sq_range {K : PySem.W.Frag} {M1 : Mp} {Z1 : Zn} {H1 : Hp} (lo : Int) (n : Nat) : Sq K M1 Z1 H1 (Itr lo n) (rngD lo n) := fun i M Z H e w => by
  refine ⟨fun hi => by rw [hi, rngD_len]; exact Nat.le_refl _, fun d hd => ?_⟩
  obtain ⟨h1, rfl⟩ := rngD_get hd
  refine ⟨h1, fun x H' y => ?_⟩
  obtain ⟨rfl, rfl⟩ := y
  exact ⟨Ext.refl, w, .int _⟩
theorem wi_range1 {p : Pos} {Φ : List D → Mp → Prop} (hm : X.mg "range" = none) (h : WA X ρ M [a] fun ds M1 => ∃ j : Int, ds = [.int j] ∧ -(2 ^ 62) ≤ j ∧ j < 2 ^ 62 ∧ Φ (rngD 0 j.toNat) M1) (hg : Gl X "range" := by rfl) (hs : starEach [a] X.env = [(false, eval a X.env)] := by rfl) : WI X ρ M tg (.Call (.Name "range" p) [a] [] pos) Φ := .mk fun σ H R en w k =>
  iOf (pi_range1 hg hm pa_sem hs) (h.run σ H _ en w fun vs ds H1 M1 e1 w1 r1 hz => by
    obtain ⟨j, rfl, h1, h2, hz⟩ := hz
    cases r1 with
    | cons r1 r2 =>
      cases r1
      cases r2
      exact ⟨j, rfl, h1, h2, k _ _ H1 M1 e1 w1 (sq_range 0 _) hz⟩)
theorem wi_range2 {p : Pos} {Φ : List D → Mp → Prop} (hm : X.mg "range" = none) (h : WA X ρ M [a, b] fun ds M1 => ∃ i j : Int, ds = [.int i, .int j] ∧ (-(2 ^ 62) ≤ i ∧ i < 2 ^ 62 ∧ -(2 ^ 62) ≤ j ∧ j < 2 ^ 62) ∧ Φ (rngD i (j - i).toNat) M1) (hg : Gl X "range" := by rfl) (hs : starEach [a, b] X.env = [(false, eval a X.env), (false, eval b X.env)] := by rfl) (hs2 : starEach [b] X.env = [(false, eval b X.env)] := by rfl) : WI X ρ M tg (.Call (.Name "range" p) [a, b] [] pos) Φ := .mk fun σ H R en w k =>
  iOf (pi_range2 hg hm pa_sem hs hs2) (h.run σ H _ en w fun vs ds H1 M1 e1 w1 r1 hz => by
    obtain ⟨i, j, rfl, h1, hz⟩ := hz
    cases r1 with
    | cons r1 r2 =>
      cases r1
      cases r2 with
      | cons r2 r3 =>
        cases r2
        cases r3
        exact ⟨i, j, rfl, h1, k _ _ H1 M1 e1 w1 (sq_range i _) hz⟩)
theorem ws_for {body : List Stmt} {iter : Expr} (hp : PassesOwn (model X.prog X.w) X.A X.env X.xe)
    (h : WI X ρ M tg iter fun ds M1 => ∃ I : Nat → Rho → Mp → Prop, I 0 ρ M1 ∧
      (∀ i x ρ' M', ds[i]? = some x → I i ρ' M' → WG X tg x ρ' M' fun ρ2 M2 => WSs X ρ2 M2 body { nx := I (i + 1), ct := I (i + 1), bk := Ψ.nx, rt := Ψ.rt }) ∧ ∀ ρ' M', I ds.length ρ' M' → Ψ.nx ρ' M')
    (hc : X.calm = true := by rfl) (hs : ∀ x, foldedSetIterable iter X.env x = pure x := by intro _; rfl) : WS X ρ M (.For tg iter body [] pos) Ψ := .mk fun {Z} σ H E en w k =>
  sOf (ps_for hp hc pi_sem pg_sem pss_sem hs) (h.run σ H _ en w fun J ds H1 M1 e1 w1 sq hz => by
    obtain ⟨I, h0, turn, done⟩ := hz
    refine ⟨fun i m σ' H' => m = ds.length - i ∧ i ≤ ds.length ∧ ∃ ρ' M', Ext M1 Z H1 M' H' ∧ Wd X.K M' Z H' ∧ EnvR X.K M' Z H' σ' ρ' ∧ I i ρ' M', ⟨ds.length, by simp, Nat.zero_le _, ρ, M1, Ext.refl, w1, en.mono e1, h0⟩, ?_⟩
    rintro i m σ' H' ⟨rfl, hi, ρ', M', x', w', en', inv⟩
    obtain ⟨s1, s2⟩ := sq i M' Z H' x'.i w'
    by_cases hlt : i < ds.length
    · have hd : ds[i]? = some ds[i] := List.getElem?_eq_getElem hlt
      obtain ⟨go, yl⟩ := s2 _ hd
      refine .inr ⟨go, fun σ2 H2 => ∃ ρ2 M2, Ext M1 Z H1 M2 H2 ∧ Wd X.K M2 Z H2 ∧ EnvR X.K M2 Z H2 σ2 ρ2 ∧ I (i + 1) ρ2 M2, fun σ2 H2 ⟨ρ2, M2, x2, w2, en2, i2⟩ => ⟨ds.length - (i + 1), by omega, rfl, hlt, ρ2, M2, x2, w2, en2, i2⟩, fun v H2 y => ?_⟩
      obtain ⟨x2, w2, r2⟩ := yl v H2 y
      have x12 := x'.trans x2
      refine (turn i _ ρ' M' hd inv).run σ' H2 v _ (en'.mono x2) w2 r2 fun σ3 ρ3 H3 M3 x3 w3 en3 hb => ?_
      have x13 := x12.trans x3
      have ks := (k.step e1).step x13
      exact hb.run σ3 H3 _ en3 w3 ⟨fun σ4 ρ4 H4 M4 x4 w4 en4 z => ⟨ρ4, M4, x13.trans x4, w4, en4, z⟩, ks.rt, ks.nx, fun σ4 ρ4 H4 M4 x4 w4 en4 z => ⟨ρ4, M4, x13.trans x4, w4, en4, z⟩⟩
    · have e : i = ds.length := by omega
      exact .inl ⟨s1 e, (k.step e1).nx σ' ρ' H' M' x' w' en' (done _ _ (e ▸ inv))⟩)
end
end DL
namespace DL
open PySem L2
def hid (Z : Zn) (p : Addr) : Zn := fun b => Z b ∨ b = p
section
variable {K : PySem.W.Frag} {M M' : Mp} {Z : Zn} {H H' : Hp} {p : Addr} {o : HO}
theorem hide_x (h : H p = none) : ExI M Z H M (hid Z p) (upd H p o) := fun b u q m => by
  have n : b ≠ p := ne_of_none q h
  exact ⟨by rw [upd_ne n]; exact q, m.1, fun z => z.elim m.2 n⟩
theorem hide_w (w : Wd K M Z H) (h : H p = none) : Wd K M (hid Z p) (upd H p o) := ⟨fun a u e => by
  obtain ⟨z, q⟩ := (w.1 a u e).there
  exact (w.1 a u e).stepI (hide_x h) (upd_ne (ne_of_none q h)), fun b z => by
  rcases z with z | rfl
  · obtain ⟨m, u, q⟩ := w.2 b z
    exact ⟨m, u, by rw [upd_ne (ne_of_none q h)]; exact q⟩
  · exact ⟨(w.fresh h).1, o, upd_same⟩⟩
/-- the hidden object changed -/
theorem hidput_x : ExI M (hid Z p) H M (hid Z p) (upd H p o) := fun b u q m => ⟨by rw [upd_ne (fun e => m.2 (.inr e))]; exact q, m⟩
theorem hidput_w (w : Wd K M (hid Z p) H) : Wd K M (hid Z p) (upd H p o) := ⟨fun a u e => by
  have n : a ≠ p := fun z => by have := (w.2 p (.inr rfl)).1; rw [z, this] at e; cases e
  exact (w.1 a u e).stepI hidput_x (upd_ne n), fun b z => by
  obtain ⟨m, u, q⟩ := w.2 b z
  by_cases hb : b = p
  · exact ⟨m, o, by rw [hb]; exact upd_same⟩
  · exact ⟨m, u, by rw [upd_ne hb]; exact q⟩⟩
/-- .. shown -/
theorem show_x : ExI M (hid Z p) H M Z H := fun b u q m => ⟨q, m.1, fun z => m.2 (.inl z)⟩
theorem show_w (w : Wd K M (hid Z p) H) : Wd K M Z H := ⟨fun a u e => (w.1 a u e).stepI show_x rfl, fun b z => w.2 b (.inl z)⟩
end
def wipeR (ρ : Rho) : List Nat → Rho
  | [] => ρ
  | v :: vs => (wipeR ρ vs).set v none
theorem env_wipe {K : PySem.W.Frag} {M : Mp} {Z : Zn} {H : Hp} {σ : L2.St} {ρ : Rho} (en : EnvR K M Z H σ ρ) : ∀ vs : List Nat, EnvR K M Z H (wipe σ vs) (wipeR ρ vs)
  | [] => en
  | v :: vs => EnvR.unset v (env_wipe en vs)
theorem wipe_get (σ : L2.St) (j : Nat) : ∀ vs : List Nat, (wipe σ vs)[j]? = if j ∈ vs then (σ[j]?).map (fun _ => none) else σ[j]?
  | [] => by simp [wipe]
  | v :: vs => by
    unfold wipe
    have ih := wipe_get σ j vs
    by_cases hj : v = j
    · subst hj
      rw [if_pos List.mem_cons_self]
      by_cases hl : v < (wipe σ vs).length
      · rw [List.getElem?_set_self hl]
        rw [wipe_length] at hl
        rw [List.getElem?_eq_getElem hl]; rfl
      · rw [List.getElem?_eq_none (by simpa using hl)]
        rw [wipe_length] at hl
        rw [List.getElem?_eq_none (by omega)]; rfl
    · rw [List.getElem?_set_ne hj, ih]
      by_cases hm : j ∈ vs
      · rw [if_pos hm, if_pos (List.mem_cons_of_mem _ hm)]
      · rw [if_neg hm, if_neg (by simp only [List.mem_cons, not_or]; exact ⟨fun e => hj e.symm, hm⟩)]
theorem wipe_ext {σ τ : L2.St} {vs : List Nat} (h : ∀ j, j ∉ vs → σ[j]? = τ[j]?) (hl : σ.length = τ.length) : wipe σ vs = wipe τ vs := by
  apply List.ext_getElem?
  intro j
  rw [wipe_get, wipe_get]
  by_cases hj : j ∈ vs
  · rw [if_pos hj, if_pos hj]
    by_cases hs : j < σ.length
    · rw [List.getElem?_eq_getElem hs, List.getElem?_eq_getElem (by omega)]; rfl
    · rw [List.getElem?_eq_none (by omega), List.getElem?_eq_none (by omega)]
  · rw [if_neg hj, if_neg hj]; exact h j hj
theorem wipe_twice (σ : L2.St) (vs : List Nat) : wipe (wipe σ vs) vs = wipe σ vs := wipe_ext (fun j hj => by rw [wipe_get, if_neg hj]) (wipe_length _ _)
theorem wipe_set {σ : L2.St} {vs : List Nat} {i : Nat} {o : Option V} (hi : i ∈ vs) : wipe (σ.set i o) vs = wipe σ vs := wipe_ext (fun j hj => List.getElem?_set_ne (fun (e : i = j) => hj (e ▸ hi))) (List.length_set ..)
def GT (K : PySem.W.Frag) (g : TG) (vs : List Nat) (G : D → Rho → (Rho → Prop) → Prop) : Prop := ∀ M Z H v d σ ρ (R : Rho → Prop) (Q : L2.St → Hp → Prop), EnvR K M Z H (wipe σ vs) ρ → Rep K M Z H v d → G d ρ R →
  (∀ σ2 ρ2, EnvR K M Z H σ2 ρ2 → wipe σ2 vs = wipe σ vs → R ρ2 → Q σ2 H) → g v (wipe σ vs) H Q
theorem gt_name {K : PySem.W.Frag} {vs : List Nat} {i : Nat} (hi : i ∈ vs) : GT K (gName i) vs (fun d ρ R => R (ρ.set i (some d))) := fun M Z H v d σ ρ R Q en r g k =>
  k _ _ (en.set r i) (by rw [wipe_set hi, wipe_twice]) g
theorem gt_two {K : PySem.W.Frag} {vs : List Nat} {i j : Nat} (hi : i ∈ vs) (hj : j ∈ vs) : GT K (gTup K 2 (gCons (gName i) (gCons (gName j) gNil))) vs (fun d ρ R => ∃ a b, d = .tup [a, b] ∧ R ((ρ.set i (some a)).set j (some b))) := fun M Z H v d σ ρ R Q en r g k => by
  obtain ⟨a, b, rfl, g⟩ := g
  obtain ⟨p, vs, rfl, hq, rs⟩ := r.asTup
  cases rs with
  | cons r1 r2 =>
    cases r2 with
    | cons r2 r3 =>
      cases r3
      exact ⟨p, _, rfl, hq, rfl, _, _, rfl, _, _, rfl, rfl, k _ _ ((en.set r1 i).set r2 j) (by rw [wipe_set hj, wipe_set hi, wipe_twice]) g⟩
section
variable {X : Cx} {ρ : Rho} {M : Mp} {elt tg iter : Expr} {pos : Pos} {scope : Scope}
/-- within the block -/
def eBlk (X : Cx) (scope : Scope) (e : Expr) : TE := fun σ H Q => ∀ s H0 C cl fp, eSem (X.blk s H0 scope (compEnvC scope cl C X.env) fp) e σ H Q
def tBlk (X : Cx) (scope : Scope) (e : Expr) : TT := fun σ H Q => ∀ s H0 C cl fp, tSem (X.blk s H0 scope (compEnvC scope cl C X.env) fp) e σ H Q
def WEb (X : Cx) (scope : Scope) (ρ : Rho) (M : Mp) (e : Expr) (Φ : D → Mp → Prop) : Prop := ∀ s H0 C cl fp, WE (X.blk s H0 scope (compEnvC scope cl C X.env) fp) ρ M e Φ
def WTb (X : Cx) (scope : Scope) (ρ : Rho) (M : Mp) (e : Expr) (Φ : Bool → Mp → Prop) : Prop := ∀ s H0 C cl fp, WT (X.blk s H0 scope (compEnvC scope cl C X.env) fp) ρ M e Φ
/-- the tests -/
def TK (X : Cx) (tt : TT) (T : Rho → Mp → (Bool → Mp → Prop) → Prop) : Prop := ∀ {Z : Zn} M H σ ρ (Θ : Bool → Mp → Prop) (Q : Bool → Hp → Prop), EnvR X.K M Z H σ ρ → Wd X.K M Z H → T ρ M Θ → KT X.K M Z H Θ Q → tt σ H Q
theorem tk_nil : TK X tYes (fun _ M Θ => Θ true M) := fun M H σ ρ Θ Q en w h k => k.now w h
theorem tk_one {c : Expr} : TK X (tBlk X scope c) (fun ρ M Θ => WTb X scope ρ M c Θ) := fun M H σ ρ Θ Q en w h k s H0 C cl fp => (h s H0 C cl fp).run σ H Q en w k
/-- what a comprehension asks: I by the turn, what is gathered, the mutable objects -/
def LcI (X : Cx) (scope : Scope) (ρ : Rho) (vs : List Nat) (G : D → Rho → (Rho → Prop) → Prop) (T : Rho → Mp → (Bool → Mp → Prop) → Prop) (elt : Expr) (Φ : D → Mp → Prop) (ds : List D) (M1 : Mp) : Prop :=
  ds.length ≤ sizeLine ∧ ∃ I : Nat → List D → Mp → Prop, I 0 [] M1 ∧
    (∀ i x acc M', ds[i]? = some x → I i acc M' → G x (wipeR ρ vs) fun ρ2 => T ρ2 M' fun b M2 => if b = true then WEb X scope ρ2 M2 elt fun y M3 => I (i + 1) (acc ++ [y]) M3 else I (i + 1) acc M2) ∧
    ∀ acc M', I ds.length acc M' → Φ (.lst acc) M'
theorem lc_run {g : TG} {tt : TT} {vs : List Nat} {G : D → Rho → (Rho → Prop) → Prop} {T : Rho → Mp → (Bool → Mp → Prop) → Prop} {Φ : D → Mp → Prop} (hg : GT X.K g vs G) (ht : TK X tt T)
    (h : WI X ρ M tg iter (LcI X scope ρ vs G T elt Φ)) {Z : Zn} {σ : L2.St} {H : Hp} {Q : VK} (en : EnvR X.K M Z H σ ρ) (w : Wd X.K M Z H) (k : KE X.K M Z H Φ Q) : tLc (iSem X tg iter) g tt (eBlk X scope elt) vs σ H Q :=
  h.run σ H _ en w fun J ds H1 M1 e1 w1 sq hz => by
    obtain ⟨hn, I, h0, turn, done⟩ := hz
    intro Dd hD
    have zne : ∀ b, Z b → b ≠ Dd := w1.zne hD
    refine ⟨fun i m H' => m = ds.length - i ∧ i ≤ ds.length ∧ ∃ accV acc M', ExI M1 Z H1 M' (hid Z Dd) H' ∧ (∀ b, Z b → H' b = H1 b ∧ M' b = M1 b) ∧ Wd X.K M' (hid Z Dd) H' ∧ H' Dd = some (.lst accV) ∧ Reps X.K M' (hid Z Dd) H' accV acc ∧ acc.length ≤ i ∧ I i acc M',
      ⟨ds.length, by simp, Nat.zero_le _, [], [], M1, hide_x hD, fun b z => ⟨upd_ne (zne b z), rfl⟩, hide_w w1 hD, upd_same, .nil, Nat.zero_le _, h0⟩, ?_⟩
    rintro i m H' ⟨rfl, hi, accV, acc, M', x', zk, w', hA, rA, la, inv⟩
    obtain ⟨s1, s2⟩ := sq i M' (hid Z Dd) H' x' w'
    by_cases hlt : i < ds.length
    · have hd : ds[i]? = some ds[i] := List.getElem?_eq_getElem hlt
      obtain ⟨go, yl⟩ := s2 _ hd
      refine .inr ⟨go, fun H2 => ∃ accV acc M2, ExI M1 Z H1 M2 (hid Z Dd) H2 ∧ (∀ b, Z b → H2 b = H1 b ∧ M2 b = M1 b) ∧ Wd X.K M2 (hid Z Dd) H2 ∧ H2 Dd = some (.lst accV) ∧ Reps X.K M2 (hid Z Dd) H2 accV acc ∧ acc.length ≤ i + 1 ∧ I (i + 1) acc M2,
        fun H2 ⟨aV, a, M2, x2, z2, w2, hA2, rA2, l2, i2⟩ => ⟨ds.length - (i + 1), by omega, rfl, hlt, aV, a, M2, x2, z2, w2, hA2, rA2, l2, i2⟩, fun v H2 y => ?_⟩
      obtain ⟨x2, w2, r2⟩ := yl v H2 y
      have en2 : EnvR X.K M' (hid Z Dd) H2 (wipe σ vs) (wipeR ρ vs) := env_wipe ((en.mono e1).monoI (x'.trans x2.i)) vs
      refine hg M' (hid Z Dd) H2 v _ σ _ _ _ en2 r2 (turn i _ acc M' hd inv) fun σ3 ρ3 en3 wp3 hT => ⟨wp3, ?_⟩
      refine ht M' H2 σ3 ρ3 _ _ en3 w2 hT fun b H3 M3 x3 w3 hb => ?_
      have x23 : Ext M' (hid Z Dd) H' M3 H3 := x2.trans x3
      have zk3 : ∀ b, Z b → H3 b = H1 b ∧ M3 b = M1 b := fun b z => ⟨(x23.2 b (.inl z)).1.trans (zk b z).1, (x23.2 b (.inl z)).2.trans (zk b z).2⟩
      cases b with
      | false => exact ⟨accV, acc, M3, x'.trans x23.i, zk3, w3, (x23.2 Dd (.inr rfl)).1.trans hA, rA.mono x23, Nat.le_succ_of_le la, hb⟩
      | true =>
        intro s H0 C cl fp
        refine (hb s H0 C cl fp).run σ3 H3 _ (en3.mono x3) w3 fun yv yd H4 M4 x4 w4 r4 hI => ?_
        have x24 := x23.trans x4
        have hA4 : H4 Dd = some (.lst accV) := (x24.2 Dd (.inr rfl)).1.trans hA
        refine ⟨accV, hA4, by rw [rA.length]; omega, accV ++ [yv], acc ++ [yd], M4, (x'.trans x24.i).trans hidput_x, fun b z => ⟨(upd_ne (zne b z)).trans ((x4.2 b (.inl z)).1.trans (zk3 b z).1), (x4.2 b (.inl z)).2.trans (zk3 b z).2⟩, hidput_w w4, upd_same, ?_, by rw [List.length_append, List.length_singleton]; omega, hI⟩
        exact (((rA.mono x24).append (.cons r4 .nil))).monoI hidput_x
    · have e : i = ds.length := by omega
      refine .inl ⟨s1 e, ?_⟩
      refine k _ (.lst acc) H' M' (e1.trans ⟨x'.trans show_x, zk⟩) (show_w w') (.lst hA ⟨(w'.2 Dd (.inr rfl)).1, fun z => zne Dd z rfl⟩ (rA.monoI show_x)) (done _ _ (e ▸ inv))
/-- [elt for x in iter] -/
theorem we_lc {own : List (Str × Nat)} {g : TG} {tt : TT} {ifs : List Expr} {G : D → Rho → (Rho → Prop) → Prop} {T : Rho → Mp → (Bool → Mp → Prop) → Prop} {Φ : D → Mp → Prop} (hN : X.N.Nodup) (ok : BlkOk X.N X.env.scope scope own)
    (pg : ∀ (s : Shared) (H : Hp) (C : Addr) (cl : List (Str × Addr)) (fp : List Addr), PG (X.blk s H scope (compEnvC scope cl C X.env) fp) tg g) (hg : GT X.K g (own.map (·.2)) G)
    (pt : ∀ (s : Shared) (H : Hp) (C : Addr) (cl : List (Str × Addr)) (fp : List Addr), PTs (X.blk s H scope (compEnvC scope cl C X.env) fp) ifs tt) (ht : TK X tt T)
    (h : WI X ρ M tg iter (LcI X scope ρ (own.map (·.2)) G T elt Φ)) (hc : X.calm = true := by rfl) (hs : ∀ x, foldedSetIterable iter X.env x = pure x := by intro _; rfl) : WE X ρ M (.ListComp elt [⟨tg, iter, ifs, 0⟩] scope pos) Φ := .mk fun σ H Q en w k =>
  eOf (pe_lc hc hN pi_sem ok pg pt (fun s H0 C cl fp => ⟨fun pins s' σ' H' Q' I q => q s H0 C cl fp pins s' I⟩) hs) (lc_run hg ht h en w k)
/-- y = [elt for x in iter] -/
theorem ws_setLc (i : Nat) {y : Str} {py spos : Pos} {own : List (Str × Nat)} {g : TG} {tt : TT} {ifs : List Expr} {G : D → Rho → (Rho → Prop) → Prop} {T : Rho → Mp → (Bool → Mp → Prop) → Prop} {Ψ : DE} (hN : X.N.Nodup) (ok : BlkOk X.N X.env.scope scope own)
    (pg : ∀ (s : Shared) (H : Hp) (C : Addr) (cl : List (Str × Addr)) (fp : List Addr), PG (X.blk s H scope (compEnvC scope cl C X.env) fp) tg g) (hg : GT X.K g (own.map (·.2)) G)
    (pt : ∀ (s : Shared) (H : Hp) (C : Addr) (cl : List (Str × Addr)) (fp : List Addr), PTs (X.blk s H scope (compEnvC scope cl C X.env) fp) ifs tt) (ht : TK X tt T)
    (h : WI X ρ M tg iter (LcI X scope ρ (own.map (·.2)) G T elt fun d M1 => Ψ.nx (ρ.set i (some d)) M1))
    (hsw : swapsWith (.ListComp elt [⟨tg, iter, ifs, 0⟩] scope pos) (some (.Name y py)) spos.line X.env = pure true) (hy : X.N[i]? = some y := by rfl) (hyl : X.env.scope.names.lookup y = some .local := by rfl)
    (hc : X.calm = true := by rfl) (hs : ∀ x, foldedSetIterable iter X.env x = pure x := by intro _; rfl) : WS X ρ M (.Assign [.Name y py] (.ListComp elt [⟨tg, iter, ifs, 0⟩] scope pos) spos) Ψ := .mk fun σ H E en w k =>
  sOf (ps_setLc hc hN hy hyl hsw pi_sem ok pg pt (fun s H0 C cl fp => ⟨fun pins s' σ' H' Q' I q => q s H0 C cl fp pins s' I⟩) hs) (lc_run hg ht h en w fun v d H' M' x w' r z => k.nx _ _ H' M' x w' ((en.mono x).set r i) z)
end
end DL
namespace DL
open PySem PySem.Spec PyProof.Rows L2
/-- its promise in the hand layer -/
def spD (K : PySem.W.Frag) (n : Nat) (c : Con) : Sp := fun vs H Q _ => ∃ ds M Z Φ, ds.length = n ∧ Reps K M Z H vs ds ∧ Wd K M Z H ∧ c ds M Φ ∧ KE K M Z H Φ Q
theorem lets_k {K : PySem.W.Frag} {M : Mp} {Z : Zn} {H : Hp} {Φ : D → Mp → Prop} {Q : VK} (k : KE K M Z H Φ Q) : KE K M Z H (Lets Φ) Q := fun v d H' M' x w r z => by
  obtain ⟨d', M2, l, f, z⟩ := z
  exact k v d' H' M2 (x.trans (l.ext w)) (l.w w) (f.rep l w r) z
theorem FzE.env {K : PySem.W.Frag} {M M' : Mp} {Z : Zn} {H : Hp} (l : Les M' M) (w : Wd K M Z H) : ∀ {σ : L2.St} {ρ ρ' : Rho}, FzE M M' ρ ρ' → EnvR K M Z H σ ρ → EnvR K M' Z H σ ρ'
  | _, _, _, .nil, .nil => .nil
  | _, _, _, .val f t, .val r u => .val (f.rep l w r) (FzE.env l w t u)
  | _, _, _, .drop t, .val r u => .any (FzE.env l w t u)
  | _, _, _, .drop t, .any u => .any (FzE.env l w t u)
/-- go on with less -/
theorem wss_let {X : Cx} {ρ ρ' : Rho} {M M' : Mp} {sts : List Stmt} {Ψ : DE} (l : Les M' M) (f : FzE M M' ρ ρ') (h : WSs X ρ' M' sts Ψ) : WSs X ρ M sts Ψ := .mk fun σ H E en w k =>
  h.run σ H E (f.env l w en) (l.w w) (k.step (l.ext w))
section
variable {P : Program} {w : World} {K : PySem.W.Frag} {mg : Str → Option Value} {base : Heap} {x qual : Str} {params : Arguments} {body : List Stmt} {scope : Scope} {dvs : List V} {kws : List (Str × V)} {f : Addr} {fd : FuncData}
/-- the context of a body -/
abbrev bx (P : Program) (w : World) (K : PySem.W.Frag) (mg : Str → Option Value) (base : Heap) (N : List Str) (qual : Str) (scope : Scope) (f : Addr) (cdv : Value) (A : Around) (outer : List Env) (s : Shared) (H : Hp) (E : XK) : Cx :=
  (cxOf CX0 P w K mg base N qual scope f cdv A outer s H E).nox
theorem fn_ok {N ps : List Str} {k : Nat} {c : Con} (F : FunD K x qual params body scope dvs kws f fd) (S : FnScope N ps scope)
    (h : ∀ (cdv : Value) (A : Around) (outer : List Env) (s : Shared) (H : Hp) (E : XK), Room k (A.deeper (envOfC qual scope s.heap.objs.size f cdv)) → ∀ ds M Φ, ds.length = ps.length → c ds M Φ →
      WSs (bx P w K mg base N qual scope f cdv A outer s H E) (start N ds) M body { nx := fun _ M' => Φ .non M', rt := Lets Φ }) : FnOk P w K mg base CX0 (k + 1) f fd ps (spD K ps.length c) := by
  refine F.ok S (fun vs H Q E q => ?_) (fun cdv A outer s H vs Q E hr q => ?_)
  · obtain ⟨ds, M, Z, Φ, hl, r, _⟩ := q
    rw [r.length, hl]
  · obtain ⟨ds, M, Z, Φ, hl, r, wd, hc, k⟩ := q
    refine ⟨_, PSs.nox (pss_sem (X := bx P w K mg base N qual scope f cdv A outer s H E)), ?_⟩
    exact (h cdv A outer s H E hr ds M Φ hl hc).run (L2.start N vs) H _ (env_start r) wd ⟨fun σ' ρ' H' M' x w' en z => k _ .non H' M' x w' .non z, lets_k k, fun _ _ _ _ _ _ _ z => z.elim, fun _ _ _ _ _ _ _ z => z.elim⟩
end
/-- the global x is a def with this contract; dd the data of the defaults that fill up -/
structure Fc (P : Program) (w : World) (K : PySem.W.Frag) (mg : Str → Option Value) (base : Heap) (x : Str) (dd : List D) (k n : Nat) (c : Con) : Prop where
  ex : ∃ (f : Addr) (fd : FuncData) (ps : List Str) (dvs : List V) (ds : List Value), FnOk P w K mg base CX0 k f fd ps (spD K n c) ∧ mg x = some (.ref f) ∧ PySem.W.keepIn K (.ref f) = true ∧ Binds K fd ps ds ∧ Vals dvs ds ∧ ∀ M Z H, Reps K M Z H dvs dd
section
variable {X : Cx} {ρ : Rho} {M : Mp} {Φ : D → Mp → Prop} {e o : Expr} {es : List Expr} {pos p apos : Pos} {x m : Str} {dd : List D} {k n : Nat} {c : Con}
theorem sp_run {n : Nat} {vs dvs : List V} {ds : List D} {M1 : Mp} {Z : Zn} {H1 : Hp} {Q : VK} {E : XK} (r : Reps X.K M1 Z H1 vs ds) (rd : Reps X.K M1 Z H1 dvs dd) (w1 : Wd X.K M1 Z H1) (hz : (ds ++ dd).length = n ∧ c (ds ++ dd) M1 Φ) (k : KE X.K M1 Z H1 Φ Q) : spD X.K n c (vs ++ dvs) H1 Q E :=
  ⟨ds ++ dd, M1, Z, Φ, hz.1, r.append rd, w1, hz.2, k⟩
theorem we_call (F : Fc X.prog X.w X.K X.mg X.base x dd k n c) (hr : Room k X.A) (h : WA X ρ M (e :: es) fun ds M1 => (ds ++ dd).length = n ∧ c (ds ++ dd) M1 Φ) (hg : Gl X x := by rfl)
    (hdb : (x == ("__debug__" : Str)) = false := by decide) (he : starEach (e :: es) X.env = (false, eval e X.env) :: starEach es X.env := by rfl) (hpl : (backTo pos (starEach es X.env)).any (·.1) = false := by rfl) : WE X ρ M (.Call (.Name x p) (e :: es) [] pos) Φ := .mk fun σ H Q en w k => by
  obtain ⟨f, fd, ps, dvs, ds, F, hm, hk, hb, hd, hdd⟩ := F.ex
  exact eOf (pe_call (E := E0) F hr hg hm hk hb hd pass0 pa_sem hdb he hpl) (h.run σ H _ en w fun vs as H1 M1 e1 w1 r1 hz => sp_run r1 (hdd _ _ _) w1 hz (k.step e1))
theorem we_call0 (F : Fc X.prog X.w X.K X.mg X.base x dd k n c) (hr : Room k X.A) (h : dd.length = n ∧ c dd M Φ) (hg : Gl X x := by rfl)
    (hdb : (x == ("__debug__" : Str)) = false := by decide) : WE X ρ M (.Call (.Name x p) [] [] pos) Φ := .mk fun σ H Q en w k => by
  obtain ⟨f, fd, ps, dvs, ds, F, hm, hk, hb, hd, hdd⟩ := F.ex
  exact eOf (pe_call0 (E := E0) F hr hg hm hk hb hd pass0 hdb) (sp_run (E := E0) (ds := []) (vs := []) .nil (hdd _ _ _) w h k)
/-- d is an instance of the class at C with these fields -/
def InsOf (M : Mp) (C : Addr) : D → List (Str × D) → Prop
  | .ins C' fs, gs => C' = C ∧ gs = fs
  | .ob a, gs => M a = some (.ins C gs)
  | _, _ => False
theorem Rep.asIns {K : PySem.W.Frag} {M : Mp} {Z : Zn} {H : Hp} {C : Addr} {v : V} {d : D} {fs : List (Str × D)} (w : Wd K M Z H) (r : Rep K M Z H v d) (i : InsOf M C d fs) : ∃ a dx vs, v = .ref a ∧ H a = some (.ins C dx vs) ∧ RepF K M Z H vs fs := by
  cases r with
  | ins h m r =>
    obtain ⟨rfl, rfl⟩ := i
    exact ⟨_, _, _, rfl, h, r⟩
  | ob a =>
    obtain ⟨dx, vs, h, r⟩ := w.1 a _ i
    exact ⟨_, _, _, rfl, h, r⟩
  | _ => cases i
theorem InsOf.mono {K : PySem.W.Frag} {C : Addr} {d : D} {fs : List (Str × D)} {M : Mp} (h : InsOf M C d fs) {M' : Mp} (k : ∀ a, d = .ob a → M' a = M a) : InsOf M' C d fs := by
  cases d with
  | ins C' gs => exact h
  | ob a => exact (k a rfl).trans h
  | _ => cases h
/-- o.f, a field -/
theorem we_fld {f : Str} {C : Addr} (h : WE X ρ M o fun d M1 => ∃ fs v, InsOf M1 C d fs ∧ Cls X.K C ∧ NoAttr X.K C f ∧ fs.lookup f = some v ∧ Φ v M1) (hb : attributeBase o f X.env (eval o X.env) = eval o X.env := by rfl) : WE X ρ M (.Attribute o f pos) Φ := .mk fun σ H Q en w k =>
  eOf (pe_fld pe_sem hb) (h.run σ H _ en w fun v d H1 M1 e1 w1 r1 hz => by
    obtain ⟨fs, y, hi, cl, na, hl, hz⟩ := hz
    obtain ⟨a, dx, vs, rfl, ha, rf⟩ := r1.asIns w1 hi
    obtain ⟨u, hu, ru⟩ := (rf.lookup f).2 y hl
    exact ⟨a, C, dx, vs, u, rfl, ha, cl, na, hu, (k.step e1).now w1 ru hz⟩)
/-- the fields, one stored -/
def putD (f : Str) (d : D) : List (Str × D) → List (Str × D)
  | [] => [(f, d)]
  | (g, y) :: r => if g = f then (g, d) :: r else (g, y) :: putD f d r
theorem RepF.put {K : PySem.W.Frag} {M : Mp} {Z : Zn} {H : Hp} {f : Str} {v : V} {d : D} (r : Rep K M Z H v d) : ∀ {vs : List (Str × V)} {ds : List (Str × D)}, RepF K M Z H vs ds → RepF K M Z H (putF f v vs) (putD f d ds)
  | _, _, .nil => .cons r .nil
  | _, _, .cons (k := g) r' t => by
    unfold putF putD
    by_cases h : g = f
    · rw [if_pos h, if_pos h]; exact .cons r t
    · rw [if_neg h, if_neg h]; exact .cons r' (RepF.put r t)
/-- o.f = e, o a mutable instance -/
theorem ws_fld {f : Str} {C : Addr} {value : Expr} {pos' : Pos} {Ψ : DE} (h : WE X ρ M value fun d M1 => WE X ρ M1 o fun x M2 => ∃ a fs, x = .ob a ∧ M2 a = some (.ins C fs) ∧ Cls X.K C ∧ NoAttr X.K C f ∧ fs.length < 1000 ∧ Ψ.nx ρ (mset M2 a (.ins C (putD f d fs))))
    (hs : swapsWith value (some (.Attribute o f pos')) pos.line X.env = pure false := by rfl) : WS X ρ M (.Assign [.Attribute o f pos'] value pos) Ψ := .mk fun σ H E en w k =>
  sOf (ps_fld pe_sem pe_sem hs) (bind2 h en w fun v u d x H2 M2 e2 w2 r1 r2 hz => by
    obtain ⟨a, fs, rfl, hM, cl, na, hl, hz⟩ := hz
    cases r2
    obtain ⟨dx, vs, ha, rf⟩ := w2.1 a _ hM
    refine ⟨a, C, dx, vs, rfl, ha, cl, na, by rw [rf.length]; exact hl, ?_⟩
    have x3 : Ext M2 _ H2 (mset M2 a (.ins C (putD f d fs))) (upd H2 a (.ins C dx (putF f v vs))) := Ext.put w2 hM
    exact k.nx σ ρ _ _ (e2.trans x3) (w2.put hM ⟨dx, _, upd_same, (rf.mono x3).put (r1.mono x3)⟩) (en.mono (e2.trans x3)) hz)
/-- the method m of the class at C has this contract (self among the arguments) -/
structure Mc (P : Program) (w : World) (K : PySem.W.Frag) (mg : Str → Option Value) (base : Heap) (C : Addr) (m : Str) (dd : List D) (k n : Nat) (c : Con) : Prop where
  cl : Cls K C
  ex : ∃ (f : Addr) (fd : FuncData) (ps : List Str) (dvs : List V) (ds : List Value), FnOk P w K mg base CX0 k f fd ps (spD K n c) ∧ Meth K C m f ∧ Binds K fd ps ds ∧ Vals dvs ds ∧ ∀ M Z H, Reps K M Z H dvs dd
/-- a property of the class at C, its getter's contract -/
structure Pc (P : Program) (w : World) (K : PySem.W.Frag) (mg : Str → Option Value) (base : Heap) (C : Addr) (m : Str) (k : Nat) (c : Con) : Prop where
  cl : Cls K C
  ex : ∃ (p g : Addr) (fd : FuncData) (ps : List Str), FnOk P w K mg base CX0 k g fd ps (spD K 1 c) ∧ PropOf K C m p g ∧ Binds K fd ps []
theorem we_prop {C : Addr} (F : Pc X.prog X.w X.K X.mg X.base C m k c) (hr : Room (k + 1) X.A) (h : WE X ρ M o fun d M1 => ∃ fs, InsOf M1 C d fs ∧ c [d] M1 Φ)
    (hab : attributeBase o m X.env (eval o X.env) = eval o X.env := by rfl) : WE X ρ M (.Attribute o m pos) Φ := .mk fun σ H Q en w k => by
  obtain ⟨p, g, fd, ps, F', hp, hb⟩ := F.ex
  refine eOf (pe_prop (E := E0) pe_sem F.cl hp F' hr hb .nil pass0 hab) (h.run σ H _ en w fun v d H1 M1 e1 w1 r1 hz => ?_)
  obtain ⟨fs, hi, hz⟩ := hz
  obtain ⟨a, dx, vs, rfl, ha, rf⟩ := r1.asIns w1 hi
  exact ⟨a, dx, vs, rfl, ha, [d], M1, _, Φ, rfl, .cons r1 .nil, w1, hz, k.step e1⟩
/-- the class of the name x, its __init__'s contract: the new instance is the first argument -/
structure Kc (P : Program) (w : World) (K : PySem.W.Frag) (mg : Str → Option Value) (base : Heap) (x : Str) (C : Addr) (dd : List D) (k n : Nat) (c : Con) : Prop where
  at_ : mg x = some (.ref C)
  ex : ∃ (f : Addr) (fd : FuncData) (ps : List Str) (dvs : List V) (ds : List Value), FnOk P w K mg base CX0 k f fd ps (spD K n c) ∧ Mk K C f ∧ Binds K fd ps ds ∧ Vals dvs ds ∧ ∀ M Z H, Reps K M Z H dvs dd
theorem we_make {C : Addr} (F : Kc X.prog X.w X.K X.mg X.base x C dd k n c) (hr : Room (k + 1) X.A)
    (h : WA X ρ M (e :: es) fun as M1 => ∀ a, M1 a = none → (.ob a :: (as ++ dd)).length = n ∧ c (.ob a :: (as ++ dd)) (mset M1 a (.ins C [])) fun d M2 => d = .non ∧ Lets Φ (.ob a) M2) (hg : Gl X x := by rfl)
    (hdb : (x == ("__debug__" : Str)) = false := by decide) (he : starEach (e :: es) X.env = (false, eval e X.env) :: starEach es X.env := by rfl) (hpl : (backTo pos (starEach es X.env)).any (·.1) = false := by rfl) : WE X ρ M (.Call (.Name x p) (e :: es) [] pos) Φ := .mk fun σ H Q en w k => by
  obtain ⟨f, fd, ps, dvs, ds, F', hm, hbd, hd, hdd⟩ := F.ex
  refine eOf (pe_make (E := E0) hm F' hr hg F.at_ hbd hd pass0 pa_sem hdb he hpl) (h.run σ H _ en w fun vs as H1 M1 e1 w1 r1 hz => ?_)
  intro a dx ha hdx ne
  obtain ⟨hl, hz⟩ := hz a (w1.fresh ha).1
  have ha1 : (upd H1 dx (.own a)) a = none := by rw [upd_ne (Ne.symm ne)]; exact ha
  have x1 : Ext M1 _ H1 M1 (upd H1 dx (.own a)) := Ext.new w1 hdx
  have wa := w1.new (o := .own a) hdx
  have x2 : Ext M1 _ (upd H1 dx (.own a)) (mset M1 a (.ins C [])) (upd (upd H1 dx (.own a)) a (.ins C dx [])) := Ext.newM wa ha1
  have x12 := x1.trans x2
  refine ⟨.ob a :: (as ++ dd), mset M1 a (.ins C []), _, _, hl, .cons (.ob a) ((r1.mono x12).append (hdd _ _ _)), wa.newM ha1 ⟨dx, [], upd_same, .nil⟩, hz, fun v d H2 M2 x3 w2 r2 hy => ?_⟩
  obtain ⟨rfl, hy⟩ := hy
  cases r2
  exact ⟨rfl, lets_k (k.step (e1.trans x12)) _ _ H2 M2 x3 w2 (.ob a) hy⟩
end
end DL
namespace DL
open PySem PySem.Spec PyProof.Rows L2
section
variable {X : Cx} {ρ : Rho} {M : Mp} {Φ : D → Mp → Prop} {Θ : Bool → Mp → Prop} {a b e : Expr} {pos : Pos} {K : PySem.W.Frag}
theorem rd_I {C : Int → Int → Prop} {g : Int → Int → Int} {x y : D} (h : ∃ i j, x = .int i ∧ y = .int j ∧ C i j ∧ Φ (.int (g i j)) M) : RD K (rI C fun i j => .int (g i j)) x y M Φ := fun Z v u H Q w r1 r2 k => by
  obtain ⟨i, j, rfl, rfl, hc, h⟩ := h
  cases r1; cases r2
  exact ⟨i, j, rfl, rfl, hc, k.now w (.int _) h⟩
theorem rd_I0 {g : Int → Int → Int} {x y : D} (h : ∃ i j, x = .int i ∧ y = .int j ∧ Φ (.int (g i j)) M) : RD K (rI0 fun i j => .int (g i j)) x y M Φ := fun Z v u H Q w r1 r2 k => by
  obtain ⟨i, j, rfl, rfl, h⟩ := h
  cases r1; cases r2
  exact ⟨i, j, rfl, rfl, k.now w (.int _) h⟩
theorem rd_B0 {g : Int → Int → Bool} {x y : D} (h : ∃ i j, x = .int i ∧ y = .int j ∧ Φ (.bl (g i j)) M) : RD K (rI0 fun i j => .bl (g i j)) x y M Φ := fun Z v u H Q w r1 r2 k => by
  obtain ⟨i, j, rfl, rfl, h⟩ := h
  cases r1; cases r2
  exact ⟨i, j, rfl, rfl, k.now w (.bl _) h⟩
theorem we_addI (h : WE X ρ M a fun x M1 => WE X ρ M1 b fun y M2 => ∃ i j, x = .int i ∧ y = .int j ∧ Φ (.int (i + j)) M2) : WE X ρ M (.BinOp a .Add b pos) Φ := we_op op_add (h.imp fun _ _ h => h.imp fun _ _ h => rd_I0 h)
theorem we_subI (h : WE X ρ M a fun x M1 => WE X ρ M1 b fun y M2 => ∃ i j, x = .int i ∧ y = .int j ∧ Φ (.int (i - j)) M2) : WE X ρ M (.BinOp a .Sub b pos) Φ := we_op op_sub (h.imp fun _ _ h => h.imp fun _ _ h => rd_I0 h)
theorem we_mulI (h : WE X ρ M a fun x M1 => WE X ρ M1 b fun y M2 => ∃ i j, x = .int i ∧ y = .int j ∧ CMulW i j ∧ Φ (.int (i * j)) M2) : WE X ρ M (.BinOp a .Mult b pos) Φ := we_op op_mulW (h.imp fun _ _ h => h.imp fun _ _ h => rd_I h)
/-- one factor small -/
theorem we_mulS (h : WE X ρ M a fun x M1 => WE X ρ M1 b fun y M2 => ∃ i j, x = .int i ∧ y = .int j ∧ CMul i j ∧ Φ (.int (i * j)) M2) : WE X ρ M (.BinOp a .Mult b pos) Φ := we_op op_mul (h.imp fun _ _ h => h.imp fun _ _ h => rd_I h)
theorem we_modI (h : WE X ρ M a fun x M1 => WE X ρ M1 b fun y M2 => ∃ i j, x = .int i ∧ y = .int j ∧ 0 < j ∧ Φ (.int (i % j)) M2) : WE X ρ M (.BinOp a .Mod b pos) Φ := we_op op_mod (h.imp fun _ _ h => h.imp fun _ _ h => rd_I (C := fun _ j => 0 < j) h)
theorem we_divI (h : WE X ρ M a fun x M1 => WE X ρ M1 b fun y M2 => ∃ i j, x = .int i ∧ y = .int j ∧ CDivW i j ∧ Φ (.int (i / j)) M2) : WE X ρ M (.BinOp a .FloorDiv b pos) Φ := we_op op_fdivW (h.imp fun _ _ h => h.imp fun _ _ h => rd_I h)
theorem we_powI (h : WE X ρ M a fun x M1 => WE X ρ M1 b fun y M2 => ∃ i j, x = .int i ∧ y = .int j ∧ CPow i j ∧ Φ (.int (i ^ j.toNat)) M2) : WE X ρ M (.BinOp a .Pow b pos) Φ := we_op op_pow (h.imp fun _ _ h => h.imp fun _ _ h => rd_I h)
theorem we_negI (h : WE X ρ M a fun x M1 => ∃ i, x = .int i ∧ Φ (.int (-i)) M1) : WE X ρ M (.UnaryOp .USub a pos) Φ := we_un un_neg (h.imp fun _ _ h Z v H Q w r k => by
  obtain ⟨i, rfl, h⟩ := h
  cases r
  exact ⟨i, rfl, k.now w (.int _) h⟩)
section
variable {op : CmpOp}
theorem we_leI (h : WE X ρ M a fun x M1 => WE X ρ M1 b fun y M2 => ∃ i j, x = .int i ∧ y = .int j ∧ Φ (.bl (decide (i ≤ j))) M2) : WE X ρ M (.Compare a [.LtE] [b] pos) Φ := we_cmp op_le (nomark _) (h.imp fun _ _ h => h.imp fun _ _ h => rd_B0 h)
theorem we_geI (h : WE X ρ M a fun x M1 => WE X ρ M1 b fun y M2 => ∃ i j, x = .int i ∧ y = .int j ∧ Φ (.bl (decide (j ≤ i))) M2) : WE X ρ M (.Compare a [.GtE] [b] pos) Φ := we_cmp op_ge (nomark _) (h.imp fun _ _ h => h.imp fun _ _ h => rd_B0 h)
theorem wt_ltI (h : WE X ρ M a fun x M1 => WE X ρ M1 b fun y M2 => ∃ i j, x = .int i ∧ y = .int j ∧ Θ (decide (i < j)) M2) : WT X ρ M (.Compare a [.Lt] [b] pos) Θ := wt_cmp op_lt (nomark _) (h.imp fun _ _ h => h.imp fun _ _ ⟨i, j, e1, e2, h⟩ => rd_B0 ⟨i, j, e1, e2, _, rfl, h⟩)
theorem wt_leI (h : WE X ρ M a fun x M1 => WE X ρ M1 b fun y M2 => ∃ i j, x = .int i ∧ y = .int j ∧ Θ (decide (i ≤ j)) M2) : WT X ρ M (.Compare a [.LtE] [b] pos) Θ := wt_cmp op_le (nomark _) (h.imp fun _ _ h => h.imp fun _ _ ⟨i, j, e1, e2, h⟩ => rd_B0 ⟨i, j, e1, e2, _, rfl, h⟩)
theorem wt_gtI (h : WE X ρ M a fun x M1 => WE X ρ M1 b fun y M2 => ∃ i j, x = .int i ∧ y = .int j ∧ Θ (decide (j < i)) M2) : WT X ρ M (.Compare a [.Gt] [b] pos) Θ := wt_cmp op_gt (nomark _) (h.imp fun _ _ h => h.imp fun _ _ ⟨i, j, e1, e2, h⟩ => rd_B0 ⟨i, j, e1, e2, _, rfl, h⟩)
end
theorem rd_eq {x y : D} (h : ∃ c, EqS x y c ∧ Φ (.bl c) M) : RD K rEq x y M Φ := fun Z v u H Q w r1 r2 k => by
  obtain ⟨c, hc, h⟩ := h
  obtain ⟨s1, s2⟩ := hc.rep r1 r2
  exact ⟨s1, by rw [s2]; exact k.now w (.bl c) h⟩
theorem rd_ne {x y : D} (h : ∃ c, EqS x y c ∧ Φ (.bl (!c)) M) : RD K rNe x y M Φ := fun Z v u H Q w r1 r2 k => by
  obtain ⟨c, hc, h⟩ := h
  obtain ⟨s1, s2⟩ := hc.rep r1 r2
  exact ⟨s1, by rw [s2]; exact k.now w (.bl (!c)) h⟩
theorem we_eqS (h : WE X ρ M a fun x M1 => WE X ρ M1 b fun y M2 => ∃ c, EqS x y c ∧ Φ (.bl c) M2) : WE X ρ M (.Compare a [.Eq] [b] pos) Φ := we_cmp op_eq (nomark _) (h.imp fun _ _ h => h.imp fun _ _ h => rd_eq h)
theorem wt_eqS (h : WE X ρ M a fun x M1 => WE X ρ M1 b fun y M2 => ∃ c, EqS x y c ∧ Θ c M2) : WT X ρ M (.Compare a [.Eq] [b] pos) Θ := wt_cmp op_eq (nomark _) (h.imp fun _ _ h => h.imp fun _ _ ⟨c, e, h⟩ => rd_eq ⟨c, e, _, rfl, h⟩)
theorem wt_neS (h : WE X ρ M a fun x M1 => WE X ρ M1 b fun y M2 => ∃ c, EqS x y c ∧ Θ (!c) M2) : WT X ρ M (.Compare a [.NotEq] [b] pos) Θ := wt_cmp op_ne (nomark _) (h.imp fun _ _ h => h.imp fun _ _ ⟨c, e, h⟩ => rd_ne ⟨c, e, _, rfl, h⟩)
theorem rd_neD {x y : D} (h : ∃ p q, toPy x = some p ∧ toPy y = some q ∧ SeqAt.shaped p = true ∧ SeqAt.shaped q = true ∧ Φ (.bl (!PyData.eqv p q)) M) : RD K (rNeD K) x y M Φ := fun Z v u H Q w r1 r2 k => by
  obtain ⟨p, q, e1, e2, s1, s2, h⟩ := h
  exact ⟨p, q, r1.dp e1, r2.dp e2, s1, s2, k.now w (.bl _) h⟩
theorem wt_neD (hu : X.A.units + 64 < cLine) (h : WE X ρ M a fun x M1 => WE X ρ M1 b fun y M2 => ∃ p q, toPy x = some p ∧ toPy y = some q ∧ SeqAt.shaped p = true ∧ SeqAt.shaped q = true ∧ Θ (!PyData.eqv p q) M2) : WT X ρ M (.Compare a [.NotEq] [b] pos) Θ := wt_cmp (op_neD hu) (nomark _) (h.imp fun _ _ h => h.imp fun _ _ ⟨p, q, e1, e2, s1, s2, h⟩ => rd_neD ⟨p, q, e1, e2, s1, s2, _, rfl, h⟩)
def isNon : D → Bool
  | .non => true
  | _ => false
theorem Rep.isNon {M : Mp} {Z : Zn} {H : Hp} {v : V} {d : D} (r : Rep K M Z H v d) : decide (v = .non) = DL.isNon d := by
  cases r <;> first | rfl | simp [DL.isNon]
theorem we_isN {j : Nat} {p' : Pos} (h : WE X ρ M a fun x M1 => Φ (.bl (isNon x)) M1) : WE X ρ M (.Compare a [.Is] [.Constant .none j p'] pos) Φ := .mk fun σ H Q en w k =>
  eOf (pe_cmp (pc_isN pe_sem)) (h.run σ H _ en w fun v d H1 M1 e1 w1 r1 hz => by
    show Q (.bl (decide (v = .non))) H1
    rw [r1.isNon]
    exact (k.step e1).now w1 (.bl _) hz)
theorem we_notN {j : Nat} {p' : Pos} (h : WE X ρ M a fun x M1 => Φ (.bl (!isNon x)) M1) : WE X ρ M (.Compare a [.IsNot] [.Constant .none j p'] pos) Φ := .mk fun σ H Q en w k =>
  eOf (pe_cmp (pc_notN pe_sem)) (h.run σ H _ en w fun v d H1 M1 e1 w1 r1 hz => by
    show Q (.bl (!decide (v = .non))) H1
    rw [r1.isNon]
    exact (k.step e1).now w1 (.bl _) hz)
theorem wt_isN {j : Nat} {p' : Pos} (h : WE X ρ M a fun x M1 => Θ (isNon x) M1) : WT X ρ M (.Compare a [.Is] [.Constant .none j p'] pos) Θ := .mk fun σ H Q en w k =>
  tOf (pt_cmp (pc_isN pe_sem)) (h.run σ H _ en w fun v d H1 M1 e1 w1 r1 hz => by
    show ∃ c, V.bl (decide (v = .non)) = .bl c ∧ Q c H1
    rw [r1.isNon]
    exact ⟨_, rfl, (k.step e1).now w1 hz⟩)
theorem wt_notN {j : Nat} {p' : Pos} (h : WE X ρ M a fun x M1 => Θ (!isNon x) M1) : WT X ρ M (.Compare a [.IsNot] [.Constant .none j p'] pos) Θ := .mk fun σ H Q en w k =>
  tOf (pt_cmp (pc_notN pe_sem)) (h.run σ H _ en w fun v d H1 M1 e1 w1 r1 hz => by
    show ∃ c, V.bl (!decide (v = .non)) = .bl c ∧ Q c H1
    rw [r1.isNon]
    exact ⟨_, rfl, (k.step e1).now w1 hz⟩)
theorem wt_chainI {c : Expr} (h : WE X ρ M a fun x M1 => WE X ρ M1 b fun y M2 => ∃ i j, x = .int i ∧ y = .int j ∧ if decide (i ≤ j) = true then WE X ρ M2 c fun z M3 => ∃ l, z = .int l ∧ Θ (decide (j ≤ l)) M3 else Θ false M2) (hm : lastMarks [.LtE, .LtE] [b, c] = false := by rfl) : WT X ρ M (.Compare a [.LtE, .LtE] [b, c] pos) Θ := .mk fun σ H Q en w k =>
  tOf (pt_chain op_le op_le pe_sem pe_sem pe_sem (hm := hm)) (bind2 h en w fun v u x y H2 M2 e2 w2 r1 r2 hz => by
    obtain ⟨i, j, rfl, rfl, hz⟩ := hz
    cases r1; cases r2
    refine ⟨i, j, rfl, rfl, _, rfl, ?_⟩
    cases hd : decide (i ≤ j) with
    | false =>
      rw [hd] at hz
      exact ⟨_, rfl, (k.step e2).now w2 hz⟩
    | true =>
      rw [hd] at hz
      exact hz.run σ H2 _ (en.mono e2) w2 fun v3 z H3 M3 e3 w3 r3 hy => by
        obtain ⟨l, rfl, hy⟩ := hy
        cases r3
        exact ⟨j, l, rfl, rfl, _, rfl, (k.step (e2.trans e3)).now w3 hy⟩)
theorem we_addS (h : WE X ρ M a fun x M1 => WE X ρ M1 b fun y M2 => ∃ i j, x = .str i ∧ y = .str j ∧ i.length + j.length ≤ sizeLine ∧ Φ (.str (i ++ j)) M2) : WE X ρ M (.BinOp a .Add b pos) Φ := we_op op_add_str (h.imp fun _ _ h => h.imp fun _ _ h Z v u H Q w r1 r2 k => by
  obtain ⟨i, j, rfl, rfl, hz, h⟩ := h
  cases r1; cases r2
  exact ⟨i, j, rfl, rfl, hz, k.now w (.str _) h⟩)
theorem we_inC (h : WE X ρ M a fun x M1 => WE X ρ M1 b fun y M2 => ∃ c z, x = .str ⟨#[c]⟩ ∧ y = .str z ∧ Φ (.bl (decide (c ∈ z.cps.toList))) M2) (hm : behindInMarks .In b = false := by rfl) : WE X ρ M (.Compare a [.In] [b] pos) Φ := we_cmp op_in_sign hm (h.imp fun _ _ h => h.imp fun _ _ h Z v u H Q w r1 r2 k => by
  obtain ⟨i, j, rfl, rfl, h⟩ := h
  cases r1; cases r2
  exact ⟨i, j, rfl, rfl, k.now w (.bl _) h⟩)
theorem we_addL (h : WE X ρ M a fun x M1 => WE X ρ M1 b fun y M2 => ∃ xs ys, x = .lst xs ∧ y = .lst ys ∧ xs.length + ys.length ≤ sizeLine ∧ Φ (.lst (xs ++ ys)) M2) : WE X ρ M (.BinOp a .Add b pos) Φ := we_op op_cat (h.imp fun _ _ h => h.imp fun _ _ h Z v u H Q w r1 r2 k => by
  obtain ⟨xs, ys, rfl, rfl, hz, h⟩ := h
  cases r1 with
  | lst h1 m1 r1 =>
    cases r2 with
    | lst h2 m2 r2 =>
      exact ⟨_, _, _, _, rfl, rfl, h1, h2, by rw [r1.length, r2.length]; exact hz, fun p hp => k.new w hp (.lst upd_same (w.fresh hp) ((r1.append r2).mono (Ext.new w hp))) h⟩)
theorem we_addT (h : WE X ρ M a fun x M1 => WE X ρ M1 b fun y M2 => ∃ xs ys, x = .tup xs ∧ y = .tup ys ∧ xs.length + ys.length ≤ sizeLine ∧ Φ (.tup (xs ++ ys)) M2) : WE X ρ M (.BinOp a .Add b pos) Φ := we_op op_catA (h.imp fun _ _ h => h.imp fun _ _ h Z v u H Q w r1 r2 k => by
  obtain ⟨xs, ys, rfl, rfl, hz, h⟩ := h
  obtain ⟨p, vs, rfl, hq, rs⟩ := r1.asTup
  obtain ⟨p2, vs2, rfl, hq2, rs2⟩ := r2.asTup
  refine ⟨p, p2, vs, vs2, rfl, rfl, hq, hq2, by rw [rs.length, rs2.length]; exact hz, fun e => ?_, fun _ e => ?_, fun _ _ q hp => ?_⟩
  · subst e; cases rs; exact k.now w r2 h
  · subst e; cases rs2; rw [List.append_nil] at h; exact k.now w r1 h
  · exact k.new w hp (.tup (.inl upd_same) (w.fresh hp) ((rs.append rs2).mono (Ext.new w hp))) h)
/-- what a subscript reads -/
def IxD (M : Mp) (d : D) (i : Int) (y : D) : Prop := (∃ ds, LstOf M d ds ∧ atI ds i = some y) ∨ (∃ ds, d = .tup ds ∧ atI ds i = some y) ∨ ∃ z c, d = .str z ∧ z.length ≤ sizeLine ∧ atI z.cps.toList i = some c ∧ y = .str ⟨#[c]⟩
theorem Reps.atI {M : Mp} {Z : Zn} {H : Hp} {vs : List V} {ds : List D} {i : Int} {d : D} (r : Reps K M Z H vs ds) (h : L2.atI ds i = some d) : ∃ v, L2.atI vs i = some v ∧ Rep K M Z H v d := by
  unfold L2.atI at h ⊢
  rw [r.length]
  cases e : ixN ds.length i with
  | none => rw [e] at h; cases h
  | some j =>
    rw [e] at h
    exact r.get h
theorem we_ix (h : WE X ρ M a fun x M1 => WE X ρ M1 b fun y M2 => ∃ i d, y = .int i ∧ IxD M2 x i d ∧ Φ d M2) (hs : PlainIx b := by exact fun _ _ => rfl) : WE X ρ M (.Subscript a b pos) Φ := .mk fun σ H Q en w k =>
  eOf (pe_ix ix_seq pe_sem pe_sem hs) (bind2 h en w fun v u x y H2 M2 e2 w2 r1 r2 hz => by
    obtain ⟨i, d, rfl, hi, hz⟩ := hz
    cases r2
    rcases hi with ⟨ds, hl, ha⟩ | ⟨ds, rfl, ha⟩ | ⟨z, c, rfl, hl, ha, rfl⟩
    · obtain ⟨p, vs, rfl, hq, rs⟩ := r1.asLst w2 hl
      obtain ⟨v, hv, rv⟩ := rs.atI ha
      exact .inl ⟨p, vs, i, v, rfl, rfl, hq, hv, (k.step e2).now w2 rv hz⟩
    · obtain ⟨p, vs, rfl, hq, rs⟩ := r1.asTup
      obtain ⟨v, hv, rv⟩ := rs.atI ha
      exact .inr (.inl ⟨p, vs, i, v, rfl, rfl, hq, hv, (k.step e2).now w2 rv hz⟩)
    · cases r1
      exact .inr (.inr ⟨z, i, c, rfl, rfl, hl, ha, (k.step e2).now w2 (.str _) hz⟩))
theorem ixT {M : Mp} {ds : List D} {i : Int} {y : D} (h : atI ds i = some y) : IxD M (.tup ds) i y := .inr (.inl ⟨ds, rfl, h⟩)
theorem ixL {M : Mp} {ds : List D} {i : Int} {y : D} (h : atI ds i = some y) : IxD M (.lst ds) i y := .inl ⟨ds, rfl, h⟩
theorem ixR {M : Mp} {ds : List D} {i : Int} {y : D} (h : atI ds i = some y) : IxD M (.rol ds) i y := .inl ⟨ds, rfl, h⟩
theorem ixO {M : Mp} {p : Addr} {ds : List D} {i : Int} {y : D} (hp : M p = some (.lst ds)) (h : atI ds i = some y) : IxD M (.ob p) i y := .inl ⟨ds, hp, h⟩
def WO (X : Cx) (ρ : Rho) (M : Mp) (e : Option Expr) (Φ : Option Int → Mp → Prop) : Prop := match e with
  | none => Φ none M
  | some e => WE X ρ M e fun d M1 => ∃ i, d = .int i ∧ Φ (some i) M1
def oSem (X : Cx) : Option Expr → TO
  | none => tNoPart
  | some e => tPart (eSem X e)
theorem po_sem {o : Option Expr} : PO X o (oSem X o) := by
  cases o with
  | none => exact po_none
  | some e => exact po_some pe_sem
theorem wo_run {o : Option Expr} {ΦO : Option Int → Mp → Prop} (h : WO X ρ M o ΦO) {Z : Zn} {σ : L2.St} {H : Hp} {Q : Option Int → Hp → Prop} (en : EnvR X.K M Z H σ ρ) (w : Wd X.K M Z H) (k : ∀ i H' M', Ext M Z H M' H' → Wd X.K M' Z H' → ΦO i M' → Q i H') : oSem X o σ H Q := by
  cases o with
  | none => exact k none H M Ext.refl w h
  | some e =>
    refine (show WE X ρ M e (fun d M1 => ∃ i, d = .int i ∧ ΦO (some i) M1) from h).run σ H _ en w fun v d H1 M1 e1 w1 r1 hz => ?_
    obtain ⟨i, rfl, hz⟩ := hz
    cases r1
    exact ⟨i, rfl, k _ H1 M1 e1 w1 hz⟩
/-- the items of a slice -/
def cutD {α : Type} (xs : List α) (lo hi : Option Int) : List α := (xs.drop (HT.sIx xs.length 0 lo)).take (HT.sIx xs.length xs.length hi - HT.sIx xs.length 0 lo)
theorem Reps.cut {M : Mp} {Z : Zn} {H : Hp} {vs : List V} {ds : List D} (r : Reps K M Z H vs ds) (lo hi : Option Int) : Reps K M Z H (cutV vs lo hi) (cutD ds lo hi) := by
  unfold cutV cutD
  rw [r.length]
  exact (r.drop _).take _
/-- what a slice is -/
def SlD (M : Mp) (d : D) (lo hi : Option Int) (y : D) : Prop := (∃ ds, LstOf M d ds ∧ y = .lst (cutD ds lo hi)) ∨ (∃ ds, d = .tup ds ∧ y = .tup (cutD ds lo hi)) ∨ ∃ z, d = .str z ∧ z.length ≤ sizeLine ∧ y = .str (cutS z lo hi)
theorem cutD_all {α : Type} {xs : List α} {lo hi : Option Int} (h : HT.sIx xs.length 0 lo = 0 ∧ HT.sIx xs.length xs.length hi = xs.length) : cutD xs lo hi = xs := by
  unfold cutD; rw [h.1, h.2]; simp
theorem we_slice {lo hi : Option Expr} {p2 : Pos} (h : WE X ρ M a fun x M1 => WO X ρ M1 lo fun l M2 => WO X ρ M2 hi fun u M3 => ∃ d, SlD M3 x l u d ∧ Φ d M3) : WE X ρ M (.Subscript a (.Slice lo hi none p2) pos) Φ := .mk fun σ H Q en w k =>
  eOf (pe_slice (sl_list.or (sl_tupA.or sl_str)) pe_sem po_sem po_sem) (h.run σ H _ en w fun v x H1 M1 e1 w1 r1 hz => wo_run hz (en.mono e1) w1 fun l H2 M2 e2 w2 hz => wo_run hz (en.mono (e1.trans e2)) w2 fun u H3 M3 e3 w3 hz => by
    obtain ⟨d, hd, hz⟩ := hz
    have r3 := r1.mono (e2.trans e3)
    have k3 := k.step ((e1.trans e2).trans e3)
    rcases hd with ⟨ds, hl, rfl⟩ | ⟨ds, rfl, rfl⟩ | ⟨z, rfl, hl, rfl⟩
    · obtain ⟨p, vs, rfl, hq, rs⟩ := r3.asLst w3 hl
      exact .inl ⟨p, vs, rfl, hq, fun q hp => k3.new w3 hp (.lst upd_same (w3.fresh hp) ((rs.cut l u).mono (Ext.new w3 hp))) hz⟩
    · obtain ⟨p, vs, rfl, hq, rs⟩ := r3.asTup
      refine .inr (.inl ⟨p, vs, rfl, hq, fun hw => ?_, fun hw q hp => ?_⟩)
      · rw [rs.length] at hw
        rw [cutD_all hw] at hz
        exact k3.now w3 r3 hz
      · exact k3.new w3 hp (.tup (.inl upd_same) (w3.fresh hp) ((rs.cut l u).mono (Ext.new w3 hp))) hz
    · cases r3
      exact .inr (.inr ⟨z, rfl, hl, k3.now w3 (.str _) hz⟩))
end
end DL
namespace DL
open PySem PySem.Spec PyProof.Rows L2
section
variable {K : PySem.W.Frag} {M : Mp} {Z : Zn} {H : Hp}
theorem Reps.two {vs : List V} {d e : D} (r : Reps K M Z H vs [d, e]) : ∃ v u, vs = [v, u] ∧ Rep K M Z H v d ∧ Rep K M Z H u e := by
  cases r with
  | cons r t =>
    obtain ⟨u, rfl, r2⟩ := t.one
    exact ⟨_, u, rfl, r, r2⟩
end
section
variable {X : Cx} {ρ : Rho} {M : Mp} {Φ : D → Mp → Prop} {Θ : Bool → Mp → Prop} {a b e o : Expr} {es : List Expr} {pos p apos : Pos} {x : Str}
theorem we_callB {id : String} {r : List V → Hp → VK → Prop} (hc : CallR X (.builtin id) r) (hm : X.mg x = none) (hv : bootBuiltins x = some (.builtin id)) (h : WA X ρ M (e :: es) fun ds M1 => RC X.K r ds M1 Φ) (hg : Gl X x := by rfl) (hn : x ≠ "__name__" := by decide) (hdb : (x == ("__debug__" : Str)) = false := by decide)
    (he : starEach (e :: es) X.env = (false, eval e X.env) :: starEach es X.env := by rfl) (hpl : (backTo pos (starEach es X.env)).any (·.1) = false := by rfl) : WE X ρ M (.Call (.Name x p) (e :: es) [] pos) Φ := .mk fun σ H Q en w k =>
  eOf (pe_callB hc hg hm hv pa_sem hn hdb he hpl) (h.run σ H _ en w fun vs ds H1 M1 e1 w1 r1 hz => hz _ vs H1 Q w1 r1 (k.step e1))
theorem we_callTy {T : String} {r : List V → Hp → VK → Prop} (hc : CallR X (.type T) r) (hm : X.mg x = none) (hv : bootBuiltins x = some (.type T)) (h : WA X ρ M (e :: es) fun ds M1 => RC X.K r ds M1 Φ) (hg : Gl X x := by rfl) (hn : x ≠ "__name__" := by decide) (hdb : (x == ("__debug__" : Str)) = false := by decide)
    (he : starEach (e :: es) X.env = (false, eval e X.env) :: starEach es X.env := by rfl) (hpl : (backTo pos (starEach es X.env)).any (·.1) = false := by rfl) : WE X ρ M (.Call (.Name x p) (e :: es) [] pos) Φ := .mk fun σ H Q en w k =>
  eOf (pe_callTy hc hg hm hv pa_sem hn hdb he hpl) (h.run σ H _ en w fun vs ds H1 M1 e1 w1 r1 hz => hz _ vs H1 Q w1 r1 (k.step e1))
/-- how many -/
def LenD (M : Mp) (d : D) (n : Nat) : Prop := (∃ ds, LstOf M d ds ∧ n = ds.length) ∨ (∃ ds, d = .tup ds ∧ n = ds.length) ∨ ∃ z, d = .str z ∧ z.length ≤ sizeLine ∧ n = z.length
theorem we_len (hm : X.mg "len" = none) (h : WE X ρ M e fun d M1 => ∃ n : Nat, LenD M1 d n ∧ Φ (.int n) M1) (hg : Gl X "len" := by rfl)
    (he : starEach [e] X.env = (false, eval e X.env) :: starEach [] X.env := by rfl) (hpl : (backTo pos (starEach [] X.env)).any (·.1) = false := by rfl) : WE X ρ M (.Call (.Name "len" p) [e] [] pos) Φ :=
  we_callB call_len hm boot_len (wa_cons (h.imp fun d M1 h => wa_nil fun Z vs H Q w rr k => by
    obtain ⟨n, hn, h⟩ := h
    obtain ⟨v, rfl, r⟩ := rr.one
    refine ⟨v, n, rfl, ?_, k.now w (.int _) h⟩
    rcases hn with ⟨ds, hl, rfl⟩ | ⟨ds, rfl, rfl⟩ | ⟨z, rfl, hz, rfl⟩
    · obtain ⟨p, vs, rfl, hq, rs⟩ := r.asLst w hl
      exact .inl ⟨vs, hq, rs.length.symm⟩
    · obtain ⟨p, vs, rfl, hq, rs⟩ := r.asTup
      exact .inr ⟨vs, hq, rs.length.symm⟩
    · cases r
      exact ⟨hz, rfl⟩) he) hg (he := he) (hpl := hpl)
theorem lenL {M : Mp} {ds : List D} : LenD M (.lst ds) ds.length := .inl ⟨ds, rfl, rfl⟩
theorem lenR {M : Mp} {ds : List D} : LenD M (.rol ds) ds.length := .inl ⟨ds, rfl, rfl⟩
theorem lenT {M : Mp} {ds : List D} : LenD M (.tup ds) ds.length := .inr (.inl ⟨ds, rfl, rfl⟩)
theorem lenS {M : Mp} {z : Str} (h : z.length ≤ sizeLine) : LenD M (.str z) z.length := .inr (.inr ⟨z, rfl, h, rfl⟩)
theorem we_abs (hm : X.mg "abs" = none) (h : WE X ρ M e fun d M1 => ∃ i, d = .int i ∧ Φ (.int (if i < 0 then -i else i)) M1) (hg : Gl X "abs" := by rfl)
    (he : starEach [e] X.env = (false, eval e X.env) :: starEach [] X.env := by rfl) (hpl : (backTo pos (starEach [] X.env)).any (·.1) = false := by rfl) : WE X ρ M (.Call (.Name "abs" p) [e] [] pos) Φ :=
  we_callB call_abs hm (by decide +kernel) (wa_cons (h.imp fun d M1 h => wa_nil fun Z vs H Q w rr k => by
    obtain ⟨i, rfl, h⟩ := h
    obtain ⟨v, rfl, r⟩ := rr.one
    cases r
    exact ⟨i, rfl, k.now w (.int _) h⟩) he) hg (he := he) (hpl := hpl)
/-- int(x) of an int, a bool -/
theorem we_intN (hm : X.mg "int" = none) (h : WE X ρ M e fun d M1 => (∃ i, d = .int i ∧ Φ (.int i) M1) ∨ ∃ c, d = .bl c ∧ Φ (.int (if c then 1 else 0)) M1) (hg : Gl X "int" := by rfl)
    (he : starEach [e] X.env = (false, eval e X.env) :: starEach [] X.env := by rfl) (hpl : (backTo pos (starEach [] X.env)).any (·.1) = false := by rfl) : WE X ρ M (.Call (.Name "int" p) [e] [] pos) Φ :=
  we_callTy call_int1 hm (by decide +kernel) (wa_cons (h.imp fun d M1 h => wa_nil fun Z vs H Q w rr k => by
    obtain ⟨v, rfl, r⟩ := rr.one
    rcases h with ⟨i, rfl, h⟩ | ⟨i, rfl, h⟩
    · cases r; exact .inl ⟨i, rfl, k.now w (.int _) h⟩
    · cases r; exact .inr ⟨i, rfl, k.now w (.int _) h⟩) he) hg (he := he) (hpl := hpl)
/-- int(text) -/
theorem we_intS (hm : X.mg "int" = none) (h : WE X ρ M e fun d M1 => ∃ z n, d = .str z ∧ PySem.intText? z = some n ∧ z.length ≤ 640 ∧ Φ (.int n) M1) (hg : Gl X "int" := by rfl)
    (he : starEach [e] X.env = (false, eval e X.env) :: starEach [] X.env := by rfl) (hpl : (backTo pos (starEach [] X.env)).any (·.1) = false := by rfl) : WE X ρ M (.Call (.Name "int" p) [e] [] pos) Φ :=
  we_callTy call_int_str hm (by decide +kernel) (wa_cons (h.imp fun d M1 h => wa_nil fun Z vs H Q w rr k => by
    obtain ⟨v, rfl, r⟩ := rr.one
    obtain ⟨z, n, rfl, h1, h2, h⟩ := h
    cases r
    exact ⟨z, n, rfl, h1, h2, k.now w (.int _) h⟩) he) hg (he := he) (hpl := hpl)
/-- str(int) -/
theorem we_strI (hm : X.mg "str" = none) (h : WE X ρ M e fun d M1 => ∃ i : Int, d = .int i ∧ i.natAbs.log2 < 1920 ∧ Φ (.str (toString i)) M1) (hg : Gl X "str" := by rfl)
    (he : starEach [e] X.env = (false, eval e X.env) :: starEach [] X.env := by rfl) (hpl : (backTo pos (starEach [] X.env)).any (·.1) = false := by rfl) : WE X ρ M (.Call (.Name "str" p) [e] [] pos) Φ :=
  we_callTy call_str_int hm (by decide +kernel) (wa_cons (h.imp fun d M1 h => wa_nil fun Z vs H Q w rr k => by
    obtain ⟨v, rfl, r⟩ := rr.one
    obtain ⟨i, rfl, h2, h⟩ := h
    cases r
    exact ⟨i, rfl, h2, k.now w (.str _) h⟩) he) hg (he := he) (hpl := hpl)
theorem we_max2 (hm : X.mg "max" = none) (h : WE X ρ M a fun x M1 => WE X ρ M1 b fun y M2 => ∃ i j, x = .int i ∧ y = .int j ∧ Φ (.int (if j > i then j else i)) M2) (hc : X.calm = true := by rfl) (hg : Gl X "max" := by rfl)
    (ha : starEach [a, b] X.env = (false, eval a X.env) :: starEach [b] X.env := by rfl) (hb : starEach [b] X.env = (false, eval b X.env) :: starEach [] X.env := by rfl) (hpl : (backTo pos (starEach [b] X.env)).any (·.1) = false := by rfl) : WE X ρ M (.Call (.Name "max" p) [a, b] [] pos) Φ :=
  we_callB (call_max2 hc) hm (by decide +kernel) (wa_cons (h.imp fun x M1 h => wa_cons (h.imp fun y M2 h => wa_nil fun Z vs H Q w rr k => by
    obtain ⟨v, u, rfl, r1, r2⟩ := rr.two
    obtain ⟨i, j, rfl, rfl, h⟩ := h
    cases r1; cases r2
    exact ⟨i, j, rfl, k.now w (.int _) h⟩) hb) ha) hg (he := ha) (hpl := hpl)
theorem we_min2 (hm : X.mg "min" = none) (h : WE X ρ M a fun x M1 => WE X ρ M1 b fun y M2 => ∃ i j, x = .int i ∧ y = .int j ∧ Φ (.int (if j < i then j else i)) M2) (hc : X.calm = true := by rfl) (hg : Gl X "min" := by rfl)
    (ha : starEach [a, b] X.env = (false, eval a X.env) :: starEach [b] X.env := by rfl) (hb : starEach [b] X.env = (false, eval b X.env) :: starEach [] X.env := by rfl) (hpl : (backTo pos (starEach [b] X.env)).any (·.1) = false := by rfl) : WE X ρ M (.Call (.Name "min" p) [a, b] [] pos) Φ :=
  we_callB (call_min2 hc) hm (by decide +kernel) (wa_cons (h.imp fun x M1 h => wa_cons (h.imp fun y M2 h => wa_nil fun Z vs H Q w rr k => by
    obtain ⟨v, u, rfl, r1, r2⟩ := rr.two
    obtain ⟨i, j, rfl, rfl, h⟩ := h
    cases r1; cases r2
    exact ⟨i, j, rfl, k.now w (.int _) h⟩) hb) ha) hg (he := ha) (hpl := hpl)
/-- sum, all, any -/
theorem we_sum (hm : X.mg "sum" = none) (h : WE X ρ M e fun d M1 => ∃ ns : List Int, LstOf M1 d (ns.map D.int) ∧ Φ (.int ns.sum) M1) (hc : X.calm = true := by rfl) (hg : Gl X "sum" := by rfl)
    (he : starEach [e] X.env = (false, eval e X.env) :: starEach [] X.env := by rfl) (hpl : (backTo pos (starEach [] X.env)).any (·.1) = false := by rfl) : WE X ρ M (.Call (.Name "sum" p) [e] [] pos) Φ :=
  we_callB (cr_sum hc) hm (by decide +kernel) (wa_cons (h.imp fun d M1 h => wa_nil fun Z vs H Q w rr k => by
    obtain ⟨v, rfl, r⟩ := rr.one
    obtain ⟨ns, hl, h⟩ := h
    obtain ⟨q, vs, rfl, hq, rs⟩ := r.asLst w hl
    rw [rs.ints] at hq
    exact ⟨q, ns, rfl, hq, k.now w (.int _) h⟩) he) hg (he := he) (hpl := hpl)
theorem we_all (hm : X.mg "all" = none) (h : WE X ρ M e fun d M1 => ∃ bs : List Bool, LstOf M1 d (bs.map D.bl) ∧ Φ (.bl (bs.all id)) M1) (hc : X.calm = true := by rfl) (hg : Gl X "all" := by rfl)
    (he : starEach [e] X.env = (false, eval e X.env) :: starEach [] X.env := by rfl) (hpl : (backTo pos (starEach [] X.env)).any (·.1) = false := by rfl) : WE X ρ M (.Call (.Name "all" p) [e] [] pos) Φ :=
  we_callB (cr_all hc) hm (by decide +kernel) (wa_cons (h.imp fun d M1 h => wa_nil fun Z vs H Q w rr k => by
    obtain ⟨v, rfl, r⟩ := rr.one
    obtain ⟨ns, hl, h⟩ := h
    obtain ⟨q, vs, rfl, hq, rs⟩ := r.asLst w hl
    rw [rs.bls] at hq
    exact ⟨q, ns, rfl, hq, k.now w (.bl _) h⟩) he) hg (he := he) (hpl := hpl)
/-- tuple(xs), list(xs) -/
theorem we_tupleOf (hm : X.mg "tuple" = none) (h : WE X ρ M e fun d M1 => ∃ ds, (LstOf M1 d ds ∨ d = .tup ds) ∧ Φ (.tup ds) M1) (hg : Gl X "tuple" := by rfl)
    (he : starEach [e] X.env = (false, eval e X.env) :: starEach [] X.env := by rfl) (hpl : (backTo pos (starEach [] X.env)).any (·.1) = false := by rfl) : WE X ρ M (.Call (.Name "tuple" p) [e] [] pos) Φ :=
  we_callTy call_tuple_of hm (by decide +kernel) (wa_cons (h.imp fun d M1 h => wa_nil fun Z vs H Q w rr k => by
    obtain ⟨v, rfl, r⟩ := rr.one
    obtain ⟨ds, hl | rfl, h⟩ := h
    · obtain ⟨q, vs, rfl, hq, rs⟩ := r.asLst w hl
      exact ⟨q, vs, rfl, .inl ⟨hq, fun l hp => k.new w hp (.tup (.inl upd_same) (w.fresh hp) (rs.mono (Ext.new w hp))) h⟩⟩
    · obtain ⟨q, vs, rfl, hq, rs⟩ := r.asTup
      exact ⟨q, vs, rfl, .inr ⟨hq, k.now w r h⟩⟩) he) hg (he := he) (hpl := hpl)
/-- list(range(n)) -/
theorem we_listRg1 {p2 pos2 : Pos} (hm : X.mg "list" = none) (hm2 : X.mg "range" = none) (h : WE X ρ M e fun d M1 => ∃ n : Int, d = .int n ∧ RgOk 0 n ∧ Φ (.lst (rngD 0 n.toNat)) M1) (hc : X.calm = true := by rfl) (hg : Gl X "list" := by rfl) (hg2 : Gl X "range" := by rfl)
    (na : starEach [e] X.env = (false, eval e X.env) :: starEach [] X.env := by rfl) (nb : starEach [.Call (.Name "range" p2) [e] [] pos2] X.env = (false, eval (.Call (.Name "range" p2) [e] [] pos2) X.env) :: starEach [] X.env := by rfl) : WE X ρ M (.Call (.Name "list" p) [.Call (.Name "range" p2) [e] [] pos2] [] pos) Φ := .mk fun σ H Q en w k =>
  eOf (pe_listRg hc hg hm (prg_1 hg2 hm2 pe_sem na) nb) (h.run σ H _ en w fun v d H1 M1 e1 w1 r1 hz => by
    obtain ⟨n, rfl, ok, hz⟩ := hz
    cases r1
    refine ⟨n, rfl, ok, fun q hq => (k.step e1).new w1 hq (.lst upd_same (w1.fresh hq) ?_) hz⟩
    have e2 : ∀ (M : Mp) (Z : Zn) (H : Hp), Reps X.K M Z H (rgV 0 n) (rngD 0 n.toNat) := fun M Z H => by
      unfold rgV rngD
      rw [show (n - 0).toNat = n.toNat by omega]
      generalize List.range n.toNat = l
      induction l with
      | nil => exact .nil
      | cons i r ih => exact .cons (.int _) ih
    exact e2 _ _ _)
/-- a class as data -/
def ClsD : D → Value → Prop
  | .ty n, u => u = .type n
  | .fn C, u => u = .ref C
  | _, _ => False
theorem we_isi (hm : X.mg "isinstance" = none) (h : WE X ρ M a fun x M1 => WE X ρ M1 b fun y M2 => ∃ t u c, TyD M2 x t ∧ ClsD y u ∧ (∀ C, t = .ref C → OwnC X.K C) ∧ PySem.W.kitOne X.K t u = some c ∧ Φ (.bl c) M2) (hg : Gl X "isinstance" := by rfl)
    (ha : starEach [a, b] X.env = (false, eval a X.env) :: starEach [b] X.env := by rfl) (hb : starEach [b] X.env = (false, eval b X.env) :: starEach [] X.env := by rfl) (hpl : (backTo pos (starEach [b] X.env)).any (·.1) = false := by rfl) : WE X ρ M (.Call (.Name "isinstance" p) [a, b] [] pos) Φ :=
  we_callB call_isi hm (by decide +kernel) (wa_cons (h.imp fun x M1 h => wa_cons (h.imp fun y M2 h => wa_nil fun Z vs H Q w rr k => by
    obtain ⟨v, u, rfl, r1, r2⟩ := rr.two
    obtain ⟨t, cu, c, h1, h2, own, h3, h⟩ := h
    refine ⟨v, u, t, cu, c, rfl, ?_, h1.rep r1 own, h3, k.now w (.bl _) h⟩
    cases r2 with
    | ty n => cases h2; exact .ty n
    | fn C => cases h2; exact .own C
    | _ => cases h2) hb) ha) hg (he := ha) (hpl := hpl)
theorem we_m1 {id : String} {name : Str} {r : V → List V → Hp → VK → Prop} (slot : Slot "str" name id) (ty : typeOf (.builtin id) = pure (.type "method_descriptor")) (rule : MtR X id r)
    (h : WE X ρ M o fun d M1 => ∃ z, d = .str z ∧ WE X ρ M1 e fun y M2 => ∀ Z H Q u, Wd X.K M2 Z H → Rep X.K M2 Z H u y → KE X.K M2 Z H Φ Q → r (.str z) [u] H Q)
    (hs : starEach [e] X.env = [(false, eval e X.env)] := by rfl) (hbase : attributeBase o name X.env (eval o X.env) = eval o X.env := by rfl) (hline : (apos.endLine == pos.line) = true := by rfl) : WE X ρ M (.Call (.Attribute o name apos) [e] [] pos) Φ := .mk fun σ H Q en w k =>
  eOf (pe_m1 slot ty rule pe_sem pe_sem hs hbase hline) (h.run σ H _ en w fun v d H1 M1 e1 w1 r1 hz => by
    obtain ⟨z, rfl, hz⟩ := hz
    cases r1
    exact ⟨⟨z, rfl⟩, hz.run σ H1 _ (en.mono e1) w1 fun u y H2 M2 e2 w2 r2 hy => hy _ H2 Q u w2 r2 (k.step (e1.trans e2))⟩)
theorem we_startswith (h : WE X ρ M o fun d M1 => ∃ z, d = .str z ∧ WE X ρ M1 e fun y M2 => ∃ s, y = .str s ∧ Φ (.bl (Txt.startswith z s)) M2) (hs : starEach [e] X.env = [(false, eval e X.env)] := by rfl) (hbase : attributeBase o "startswith" X.env (eval o X.env) = eval o X.env := by rfl) (hline : (apos.endLine == pos.line) = true := by rfl) : WE X ρ M (.Call (.Attribute o "startswith" apos) [e] [] pos) Φ :=
  we_m1 F.slot_str_startswith F.type_str_startswith mt_startswith (h.imp fun d M1 ⟨z, e1, h⟩ => ⟨z, e1, h.imp fun y M2 ⟨s, e2, h⟩ Z H Q u w r k => by subst e2; cases r; exact ⟨z, s, rfl, rfl, k.now w (.bl _) h⟩⟩) hs hbase hline
theorem we_endswith (h : WE X ρ M o fun d M1 => ∃ z, d = .str z ∧ WE X ρ M1 e fun y M2 => ∃ s, y = .str s ∧ Φ (.bl (Txt.endswith z s)) M2) (hs : starEach [e] X.env = [(false, eval e X.env)] := by rfl) (hbase : attributeBase o "endswith" X.env (eval o X.env) = eval o X.env := by rfl) (hline : (apos.endLine == pos.line) = true := by rfl) : WE X ρ M (.Call (.Attribute o "endswith" apos) [e] [] pos) Φ :=
  we_m1 F.slot_str_endswith F.type_str_endswith mt_endswith (h.imp fun d M1 ⟨z, e1, h⟩ => ⟨z, e1, h.imp fun y M2 ⟨s, e2, h⟩ Z H Q u w r k => by subst e2; cases r; exact ⟨z, s, rfl, rfl, k.now w (.bl _) h⟩⟩) hs hbase hline
theorem we_partition (h : WE X ρ M o fun d M1 => ∃ z, d = .str z ∧ WE X ρ M1 e fun y M2 => ∃ s, y = .str s ∧ (s.length == 0) = false ∧ z.length ≤ sizeLine ∧ Φ (.tup [.str (Txt.partition z s).1, .str (Txt.partition z s).2.1, .str (Txt.partition z s).2.2]) M2) (hs : starEach [e] X.env = [(false, eval e X.env)] := by rfl) (hbase : attributeBase o "partition" X.env (eval o X.env) = eval o X.env := by rfl) (hline : (apos.endLine == pos.line) = true := by rfl) : WE X ρ M (.Call (.Attribute o "partition" apos) [e] [] pos) Φ :=
  we_m1 F.slot_str_partition F.type_str_partition mt_partition (h.imp fun d M1 ⟨z, e1, h⟩ => ⟨z, e1, h.imp fun y M2 ⟨s, e2, h1, h2, h⟩ Z H Q u w r k => by
    subst e2
    cases r
    exact ⟨z, s, rfl, rfl, h1, h2, fun q hq => k.new w hq (.tup (.inl upd_same) (w.fresh hq) (.cons (.str _) (.cons (.str _) (.cons (.str _) .nil)))) h⟩⟩) hs hbase hline
theorem we_join (h : WE X ρ M o fun d M1 => ∃ z, d = .str z ∧ WE X ρ M1 e fun y M2 => ∃ ys : List Str, (LstOf M2 y (ys.map D.str) ∨ y = .tup (ys.map D.str)) ∧ (ys.map (·.length)).sum + ys.length * z.length ≤ 16777216 ∧ Φ (.str (Txt.join z ys)) M2) (hs : starEach [e] X.env = [(false, eval e X.env)] := by rfl) (hbase : attributeBase o "join" X.env (eval o X.env) = eval o X.env := by rfl) (hline : (apos.endLine == pos.line) = true := by rfl) : WE X ρ M (.Call (.Attribute o "join" apos) [e] [] pos) Φ :=
  we_m1 F.slot_str_join F.type_str_join mt_join (h.imp fun d M1 ⟨z, e1, h⟩ => ⟨z, e1, h.imp fun y M2 ⟨ys, e2, h1, h⟩ Z H Q u w r k => by
    rcases e2 with e2 | rfl
    · obtain ⟨q, vs, rfl, hq, rs⟩ := r.asLst w e2
      rw [rs.strs] at hq
      exact ⟨z, q, ys, rfl, rfl, .inl hq, h1, k.now w (.str _) h⟩
    · obtain ⟨q, vs, rfl, hq, rs⟩ := r.asTup
      rw [rs.strs] at hq
      exact ⟨z, q, ys, rfl, rfl, .inr hq, h1, k.now w (.str _) h⟩⟩) hs hbase hline
theorem we_append (h : WE X ρ M o fun d M1 => ∃ q ds0, d = .ob q ∧ M1 q = some (.lst ds0) ∧ WE X ρ M1 e fun y M2 => ∃ ds, M2 q = some (.lst ds) ∧ ds.length < sizeLine ∧ Φ .non (mset M2 q (.lst (ds ++ [y]))))
    (hbase : attributeBase o "append" X.env (eval o X.env) = eval o X.env := by rfl)
    (hfew : ((backTo pos (starEach (e :: []) X.env)).all (fun x => !x.1) && (backToKw pos (keywordEach [] X.env)).all (fun x => x.1.isSome)
      && decide ((e :: []).length + ([] : List Keyword).length + (if ([] : List Keyword).isEmpty then 0 else 1) < 30)) = true := by rfl)
    (hline : (apos.endLine == pos.line) = true := by rfl) (hs : starEach (e :: []) X.env = (false, eval e X.env) :: starEach [] X.env := by rfl) (hplain : (backTo pos (starEach [] X.env)).any (·.1) = false := by rfl) : WE X ρ M (.Call (.Attribute o "append" apos) [e] [] pos) Φ := .mk fun σ H Q en w k =>
  eOf (pe_bm PySem.F.plainAttrs_list PySem.F.slot_list_append PySem.F.type_list_append mt_append pe_sem (pa_cons pe_sem pa_nil hs) hbase hfew hline hs hplain) (h.run σ H _ en w fun v d H1 M1 e1 w1 r1 hz => by
    obtain ⟨q, ds0, rfl, hM, hz⟩ := hz
    cases r1
    obtain ⟨vs0, h0, _⟩ := w1.1 q _ hM
    refine ⟨.inl ⟨rfl, _, .inl (.inl h0)⟩, hz.run σ H1 _ (en.mono e1) w1 fun u y H2 M2 e2 w2 r2 hy => ?_⟩
    obtain ⟨ds, hM2, hl, hy⟩ := hy
    obtain ⟨vs, hv, rs⟩ := w2.1 q _ hM2
    refine ⟨q, vs, u, rfl, rfl, hv, by rw [rs.length]; exact hl, ?_⟩
    have x3 : Ext M2 _ H2 (mset M2 q (.lst (ds ++ [y]))) (upd H2 q (.lst (vs ++ [u]))) := Ext.put w2 hM2
    exact k _ .non _ _ ((e1.trans e2).trans x3) (w2.put hM2 ⟨_, upd_same, (rs.append (.cons r2 .nil)).mono x3⟩) .non hy)
theorem we_extend (h : WE X ρ M o fun d M1 => ∃ q ds0, d = .ob q ∧ M1 q = some (.lst ds0) ∧ WE X ρ M1 e fun y M2 => ∃ ds ys, M2 q = some (.lst ds) ∧ y = .lst ys ∧ ds.length + ys.length ≤ sizeLine ∧ Φ .non (mset M2 q (.lst (ds ++ ys))))
    (hbase : attributeBase o "extend" X.env (eval o X.env) = eval o X.env := by rfl)
    (hfew : ((backTo pos (starEach (e :: []) X.env)).all (fun x => !x.1) && (backToKw pos (keywordEach [] X.env)).all (fun x => x.1.isSome)
      && decide ((e :: []).length + ([] : List Keyword).length + (if ([] : List Keyword).isEmpty then 0 else 1) < 30)) = true := by rfl)
    (hline : (apos.endLine == pos.line) = true := by rfl) (hs : starEach (e :: []) X.env = (false, eval e X.env) :: starEach [] X.env := by rfl) (hplain : (backTo pos (starEach [] X.env)).any (·.1) = false := by rfl) : WE X ρ M (.Call (.Attribute o "extend" apos) [e] [] pos) Φ := .mk fun σ H Q en w k =>
  eOf (pe_bm PySem.F.plainAttrs_list PySem.F.slot_list_extend PySem.F.type_list_extend mt_extend pe_sem (pa_cons pe_sem pa_nil hs) hbase hfew hline hs hplain) (h.run σ H _ en w fun v d H1 M1 e1 w1 r1 hz => by
    obtain ⟨q, ds0, rfl, hM, hz⟩ := hz
    cases r1
    obtain ⟨vs0, h0, _⟩ := w1.1 q _ hM
    refine ⟨.inl ⟨rfl, _, .inl (.inl h0)⟩, hz.run σ H1 _ (en.mono e1) w1 fun u y H2 M2 e2 w2 r2 hy => ?_⟩
    obtain ⟨ds, ys, hM2, rfl, hl, hy⟩ := hy
    obtain ⟨vs, hv, rs⟩ := w2.1 q _ hM2
    cases r2 with
    | @lst _ us _ h2 m2 r2 =>
      refine ⟨q, _, vs, us, rfl, rfl, hv, h2, by rw [rs.length, r2.length]; exact hl, ?_⟩
      have x3 : Ext M2 _ H2 (mset M2 q (.lst (ds ++ ys))) (upd H2 q (.lst (vs ++ us))) := Ext.put w2 hM2
      exact k _ .non _ _ ((e1.trans e2).trans x3) (w2.put hM2 ⟨_, upd_same, (rs.append r2).mono x3⟩) .non hy)
/-- xs[i] = e -/
theorem wg_sub {i : Expr} {d : D} {Ω : Rho → Mp → Prop} (h : WE X ρ M o fun x M1 => WE X ρ M1 i fun y M2 => ∃ q ds n j, x = .ob q ∧ y = .int n ∧ M2 q = some (.lst ds) ∧ ixN ds.length n = some j ∧ Ω ρ (mset M2 q (.lst (ds.set j d))))
    (ha : ∀ v, assign (.Subscript o i pos) X.env v = (do
      let ov ← holding [v] (eval o X.env)
      let iv ← holding [v, ov] (eval i X.env)
      standAt pos
      holding [v, ov, iv] (setItem ov iv v)
      release [v, ov, iv] []) := by intro _; rfl) : WG X (.Subscript o i pos) d ρ M Ω := .mk fun {Z} σ H v Q en w r k =>
  gOf (pg_sub pe_sem pe_sem set_list ha) (bind2 h en w fun v1 v2 x y H2 M2 e2 w2 r1 r2 hz => by
    obtain ⟨q, ds, n, j, rfl, rfl, hM, hj, hz⟩ := hz
    cases r1; cases r2
    obtain ⟨vs, hv, rs⟩ := w2.1 q _ hM
    refine ⟨q, vs, n, j, rfl, rfl, hv, by rw [rs.length]; exact hj, ?_⟩
    have x3 : Ext M2 _ H2 (mset M2 q (.lst (ds.set j d))) (upd H2 q (.lst (vs.set j v))) := Ext.put w2 hM
    exact k σ ρ _ _ (e2.trans x3) (w2.put hM ⟨_, upd_same, (Reps.set (r.mono e2) j rs).mono x3⟩) (en.mono (e2.trans x3)) hz)
/-- [*xs, ..] -/
theorem wa_star {sp : Pos} {ΦA : List D → Mp → Prop} (h : WE X ρ M e fun d M1 => ∃ xs, (LstOf M1 d xs ∨ d = .tup xs) ∧ WA X ρ M1 es fun ds M2 => ∀ ys, ys = xs ++ ds → ΦA ys M2) (hs : starEach (.Starred e sp :: es) X.env = (true, eval e X.env) :: starEach es X.env := by rfl) : WA X ρ M (.Starred e sp :: es) ΦA := .mk fun σ H Q en w k =>
  aOf (StX.pa_star pe_sem pa_sem hs) (h.run σ H _ en w fun v d H1 M1 e1 w1 r1 hz => by
    obtain ⟨xs, hl, hz⟩ := hz
    obtain ⟨q, vs, rfl, hq, rs⟩ : ∃ q vs, v = .ref q ∧ (SqT X.K H1 q vs ∨ SqL X.K H1 q vs) ∧ Reps X.K M1 _ H1 vs xs := by
      rcases hl with hl | rfl
      · obtain ⟨q, vs, e, hq, rs⟩ := r1.asLst w1 hl; exact ⟨q, vs, e, .inr hq, rs⟩
      · obtain ⟨q, vs, e, hq, rs⟩ := r1.asTup; exact ⟨q, vs, e, .inl hq, rs⟩
    exact ⟨q, vs, rfl, hq, hz.run σ H1 _ (en.mono e1) w1 fun us ds H2 M2 e2 w2 r2 hy => k (vs ++ us) (xs ++ ds) H2 M2 (e1.trans e2) w2 ((rs.mono e2).append r2) (hy _ rfl)⟩)
end
end DL
namespace DL
open PySem PySem.Spec PyProof.Rows L2
/-- the signs of a text, each with its number in a new pair -/
def Ites (x : Str) : It := ⟨fun i _ => i < x.cps.size, fun i H v H' => ∃ T c, v = .ref T ∧ H T = none ∧ H' = upd H T (.tup [.int (i : Nat), .str ⟨#[c]⟩]) ∧ x.cps[i]? = some c, fun i _ => i = x.cps.size⟩
theorem draws_txt {prog : Program} {w : World} {A : Around} (hh : A.handled = none) (it : Addr) (x : Str) (t : Tok) :
    Draws prog w A it [it] x.cps.size (fun i v => ∃ c u, x.cps[i]? = some c ∧ v = .str ⟨#[c]⟩ u) (fun i h => h.IsStrIter it (strIterType x) x t i) := by
  unfold strIterType
  cases x.cps.all (· < 128)
  · exact Draws.strWide hh it x t
  · exact Draws.strAscii hh it x t
theorem turn_enumS {P : Program} {w : World} {K : PySem.W.Frag} {elts : List Expr} {kk : Nat} {tpos : Pos} (x : Str) (t : Tok) (e it : Addr) :
    Turn P w K (.Tuple elts kk tpos) (Ites x) [e, it] e (fun i h => (∃ old, IsEnum h e it i old) ∧ h.IsStrIter it (strIterType x) x t i ∧ e ≠ it) where
  mem := by simp
  obj := fun i h st b hb => by
    obtain ⟨⟨old, he⟩, ⟨o, e1, c, d⟩, hne⟩ := st
    have e' : b = e ∨ b = it := by simpa using hb
    rcases e' with z | z
    · rw [z]; exact ⟨_, he, fun v z => nomatch z⟩
    · rw [z]; exact ⟨o, e1, fun v z => by rw [d] at z; cases z⟩
  keep := fun i h h' st k => by
    obtain ⟨⟨old, he⟩, ⟨o, e1, c, d⟩, hne⟩ := st
    exact ⟨⟨old, k e (by simp) _ he⟩, ⟨o, k it (by simp) _ e1, c, d⟩, hne⟩
  item := by
    intro X hP hw hK hc i pins s σ H E I hf st hg
    subst hP hw hK
    obtain ⟨⟨old, he⟩, hit, hne⟩ := st
    have hel : e < s.heap.objs.size := Heap.lt_size he
    have hil : it < s.heap.objs.size := by obtain ⟨_, q, _⟩ := hit; exact Heap.lt_size q
    refine wpAny_pyNext_enum_itemD (draws_txt (A := X.A.in1) (I.ok.hd hc) it x t) he hit hg hne (by simpa using hne) fun u h' tk hP ho hit' hT hsz hk => ?_
    obtain ⟨c, tk2, hcx, rfl⟩ := hP
    refine ⟨_, rfl, wpAny_letOwnedTupleGo_enum (s := { s with heap := h', toks := tk + 1 }) ho fun h'' he' sb => ?_⟩
    have hT2 : h''.get? s.heap.objs.size = some { cls := .type "tuple", data := .seq #[.int i tk, .str ⟨#[c]⟩ tk2] } := (sb.2 _ (Nat.ne_of_gt hel)).trans hT
    have new : ObjOk X.prog X.w (upd H s.heap.objs.size (.tup [.int (i : Nat), .str ⟨#[c]⟩])) h'' s.heap.objs.size (.tup [.int (i : Nat), .str ⟨#[c]⟩]) :=
      ⟨by show 2 ≤ sizeLine; decide, [.int i tk, .str ⟨#[c]⟩ tk2], .cons ⟨_, rfl⟩ (.cons ⟨_, rfl⟩ .nil), ⟨_, hT2, rfl, _, rfl⟩⟩
    have I1 : Inv X pins σ (upd H s.heap.objs.size (.tup [.int (i : Nat), .str ⟨#[c]⟩])) { s with heap := h'', toks := tk + 1 } :=
      I.turnedNew (ch := [e, it]) (fun b ob hb q => (sb.2 b (fun z => hb (by simp [z]))).trans (hk b ob (fun z => hb (by simp [z])) (fun z => hb (by simp [z])) q)) hf (Nat.le_refl _) new
    refine ⟨.ref s.heap.objs.size, _, I1, rfl, ⟨_, c, rfl, I.hok.fresh (Nat.le_refl _), rfl, hcx⟩, ⟨⟨.str ⟨#[c]⟩ tk2, ?_⟩, ?_, hne⟩, fun b hb => ?_⟩
    · have e1 : ((i + 1 : Nat) : Int) = (i : Int) + 1 := by omega
      rw [e1]; exact he'
    · obtain ⟨o, q1, q2⟩ := hit'
      exact ⟨o, (sb.2 it (Ne.symm hne)).trans q1, q2⟩
    · have hb' : b < s.heap.objs.size := by
        have e' : b = e ∨ b = it := by simpa using hb
        rcases e' with z | z
        · rw [z]; exact hel
        · rw [z]; exact hil
      rw [upd_ne (Nat.ne_of_lt hb')]
      exact (hf b hb).1
  done := by
    intro X hP hw hK hc i pins s σ H E I hf st hg
    subst hP hw hK
    obtain ⟨⟨old, he⟩, hit, hne⟩ := st
    obtain ⟨f0, f1, f2, f3, f4, f5⟩ := hf it (by simp)
    have hi : i = x.cps.size := hg
    subst hi
    exact wpAny_pyNext_enum_endD (draws_txt (A := X.A.in1) (I.ok.hd hc) it x t) he hit fun h' eb => ⟨rfl, I.turned (t' := s.toks) (fun b o hb q => eb b o hb q) f0 f1 f3 f4 f5⟩
  self := fun A i s Q E st h => let ⟨⟨_, he⟩, _⟩ := st; wpAny_pyIter_enum he h
def iEnumS (ta : TA) : TI := fun σ H R => ta σ H fun vs H1 => ∃ x, vs = [.str x] ∧ R (Ites x) H1
theorem pi_enumS {X : Cx} {e : Expr} {ta : TA} {p pos tpos : Pos} {elts : List Expr} {kk : Nat} (hg : Gl X "enumerate") (hm : X.mg "enumerate" = none) (ha : PA X [e] ta) (hs : starEach [e] X.env = [(false, eval e X.env)] := by rfl) :
    PI X (.Tuple elts kk tpos) (.Call (.Name "enumerate" p) [e] [] pos) (iEnumS ta) := by
  refine ⟨fun pins s σ H R I h => ?_⟩
  refine Call_ (ld_blt I hg hm boot_enumerate (PyProof.Rows.callWith_type1 (thn (ha.run pos pins s σ H _ I h) fun us s1 ⟨vs, H1, I1, r1, q1⟩ => ?_) hs rfl))
  obtain ⟨x, ex, q⟩ := q1
  subst ex
  cases r1 with
  | cons r rr =>
    cases rr
    obtain ⟨t, rfl⟩ := r
    refine call_enumerate_str fun h' he hit hsz hk => wpAny_pyIter_enum he ?_
    have I2 : Inv X pins σ H1 { s1 with heap := h' } := I1.kept (t' := s1.toks) hk
    refine ⟨s1.heap.objs.size + 1, [s1.heap.objs.size + 1, s1.heap.objs.size], _, _, H1, rfl, I2, turn_enumS x t (s1.heap.objs.size + 1) s1.heap.objs.size, ⟨⟨.none, he⟩, hit, Nat.succ_ne_self _⟩, fun b hb => ?_, q⟩
    have e' : b = s1.heap.objs.size + 1 ∨ b = s1.heap.objs.size := by simpa using hb
    have hle : s1.heap.objs.size ≤ b := by
      rcases e' with z | z
      · rw [z]; exact Nat.le_add_right _ _
      · rw [z]; exact Nat.le_refl _
    exact I1.fpOk hle (I1.hok.fresh hle)
section
variable {X : Cx} {ρ : Rho} {M : Mp} {tg a b e : Expr} {pos p : Pos} {Φ : List D → Mp → Prop}
/-- the signs of a text -/
def signs (x : Str) : List D := x.cps.toList.map fun c => .str ⟨#[c]⟩
/-- .. each with its number -/
def enumS (x : Str) : List D := (List.range x.cps.size).map fun (i : Nat) => .tup [.int (i : Nat), .str ⟨#[x.cps.getD i 0]⟩]
theorem sq_str {K : PySem.W.Frag} {M1 : Mp} {Z1 : Zn} {H1 : Hp} (x : Str) : Sq K M1 Z1 H1 (Its x) (signs x) := fun i M Z H e w => by
  refine ⟨fun hi => ?_, fun d hd => ?_⟩
  · show x.cps.size ≤ i
    rw [hi]; simp [signs]
  · unfold signs at hd
    rw [List.getElem?_map] at hd
    obtain ⟨c, hc, rfl⟩ := Option.map_eq_some_iff.mp hd
    rw [Array.getElem?_toList] at hc
    refine ⟨(Array.getElem?_eq_some_iff.mp hc).1, fun v H' y => ?_⟩
    obtain ⟨rfl, c', hc', rfl⟩ := y
    rw [hc] at hc'; cases hc'
    exact ⟨Ext.refl, w, .str _⟩
theorem wi_str (h : WE X ρ M e fun d M1 => ∃ x, d = .str x ∧ Φ (signs x) M1) : WI X ρ M tg e Φ := .mk fun σ H R en w k =>
  iOf (pi_str pe_sem) (h.run σ H _ en w fun v d H1 M1 e1 w1 r1 hz => by
    obtain ⟨x, rfl, hz⟩ := hz
    cases r1
    exact ⟨x, rfl, k _ _ H1 M1 e1 w1 (sq_str x) hz⟩)
theorem sq_enumS {K : PySem.W.Frag} {M1 : Mp} {Z1 : Zn} {H1 : Hp} (x : Str) : Sq K M1 Z1 H1 (Ites x) (enumS x) := fun i M Z H e w => by
  refine ⟨fun hi => ?_, fun d hd => ?_⟩
  · show i = x.cps.size
    rw [hi]; simp [enumS]
  · unfold enumS at hd
    rw [List.getElem?_map] at hd
    obtain ⟨j, hj, rfl⟩ := Option.map_eq_some_iff.mp hd
    obtain ⟨hlt, rfl⟩ : i < x.cps.size ∧ i = j := by
      have q : i < (List.range x.cps.size).length := (List.getElem?_eq_some_iff.mp hj).1
      rw [List.length_range] at q
      rw [List.getElem?_range q] at hj
      exact ⟨q, Option.some.inj hj⟩
    refine ⟨hlt, fun v H' y => ?_⟩
    obtain ⟨T, c, rfl, hT, rfl, hc⟩ := y
    have ec : x.cps.getD i 0 = c := by
      rw [Array.getD_eq_getD_getElem?, hc]; rfl
    rw [ec]
    exact ⟨Ext.new w hT, w.new hT, .tup (.inl upd_same) (w.fresh hT) (.cons (.int _) (.cons (.str _) .nil))⟩
theorem wi_enumS {elts : List Expr} {kk : Nat} {tpos : Pos} (hm : X.mg "enumerate" = none) (h : WE X ρ M e fun d M1 => ∃ x, d = .str x ∧ Φ (enumS x) M1) (hg : Gl X "enumerate" := by rfl) (hs : starEach [e] X.env = [(false, eval e X.env)] := by rfl) : WI X ρ M (.Tuple elts kk tpos) (.Call (.Name "enumerate" p) [e] [] pos) Φ := .mk fun σ H R en w k =>
  iOf (pi_enumS hg hm (pa_cons pe_sem pa_nil hs) hs) (h.run σ H _ en w fun v d H1 M1 e1 w1 r1 hz => by
    obtain ⟨x, rfl, hz⟩ := hz
    cases r1
    exact ⟨x, rfl, k _ _ H1 M1 e1 w1 (sq_enumS x) hz⟩)
end
/-- the pairs as values stand -/
def rawOf (es : List DictEntry) (kvs : List (Str × V)) : List (Str × Value) := (kvs.zip es).map fun q => (q.1.1, q.2.val)
theorem pairs_raw {prog : Program} {w : World} : ∀ {kvs : List (Str × V)} {es : List DictEntry}, Paired (fun (p : Str × V) (e : DictEntry) => (∃ t, e.key = .str p.1 t) ∧ RelV p.2 e.val) kvs es →
    Pairs (strKind prog w) es (rawOf es kvs) ∧ (rawOf es kvs).map (·.1) = kvs.map (·.1) ∧ (rawOf es kvs).length = kvs.length ∧ ∀ (i : Nat) (k : Str) (v : V), kvs[i]? = some (k, v) → ∃ u, (rawOf es kvs)[i]? = some (k, u) ∧ RelV v u
  | _, _, .nil => ⟨.nil, rfl, rfl, fun i k v e => by simp at e⟩
  | (k, v) :: kvs, e :: es, .cons ⟨⟨t, hk⟩, hv⟩ r => by
    obtain ⟨h1, h2, h3, h4⟩ := pairs_raw (prog := prog) (w := w) r
    refine ⟨.cons (by rw [hk]; exact strKind_is prog w k t) rfl h1, ?_, ?_, fun i k' v' e' => ?_⟩
    · show k :: (rawOf es kvs).map (·.1) = k :: kvs.map (·.1)
      rw [h2]
    · show (rawOf es kvs).length + 1 = kvs.length + 1
      rw [h3]
    · cases i with
      | zero => simp at e'; obtain ⟨rfl, rfl⟩ := e'; exact ⟨_, rfl, hv⟩
      | succ i => exact h4 i k' v' (by simpa using e')
theorem wrD_at {K : PySem.W.Frag} {w : World} {a : Addr} {kvs : List (Str × V)} (h : WrD K w a kvs) (prog : Program) {hp : Heap} (X : K.In hp) : (a == sysModules) = false ∧ ∃ vs n, hp.DictAt (strKind prog w) a vs n ∧ vs.length = kvs.length ∧ vs.map (·.1) = kvs.map (·.1) ∧ ∀ (i : Nat) (k : Str) (v : V), kvs[i]? = some (k, v) → ∃ u, vs[i]? = some (k, u) ∧ RelV v u := by
  obtain ⟨es, n, hl, hs, hk, pr, nd⟩ := h
  obtain ⟨h1, h2, h3, h4⟩ := pairs_raw (prog := prog) (w := w) pr
  refine ⟨hs, _, n, ⟨_, es, X _ _ hl, ⟨rfl, rfl, rfl⟩, rfl, fun e he => ?_, h1, by rw [h2]; exact nd⟩, h3, h2, h4⟩
  obtain ⟨x, t, e1, e2⟩ := hk.all e (Array.mem_toList_iff.mpr he)
  exact ⟨x, by rw [e1]; exact strKind_is prog w x t, e2⟩
def Itw (kvs : List (Str × V)) : It := ⟨fun i _ => i < kvs.length, fun i H x H' => ∃ T k v, kvs[i]? = some (k, v) ∧ x = .ref T ∧ H T = none ∧ H' = upd H T (.tup [.str k, v]), fun i _ => kvs.length ≤ i⟩
theorem turn_gitems {P : Program} {w : World} {K : PySem.W.Frag} {a : Addr} {kvs : List (Str × V)} {elts : List Expr} {kk : Nat} {tpos : Pos} (hw : WrD K w a kvs) (it : Addr) (ep : Nat) (hep : ∀ es n, K.lookup a = some ⟨.type "dict", none, .dict es n, #[]⟩ → n = ep) :
    Turn P w K (.Tuple elts kk tpos) (Itw kvs) [it] it (fun i h => ∃ ok ov, IsItemIter h it a i kvs.length ep ok ov) where
  mem := by simp
  obj := fun i h st b hb => by
    have e : b = it := by simpa using hb
    subst e
    obtain ⟨ok, ov, e⟩ := st
    exact ⟨_, e, fun v z => nomatch z⟩
  keep := fun i h h' st k => let ⟨ok, ov, e⟩ := st; ⟨ok, ov, k it (by simp) _ e⟩
  item := by
    intro X hP hw' hK hc i pins s σ H E I hf st hg
    subst hP hw' hK
    obtain ⟨es0, n0, hl0, _⟩ := id hw
    have en := hep es0 n0 hl0
    obtain ⟨hs, vs, n, hm, hl, hmm, hv⟩ := wrD_at hw X.prog I.kIn
    have hn : n = ep := by
      obtain ⟨o, es, ho, hx, hd, _⟩ := hm
      rw [I.kIn _ _ hl0] at ho
      cases ho
      injection hd with _ h2
      rw [← h2]; exact en
    subst hn
    obtain ⟨⟨k, v⟩, hkv⟩ : ∃ p, kvs[i]? = some p := ⟨kvs[i], List.getElem?_eq_getElem hg⟩
    obtain ⟨u, hu, ru⟩ := hv i k v hkv
    obtain ⟨ok, ov, he⟩ := st
    rw [← hl] at he
    have hlt : it < s.heap.objs.size := Heap.lt_size he
    refine wpAny_pyNext_items_item he hm hu fun key h' hkey ho hT hz hk => ?_
    refine ⟨_, rfl, wpAny_letOwnedTupleGo_items (s := { s with heap := h' }) ho fun h'' he' sb => ?_⟩
    have hT2 : h''.get? s.heap.objs.size = some { cls := .type "tuple", data := .seq #[key, u] } := (sb.2 _ (Nat.ne_of_gt hlt)).trans hT
    obtain ⟨tk, rfl⟩ : ∃ t, key = .str k t := Value.isStrOf_shape hkey
    have new : ObjOk X.prog X.w (upd H s.heap.objs.size (.tup [.str k, v])) h'' s.heap.objs.size (.tup [.str k, v]) :=
      ⟨by show 2 ≤ sizeLine; decide, [.str k tk, u], .cons ⟨tk, rfl⟩ (.cons ru .nil), ⟨_, hT2, rfl, _, rfl⟩⟩
    have I1 : Inv X pins σ (upd H s.heap.objs.size (.tup [.str k, v])) { s with heap := h'' } :=
      I.turnedNew (t' := s.toks) (ch := [it]) (fun b ob hb e => (sb.2 b (by simpa using hb)).trans (hk b ob (by simpa using hb) e)) hf (Nat.le_refl _) new
    refine ⟨.ref s.heap.objs.size, _, I1, rfl, ⟨_, k, v, hkv, rfl, I.hok.fresh (Nat.le_refl _), rfl⟩, ⟨.str k tk, u, ?_⟩, fun b hb => ?_⟩
    · rw [← hl]; exact he'
    · have e : b = it := by simpa using hb
      rw [e, upd_ne (Nat.ne_of_lt hlt)]
      exact (hf it (by simp)).1
  done := by
    intro X hP hw' hK hc i pins s σ H E I hf st hg
    subst hP hw' hK
    obtain ⟨es0, n0, hl0, _⟩ := id hw
    have en := hep es0 n0 hl0
    obtain ⟨hs, vs, n, hm, hl, hmm, hv⟩ := wrD_at hw X.prog I.kIn
    have hn : n = ep := by
      obtain ⟨o, es, ho, hx, hd, _⟩ := hm
      rw [I.kIn _ _ hl0] at ho
      cases ho
      injection hd with _ h2
      rw [← h2]; exact en
    subst hn
    obtain ⟨f0, f1, f2, f3, f4, f5⟩ := hf it (by simp)
    obtain ⟨ok, ov, he⟩ := st
    rw [← hl] at he
    exact wpAny_pyNext_items_end (I.ok.hd hc) he hm (List.getElem?_eq_none (by rw [hl]; exact hg)) fun h' eb => ⟨rfl, I.turned (t' := s.toks) (fun b ob hb e => eb b ob hb e) f0 f1 f3 f4 f5⟩
  self := fun A i s Q E st h => let ⟨_, _, e⟩ := st; PySem.W.kcp_self e h
section
variable {X : Cx} {ρ : Rho} {M : Mp} {a : Addr} {e f : Expr} {pos p apos : Pos} {x : Str} {kvs : List (Str × V)}
def iGItems (kvs : List (Str × V)) : TI := fun σ H R => R (Itw kvs) H
theorem pi_gitems {elts : List Expr} {kk : Nat} {tpos : Pos} (hm : X.mg x = some (.ref a)) (hw : WrD X.K X.w a kvs) (hg : Gl X x) (hdb : (x == ("__debug__" : Str)) = false) (hbase : attributeBase (.Name x p) "items" X.env (eval (.Name x p) X.env) = eval (.Name x p) X.env) (hline : (apos.endLine == pos.line) = true) :
    PI X (.Tuple elts kk tpos) (.Call (.Attribute (.Name x p) "items" apos) [] [] pos) (iGItems kvs) := by
  refine ⟨fun pins s σ H R I h => ?_⟩
  refine wpAny_Call_method (T := "dict") (id := "dict.items") hbase rfl hline F.plainAttrs_dict F.slot_dict_items F.type_dict_items (ld_glob I hg hm ?_ hdb)
  obtain ⟨es0, n0, hl0, _⟩ := id hw
  obtain ⟨hs, vs, n, hd, hl, hmm, hv⟩ := wrD_at hw X.prog I.kIn
  refine ⟨hd.dictOf.typeIs, hd.dictOf.mapOf.noDict, ?_⟩
  have I2 : Inv X pins σ H { s with heap := s.heap.push { cls := .type "dict_items", data := .fields #[.ref a] } } := I.kept (t' := s.toks) fun b ob q => Heap.get?_push_of_some _ q
  have hn : n = n0 := by
    obtain ⟨o, es, ho, hx, hd', _⟩ := hd
    rw [I.kIn _ _ hl0] at ho
    cases ho
    injection hd' with _ h2
    exact h2.symm
  have fin : wpAny (model X.prog X.w) X.A (pyIter (.ref s.heap.objs.size)) (PIE X pins σ (.Tuple elts kk tpos) R) X.xe { s with heap := s.heap.push { cls := .type "dict_items", data := .fields #[.ref a] } } := by
    refine wpAny_pyIter_items (d := a) (knd := strKind X.prog X.w) ⟨_, Heap.get?_push_size _ rfl, rfl, rfl⟩ (hd.push _) (pi_one (tk := s.toks) I2 _ (turn_gitems hw _ n fun es m hm' => by rw [hl0] at hm'; cases hm'; exact hn.symm) ⟨.none, .none, ?_⟩ h)
    rw [← hl]
    exact Heap.get?_push_size _ rfl
  show wpAny _ _ (callWith pos (.builtin "dict.items") [.ref a] [] []) _ X.xe s
  exact method_meetsIn F.slot_dict_items F.entry_dict_items rfl (PySem.evalArgs_none ⟨rfl, hd.dictOf.typeIs, F.args_dict_items_1 _, _, meets_dict_items (strKind X.prog X.w) a hs, ⟨vs, hd.dictOf⟩, fin⟩)
/-- the data of a written dict's pairs -/
def gitems (ds : List (Str × D)) : List D := ds.map fun q => .tup [.str q.1, q.2]
theorem wi_gitems {elts : List Expr} {kk : Nat} {tpos : Pos} {ds : List (Str × D)} {Φ : List D → Mp → Prop} (hm : X.mg x = some (.ref a)) (hw : WrD X.K X.w a kvs) (hr : ∀ M Z H, RepF X.K M Z H kvs ds) (h : Φ (gitems ds) M) (hg : Gl X x := by rfl) (hdb : (x == ("__debug__" : Str)) = false := by decide)
    (hbase : attributeBase (.Name x p) "items" X.env (eval (.Name x p) X.env) = eval (.Name x p) X.env := by rfl) (hline : (apos.endLine == pos.line) = true := by rfl) : WI X ρ M (.Tuple elts kk tpos) (.Call (.Attribute (.Name x p) "items" apos) [] [] pos) Φ := .mk fun σ H R en w k =>
  iOf (pi_gitems hm hw hg hdb hbase hline) (k _ _ H M Ext.refl w (fun i M' Z' H' e w' => by
    have rf := hr M' Z' H'
    refine ⟨fun hi => ?_, fun d hd => ?_⟩
    · show kvs.length ≤ i
      rw [hi, rf.length]; simp [gitems]
    · unfold gitems at hd
      rw [List.getElem?_map] at hd
      obtain ⟨⟨k, y⟩, hq, rfl⟩ := Option.map_eq_some_iff.mp hd
      obtain ⟨v, hv, rv⟩ := rf.get hq
      refine ⟨(List.getElem?_eq_some_iff.mp hv).1, fun z H2 yl => ?_⟩
      obtain ⟨T, k', v', hkv, rfl, hT, rfl⟩ := yl
      rw [hv] at hkv; cases hkv
      have x3 : Ext M' Z' H' M' (upd H' T (.tup [.str k, v])) := Ext.new w' hT
      exact ⟨x3, w'.new hT, .tup (.inl upd_same) (w'.fresh hT) (.cons (.str _) (.cons (rv.mono x3) .nil))⟩) h)
end
end DL
namespace DL
open PySem PySem.Spec PyProof.Rows L2
section
variable {X : Cx} {ρ : Rho} {M : Mp} {Φ : D → Mp → Prop} {Θ : Bool → Mp → Prop} {a b e o : Expr} {es : List Expr} {pos p apos : Pos} {x : Str}
theorem we_strS (hm : X.mg "str" = none) (h : WE X ρ M e fun d M1 => ∃ z, d = .str z ∧ Φ (.str z) M1) (hg : Gl X "str" := by rfl)
    (he : starEach [e] X.env = (false, eval e X.env) :: starEach [] X.env := by rfl) (hpl : (backTo pos (starEach [] X.env)).any (·.1) = false := by rfl) : WE X ρ M (.Call (.Name "str" p) [e] [] pos) Φ :=
  we_callTy SkE.call_str_str hm (by decide +kernel) (wa_cons (h.imp fun d M1 h => wa_nil fun Z vs H Q w rr k => by
    obtain ⟨v, rfl, r⟩ := rr.one
    obtain ⟨z, rfl, h⟩ := h
    cases r
    exact ⟨z, rfl, k.now w (.str _) h⟩) he) hg (he := he) (hpl := hpl)
theorem we_disp2 {k1 k2 v1 v2 : Str} {j1 j2 j3 j4 : Nat} {q1 q2 q3 q4 dp : Pos} (hu : X.A.units + 1 < cLine) (hne : k1 ≠ k2) (h : WE X ρ M e fun d M1 => ∃ k v, d = .str k ∧ [(k1, v1), (k2, v2)].lookup k = some v ∧ Φ (.str v) M1) (hs : NoSl e := by exact fun _ _ => rfl) :
    WE X ρ M (.Subscript (.Dict [some (.Constant (.str k1) j1 q1), some (.Constant (.str k2) j2 q2)] [.Constant (.str v1) j3 q3, .Constant (.str v2) j4 q4] dp) e pos) Φ := .mk fun σ H Q en w k => by
  refine eOf (pe_dget hu (pe_disp (pps_cons pe_str pe_str (pps_cons pe_str pe_str pps_nil)) rfl rfl (by simp) (by simp)) pe_sem hs) ?_
  intro t ht
  refine ⟨upd_same, [(.inr k1, .str v1), (.inr k2, .str v2)], rfl, by simp, ?_⟩
  have x1 : Ext M _ H M (upd H t (.dK [])) := Ext.new w ht
  have e2 : upd (upd H t (.dK [])) t (.dK (mergeK [] [(.inr k1, .str v1), (.inr k2, .str v2)])) = upd H t (.dK [(.inr k1, .str v1), (.inr k2, .str v2)]) := by
    have : mergeK [] [((.inr k1 : Key), V.str v1), (.inr k2, .str v2)] = [(.inr k1, .str v1), (.inr k2, .str v2)] := by
      simp [mergeK, putK, hne]
    rw [this]
    funext b; unfold upd; split <;> rfl
  rw [e2]
  have x2 : Ext M _ H M (upd H t (.dK [(.inr k1, .str v1), (.inr k2, .str v2)])) := Ext.new w ht
  refine h.run σ _ _ (en.mono x2) (w.new ht) fun v d H1 M1 e1 w1 r1 hz => ?_
  obtain ⟨z, y, rfl, hl, hz⟩ := hz
  cases r1
  have hd := (e1.1 t _ upd_same (w.fresh ht)).1
  refine ⟨t, .str y, rfl, ?_, (k.step (x2.trans e1)).now w1 (.str _) hz⟩
  have g := DGet.k (k := .inr z) hd
  have ev : valV [((.inr k1 : Key), V.str v1), (.inr k2, .str v2)] (.inr z) = some (.str y) := by
    unfold valV
    rw [List.lookup_cons] at hl
    by_cases c1 : z = k1
    · subst c1
      simp at hl
      subst hl
      simp
    · have c2 : (z == k1) = false := by simpa using c1
      rw [c2] at hl
      have c3 : ¬ k1 = z := fun q => c1 q.symm
      by_cases c4 : z = k2
      · subst c4
        simp [List.lookup_cons] at hl
        subst hl
        simp [c3]
      · have c5 : (z == k2) = false := by simpa using c4
        simp [List.lookup_cons, c5] at hl
  rw [ev] at g
  exact g
theorem inV_strs (z : Str) : ∀ zs : List Str, inV (.str z) (zs.map V.str) = decide (z ∈ zs)
  | [] => rfl
  | y :: zs => by
    have ih := inV_strs z zs
    unfold inV at ih ⊢
    rw [List.map_cons, List.any_cons, ih]
    show (decide (y = z) || _) = _
    by_cases h : y = z
    · subst h; simp
    · have h' : ¬ z = y := fun q => h q.symm
      simp [h, h']
theorem flat_strs (zs : List Str) : (zs.map V.str).all flatV = true := by
  rw [List.all_map]; exact List.all_eq_true.mpr fun _ _ => rfl
theorem rd_inS {x y : D} (h : ∃ (z : Str) (zs : List Str), x = .str z ∧ (y = .tup (zs.map D.str) ∨ LstOf M y (zs.map D.str)) ∧ Φ (.bl (decide (z ∈ zs))) M) : RD X.K (rIn X.K false) x y M Φ := fun Z v u H Q w r1 r2 k => by
  obtain ⟨z, zs, rfl, hy, h⟩ := h
  cases r1
  rcases hy with rfl | hy
  · obtain ⟨q, vs, rfl, hq, rs⟩ := r2.asTup
    rw [rs.strs] at hq
    exact ⟨q, _, rfl, .inr hq, rfl, flat_strs zs, by rw [inV_strs]; exact k.now w (.bl _) h⟩
  · obtain ⟨q, vs, rfl, hq, rs⟩ := r2.asLst w hy
    rw [rs.strs] at hq
    exact ⟨q, _, rfl, .inl hq, rfl, flat_strs zs, by rw [inV_strs]; exact k.now w (.bl _) h⟩
theorem we_inS (h : WE X ρ M a fun x M1 => WE X ρ M1 b fun y M2 => ∃ (z : Str) (zs : List Str), x = .str z ∧ (y = .tup (zs.map D.str) ∨ LstOf M2 y (zs.map D.str)) ∧ Φ (.bl (decide (z ∈ zs))) M2) (hm : behindInMarks .In b = false := by rfl) : WE X ρ M (.Compare a [.In] [b] pos) Φ :=
  we_cmp op_in_seq hm (h.imp fun _ _ h => h.imp fun _ _ h => rd_inS h)
theorem wt_inS (h : WE X ρ M a fun x M1 => WE X ρ M1 b fun y M2 => ∃ (z : Str) (zs : List Str), x = .str z ∧ (y = .tup (zs.map D.str) ∨ LstOf M2 y (zs.map D.str)) ∧ Θ (decide (z ∈ zs)) M2) (hm : behindInMarks .In b = false := by rfl) : WT X ρ M (.Compare a [.In] [b] pos) Θ :=
  wt_cmp op_in_seq hm (h.imp fun _ _ h => h.imp fun _ _ ⟨z, zs, e1, e2, h⟩ => rd_inS ⟨z, zs, e1, e2, _, rfl, h⟩)
/-- a written tuple of texts -/
theorem we_txts {e1 e2 : Str} {j1 j2 k1 : Nat} {q1 q2 : Pos} (h : Φ (.tup ([e1, e2].map D.str)) M) (hs : starEach [.Constant (.str e1) j1 q1, .Constant (.str e2) j2 q2] X.env = (false, eval (.Constant (.str e1) j1 q1) X.env) :: starEach [.Constant (.str e2) j2 q2] X.env := by rfl) (hs2 : starEach [.Constant (.str e2) j2 q2] X.env = (false, eval (.Constant (.str e2) j2 q2) X.env) :: starEach [] X.env := by rfl) :
    WE X ρ M (.Tuple [.Constant (.str e1) j1 q1, .Constant (.str e2) j2 q2] k1 pos) Φ :=
  we_tup (wa_cons (we_str (wa_cons (we_str (wa_nil ⟨by show 2 ≤ sizeLine; decide, h⟩)) hs2)) hs)
theorem we_powW (h : WE X ρ M a fun x M1 => WE X ρ M1 b fun y M2 => ∃ i j, x = .int i ∧ y = .int j ∧ (0 ≤ j ∧ (Builtin.Int.intBits i : Int) * j ≤ 2 ^ 27) ∧ Φ (.int (i ^ j.toNat)) M2) : WE X ρ M (.BinOp a .Pow b pos) Φ :=
  we_op (r := rI (fun i j => 0 ≤ j ∧ (Builtin.Int.intBits i : Int) * j ≤ 2 ^ 27) fun i j => .int (i ^ j.toNat)) (opI fun _ _ _ _ _ _ _ hc q => pow_int hc.1 hc.2 q) (h.imp fun _ _ h => h.imp fun _ _ h => rd_I h)
theorem we_startsAt {f : Expr} (h : WE X ρ M o fun d M1 => ∃ z, d = .str z ∧ WE X ρ M1 e fun y M2 => WE X ρ M2 f fun u M3 => ∃ s i, y = .str s ∧ u = .int i ∧ Φ (.bl (Txt.startswith3 z s i)) M3)
    (hbase : attributeBase o "startswith" X.env (eval o X.env) = eval o X.env := by rfl) (hline : (apos.endLine == pos.line) = true := by rfl)
    (hfew : ((backTo pos (starEach [e, f] X.env)).all (fun x => !x.1) && (backToKw pos (keywordEach [] X.env)).all (fun x => x.1.isSome) && decide ([e, f].length + ([] : List Keyword).length + (if ([] : List Keyword).isEmpty then 0 else 1) < 30)) = true := by rfl)
    (hs : starEach [e, f] X.env = (false, eval e X.env) :: starEach [f] X.env := by rfl) (hs2 : starEach [f] X.env = (false, eval f X.env) :: starEach [] X.env := by rfl) (hpl : (backTo pos (starEach [f] X.env)).any (·.1) = false := by rfl) : WE X ρ M (.Call (.Attribute o "startswith" apos) [e, f] [] pos) Φ := .mk fun σ H Q en w k => by
  refine eOf (pe_bm F.plainAttrs_str F.slot_str_startswith F.type_str_startswith mt_startswith3 pe_sem (pa_sem (es := [e, f])) hbase hfew hline hs hpl) (h.run σ H _ en w fun v d H1 M1 e1 w1 r1 hz => ?_)
  obtain ⟨z, rfl, hz⟩ := hz
  cases r1
  refine ⟨rfl, (wa_cons (ΦA := fun ds M3 => ∃ s i, ds = [.str s, .int i] ∧ Φ (.bl (Txt.startswith3 z s i)) M3) (hz.imp fun y M2 hy => wa_cons (hy.imp fun u M3 hu => wa_nil ?_) hs2) hs).run σ H1 _ (en.mono e1) w1 fun vs ds H2 M2 e2 w2 r2 hx => ?_⟩
  · obtain ⟨s, i, rfl, rfl, hu⟩ := hu
    exact ⟨s, i, rfl, hu⟩
  · obtain ⟨s, i, rfl, hx⟩ := hx
    obtain ⟨v1, v2, rfl, r3, r4⟩ := r2.two
    cases r3; cases r4
    exact ⟨z, s, i, rfl, rfl, (k.step (e1.trans e2)).now w2 (.bl _) hx⟩
variable {Ψ : DE}
theorem wg_fld {f : Str} {C : Addr} {d : D} {Ω : Rho → Mp → Prop} (h : WE X ρ M o fun x M1 => ∃ q fs, x = .ob q ∧ M1 q = some (.ins C fs) ∧ Cls X.K C ∧ NoAttr X.K C f ∧ fs.length < 1000 ∧ Ω ρ (mset M1 q (.ins C (putD f d fs)))) : WG X (.Attribute o f pos) d ρ M Ω := .mk fun {Z} σ H v Q en w r k => by
  intro pins s u I ru
  refine PySem.W.kas_attr (thn (h.run σ H (fun x H2 => ∃ q C' dx fs, x = .ref q ∧ H2 q = some (.ins C' dx fs) ∧ Cls X.K C' ∧ NoAttr X.K C' f ∧ fs.length < 1000 ∧ Q σ (upd H2 q (.ins C' dx (putF f v fs)))) en w (fun x dx H1 M1 e1 w1 r1 hz => ?_) pins s I) fun ov s2 ⟨y, H2, I2, ry, q2⟩ => ?_)
  · obtain ⟨q, fs, rfl, hM, cl, na, hl, hz⟩ := hz
    cases r1
    obtain ⟨dx, vs, ha, rf⟩ := w1.1 q _ hM
    have x3 : Ext M1 _ H1 (mset M1 q (.ins C (putD f d fs))) (upd H1 q (.ins C dx (putF f v vs))) := Ext.put w1 hM
    exact ⟨q, C, dx, vs, rfl, ha, cl, na, by rw [rf.length]; exact hl, k σ ρ _ _ (e1.trans x3) (w1.put hM ⟨dx, _, upd_same, (rf.mono x3).put (r.mono (e1.trans x3))⟩) (en.mono (e1.trans x3)) hz⟩
  · obtain ⟨q, C', dx, fs, rfl, ha, cl, na, hl, hq⟩ := q2
    cases ry
    exact setattr_ok I2 ha cl na hl ru fun s3 I3 => ⟨σ, _, I3, hq⟩
end
end DL
namespace DL
open PySem PySem.Spec PyProof.Rows L2
/-- the module's def x is the statement st; dvs: its defaults -/
structure Df (K : PySem.W.Frag) (mg : Str → Option Value) (x : Str) (st : Stmt) (dvs : List V) : Prop where
  ex : ∃ (f : Addr) (fd : FuncData), FunD K x x (defArgs st) (defBody st) (defScope st) dvs [] f fd ∧ mg x = some (.ref f)
section
variable {P : Program} {w : World} {K : PySem.W.Frag} {mg : Str → Option Value} {base : Heap} {x : Str} {st : Stmt} {N ps : List Str} {j k n : Nat} {c : Con} {dd : List D} {C : Addr} {m : Str}
theorem Fc.up (F : Fc P w K mg base x dd j n c) (h : j ≤ k) : Fc P w K mg base x dd k n c := by
  obtain ⟨f, fd, ps, dvs, ds, F, r⟩ := F.ex
  exact ⟨f, fd, ps, dvs, ds, F.mono h, r⟩
theorem Kc.up (F : Kc P w K mg base x C dd j n c) (h : j ≤ k) : Kc P w K mg base x C dd k n c := by
  obtain ⟨f, fd, ps, dvs, ds, G, r⟩ := F.ex
  exact ⟨F.at_, f, fd, ps, dvs, ds, G.mono h, r⟩
theorem Mc.up (F : Mc P w K mg base C m dd j n c) (h : j ≤ k) : Mc P w K mg base C m dd k n c := by
  obtain ⟨f, fd, ps, dvs, ds, G, r⟩ := F.ex
  exact ⟨F.cl, f, fd, ps, dvs, ds, G.mono h, r⟩
theorem Pc.up (F : Pc P w K mg base C m j c) (h : j ≤ k) : Pc P w K mg base C m k c := by
  obtain ⟨p, g, fd, ps, G, r⟩ := F.ex
  exact ⟨F.cl, p, g, fd, ps, G.mono h, r⟩
/-- a body keeps a contract -/
def BodyOk (P : Program) (w : World) (K : PySem.W.Frag) (mg : Str → Option Value) (base : Heap) (qual : Str) (st : Stmt) (N : List Str) (n k : Nat) (c : Con) : Prop :=
  ∀ (f : Addr) (cdv : Value) (A : Around) (outer : List Env) (s : Shared) (H : Hp) (E : XK), Room k (A.deeper (envOfC qual (defScope st) s.heap.objs.size f cdv)) → ∀ ds M Φ, ds.length = n → c ds M Φ →
      WSs (bx P w K mg base N qual (defScope st) f cdv A outer s H E) (start N ds) M (defBody st) { nx := fun _ M' => Φ .non M', rt := Lets Φ }
theorem Df.fc (D : Df K mg x st []) (S : FnScope N ps (defScope st))
    (hb : ∀ (kV doc pm : Value) (an : Option Addr) (cdv ct : Value) (us : List Value), us.length = ps.length → bindArgs (PySem.W.fnOf x x (defArgs st) (defBody st) (defScope st) .none kV doc pm an cdv ct) ⟨us, []⟩ = pure (ps.zip us))
    (h : BodyOk P w K mg base x st N ps.length k c) : Fc P w K mg base x [] (k + 1) ps.length c := by
  obtain ⟨f, fd, F, hm⟩ := D.ex
  exact ⟨f, fd, ps, [], [], fn_ok F S (h f), hm, F.kp, F.bindsN hb, .nil, fun _ _ _ => .nil⟩
/-- with defaults: n values are written, the defaults behind the first j fill up -/
theorem Df.fcD {dvs : List V} (D : Df K mg x st dvs) (S : FnScope N ps (defScope st)) (nn jj : Nat) (hd : dvs ≠ []) (hn : nn + (dvs.length - jj) = ps.length) (hr : ∀ M Z H, Reps K M Z H (dvs.drop jj) dd)
    (hb : ∀ (T : Addr) (kV doc pm : Value) (an : Option Addr) (cdv ct : Value) (us its : List Value), us.length = nn → its.length = dvs.length →
      ∃ k, bindArgs (PySem.W.fnOf x x (defArgs st) (defBody st) (defScope st) (.ref T) kV doc pm an cdv ct) ⟨us, []⟩ = seqItems? (.ref T) >>= k ∧ k (some its.toArray) = pure (ps.zip (us ++ its.drop jj)))
    (h : BodyOk P w K mg base x st N ps.length k c) : Fc P w K mg base x dd (k + 1) ps.length c := by
  obtain ⟨f, fd, F, hm⟩ := D.ex
  obtain ⟨ds, hv, hB⟩ := F.binds1 (ps := ps) nn jj hd hn hb
  exact ⟨f, fd, ps, dvs.drop jj, ds, fn_ok F S (h f), hm, F.kp, hB, hv, hr⟩
end
/-- the method m of the class C of the name x is the statement st -/
structure Md (K : PySem.W.Frag) (C : Addr) (m qual : Str) (st : Stmt) (f : Addr) : Prop where
  ex : ∃ fd : FuncData, FunD K m qual (defArgs st) (defBody st) (defScope st) [] [] f fd
section
variable {P : Program} {w : World} {K : PySem.W.Frag} {mg : Str → Option Value} {base : Heap} {x qual : Str} {st : Stmt} {N ps : List Str} {j k n : Nat} {c : Con} {dd : List D} {C : Addr} {m : Str} {f p : Addr}
theorem Md.pc (D : Md K C m qual st f) (cl : Cls K C) (me : PropOf K C m p f) (S : FnScope N ["self"] (defScope st))
    (hb : ∀ (kV doc pm : Value) (an : Option Addr) (cdv ct : Value) (us : List Value), us.length = 1 → bindArgs (PySem.W.fnOf m qual (defArgs st) (defBody st) (defScope st) .none kV doc pm an cdv ct) ⟨us, []⟩ = pure ((["self"] : List Str).zip us))
    (h : BodyOk P w K mg base qual st N 1 k c) : Pc P w K mg base C m (k + 1) c := by
  obtain ⟨fd, F⟩ := D.ex
  exact ⟨cl, p, f, fd, ["self"], fn_ok F S (h f), me, F.bindsN hb⟩
theorem Md.kc (D : Md K C "__init__" qual st f) (hm : mg x = some (.ref C)) (me : Mk K C f) (S : FnScope N ps (defScope st))
    (hb : ∀ (kV doc pm : Value) (an : Option Addr) (cdv ct : Value) (us : List Value), us.length = ps.length → bindArgs (PySem.W.fnOf "__init__" qual (defArgs st) (defBody st) (defScope st) .none kV doc pm an cdv ct) ⟨us, []⟩ = pure (ps.zip us))
    (h : BodyOk P w K mg base qual st N ps.length k c) : Kc P w K mg base x C [] (k + 1) ps.length c := by
  obtain ⟨fd, F⟩ := D.ex
  exact ⟨hm, f, fd, ps, [], [], fn_ok F S (h f), me, F.bindsN hb, .nil, fun _ _ _ => .nil⟩
end
end DL
namespace DL
open PySem PySem.Spec PyProof.Rows L2
/-- d can be compared: it is p, k deep at most -/
structure CmpD (d : D) (p : PyData) (k : Nat) : Prop where
  eq : toPy d = some p
  lay : p.canLay0 = true
  dep : p.depth ≤ k
theorem CmpD.shaped {d : D} {p : PyData} {k : Nat} (h : CmpD d p k) (hk : k ≤ 64) : SeqAt.shaped p = true := by
  unfold SeqAt.shaped
  rw [h.lay, decide_eq_true (Nat.le_trans h.dep hk)]; rfl
theorem cmp_int (i : Int) : CmpD (.int i) (.int i) 0 := ⟨by simp [toPy], by simp [PyData.canLay0], by simp [PyData.depth]⟩
theorem cmp_str {x : Str} (h : ∀ c ∈ x.cps.toList, c < 0x110000) : CmpD (.str x) (.str x) 0 := ⟨by simp [toPy], by
  simp only [PyData.canLay0, PyData.strOk]
  rw [← Array.all_toList]
  exact List.all_eq_true.mpr fun c hc => decide_eq_true (h c hc), by simp [PyData.depth]⟩
theorem cmps_nil {k : Nat} : CmpDs [] [] k := ⟨by simp [toPys], by simp [PyData.canLayAll0], by simp [PyData.depthAll]⟩
theorem cmps_cons {d : D} {p : PyData} {ds : List D} {ps : List PyData} {k j : Nat} (h : CmpD d p j) (hj : j ≤ k) (t : CmpDs ds ps k) : CmpDs (d :: ds) (p :: ps) k := ⟨by
  simp only [toPys, h.eq, t.eq]; rfl, by simp only [PyData.canLayAll0, h.lay, t.lay]; rfl, by
  simp only [PyData.depthAll]; have := h.dep; have := t.dep; omega⟩
theorem cmps_map {α : Type} {f : α → D} {g : α → PyData} {k j : Nat} (hj : j ≤ k) : ∀ {xs : List α}, (∀ x ∈ xs, CmpD (f x) (g x) j) → CmpDs (xs.map f) (xs.map g) k
  | [], _ => cmps_nil
  | x :: xs, h => cmps_cons (h x List.mem_cons_self) hj (cmps_map hj fun y hy => h y (List.mem_cons_of_mem _ hy))
theorem cmp_lst {ds : List D} {ps : List PyData} {k : Nat} (h : CmpDs ds ps k) : CmpD (.lst ds) (.list ps) (k + 1) := ⟨by simp only [toPy, h.eq]; rfl, by simp only [PyData.canLay0, h.lay], by simp only [PyData.depth]; have := h.dep; omega⟩
theorem cmp_tup {ds : List D} {ps : List PyData} {k : Nat} (h : CmpDs ds ps k) : CmpD (.tup ds) (.tuple ps) (k + 1) := ⟨by simp only [toPy, h.eq]; rfl, by simp only [PyData.canLay0, h.lay], by simp only [PyData.depth]; have := h.dep; omega⟩
theorem eqv_nilL (ps : List PyData) : PyData.eqv (.list ps) (.list []) = ps.isEmpty := by
  cases ps <;> simp [PyData.eqv, PyData.eqvAll]
theorem eqv_nilT (ps : List PyData) : PyData.eqv (.tuple ps) (.tuple []) = ps.isEmpty := by
  cases ps <;> simp [PyData.eqv, PyData.eqvAll]
section
variable {X : Cx} {ρ : Rho} {M : Mp} {Φ : D → Mp → Prop} {Θ : Bool → Mp → Prop} {a b : Expr} {pos : Pos}
theorem shaped_nilL : SeqAt.shaped (.list []) = true := by decide +kernel
theorem shaped_nilT : SeqAt.shaped (.tuple []) = true := by decide +kernel
theorem isEmpty_len {α β : Type} {xs : List α} {ys : List β} (h : xs.length = ys.length) : xs.isEmpty = ys.isEmpty := by
  cases xs <;> cases ys <;> simp_all
/-- x != [] -/
theorem wt_neNil {lp : Pos} (hu : X.A.units + 64 < cLine) (h : WE X ρ M a fun x M1 => ∃ xs ps k, x = .lst xs ∧ CmpDs xs ps k ∧ k ≤ 60 ∧ Θ (!xs.isEmpty) M1) : WT X ρ M (.Compare a [.NotEq] [.List [] lp] pos) Θ :=
  wt_neD hu (h.imp fun x M1 ⟨xs, ps, k, e, c, hk, h⟩ => we_lst (wa_nil ⟨Nat.zero_le _, _, _, by rw [e]; exact (cmp_lst c).eq, by simp [toPy, toPys], (cmp_lst c).shaped (by omega), shaped_nilL, by rw [eqv_nilL, isEmpty_len c.length]; exact h⟩))
/-- x != () -/
theorem wt_neNilT {lp : Pos} {kk : Nat} (hu : X.A.units + 64 < cLine) (h : WE X ρ M a fun x M1 => ∃ xs ps k, x = .tup xs ∧ CmpDs xs ps k ∧ k ≤ 60 ∧ Θ (!xs.isEmpty) M1) : WT X ρ M (.Compare a [.NotEq] [.Tuple [] kk lp] pos) Θ :=
  wt_neD hu (h.imp fun x M1 ⟨xs, ps, k, e, c, hk, h⟩ => we_tup (wa_nil ⟨Nat.zero_le _, _, _, by rw [e]; exact (cmp_tup c).eq, by simp [toPy, toPys], (cmp_tup c).shaped (by omega), shaped_nilT, by rw [eqv_nilT, isEmpty_len c.length]; exact h⟩))
end
end DL
namespace DL
open PySem PySem.Spec PyProof.Rows L2
section
variable {P : Program} {w : World} {K : PySem.W.Frag} {mg : Str → Option Value} {base : Heap} {x qual : Str} {st : Stmt} {kws : List (Str × V)} {f : Addr} {fd : FuncData} {N ps : List Str} {k n : Nat} {c : Con}
theorem FnG.mono {j : Nat} {sp : Sp} (F : FnG P w K mg base j f fd ps sp) (h : j ≤ k) : FnG P w K mg base k f fd ps sp := ⟨F.len, fun A outer s H args us vs Q E hg hr => F.run A outer s H args us vs Q E hg (hr.mono h)⟩
/-- a body keeps a contract where nothing is being shown -/
def BodyG (P : Program) (w : World) (K : PySem.W.Frag) (mg : Str → Option Value) (base : Heap) (qual : Str) (st : Stmt) (N : List Str) (n k : Nat) (c : Con) : Prop :=
  ∀ (f : Addr) (cdv : Value) (A : Around) (outer : List Env) (s : Shared) (H : Hp) (E : XK), (A.deeper (envOfC qual (defScope st) s.heap.objs.size f cdv)).guards = some [] → Room k (A.deeper (envOfC qual (defScope st) s.heap.objs.size f cdv)) → ∀ ds M Φ, ds.length = n → c ds M Φ →
      WSs (bx P w K mg base N qual (defScope st) f cdv A outer s H E) (start N ds) M (defBody st) { nx := fun _ M' => Φ .non M', rt := Lets Φ }
theorem fnG_ok {dvs : List V} (F : FunD K x qual (defArgs st) (defBody st) (defScope st) dvs kws f fd) (S : FnScope N ps (defScope st)) (h : BodyG P w K mg base qual st N ps.length k c) : FnG P w K mg base (k + 1) f fd ps (spD K ps.length c) := by
  obtain ⟨oc, od, dV, kV, doc, pm, an, cdv, ct, osl, rfl, lk, hcd, _, _⟩ := F.ex
  have ln : ∀ vs H Q E, spD K ps.length c vs H Q E → vs.length = ps.length := fun vs H Q E q => by
    obtain ⟨ds, M, Z, Φ, hl, r, _⟩ := q
    rw [r.length, hl]
  refine ⟨ln, fun A outer s H args us vs Q E hg hr e0 hb rv hsp => ?_⟩
  have hlen := ln _ _ _ _ hsp
  have hK : K.In s.heap := e0.mod.kin.keeps fun b o z => (e0.bs b o z).1
  have hlim : s.heap.NoLimit := e0.mod.nolimit.keeps fun b o z => (e0.bs b o z).1
  have kinds : ∀ y ∈ ps.zip us, (defScope st).names.lookup y.1 = some .local ∨ ((defScope st).names.lookup y.1 = some .cell ∧ ((cellsFrom (s.heap.objs.size + 1) (defScope st).names []).lookup y.1).isSome = true) := fun y hy => by
    rcases S.par y.1 (List.of_mem_zip hy).1 with z | z
    · exact .inl z
    · exact .inr ⟨z, PySem.W.cellsFrom_some _ _ _ (.inl z)⟩
  refine codeAny_call_function hr.depth (hK _ _ lk) rfl S.co S.gen rfl (PySem.W.codeRec_of hK hcd) (hb _ _ _ _ (wpAny_newFunctionEnv_cells S.kind kinds fun env he s1 xx => ?_))
  subst he
  refine ⟨hlim.keeps xx.toInCall.keep, codeAny_func ?_⟩
  obtain ⟨ds, M, Z, Φ, hl, r, wd, hc, kk⟩ := hsp
  have I : Inv (cxOf CX0 P w K mg base N qual (defScope st) f cdv A outer s H E) [] (L2.start N vs) H s1 := inv_start S hr.hd e0 hlen rv xx
  have body := (h f cdv A outer s H E hg (hr.deeper _) ds M Φ hl hc).run (L2.start N vs) H { nx := fun _ H' => Q .non H', rt := Q } (env_start r) wd ⟨fun σ' ρ' H' M' x w' en z => kk _ .non H' M' x w' .non z, lets_k kk, fun _ _ _ _ _ _ _ z => z.elim, fun _ _ _ _ _ _ _ z => z.elim⟩
  have done : ∀ {σ' : L2.St} {H' : Hp} {v : V} {u : Value} {s' : Shared}, Inv (cxOf CX0 P w K mg base N qual (defScope st) f cdv A outer s H E) [] σ' H' s' → RelV v u → Q v H' → CE outer P w H s Q u s' := fun {σ' H' v u s'} J ru q => ⟨v, H', J.os, J.bare, J.base, J.hok, ru, q⟩
  refine wpAny_mono ((PSs.nox (pss_sem (X := bx P w K mg base N qual (defScope st) f cdv A outer s H E))).run [] s1 (L2.start N vs) H _ I body) (fun fl s' hs => ?_) fun e s' hs => hs
  cases fl with
  | ret u => obtain ⟨v, σ', H', J, ru, q⟩ := hs; exact done J ru q
  | next => obtain ⟨σ', H', J, q⟩ := hs; exact done (v := V.non) (u := Value.none) J rfl q
  | brk => obtain ⟨_, _, _, q⟩ := hs; exact q.elim
  | cont => obtain ⟨_, _, _, q⟩ := hs; exact q.elim
/-- such a def under its name -/
structure Gc (P : Program) (w : World) (K : PySem.W.Frag) (mg : Str → Option Value) (base : Heap) (x : Str) (k n : Nat) (c : Con) : Prop where
  ex : ∃ (f : Addr) (fd : FuncData) (ps : List Str), FnG P w K mg base k f fd ps (spD K n c) ∧ mg x = some (.ref f) ∧ PySem.W.keepIn K (.ref f) = true ∧ Binds K fd ps []
theorem Df.gc (D : Df K mg x st []) (S : FnScope N ps (defScope st))
    (hb : ∀ (kV doc pm : Value) (an : Option Addr) (cdv ct : Value) (us : List Value), us.length = ps.length → bindArgs (PySem.W.fnOf x x (defArgs st) (defBody st) (defScope st) .none kV doc pm an cdv ct) ⟨us, []⟩ = pure (ps.zip us))
    (h : BodyG P w K mg base x st N ps.length k c) : Gc P w K mg base x (k + 1) ps.length c := by
  obtain ⟨f, fd, F, hm⟩ := D.ex
  exact ⟨f, fd, ps, fnG_ok F S h, hm, F.kp, F.bindsN hb⟩
end
section
variable {X : Cx} {ρ : Rho} {M : Mp} {Φ : D → Mp → Prop} {e : Expr} {es : List Expr} {pos p : Pos} {x : Str} {k n : Nat} {c : Con}
theorem we_callG (F : Gc X.prog X.w X.K X.mg X.base x k n c) (hg0 : X.A.guards = some []) (hr : Room k X.A) (h : WA X ρ M (e :: es) fun ds M1 => ds.length = n ∧ c ds M1 Φ) (hg : Gl X x := by rfl)
    (hdb : (x == ("__debug__" : Str)) = false := by decide) (he : starEach (e :: es) X.env = (false, eval e X.env) :: starEach es X.env := by rfl) (hpl : (backTo pos (starEach es X.env)).any (·.1) = false := by rfl) : WE X ρ M (.Call (.Name x p) (e :: es) [] pos) Φ := .mk fun {Z} σ H Q en w k => by
  obtain ⟨f, fd, ps, F, hm, hk, hb⟩ := F.ex
  intro pins s I
  refine wpAny_Call_Name_kw (ld_glob I hg hm ?_ hdb)
  refine PySem.W.callWith_K (h₀ := X.base) I.ok.mod.kin hk (thn ((pa_sem (es := e :: es)).run pos pins s σ H (fun vs H1 => spD X.K n c vs H1 Q E0) I (h.run σ H _ en w fun vs ds H1 M1 e1 w1 r1 hz => ⟨ds, M1, Z, Φ, hz.1, r1, w1, hz.2, k.step e1⟩)) fun us s1 z => ⟨?_, ?_⟩) he hpl
  · obtain ⟨vs, H1, I1, r, q⟩ := z; exact I1.kIn
  · obtain ⟨vs, H1, I1, r, q⟩ := z
    have hl : (us ++ ([] : List Value)).length = ps.length := by rw [List.append_nil, ← r.length]; exact F.len _ _ _ _ q
    have bt := hb s1 us I1.kIn hl
    rw [List.append_nil] at bt
    refine wpAny_call (codeAny_mono (F.run X.A X.stack s1 H1 ⟨us, []⟩ us vs Q E0 hg0 hr I1.env0 bt r q) fun res s' hq => ?_)
    cases res with
    | error er => exact hq.elim
    | ok fl =>
      cases fl with
      | ret u => exact I1.after hq
      | next => exact hq.elim
      | brk => exact hq.elim
      | cont => exact hq.elim
end
end DL
namespace DL
open PySem PySem.Spec PyProof.Rows L2
theorem lawG {P : Program} {w : World} {K : PySem.W.Frag} {mg mb : Str → Option Value} {k : Nat} {fa a : Addr} {fd : FuncData} {x : Str} {sp : Sp} {s : Shared} {vs : List Value} {ns : List Int}
    (KX : K.In s.heap) (gn : s.heap.Ns mainGlobals mg) (bn : s.heap.Ns builtinsNs mb) (bb : ∀ x : Str, x ≠ "__name__" → mb x = bootBuiltins x) (lim : s.heap.NoLimit) (hg : s.gens = #[])
    (ha : s.heap.get? a = some { cls := .type "list", data := .seq vs.toArray }) (hi : IntsAre vs ns) (hl : ns.length ≤ sizeLine) (hr : Room k callerA)
    (F : ∀ base : Heap, K.In base → base.Ns mainGlobals mg → FnG P w K mg base k fa fd [x] sp) (bind_ : ∀ (s : Shared) (u : Value), BindsTo s fd ⟨[u], []⟩ [(x, u)])
    (hsp : ∀ H : Hp, Only H → SqL K H a (ns.map V.int) → sp [.ref a] H (fun v _ => v = .bl true) fun _ _ _ => False) :
    codeAny (model P w) callerA (.call (.ref fa) ⟨[.ref a], []⟩) (fun r s' => r = .ok (.ret (.bool true)) ∧ OldK s.heap s'.heap ∧ s'.os = s.os ∧ AllBare s'.gens) s := by
  have rv := vals_ints hi
  have lenV := hi.length
  have main : ∀ H : Hp, Only H → SqL K H a (ns.map V.int) → HOk P w H s.heap → (∀ b, H b ≠ none → b = a) → (H a ≠ none → K.lookup a = none) →
      codeAny (model P w) callerA (.call (.ref fa) ⟨[.ref a], []⟩) (fun r s' => r = .ok (.ret (.bool true)) ∧ OldK s.heap s'.heap ∧ s'.os = s.os ∧ AllBare s'.gens) s := fun H o1 o2 hok at_ hK => by
    have keep0 : ∀ {b : Addr} {o : Obj}, s.heap.get? b = some o → H b = none → (hidT s.heap H).get? b = some o := fun z y => hidT_get z y
    have noD : ∀ {b : Addr} {o : Obj} {es : Array DictEntry} {ep : Nat}, s.heap.get? b = some o → o.data = .dict es ep → H b = none := fun {b o es ep} z d => by
      cases q : H b with
      | none => rfl
      | some u =>
        have eb : b = a := at_ b (by rw [q]; simp)
        rw [eb, ha] at z
        cases z
        cases (show Data.seq vs.toArray _ = Data.dict es ep from d)
    have nsK : ∀ {b : Addr} {m : Str → Option Value}, s.heap.Ns b m → (hidT s.heap H).Ns b m := fun {b m} z => by
      obtain ⟨o, es, ep, y, d, r⟩ := z
      exact ⟨o, es, ep, keep0 y (noD y d), d, r⟩
    have inB : K.In (hidT s.heap H) := fun b o z => keep0 (KX b o z) (by
      cases q : H b with
      | none => rfl
      | some u =>
        have eb : b = a := at_ b (by rw [q]; simp)
        rw [eb, hK (by rw [← eb, q]; simp)] at z
        cases z)
    have hM : Mod K mg (hidT s.heap H) := ⟨inB, nsK gn, ⟨mb, nsK bn, bb⟩, by obtain ⟨mc, h1, h2⟩ := lim; exact ⟨mc, nsK h1, h2⟩⟩
    have e0 : Env0 P w K mg (hidT s.heap H) callerA [] s H := ⟨rfl, hM, fun b o z => of_hidT z, Nat.le_of_eq (hidT_size _ _), trivial, fun b hb => absurd (show b ∈ ([] : List Addr) from hb) (by simp), hok, .of_eq hg⟩
    refine codeAny_mono ((F _ inB (nsK gn)).run callerA [] s H ⟨[.ref a], []⟩ [.ref a] [.ref a] _ _ rfl hr e0 (bind_ s (.ref a)) (.cons rfl .nil) (hsp H o1 o2)) fun r s' h => ?_
    cases r with
    | error e => exact False.elim h
    | ok fl =>
      cases fl with
      | ret u =>
        obtain ⟨v, H', os, bare, un, hok', r', q⟩ := h
        obtain rfl : v = .bl true := q
        obtain rfl : u = Value.bool true := r'
        refine ⟨rfl, OldK.of_keep fun b o z => ?_, os, bare⟩
        cases q : H b with
        | none => exact un.keep b o z q (fun y => absurd (show b ∈ ([] : List Addr) from y) (by simp)) (by simp)
        | some u =>
          rcases o1 b with y | ⟨ob, xs, y⟩
          · rw [q] at y; cases y
          · have y2 := un.frzs b ob _ y
            have y3 := (hok b _ y).1
            have y4 := (hok' b _ y2).1
            rw [z] at y3; cases y3
            exact y4
      | _ => exact False.elim h
  cases hk : K.lookup a with
  | some o =>
    have z := KX a o hk
    rw [ha] at z
    cases z
    exact main (fun _ => none) (fun _ => .inl rfl) (.inr ⟨_, vs.toArray, _, hk, rfl, rfl, rfl, by rw [List.size_toArray, lenV]; exact hl, by simpa using rv⟩) (fun b u z => by cases (show (none : Option HO) = some u from z)) (fun b z => absurd rfl z) fun z => absurd rfl z
  | none =>
    refine main (fun b => if b = a then some (.frz { cls := .type "list", data := .seq vs.toArray } (.lst (ns.map V.int))) else none) (fun b => ?_) (.inl (.inr ⟨_, if_pos rfl⟩)) (fun b u z => ?_) (fun b z => ?_) fun _ => hk
    · by_cases hb : b = a
      · exact .inr ⟨_, _, if_pos hb⟩
      · exact .inl (if_neg hb)
    · by_cases hb : b = a
      · cases (if_pos hb).symm.trans z
        subst hb
        exact ⟨ha, by rw [List.length_map]; exact hl, vs, _, rv, ha⟩
      · cases (if_neg hb).symm.trans z
    · by_cases hb : b = a
      · exact hb
      · exact absurd (if_neg hb) z
theorem walk_ofG {l : PySem.W.OpenLaw} {n k : Nat} {q : Program} {loose : List Str} {XP : (Str → Option Value) → Heap → Prop} {YP : World → Heap → Prop} {d : DefRec} {x : Str}
    (hn : l.most = some n) (hn2 : n ≤ sizeLine) (hdf : d.params.defaults = []) (hr : Room k callerA)
    (F : ∀ (w : World) (mg : Str → Option Value) (fa : Addr) (h : Heap), YP w h → h.Ns mainGlobals mg → mg d.name = some (.ref fa) →
      ∃ (K : PySem.W.Frag) (fd : FuncData) (sp : Sp), K.In h ∧ (∀ (s : Shared) (u : Value), BindsTo s fd ⟨[u], []⟩ [(x, u)]) ∧
        (∀ (H : Hp) (a : Addr) (ns : List Int), ns.length ≤ n → Only H → SqL K H a (ns.map V.int) → sp [.ref a] H (fun v _ => v = .bl true) fun _ _ _ => False) ∧
        ∀ base : Heap, K.In base → base.Ns mainGlobals mg → FnG l.prog w K mg base k fa fd [x] sp) :
    PySem.W.WalkO q loose XP YP l.row.toRowW d [] (fun f vs => PySem.call f vs) := by
  refine Att.attach_call hn hdf fun w s0 s1 mg mb fa o pm cd doc a vs ns G Y ho hd hcd hmg hobj hints hlen hg => ?_
  obtain ⟨K, fd, sp, KX, hb, hsp, hF⟩ := F w mg fa _ Y G.T.g hmg
  exact lawG KX G.T.g G.T.b G.T.builtins G.T.nolimit hg hobj hints (Nat.le_trans hlen hn2) hr hF hb fun H hO hS => hsp H a ns hlen hO hS
end DL
namespace DL
open PySem PySem.Spec PyProof.Rows L2
section
variable {X : Cx} {ρ : Rho} {M : Mp} {Φ : D → Mp → Prop} {e : Expr} {pos p : Pos}
theorem cr_reprD (hg : X.A.guards = some []) (hu : X.A.units + 64 < cLine) : CallR X (.builtin "repr") (fun xs H Q => ∃ v q, xs = [v] ∧ Dp X.K H v q ∧ q.showable = true ∧ q.canLay0 = true ∧ q.depth ≤ 60 ∧ q.shown.length ≤ sizeLine ∧ Q (.str q.shown) H) := by
  intro pins s σ H xs us Q I r h
  obtain ⟨v, q, rfl, hd, hs, hc, hk, hz, h⟩ := h
  obtain ⟨u, rfl, ru⟩ := vals1 r
  obtain ⟨as, rd⟩ := Dp.reads I q v u hd ru
  have fin : ∀ (h' : Heap) (tk : Nat) (t : Tok), (∀ b o, s.heap.get? b = some o → h'.get? b = some o) → EP X pins σ Q (.str q.shown t) { s with heap := h', toks := tk } := fun h' tk t kp => ⟨.str q.shown, H, I.kept kp, ⟨t, rfl⟩, h⟩
  have same : ∀ (tk : Nat) (t : Tok), EP X pins σ Q (.str q.shown t) { s with toks := tk } := fun tk t => ⟨.str q.shown, H, I.tok tk, ⟨t, rfl⟩, h⟩
  have big : ∀ a, u = .ref a → wpAny (model X.prog X.w) X.A (call (.builtin "repr") [u]) (EP X pins σ Q) X.xe s := fun a ea => by
    subst ea
    exact repr_of_reads' rd hs (fun z => by rw [PyData.hasDict_of_canLay q hc] at z; cases z) hg (by omega) (fun _ _ z => z) (fun h' t tk kp => fin h' tk t kp) hz
  cases hd with
  | non => cases ru; exact PySem.P.repr_of_none (by simp only [PyData.shown] at same; exact same _ _)
  | bl b => cases ru; exact PySem.P.repr_of_bool (by simp only [PyData.shown] at same; exact same _ _)
  | int i =>
    obtain ⟨t, rfl⟩ := ru
    simp only [PyData.showable, decide_eq_true_eq] at hs
    exact PySem.P.repr_of_int hs (by simp only [PyData.shown] at same; exact same _ _)
  | str x =>
    obtain ⟨t, rfl⟩ := ru
    simp only [PyData.shown] at hz
    exact PySem.P.repr_of_str (by simp only [PyData.shown] at same; exact same _ _) hz
  | lst h1 h2 => cases ru; exact big _ rfl
  | tup h1 h2 => cases ru; exact big _ rfl
theorem we_reprD (hm : X.mg "repr" = none) (hg0 : X.A.guards = some []) (hu : X.A.units + 64 < cLine) (h : WE X ρ M e fun d M1 => ∃ q k, CmpD d q k ∧ k ≤ 60 ∧ q.showable = true ∧ q.shown.length ≤ sizeLine ∧ Φ (.str q.shown) M1) (hg : Gl X "repr" := by rfl)
    (he : starEach [e] X.env = (false, eval e X.env) :: starEach [] X.env := by rfl) (hpl : (backTo pos (starEach [] X.env)).any (·.1) = false := by rfl) : WE X ρ M (.Call (.Name "repr" p) [e] [] pos) Φ :=
  we_callB (cr_reprD hg0 hu) hm (by decide +kernel) (wa_cons (h.imp fun d M1 h => wa_nil fun Z vs H Q w rr k => by
    obtain ⟨v, rfl, r⟩ := rr.one
    obtain ⟨q, j, c, hj, h1, h2, h⟩ := h
    exact ⟨v, q, rfl, r.dp c.eq, h1, c.lay, Nat.le_trans c.dep hj, h2, k.now w (.str _) h⟩) he) hg (he := he) (hpl := hpl)
end
end DL
namespace DL
open PySem PySem.Spec PyProof.Rows L2
section
variable {X : Cx} {ρ : Rho} {M : Mp} {Φ : D → Mp → Prop} {e : Expr} {pos p : Pos}
def TupsV (K : PySem.W.Frag) (H : Hp) : List V → List (List Int) → Prop := Paired fun x ns => ∃ t, x = V.ref t ∧ SqT K H t (ns.map V.int)
theorem TupsV.raw {pins : List (Addr × Obj)} {σ : L2.St} {H : Hp} {s : Shared} (I : Inv X pins σ H s) : ∀ {xs : List V} {ps : List (List Int)} {us : List Value}, TupsV X.K H xs ps → Vals xs us → us.map (TS.intsOf s.heap) = ps ∧ ∀ u ∈ us, TS.TupInts s.heap u (TS.intsOf s.heap u)
  | _, _, _, .nil, .nil => ⟨rfl, fun u hu => by simp at hu⟩
  | _, _, _, .cons h t, .cons r v => by
    obtain ⟨a, rfl, hq⟩ := h
    cases r
    obtain ⟨h1, h2⟩ := TupsV.raw I t v
    have q := tupI_raw I hq
    refine ⟨by rw [List.map_cons, q.ints, h1], fun u hu => ?_⟩
    rcases List.mem_cons.mp hu with rfl | hu
    · rw [q.ints]; exact q
    · exact h2 u hu
end
end DL
namespace DL
open PySem PySem.Spec PyProof.Rows L2 SX
/-- shown, at most b signs -/
structure ShD (p : PyData) (b : Nat) : Prop where
  ok : p.showable = true
  le : p.shown.length ≤ b
theorem sh_nat {n : Nat} (h : n < 10 ^ 30) : ShD (.int (n : Nat)) 30 := by
  refine ⟨?_, ?_⟩
  · simp only [PyData.showable, decide_eq_true_eq, Int.natAbs_natCast]
    have : n < 2 ^ 100 := Nat.lt_trans h (by decide)
    by_cases h0 : n = 0
    · subst h0; decide
    · have := (Nat.log2_lt h0).mpr this; omega
  · simp only [PyData.shown]
    rw [num_S, S_len]
    exact TL.numL_len (by decide) h
end DL
namespace DL
open PySem PySem.Spec PyProof.Rows L2
def keyD : Key → D
  | .inl i => .int i
  | .inr x => .str x
section
variable {X : Cx} {ρ : Rho} {M : Mp} {Φ : D → Mp → Prop} {Θ : Bool → Mp → Prop} {a b e o i : Expr} {es : List Expr} {pos p : Pos}
def putT (kvs : List (List Key × D)) (k : List Key) (d : D) : List (List Key × D) := if (kvs.any fun kv => decide (kv.1 = k)) = true then kvs.map (fun kv => if kv.1 = k then (kv.1, d) else kv) else kvs ++ [(k, d)]
theorem RepT.snoc {K : PySem.W.Frag} {M : Mp} {Z : Zn} {H : Hp} {k : List Key} {v : V} {d : D} (r : Rep K M Z H v d) : ∀ {vs : List (List Key × V)} {ds : List (List Key × D)}, RepT K M Z H vs ds → RepT K M Z H (vs ++ [(k, v)]) (ds ++ [(k, d)])
  | _, _, .nil => .cons r .nil
  | _, _, .cons r1 t => .cons r1 (RepT.snoc r t)
theorem RepT.repl {K : PySem.W.Frag} {M : Mp} {Z : Zn} {H : Hp} {k : List Key} {v : V} {d : D} (r : Rep K M Z H v d) : ∀ {vs : List (List Key × V)} {ds : List (List Key × D)}, RepT K M Z H vs ds → RepT K M Z H (vs.map fun kv => if kv.1 = k then (kv.1, v) else kv) (ds.map fun kv => if kv.1 = k then (kv.1, d) else kv)
  | _, _, .nil => .nil
  | _, _, .cons (k := j) r1 t => by
    rw [List.map_cons, List.map_cons]
    by_cases e : j = k
    · simp only [if_pos e]; exact .cons r (RepT.repl r t)
    · simp only [if_neg e]; exact .cons r1 (RepT.repl r t)
theorem RepT.put {K : PySem.W.Frag} {M : Mp} {Z : Zn} {H : Hp} {k : List Key} {v : V} {d : D} {vs : List (List Key × V)} {ds : List (List Key × D)} (r : Rep K M Z H v d) (t : RepT K M Z H vs ds) : RepT K M Z H (putK vs k v) (putT ds k d) := by
  unfold putK putT
  rw [t.any]
  split
  · exact t.repl r
  · exact t.snoc r
end
end DL
namespace DL
open PySem PySem.Spec PyProof.Rows L2 SlX
/-- what __init__ of five slots does: the i-th value goes to the slot js[i] -/
def spF (C : Addr) (out : List Int → List Int) : Sp := fun vs H Q E => ∃ (a dx : Addr) (ns : List Int), vs = .ref a :: ns.map V.int ∧ ns.length = 5 ∧ H a = some (.ins C dx []) ∧ dx ≠ a ∧ Q .non (slH H a C dx ((out ns).map fun i => some (V.int i)))
/-- C(..), C such a class -/
structure Gk (P : Program) (w : World) (K : PySem.W.Frag) (mg : Str → Option Value) (base : Heap) (x : Str) (C : Addr) (k : Nat) (dd : List Int) (out : List Int → List Int) : Prop where
  at_ : mg x = some (.ref C)
  ex : ∃ (f : Addr) (fd : FuncData) (ps : List Str) (ds : List Value), FnOk P w K mg base CX0 k f fd ps (spF C out) ∧ Mk K C f ∧ Binds K fd ps ds ∧ Vals (dd.map V.int) ds
theorem slH_made {H1 : Hp} {x dx C : Addr} {vs : List (Option V)} (h : dx ≠ x) : slH (upd (upd H1 dx (.own x)) x (.ins C dx [])) x C dx vs = upd (upd H1 dx (.xd [])) x (SlO x C dx vs) := by
  funext b
  unfold slH
  by_cases h1 : b = x
  · rw [h1, upd_same, upd_same]
  · by_cases h2 : b = dx
    · rw [h2, upd_ne h, upd_same, upd_ne h, upd_same]
    · rw [upd_ne h1, upd_ne h2, upd_ne h1, upd_ne h2, upd_ne h1, upd_ne h2]
section
variable {X : Cx} {ρ : Rho} {M : Mp} {Φ : D → Mp → Prop} {Θ : Bool → Mp → Prop} {a b e o : Expr} {es : List Expr} {pos p apos : Pos} {x : Str} {C : Addr} {k : Nat} {out : List Int → List Int} {dd : List Int}
theorem made_run {Z : Zn} {H1 : Hp} {M1 : Mp} {Q : VK} (w1 : Wd X.K M1 Z H1) (k : KE X.K M1 Z H1 Φ Q) {ns : List Int} (h5 : ns.length = 5) (hz : Φ (.fig C (out ns)) M1) (y dx : Addr) (hy : H1 y = none) (hdx : H1 dx = none) (ne : dx ≠ y) :
    spF C out (.ref y :: ns.map V.int) (upd (upd H1 dx (.own y)) y (.ins C dx [])) (fun v H2 => v = .non ∧ Q (.ref y) H2) E0 := by
  refine ⟨y, dx, ns, rfl, h5, upd_same, ne, rfl, ?_⟩
  rw [slH_made ne]
  have x1 := Ext.new (o := HO.xd []) w1 hdx
  have w2 := w1.new (o := HO.xd []) hdx
  have hy2 : upd H1 dx (.xd []) y = none := by rw [upd_ne (Ne.symm ne)]; exact hy
  refine (k.step x1).new w2 hy2 (.fig upd_same (by rw [upd_ne ne, upd_same]) (w2.fresh hy2) (w1.fresh hdx)) hz
theorem we_gmake (F : Gk X.prog X.w X.K X.mg X.base x C k [] out) (hr : Room (k + 1) X.A) (h : WA X ρ M (e :: es) fun ds M1 => ∃ ns : List Int, ds = ns.map D.int ∧ ns.length = 5 ∧ Φ (.fig C (out ns)) M1) (hg : Gl X x := by rfl)
    (hdb : (x == ("__debug__" : Str)) = false := by decide) (he : starEach (e :: es) X.env = (false, eval e X.env) :: starEach es X.env := by rfl) (hpl : (backTo pos (starEach es X.env)).any (·.1) = false := by rfl) : WE X ρ M (.Call (.Name x p) (e :: es) [] pos) Φ := .mk fun {Z} σ H Q en w k => by
  obtain ⟨f, fd, ps, ds, F', hm, hb, hd⟩ := F.ex
  refine eOf (pe_make (E := E0) hm F' hr hg F.at_ hb hd pass0 pa_sem hdb he hpl) (h.run σ H _ en w fun vs ds H1 M1 e1 w1 r1 hz => ?_)
  obtain ⟨ns, rfl, h5, hz⟩ := hz
  obtain rfl := r1.ints
  intro y dx hy hdx ne
  rw [List.map_nil, List.append_nil]
  exact made_run w1 (k.step e1) h5 hz y dx hy hdx ne
theorem we_gmake0 (F : Gk X.prog X.w X.K X.mg X.base x C k dd out) (h5 : dd.length = 5) (hr : Room (k + 1) X.A) (h : Φ (.fig C (out dd)) M) (hg : Gl X x := by rfl) (hdb : (x == ("__debug__" : Str)) = false := by decide) : WE X ρ M (.Call (.Name x p) [] [] pos) Φ := .mk fun {Z} σ H Q en w k => by
  obtain ⟨f, fd, ps, ds, F', hm, hb, hd⟩ := F.ex
  refine eOf (pe_make0 (E := E0) hm F' hr hg F.at_ hb hd pass0 hdb) ?_
  intro y dx hy hdx ne
  exact made_run w k h5 h y dx hy hdx ne
/-- e.f of such an instance -/
theorem we_gfld {fs : List Str} {f : Str} (S : SlC X.K C fs) (h : WE X ρ M e fun d M1 => ∃ (ns : List Int) (i : Nat) (n : Int), d = .fig C ns ∧ fs[i]? = some f ∧ ns[i]? = some n ∧ Φ (.int n) M1) (hb : attributeBase e f X.env (eval e X.env) = eval e X.env := by rfl) : WE X ρ M (.Attribute e f pos) Φ := .mk fun {Z} σ H Q en w k =>
  eOf (pe_sl pe_sem hb) (h.run σ H _ en w fun v d H1 M1 e1 w1 r1 hz => by
    obtain ⟨ns, i, n, rfl, hf, hn, hz⟩ := hz
    obtain ⟨q, hq⟩ := S.sl i f hf
    cases r1 with
    | @fig y _ dx _ h1 hd m md =>
      exact ⟨y, C, dx, q, _, i, .int n, rfl, .inr ⟨h1, hd⟩, S.sc, hq, by rw [List.getElem?_map, hn]; rfl, (k.step e1).now w1 (.int n) hz⟩)
/-- a method of such an instance -/
structure Mg (P : Program) (w : World) (K : PySem.W.Frag) (mg : Str → Option Value) (base : Heap) (C : Addr) (m : Str) (k n : Nat) (c : Con) : Prop where
  sc : SCls K C
  ex : ∃ (f : Addr) (fd : FuncData) (ps : List Str), FnOk P w K mg base CX0 k f fd ps (spD K n c) ∧ Meth K C m f ∧ Binds K fd ps []
theorem we_gmeth {m : Str} {n : Nat} {c : Con} {pl : Sem Bool} (F : Mg X.prog X.w X.K X.mg X.base C m k n c) (hr : Room k X.A) (h : WE X ρ M o fun d M1 => ∃ ns, d = .fig C ns ∧ WA X ρ M1 (e :: es) fun ds M2 => (D.fig C ns :: ds).length = n ∧ c (.fig C ns :: ds) M2 Φ)
    (hst : starEach (e :: es) X.env = (false, eval e X.env) :: starEach es X.env := by rfl) (hpl : (backTo pos (starEach es X.env)).any (·.1) = false := by rfl)
    (ht : eval (.Call (.Attribute o m apos) (e :: es) [] pos) X.env = (do
      let ov ← eval o X.env
      standAt apos.atName
      let (f, first) ← holding [ov] (getMethod ov m pl)
      callWith pos f first (backTo pos (starEach (e :: es) X.env)) (backToKw pos (keywordEach [] X.env))) := by rfl) : WE X ρ M (.Call (.Attribute o m apos) (e :: es) [] pos) Φ := .mk fun {Z} σ H Q en w k => by
  obtain ⟨f, fd, ps, F', hm, hb⟩ := F.ex
  refine eOf (pe_methSl (pl := pl) (E := E0) pe_sem F.sc hm (F'.raw hb .nil) hr pass0 pa_sem hst hpl ht) (h.run σ H _ en w fun v d H1 M1 e1 w1 r1 hz => ?_)
  obtain ⟨ns, rfl, hz⟩ := hz
  cases r1 with
  | @fig y _ dx _ h1 hd md1 md2 =>
    refine ⟨y, dx, _, rfl, .inr ⟨h1, hd⟩, hz.run σ H1 _ (en.mono e1) w1 fun vs ds H2 M2 e2 w2 r2 hy => ?_⟩
    show spD X.K n c ((V.ref y :: vs) ++ []) H2 Q E0
    rw [List.append_nil]
    exact ⟨.fig C ns :: ds, M2, Z, Φ, hy.1, .cons (Rep.mono e2 (.fig h1 hd md1 md2)) r2, w2, hy.2, k.step (e1.trans e2)⟩
theorem we_maxL (hm : X.mg "max" = none) (h : WE X ρ M e fun d M1 => ∃ ns : List Int, LstOf M1 d (ns.map D.int) ∧ 0 < ns.length ∧ ∀ m, m ∈ ns → (∀ y, y ∈ ns → y ≤ m) → Φ (.int m) M1) (hc : X.calm = true := by rfl) (hg : Gl X "max" := by rfl)
    (he : starEach [e] X.env = (false, eval e X.env) :: starEach [] X.env := by rfl) (hpl : (backTo pos (starEach [] X.env)).any (·.1) = false := by rfl) : WE X ρ M (.Call (.Name "max" p) [e] [] pos) Φ :=
  we_callB (cr_max hc) hm (by decide +kernel) (wa_cons (h.imp fun d M1 hz => wa_nil fun Z vs H Q w rr k => by
    obtain ⟨ns, hl, h0, hz⟩ := hz
    cases rr with
    | cons r1 r2 =>
      cases r2
      obtain ⟨q, us, rfl, hq, rs⟩ := r1.asLst w hl
      obtain rfl := rs.ints
      exact ⟨q, ns, rfl, hq, h0, fun m h1 h2 => k.now w (.int m) (hz m h1 h2)⟩) he) hg (he := he) (hpl := hpl)
theorem we_minL (hm : X.mg "min" = none) (h : WE X ρ M e fun d M1 => ∃ ns : List Int, LstOf M1 d (ns.map D.int) ∧ 0 < ns.length ∧ ∀ m, m ∈ ns → (∀ y, y ∈ ns → m ≤ y) → Φ (.int m) M1) (hc : X.calm = true := by rfl) (hg : Gl X "min" := by rfl)
    (he : starEach [e] X.env = (false, eval e X.env) :: starEach [] X.env := by rfl) (hpl : (backTo pos (starEach [] X.env)).any (·.1) = false := by rfl) : WE X ρ M (.Call (.Name "min" p) [e] [] pos) Φ :=
  we_callB (cr_min hc) hm (by decide +kernel) (wa_cons (h.imp fun d M1 hz => wa_nil fun Z vs H Q w rr k => by
    obtain ⟨ns, hl, h0, hz⟩ := hz
    cases rr with
    | cons r1 r2 =>
      cases r2
      obtain ⟨q, us, rfl, hq, rs⟩ := r1.asLst w hl
      obtain rfl := rs.ints
      exact ⟨q, ns, rfl, hq, h0, fun m h1 h2 => k.now w (.int m) (hz m h1 h2)⟩) he) hg (he := he) (hpl := hpl)
end
end DL
namespace HK
open PySem PySem.Spec PyProof.Rows L2 DL He
theorem propB_ok {K : PySem.W.Frag} {C m : Str} (h : propB K (C, m) = true) : PropOf K (ga K C) m (ma K (ga K C) m) (pgA C m K) := by
  obtain ⟨h1, h2⟩ := Bool.and_eq_true_iff.mp h
  obtain ⟨h3, h4⟩ := Bool.and_eq_true_iff.mp h2
  obtain ⟨h5, h6⟩ := Bool.and_eq_true_iff.mp h4
  refine ⟨eqO_ok h1, eqO_ok h3, of_decide_eq_true h5, ?_⟩
  unfold pgA
  cases q : PySem.W.recIn K (ma K (ga K C) m) "property" with
  | none => rw [q] at h6; cases h6
  | some l =>
    rw [q] at h6
    cases l with
    | nil => cases h6
    | cons v r =>
      cases v with
      | ref g => exact ⟨r, rfl⟩
      | _ => cases h6
theorem obsG_eq {n : Nat} {ns : List Str} {S : Sp} {g : Addr → Option Obj} {s : Shared} (h : ∀ a, g a = s.heap.get? a) : obsG n ns S g = (hook n ns S).obs s := by
  have e : g = s.heap.get? := funext h
  rw [e] <;> rfl
section
variable {S : Sp} {w : World} {K : PySem.W.Frag}
theorem Says.txs (c : Says S w K) {x : Str} {zs : List Str} (h : (x, zs) ∈ S.tx) : ∀ M Z H, Rep K M Z H (.ref (ga K x)) (.tup (zs.map D.str)) := by
  have b := Bool.and_eq_true_iff.mp (Bool.and_eq_true_iff.mp (Bool.and_eq_true_iff.mp (congrArg (fun z : Al => z.1) c)).2).2
  obtain ⟨v, rv, hr⟩ := Dt.rep (List.all_eq_true.mp (Bool.and_eq_true_iff.mp (Bool.and_eq_true_iff.mp (Bool.and_eq_true_iff.mp b.2).2).2).2 _ h)
  have e : v = .ref (ga K x) := by
    cases v with
    | ref a =>
      have : Value.ref (ga K x) = Value.ref a := rv
      cases this; rfl
    | _ => first | (obtain ⟨t, e⟩ := rv; cases e) | cases rv
  intro M Z H
  have := hr M Z H
  rw [e] at this
  exact this
end
def Sp.app (S T : Sp) : Sp := ⟨S.fa ++ T.fa, S.dd ++ T.dd, S.pr ++ T.pr, S.ta ++ T.ta, S.sl ++ T.sl, S.eq ++ T.eq, S.tx ++ T.tx⟩
def Sp.lo (S : Sp) (a b : Nat) : Sp := ⟨S.fa.take a, S.dd.take b, S.pr, S.ta, S.sl, S.eq, S.tx⟩
def Sp.hi (S : Sp) (a b : Nat) : Sp := ⟨S.fa.drop a, S.dd.drop b, [], [], [], [], []⟩
theorem Sp.cut (S : Sp) (a b : Nat) : (S.lo a b).app (S.hi a b) = S := by
  obtain ⟨fa, dd, pr, ta, sl, eq, tx⟩ := S
  unfold Sp.app Sp.lo Sp.hi
  simp only [List.take_append_drop, List.append_nil]
end HK
namespace PL
open PySem SX TL
def opn (s : Bool) : Nat := if s then 123 else 91
def sgn (s : Bool) : Nat := if s then 42 else 43
def sep (s : Bool) : List Nat := [32, sgn s, 32]
mutual
def txt : T → List Nat
  | .one => [49]
  | .name x => x
  | .cop s n t => opn s :: (numL n ++ 32 :: (txt t ++ [cls s]))
  | .row s ts => 40 :: (joinL (sep s) (txts ts) ++ [41])
def txts : List T → List (List Nat)
  | [] => []
  | t :: ts => txt t :: txts ts
end
theorem txts_map : ∀ ts : List T, txts ts = ts.map txt
  | [] => rfl
  | t :: ts => by rw [txts, txts_map ts, List.map_cons]
def letter (c : Nat) : Bool := decide (97 ≤ c) && decide (c ≤ 122)
mutual
/-- a plan as the texts allow it -/
def Good : T → Prop
  | .one => True
  | .name x => x ≠ [] ∧ x.length ≤ 8 ∧ ∀ c ∈ x, letter c = true
  | .cop _ n t => 2 ≤ n ∧ n ≤ 10 ^ 30 ∧ Good t
  | .row _ ts => 2 ≤ ts.length ∧ Goods ts
def Goods : List T → Prop
  | [] => True
  | t :: ts => Good t ∧ Goods ts
end
theorem goods_all : ∀ {ts : List T}, Goods ts ↔ ∀ t ∈ ts, Good t
  | [] => by simp [Goods]
  | t :: ts => by simp [Goods, goods_all (ts := ts)]
mutual
/-- nobody is unknown -/
def Told : T → Prop
  | .one => True
  | .name _ => False
  | .cop _ _ t => Told t
  | .row _ ts => Tolds ts
def Tolds : List T → Prop
  | [] => True
  | t :: ts => Told t ∧ Tolds ts
end
theorem tolds_all : ∀ {ts : List T}, Tolds ts ↔ ∀ t ∈ ts, Told t
  | [] => by simp [Tolds]
  | t :: ts => by simp [Tolds, tolds_all (ts := ts)]
theorem hts_le : ∀ {ts : List T} {t : T}, t ∈ ts → ht t ≤ hts ts
  | u :: ts, t, h => by
    rcases List.mem_cons.mp h with rfl | h
    · exact Nat.le_max_left _ _
    · exact Nat.le_trans (hts_le h) (Nat.le_max_right _ _)
theorem dep_app : ∀ p q : List Nat, dep (p ++ q) = dep p + dep q
  | [], q => by simp [dep]
  | c :: p, q => by rw [List.cons_append, dep, dep, dep_app p q]; omega
/-- no bracket is closed too much -/
def nn (d : Int) : List Nat → Prop
  | [] => True
  | c :: r => 0 ≤ d + wgt c ∧ nn (d + wgt c) r
theorem nn_app : ∀ (d : Int) (p q : List Nat), nn d p → nn (d + dep p) q → nn d (p ++ q)
  | d, [], q, _, h => by simpa [dep] using h
  | d, c :: p, q, h1, h2 => ⟨h1.1, nn_app _ p q h1.2 (by rw [dep] at h2; rw [show d + wgt c + dep p = d + (wgt c + dep p) by omega]; exact h2)⟩
/-- .. and no blank stands outside of brackets -/
def qu (d : Int) : List Nat → Prop
  | [] => True
  | c :: r => 0 ≤ d + wgt c ∧ (d + wgt c ≠ 0 ∨ c ≠ 32) ∧ qu (d + wgt c) r
theorem qu_app : ∀ (d : Int) (p q : List Nat), qu d p → qu (d + dep p) q → qu d (p ++ q)
  | d, [], q, _, h => by simpa [dep] using h
  | d, c :: p, q, h1, h2 => ⟨h1.1, h1.2.1, qu_app _ p q h1.2.2 (by rw [dep] at h2; rw [show d + wgt c + dep p = d + (wgt c + dep p) by omega]; exact h2)⟩
theorem qu_nn : ∀ (d : Int) (p : List Nat), qu d p → nn d p
  | _, [], _ => trivial
  | d, c :: p, h => ⟨h.1, qu_nn _ p h.2.2⟩
theorem nn_qu : ∀ (d : Int) (p : List Nat), nn d p → qu (d + 1) p
  | _, [], _ => trivial
  | d, c :: p, h => ⟨by have := h.1; omega, .inl (by have := h.1; omega), by have := nn_qu _ p h.2; rw [show d + 1 + wgt c = d + wgt c + 1 by omega]; exact this⟩
theorem wgt0 {c : Nat} (h : c ≠ 40 ∧ c ≠ 91 ∧ c ≠ 123 ∧ c ≠ 41 ∧ c ≠ 93 ∧ c ≠ 125) : wgt c = 0 := by
  unfold wgt
  rw [if_neg (by omega), if_neg (by omega)]; rfl
theorem plain_dep : ∀ {p : List Nat}, (∀ c ∈ p, wgt c = 0) → dep p = 0
  | [], _ => rfl
  | c :: p, h => by rw [dep, h c List.mem_cons_self, plain_dep fun x hx => h x (List.mem_cons_of_mem _ hx)]; rfl
theorem plain_nn : ∀ {d : Int} {p : List Nat}, 0 ≤ d → (∀ c ∈ p, wgt c = 0) → nn d p
  | _, [], _, _ => trivial
  | d, c :: p, h0, h => by
    have e := h c List.mem_cons_self
    refine ⟨by rw [e]; omega, ?_⟩
    rw [e, Int.add_zero]
    exact plain_nn h0 fun x hx => h x (List.mem_cons_of_mem _ hx)
theorem plain_qu : ∀ {d : Int} {p : List Nat}, 0 ≤ d → (∀ c ∈ p, wgt c = 0 ∧ c ≠ 32) → qu d p
  | _, [], _, _ => trivial
  | d, c :: p, h0, h => by
    obtain ⟨e, e2⟩ := h c List.mem_cons_self
    refine ⟨by rw [e]; omega, .inr e2, ?_⟩
    rw [e, Int.add_zero]
    exact plain_qu h0 fun x hx => h x (List.mem_cons_of_mem _ hx)
/-- o p c, brackets around -/
theorem around_ok {o c : Nat} {p : List Nat} (ho : wgt o = 1 ∧ o ≠ 32) (hc : wgt c = -1 ∧ c ≠ 32) (hp : nn 0 p) (hd : dep p = 0) : dep (o :: (p ++ [c])) = 0 ∧ qu 0 (o :: (p ++ [c])) := by
  have e1 : dep (p ++ [c]) = -1 := by rw [dep_app, hd, dep, dep, hc.1]; rfl
  refine ⟨by rw [dep, ho.1, e1]; rfl, by rw [ho.1]; decide, .inr ho.2, ?_⟩
  rw [ho.1]
  refine qu_app _ _ _ (nn_qu 0 p hp) ⟨?_, .inr hc.2, trivial⟩
  rw [hd, hc.1]; decide
theorem wgt_opn (s : Bool) : wgt (opn s) = 1 ∧ opn s ≠ 32 := by cases s <;> decide
theorem wgt_cls (s : Bool) : wgt (cls s) = -1 ∧ cls s ≠ 32 := by cases s <;> decide
theorem wgt_num {n c : Nat} (h : c ∈ numL n) : wgt c = 0 ∧ c ≠ 32 := by
  have q := numL_digits n c h
  exact ⟨wgt0 (by omega), by omega⟩
theorem wgt_letter {c : Nat} (h : letter c = true) : wgt c = 0 ∧ c ≠ 32 := by
  simp [letter] at h
  exact ⟨wgt0 (by omega), by omega⟩
theorem sep_ok (s : Bool) : dep (sep s) = 0 ∧ nn 0 (sep s) := by cases s <;> (unfold nn dep sep sgn; simp [wgt, nn, dep])
theorem join_ok (s : Bool) : ∀ {ps : List (List Nat)}, (∀ p ∈ ps, dep p = 0 ∧ nn 0 p) → dep (joinL (sep s) ps) = 0 ∧ nn 0 (joinL (sep s) ps)
  | [], _ => ⟨rfl, trivial⟩
  | [p], h => h p List.mem_cons_self
  | p :: q :: r, h => by
    obtain ⟨h1, h2⟩ := h p List.mem_cons_self
    obtain ⟨i1, i2⟩ := join_ok s (ps := q :: r) fun x hx => h x (List.mem_cons_of_mem _ hx)
    obtain ⟨s1, s2⟩ := sep_ok s
    refine ⟨?_, ?_⟩
    · rw [joinL, dep_app, dep_app, h1, s1, i1]; rfl
    · rw [joinL]
      refine nn_app _ _ _ h2 ?_
      rw [h1]
      refine nn_app _ _ _ s2 ?_
      rw [s1]; exact i2
mutual
theorem txt_ok : ∀ {t : T}, Good t → dep (txt t) = 0 ∧ qu 0 (txt t)
  | .one, _ => by simp [txt, dep, qu, wgt]
  | .name x, h => by
    obtain ⟨h0, h1, h2⟩ := h
    rw [txt]
    exact ⟨plain_dep fun c hc => (wgt_letter (h2 c hc)).1, plain_qu (by decide) fun c hc => wgt_letter (h2 c hc)⟩
  | .cop s n t, h => by
    obtain ⟨h1, h2, h3⟩ := h
    obtain ⟨e1, e2⟩ := txt_ok h3
    rw [txt, show numL n ++ 32 :: (txt t ++ [cls s]) = (numL n ++ 32 :: txt t) ++ [cls s] by simp]
    have d0 : dep (numL n) = 0 := plain_dep fun c hc => (wgt_num hc).1
    refine around_ok (wgt_opn s) (wgt_cls s) (nn_app _ _ _ (plain_nn (by decide) fun c hc => (wgt_num hc).1) ?_) ?_
    · rw [d0]
      exact ⟨by decide, qu_nn _ _ e2⟩
    · rw [dep_app, d0, dep, e1]; decide
  | .row s ts, h => by
    rw [txt]
    obtain ⟨j1, j2⟩ := join_ok s (ps := txts ts) fun p hp => by
      obtain ⟨q1, q2⟩ := txts_ok h.2 p hp
      exact ⟨q1, qu_nn _ _ q2⟩
    exact around_ok (by decide) (by decide) j2 j1
theorem txts_ok : ∀ {ts : List T}, Goods ts → ∀ p ∈ txts ts, dep p = 0 ∧ qu 0 p
  | [], _, p, hp => by simp [txts] at hp
  | t :: ts, h, p, hp => by
    rw [txts] at hp
    rcases List.mem_cons.mp hp with rfl | hp
    · exact txt_ok h.1
    · exact txts_ok h.2 p hp
end
/-- the first sign -/
theorem txt_head {t : T} (h : Good t) : ∃ c r, txt t = c :: r ∧ c ≠ 32 ∧ c ≠ 43 ∧ c ≠ 42 := by
  cases t with
  | one => exact ⟨49, [], by rw [txt], by decide, by decide, by decide⟩
  | name x =>
    obtain ⟨h0, h1, h2⟩ := h
    cases x with
    | nil => exact absurd rfl h0
    | cons c r =>
      have q := h2 c List.mem_cons_self
      simp [letter] at q
      exact ⟨c, r, by rw [txt], by omega, by omega, by omega⟩
  | cop s n t => exact ⟨opn s, _, by rw [txt], by cases s <;> decide, by cases s <;> decide, by cases s <;> decide⟩
  | row s ts => exact ⟨40, _, by rw [txt], by decide, by decide, by decide⟩
theorem G_qu {L : List Nat} (s : Nat) (S : List Nat) (hs : s = 32) : ∀ (p R : List Nat) (i : Nat) (d : Int) (b : Nat) (f : List (List Nat)), qu d p → G L (s :: S) (p ++ R) i d b f = G L (s :: S) R (i + p.length) (d + dep p) b f
  | [], R, i, d, b, f, _ => by simp [dep]
  | c :: p, R, i, d, b, f, h => by
    obtain ⟨h1, h2, h3⟩ := h
    rw [List.cons_append, G, if_neg, G_qu s S hs p R _ _ b f h3, dep, List.length_cons]
    · congr 1 <;> omega
    · rintro ⟨z, y⟩
      rcases h2 with h2 | h2
      · exact h2 z
      · rw [pre_of_head _ _ (by rw [hs]; exact h2)] at y
        cases y
theorem sep_len (s : Bool) : (sep s).length = 3 := rfl
theorem pre_other {x y z : Nat} {r : List Nat} (s : Bool) (h : y ≠ sgn s) : pre (sep s) (x :: y :: r) = false := by
  cases e : pre (sep s) (x :: y :: r) with
  | false => rfl
  | true =>
    unfold pre sep at e
    simp at e
    exact absurd e.2.1 h
/-- the sign itself: one more part -/
theorem G_sep {L : List Nat} (s : Bool) {c : Nat} {R : List Nat} (i b : Nat) (f : List (List Nat)) (hc : c ≠ 43 ∧ c ≠ 42) : G L (sep s) (sep s ++ (c :: R)) i 0 b f = G L (sep s) (c :: R) (i + 3) 0 (i + 3) (f ++ [(L.take i).drop b]) := by
  have w1 : wgt 32 = 0 := by decide
  have w2 : wgt (sgn s) = 0 := by cases s <;> decide
  show G L (sep s) (32 :: sgn s :: 32 :: c :: R) i 0 b f = _
  rw [G, if_pos ⟨by rw [w1]; rfl, by rw [show 32 :: sgn s :: 32 :: c :: R = sep s ++ (c :: R) from rfl]; exact pre_self _ _⟩]
  rw [G, if_neg (by rintro ⟨_, y⟩; rw [show sep s = 32 :: [sgn s, 32] from rfl, pre_of_head _ _ (by cases s <;> decide)] at y; cases y)]
  rw [G, if_neg (by rintro ⟨_, y⟩; rw [pre_other (z := 0) s (by cases s <;> simp [sgn, hc.1, hc.2])] at y; cases y)]
  rw [w1, w2]; rfl
/-- another sign: nothing -/
theorem G_no {L : List Nat} (s : Bool) {c : Nat} {R : List Nat} (i b : Nat) (f : List (List Nat)) (hc : c ≠ 43 ∧ c ≠ 42) : G L (sep s) (sep (!s) ++ (c :: R)) i 0 b f = G L (sep s) (c :: R) (i + 3) 0 b f := by
  have w1 : wgt 32 = 0 := by decide
  have w2 : wgt (sgn (!s)) = 0 := by cases s <;> decide
  show G L (sep s) (32 :: sgn (!s) :: 32 :: c :: R) i 0 b f = _
  rw [G, if_neg (by rintro ⟨_, y⟩; rw [pre_other (z := 0) s (by cases s <;> decide)] at y; cases y)]
  rw [G, if_neg (by rintro ⟨_, y⟩; rw [show sep s = 32 :: [sgn s, 32] from rfl, pre_of_head _ _ (by cases s <;> decide)] at y; cases y)]
  rw [G, if_neg (by rintro ⟨_, y⟩; rw [pre_other (z := 0) s (by cases s <;> simp [sgn, hc.1, hc.2])] at y; cases y)]
  rw [w1, w2]; rfl
theorem join_head {s : Bool} : ∀ {t : T} {ts : List T}, Good t → ∃ c r, joinL (sep s) (txts (t :: ts)) = c :: r ∧ c ≠ 43 ∧ c ≠ 42
  | t, [], h => by
    obtain ⟨c, r, e, h1, h2, h3⟩ := txt_head h
    exact ⟨c, r, by rw [txts, txts, joinL, e], h2, h3⟩
  | t, u :: ts, h => by
    obtain ⟨c, r, e, h1, h2, h3⟩ := txt_head h
    exact ⟨c, _, by rw [txts, txts, joinL, e, List.cons_append], h2, h3⟩
theorem G_join {s : Bool} : ∀ {ts : List T} {L P : List Nat} (f : List (List Nat)), ts ≠ [] → Goods ts → L = P ++ joinL (sep s) (txts ts) → G L (sep s) (joinL (sep s) (txts ts)) P.length 0 P.length f = f ++ txts ts
  | [], _, _, _, h, _, _ => absurd rfl h
  | [t], L, P, f, _, h, e => by
    obtain ⟨d0, q0⟩ := txt_ok h.1
    rw [txts, txts, joinL] at e ⊢
    have := G_qu (L := L) 32 [sgn s, 32] rfl (txt t) [] P.length 0 P.length f q0
    rw [List.append_nil] at this
    rw [show sep s = 32 :: [sgn s, 32] from rfl, this, G, e, List.drop_left]
  | t :: u :: ts, L, P, f, _, h, e => by
    obtain ⟨d0, q0⟩ := txt_ok h.1
    obtain ⟨c, R, ej, c1, c2⟩ := join_head (s := s) (ts := ts) h.2.1
    have e1 : joinL (sep s) (txts (t :: u :: ts)) = txt t ++ (sep s ++ joinL (sep s) (txts (u :: ts))) := by rw [txts, txts, joinL]
    rw [e1] at e ⊢
    rw [show G L (sep s) = G L (32 :: [sgn s, 32]) from rfl, G_qu 32 [sgn s, 32] rfl _ _ _ _ _ _ q0, d0, ej]
    show G L (sep s) (sep s ++ (c :: R)) (P.length + (txt t).length) (0 + 0) P.length f = _
    rw [show (0 : Int) + 0 = 0 from rfl, G_sep s _ _ _ ⟨c1, c2⟩]
    have e2 : (L.take (P.length + (txt t).length)).drop P.length = txt t := by
      rw [e, ← List.length_append, ← List.append_assoc, List.take_left, List.drop_left]
    have ih := G_join (s := s) (ts := u :: ts) (L := L) (P := P ++ txt t ++ sep s) (f ++ [txt t]) (by simp) h.2 (by rw [e]; simp)
    rw [ej] at ih
    rw [e2]
    have el : (P ++ txt t ++ sep s).length = P.length + (txt t).length + 3 := by simp [sep_len]; omega
    rw [el] at ih
    rw [ih, show txts (t :: u :: ts) = txt t :: txts (u :: ts) by rw [txts]]
    simp
theorem G_none {s : Bool} : ∀ {ts : List T} {L : List Nat} (i b : Nat) (f : List (List Nat)), ts ≠ [] → Goods ts → G L (sep s) (joinL (sep (!s)) (txts ts)) i 0 b f = f ++ [L.drop b]
  | [], _, _, _, _, h, _ => absurd rfl h
  | [t], L, i, b, f, _, h => by
    obtain ⟨d0, q0⟩ := txt_ok h.1
    rw [txts, txts, joinL]
    have := G_qu (L := L) 32 [sgn s, 32] rfl (txt t) [] i 0 b f q0
    rw [List.append_nil] at this
    rw [show sep s = 32 :: [sgn s, 32] from rfl, this, G]
  | t :: u :: ts, L, i, b, f, _, h => by
    obtain ⟨d0, q0⟩ := txt_ok h.1
    obtain ⟨c, R, ej, c1, c2⟩ := join_head (s := !s) (ts := ts) h.2.1
    have e1 : joinL (sep (!s)) (txts (t :: u :: ts)) = txt t ++ (sep (!s) ++ joinL (sep (!s)) (txts (u :: ts))) := by rw [txts, txts, joinL]
    rw [e1, show G L (sep s) = G L (32 :: [sgn s, 32]) from rfl, G_qu 32 [sgn s, 32] rfl _ _ _ _ _ _ q0, d0, ej]
    show G L (sep s) (sep (!s) ++ (c :: R)) (i + (txt t).length) (0 + 0) b f = _
    rw [show (0 : Int) + 0 = 0 from rfl, G_no s _ _ _ ⟨c1, c2⟩, ← ej]
    exact G_none _ _ _ (by simp) h.2
/-- what parted tells -/
def parts (L S : List Nat) : List (List Nat) := G L S L 0 0 0 []
theorem parts_join {s : Bool} {ts : List T} (h0 : ts ≠ []) (h : Goods ts) : parts (joinL (sep s) (txts ts)) (sep s) = txts ts := G_join (P := []) [] h0 h rfl
theorem parts_none {s : Bool} {ts : List T} (h0 : ts ≠ []) (h : Goods ts) : parts (joinL (sep (!s)) (txts ts)) (sep s) = [joinL (sep (!s)) (txts ts)] := G_none 0 0 [] h0 h
theorem numL_head : ∀ {n : Nat}, 1 ≤ n → ∃ c r, numL n = c :: r ∧ c ≠ 48 := by
  intro n
  induction n using Nat.strongRecOn with
  | _ n ih =>
    intro h
    by_cases hn : n < 10
    · exact ⟨48 + n, [], numL_lt hn, by omega⟩
    · obtain ⟨c, r, e, hc⟩ := ih (n / 10) (by omega) (by omega)
      exact ⟨c, r ++ [48 + n % 10], by rw [numL_step (by omega), e, List.cons_append], hc⟩
end PL
namespace W
open PySem PySem.Spec PyProof.Rows L2 DL SX PL
abbrev tS (l : List Nat) : D := .str (S l)
def signsD : List (Str × D) := [("beside", .str " + "), ("introduced", .str " * ")]
def aroundD : List (Str × D) := [("beside", .tup [.str "[", .str "]"]), ("introduced", .tup [.str "{", .str "}"])]
def turnedD : List (Str × D) := [("+", .str "*"), ("*", .str "+"), ("[", .str "{"), ("{", .str "["), ("]", .str "}"), ("}", .str "]")]
/-- what is known of the module behind the top -/
structure Fx (w : World) (K : PySem.W.Frag) (mg : Str → Option Value) : Prop where
  bn : ∀ x, x ∈ bns → mg x = none
  gONE : ∃ t, mg "ONE" = some (.str "one" t)
  gNAME : ∃ t, mg "NAME" = some (.str "name" t)
  gBESIDE : ∃ t, mg "BESIDE" = some (.str "beside" t)
  gINTRODUCED : ∃ t, mg "INTRODUCED" = some (.str "introduced" t)
  gBLANK : ∃ t, mg "BLANK" = some (.str " " t)
  gLETTERS : ∃ t, mg "LETTERS" = some (.str "abcdefghijklmnopqrstuvwxyz" t)
  gFIGURES : ∃ t, mg "FIGURES" = some (.str "0123456789" t)
  gMOST_LETTERS : ∃ t, mg "MOST_LETTERS" = some (.int 8 t)
  gPERSON : ∃ t, mg "PERSON" = some (.str "1" t)
  gLEAST_MANY : ∃ t, mg "LEAST_MANY" = some (.int 2 t)
  gMOST_MANY : ∃ t, mg "MOST_MANY" = some (.int (10 ^ 30) t)
  gMOST_NAMES : ∃ t, mg "MOST_NAMES" = some (.int 3 t)
  gMOST_DEPTH : ∃ t, mg "MOST_DEPTH" = some (.int 60 t)
  gSIGNS : ∃ a kvs, mg "SIGNS" = some (.ref a) ∧ WrD K w a kvs ∧ ∀ M Z H, RepF K M Z H kvs signsD
  gAROUND : ∃ a kvs, mg "AROUND" = some (.ref a) ∧ WrD K w a kvs ∧ ∀ M Z H, RepF K M Z H kvs aroundD
  gTURNED : ∃ a kvs, mg "TURNED" = some (.ref a) ∧ WrD K w a kvs ∧ ∀ M Z H, RepF K M Z H kvs turnedD
section
variable {P : Program} {w : World} {K : PySem.W.Frag} {mg : Str → Option Value} {base : Heap}
def cIsInt : Con := fun ds M Φ => ∃ i l h, ds = [.int i, .int l, .int h] ∧ Φ (.bl (decide (l ≤ i) && decide (i ≤ h))) M
theorem ok_is_integer (F : Fx w K mg) : BodyOk P w K mg base "is_integer" s_is_integer ["value", "low", "high"] 3 0 cIsInt := by
  intro f cdv A outer s H E hr ds M Φ hl hc
  obtain ⟨i, l, h, rfl, hc⟩ := hc
  refine wss_cons (ws_if (wt_ww (ww_or (wt_not (wt_val (we_isi (F.bn _ (by decide +kernel)) (we_var 0 rfl (we_bty (F.bn _ (by decide +kernel)) rfl ⟨_, _, true, rfl, rfl, (by intro C h; cases h), rfl, _, rfl, ?_⟩))))))))
  refine ww_or1 (wt_val (we_isi (F.bn _ (by decide +kernel)) (we_var 0 rfl (we_bty (F.bn _ (by decide +kernel)) rfl ⟨_, _, false, rfl, rfl, (by intro C h; cases h), rfl, _, rfl, ?_⟩))))
  refine wss_nil (wss_cons (ws_ret (we_and (we_or (we_isN (we_var 1 rfl ⟨_, rfl, we_one (we_leI (we_var 1 rfl (we_var 0 rfl ⟨_, _, rfl, rfl, _, rfl, ?_⟩)))⟩))))))
  refine ite_dec (fun h1 => ?_) fun h1 => ?_
  · refine we_one (we_or (we_isN (we_var 2 rfl ⟨_, rfl, we_one (we_leI (we_var 0 rfl (we_var 2 rfl ⟨_, _, rfl, rfl, Lets.of ?_⟩)))⟩)))
    rw [decide_eq_true h1] at hc; exact hc
  · rw [decide_eq_false h1] at hc; exact Lets.of hc
def isNameL (l : List Nat) : Bool := decide (1 ≤ l.length) && (decide (l.length ≤ 8) && l.all letter)
theorem letters_eq : ("abcdefghijklmnopqrstuvwxyz" : Str) = S ((List.range 26).map (97 + ·)) := by decide +kernel
theorem figures_eq : ("0123456789" : Str) = S ((List.range 10).map (48 + ·)) := by decide +kernel
theorem mem_letters (c : Nat) : decide (c ∈ ("abcdefghijklmnopqrstuvwxyz" : Str).cps.toList) = letter c := by
  rw [letters_eq]
  unfold letter
  rw [← Bool.decide_and]
  apply decide_eq_decide.mpr
  show c ∈ (List.range 26).map (97 + ·) ↔ _
  simp only [List.mem_map, List.mem_range]
  constructor
  · rintro ⟨a, h, rfl⟩; omega
  · rintro ⟨h1, h2⟩; exact ⟨c - 97, by omega, by omega⟩
def figure (c : Nat) : Bool := decide (48 ≤ c) && decide (c ≤ 57)
theorem mem_figures (c : Nat) : decide (c ∈ ("0123456789" : Str).cps.toList) = figure c := by
  rw [figures_eq]
  unfold figure
  rw [← Bool.decide_and]
  apply decide_eq_decide.mpr
  show c ∈ (List.range 10).map (48 + ·) ↔ _
  simp only [List.mem_map, List.mem_range]
  constructor
  · rintro ⟨a, h, rfl⟩; omega
  · rintro ⟨h1, h2⟩; exact ⟨c - 48, by omega, by omega⟩
theorem signs_S (l : List Nat) : DL.signs (S l) = l.map fun c => D.str ⟨#[c]⟩ := rfl
theorem signs_get {l : List Nat} {i : Nat} {x : D} (h : (DL.signs (S l))[i]? = some x) : ∃ c, l[i]? = some c ∧ x = .str ⟨#[c]⟩ := by
  rw [signs_S, List.getElem?_map] at h
  obtain ⟨c, h1, rfl⟩ := Option.map_eq_some_iff.mp h
  exact ⟨c, h1, rfl⟩
theorem take_snoc {α : Type} {l : List α} {i : Nat} {c : α} (h : l[i]? = some c) : l.take (i + 1) = l.take i ++ [c] := by
  rw [List.take_add_one, h]; rfl
def cIsName : Con := fun ds M Φ => ∃ l, ds = [tS l] ∧ l.length ≤ 1000000 ∧ Φ (.bl (isNameL l)) M
theorem ok_is_name (F : Fx w K mg) : BodyOk P w K mg base "is_name" s_is_name ["value", "letter"] 1 0 cIsName := by
  intro f cdv A outer s H E hr ds M Φ hl hc
  obtain ⟨l, rfl, hl, hc⟩ := hc
  have nd : (["value", "letter"] : List Str).Nodup := by decide +kernel
  refine wss_cons (ws_if (wt_ww (ww_or (wt_not (wt_val (we_isi (F.bn _ (by decide +kernel)) (we_var 0 rfl (we_bty (F.bn _ (by decide +kernel)) rfl ⟨_, _, true, rfl, rfl, (by intro C h; cases h), rfl, _, rfl, ?_⟩))))))))
  refine ww_or1 (wt_not (wt_chainI (we_int (we_len (F.bn _ (by decide +kernel)) (we_var 0 rfl ⟨_, lenS (by rw [S_len, sizeLine_eq]; omega), _, _, rfl, rfl, ?_⟩)))))
  have e0 : ((S l).length : Int) = (l.length : Int) := by rw [S_len]
  have ret : ∀ c, isNameL l = c → Φ (.bl c) M := fun c e => e ▸ hc
  refine ite_dec (fun h1 => we_gint F.gMOST_LETTERS ⟨_, rfl, ?_⟩) fun h1 => ?_
  · by_cases h2 : ((S l).length : Int) ≤ 8
    · rw [decide_eq_true h2]
      refine wss_nil (wss_cons (ws_ret (we_all (F.bn _ (by decide +kernel)) (we_lc nd (blkOk_by (N := ["value", "letter"]) (sc := defScope s_is_name) (own := [("letter", 1)]) (by decide +kernel)) (fun _ _ _ _ _ => pg_name (i := 1) nd rfl (Or.inl rfl)) (gt_name (by decide)) (fun _ _ _ _ _ => pts_nil) tk_nil
        (wi_str (we_var 0 rfl ⟨_, rfl, ?_⟩))))))
      refine ⟨by rw [signs_S, List.length_map, sizeLine_eq]; omega, fun i acc M' => M' = M ∧ acc = (l.take i).map fun c => .bl (letter c), ⟨rfl, rfl⟩, ?_, ?_⟩
      · rintro i x acc M' hx ⟨rfl, rfl⟩ 
        obtain ⟨c, hc1, rfl⟩ := signs_get hx
        intro s1 H1 C cl fp
        refine we_inC (we_var 1 rfl (we_gstr F.gLETTERS ⟨c, _, rfl, rfl, rfl, ?_⟩))
        rw [mem_letters, take_snoc hc1, List.map_append]; rfl
      · rintro acc M' ⟨rfl, rfl⟩
        rw [signs_S, List.length_map, List.take_length]
        refine ⟨l.map letter, by rw [List.map_map]; rfl, Lets.of (ret _ ?_)⟩
        unfold isNameL
        rw [decide_eq_true (show 1 ≤ l.length by omega), decide_eq_true (show l.length ≤ 8 by omega)]
        simp
    · rw [decide_eq_false h2]
      refine wss_cons (ws_ret (we_bl (Lets.of (ret _ ?_))))
      unfold isNameL
      rw [decide_eq_false (show ¬ l.length ≤ 8 by omega)]; simp
  · refine wss_cons (ws_ret (we_bl (Lets.of (ret _ ?_))))
    unfold isNameL
    rw [decide_eq_false (show ¬ 1 ≤ l.length by omega)]; rfl
end
end W
namespace W
open PySem PySem.Spec PyProof.Rows L2 DL SX PL
section
variable {P : Program} {w : World} {K : PySem.W.Frag} {mg : Str → Option Value} {base : Heap}
theorem num_len {n : Nat} (h : n ≤ 10 ^ 30) : (TL.numL n).length ≤ 31 := TL.numL_len (by decide) (Nat.lt_of_le_of_lt h (by decide))
theorem num_int (n : Nat) (h : n ≤ 10 ^ 30) : PySem.intText? (S (TL.numL n)) = some (n : Int) := by
  rw [← num_S]
  exact TL.int_num (by have := num_len h; omega)
def cNumberIn : Con := fun ds M Φ => ∃ n : Nat, ds = [tS (TL.numL n)] ∧ 1 ≤ n ∧ n ≤ 10 ^ 30 ∧ Φ (.int n) M
theorem ok_number_in (F : Fx w K mg) : BodyOk P w K mg base "number_in" s_number_in ["text", "figure"] 1 0 cNumberIn := by
  intro f cdv A outer s H E hr ds M Φ hl hc
  obtain ⟨n, rfl, n1, n2, hc⟩ := hc
  have nd : (["text", "figure"] : List Str).Nodup := by decide +kernel
  obtain ⟨c, r, ec, c48⟩ := numL_head n1
  have hlen := num_len n2
  have e1 : decide (S (TL.numL n) = ("" : Str)) = false := decide_eq_false fun h => by
    have := S_inj (h.trans (show ("" : Str) = S [] by decide +kernel))
    rw [ec] at this; cases this
  have e2 : decide (S (TL.numL n) = ("0" : Str)) = false := decide_eq_false fun h => by
    have := S_inj (h.trans (show ("0" : Str) = S [48] by decide +kernel))
    rw [ec] at this; injection this with h1 _; exact c48 h1
  refine wss_cons (ws_if (wt_ww (ww_or (wt_eqS (we_var 0 rfl (we_str ⟨_, rfl, ?_⟩))))))
  rw [e1]
  refine ww_or1 (wt_not (wt_val (we_all (F.bn _ (by decide +kernel)) (we_lc nd (blkOk_by (N := ["text", "figure"]) (sc := defScope s_number_in) (own := [("figure", 1)]) (by decide +kernel)) (fun _ _ _ _ _ => pg_name (i := 1) nd rfl (Or.inl rfl)) (gt_name (by decide)) (fun _ _ _ _ _ => pts_nil) tk_nil
        (wi_str (we_var 0 rfl ⟨_, rfl, ?_⟩))))))
  refine ⟨by rw [signs_S, List.length_map, sizeLine_eq]; omega, fun i acc M' => M' = M ∧ acc = ((TL.numL n).take i).map fun c => .bl (figure c), ⟨rfl, rfl⟩, ?_, ?_⟩
  · rintro i x acc M' hx ⟨rfl, rfl⟩
    obtain ⟨c, hc1, rfl⟩ := signs_get hx
    intro s1 H1 C cl fp
    refine we_inC (we_var 1 rfl (we_gstr F.gFIGURES ⟨c, _, rfl, rfl, rfl, ?_⟩))
    rw [mem_figures, take_snoc hc1, List.map_append]; rfl
  · rintro acc M' ⟨rfl, rfl⟩
    rw [signs_S, List.length_map, List.take_length]
    refine ⟨(TL.numL n).map figure, by rw [List.map_map]; rfl, _, rfl, ?_⟩
    have e3 : ((TL.numL n).map figure).all id = true := by
      rw [List.all_map]
      refine List.all_eq_true.mpr fun c hc => ?_
      have q := TL.numL_digits n c hc
      show (decide (48 ≤ c) && decide (c ≤ 57)) = true
      rw [decide_eq_true q.1, decide_eq_true q.2]; rfl
    rw [e3]
    refine wss_nil (wss_cons (ws_ret (we_if (wt_ww (ww_or (wt_eqS (we_var 0 rfl (we_str ⟨_, rfl, ?_⟩))))))))
    rw [e2]
    refine ww_or1 (wt_neS (we_ix (we_var 0 rfl (we_int ⟨0, _, rfl, .inr (.inr ⟨_, c, rfl, by rw [S_len, sizeLine_eq]; omega, by show atI (TL.numL n) 0 = some c; rw [ec]; exact atI_nat (j := 0) rfl, rfl⟩), we_str ⟨_, rfl, ?_⟩⟩))))
    have e4 : decide ((⟨#[c]⟩ : Str) = ("0" : Str)) = false := decide_eq_false fun h => by
      have := S_inj (a := [c]) (h.trans (show ("0" : Str) = S [48] by decide +kernel))
      injection this with h1 _; exact c48 h1
    rw [e4]
    exact we_intS (F.bn _ (by decide +kernel)) (we_var 0 rfl ⟨_, _, rfl, num_int n n2, by rw [S_len]; omega, Lets.of hc⟩)
theorem cut_bi (l : List Nat) (b i : Nat) (h : i ≤ l.length) : cutS (S l) (some (b : Int)) (some (i : Int)) = S ((l.take i).drop b) := by
  unfold cutS
  rw [S_len, HT.sIx_nat, HT.sIx_nat, Nat.min_eq_left h]
  show S ((l.drop (min b l.length)).take (i - min b l.length)) = _
  congr 1
  by_cases hb : b ≤ l.length
  · rw [Nat.min_eq_left hb, List.drop_take]
  · rw [Nat.min_eq_right (by omega), List.drop_length, List.drop_eq_nil_of_le (by rw [List.length_take]; omega)]; simp
theorem cut_b (l : List Nat) (b : Nat) : cutS (S l) (some (b : Int)) none = S (l.drop b) := by
  unfold cutS
  rw [S_len, HT.sIx_nat, HT.sIx_none]
  show S ((l.drop (min b l.length)).take (l.length - min b l.length)) = _
  congr 1
  by_cases hb : b ≤ l.length
  · rw [Nat.min_eq_left hb]; exact List.take_of_length_le (by rw [List.length_drop]; omega)
  · rw [Nat.min_eq_right (by omega), List.drop_length, List.drop_eq_nil_of_le (by omega)]; simp
theorem starts_at {l s : List Nat} (hs : s ≠ []) (i : Nat) (hi : i ≤ l.length) : Txt.startswith3 (S l) (S s) (i : Int) = TL.pre s (l.drop i) := by
  have e : PySem.fromIndex (S l).length (i : Int) = i := by
    rw [S_len]; unfold PySem.fromIndex; rw [if_neg (by omega)]; omega
  unfold Txt.startswith3
  rw [e]
  have q := TL.at_iff (x := S l) (y := S s) hs i
  cases hp : TL.pre s (l.drop i) with
  | true =>
    obtain ⟨h1, h2⟩ := q.mpr hp
    rw [h2, decide_eq_true h1]; rfl
  | false =>
    cases h1 : decide (i + (S s).length ≤ (S l).length) with
    | false => rfl
    | true =>
      cases h2 : Builtin.Str.subAt (S l) (S s) i with
      | false => rfl
      | true =>
        have := q.mp ⟨of_decide_eq_true h1, h2⟩
        rw [show TL.pre (TL.tl (S s)) ((TL.tl (S l)).drop i) = TL.pre s (l.drop i) from rfl, hp] at this
        cases this
theorem enumS_get {l : List Nat} {i : Nat} {x : D} (h : (enumS (S l))[i]? = some x) : ∃ c, l[i]? = some c ∧ x = .tup [.int (i : Nat), .str ⟨#[c]⟩] := by
  unfold enumS at h
  rw [List.getElem?_map] at h
  obtain ⟨j, h1, rfl⟩ := Option.map_eq_some_iff.mp h
  obtain ⟨h2, rfl⟩ := List.getElem?_eq_some_iff.mp h1
  rw [List.length_range] at h2
  rw [List.getElem_range]
  have h3 : i < l.length := by simpa using h2
  refine ⟨l[i], List.getElem?_eq_getElem h3, ?_⟩
  have : (S l).cps.getD i 0 = l[i] := by simp [Array.getD, h3]
  rw [this]
theorem enumS_len (l : List Nat) : (enumS (S l)).length = l.length := by simp [enumS]
theorem opens (c : Nat) : decide (c ∈ ("([{" : Str).cps.toList) = decide (c = 40 ∨ c = 91 ∨ c = 123) := by
  rw [show ("([{" : Str) = S [40, 91, 123] by decide +kernel]
  simp
theorem closes (c : Nat) : decide (c ∈ (")]}" : Str).cps.toList) = decide (c = 41 ∨ c = 93 ∨ c = 125) := by
  rw [show (")]}" : Str) = S [41, 93, 125] by decide +kernel]
  simp
theorem wgt_code (d : Int) (c : Nat) : d + (if decide (c ∈ ("([{" : Str).cps.toList) = true then 1 else 0) - (if decide (c ∈ (")]}" : Str).cps.toList) = true then 1 else 0) = d + wgt c := by
  rw [opens, closes]
  unfold wgt
  simp only [decide_eq_true_eq]
  omega
def cParted : Con := fun ds M Φ => ∃ l b, ds = [tS l, tS (sep b)] ∧ l.length ≤ 1000000 ∧ Φ (.lst ((parts l (sep b)).map tS)) M
theorem les_new {M : Mp} {p : Addr} {o : MO} (h : M p = none) : Les M (mset M p o) := fun b => by
  by_cases e : b = p
  · rw [e]; exact .inr h
  · rw [mset_ne e]; exact .inl rfl
theorem ok_parted (F : Fx w K mg) : BodyOk P w K mg base "parted" s_parted ["text", "sign", "found", "depth", "begin", "at", "letter"] 2 0 cParted := by
  intro f cdv A outer s H E hr ds M Φ hl hc
  obtain ⟨l, sb, rfl, hl, hc⟩ := hc
  have nd : (["text", "sign", "found", "depth", "begin", "at", "letter"] : List Str).Nodup := by decide +kernel
  refine wss_cons (ws_set 2 nd (we_lstM (wa_nil ⟨by decide, fun p hp => ?_⟩)))
  refine wss_cons (ws_set 3 nd (we_int ?_))
  refine wss_cons (ws_set 4 nd (we_int ?_))
  refine wss_cons (ws_for PassesOwn.never (wi_enumS (F.bn _ (by decide +kernel)) (we_var 0 rfl ⟨_, rfl, ?_⟩)))
  refine ⟨fun i ρ' M' => ∃ o1 o2 d b fo, ρ' = [some (tS l), some (tS (sep sb)), some (.ob p), some (.int d), some (.int (b : Nat)), o1, o2] ∧ M' = mset M p (.lst (fo.map tS)) ∧ fo.length ≤ i ∧ G l (sep sb) (l.drop i) i d b fo = parts l (sep sb), ?_, ?_, ?_⟩
  · exact ⟨none, none, 0, 0, [], rfl, rfl, Nat.le_refl _, rfl⟩
  · rintro i x ρ' M' hx ⟨o1, o2, d, b, fo, rfl, rfl, hf, hG⟩
    obtain ⟨c, hc1, rfl⟩ := enumS_get hx
    have hi : i < l.length := (List.getElem?_eq_some_iff.mp hc1).1
    refine wg_tup ⟨rfl, rfl, wgs_cons (wg_name 5 (wgs_cons (wg_name 6 (wgs_nil ⟨rfl, ?_⟩) nd)) nd)⟩
    refine wss_cons (ws_set 3 nd (we_subI (we_addI (we_var 3 rfl (we_intN (F.bn _ (by decide +kernel)) (we_inC (we_var 6 rfl (we_str ⟨c, _, rfl, rfl, .inr ⟨_, rfl, _, _, rfl, rfl, ?_⟩⟩))))))))
    refine we_intN (F.bn _ (by decide +kernel)) (we_inC (we_var 6 rfl (we_str ⟨c, _, rfl, rfl, .inr ⟨_, rfl, _, _, rfl, rfl, ?_⟩⟩)))
    rw [wgt_code]
    have ed : l.drop i = c :: l.drop (i + 1) := by
      rw [List.drop_eq_getElem_cons hi]
      rw [List.getElem?_eq_getElem hi] at hc1; cases hc1; rfl
    rw [ed, PL.G] at hG
    refine wss_cons (ws_if (wt_ww (ww_and (wt_eqS (we_var 3 rfl (we_int ⟨_, rfl, ?_⟩))))))
    by_cases h0 : d + wgt c = 0
    · rw [decide_eq_true h0]
      refine ww_and1 (wt_val (we_startsAt (we_var 0 rfl ⟨_, rfl, we_var 1 rfl (we_var 5 rfl ⟨_, _, rfl, rfl, _, rfl, ?_⟩)⟩)))
      rw [starts_at (by simp [sep]) i (by omega), ed]
      cases hp2 : TL.pre (sep sb) (c :: l.drop (i + 1)) with
      | true =>
        rw [if_pos ⟨h0, hp2⟩] at hG
        refine wss_cons (ws_expr (we_append (we_var 2 rfl ⟨p, _, rfl, mset_same, we_slice (we_var 0 rfl (we_var 4 rfl ⟨_, rfl, we_var 5 rfl ⟨_, rfl, _, .inr (.inr ⟨_, rfl, by rw [S_len, sizeLine_eq]; omega, rfl⟩), _, mset_same, by rw [List.length_map, sizeLine_eq]; omega, ?_⟩⟩))⟩)))
        rw [mset_mset, cut_bi _ _ _ (by omega)]
        refine wss_cons (ws_set 4 nd (we_addI (we_var 5 rfl (we_len (F.bn _ (by decide +kernel)) (we_var 1 rfl ⟨_, lenS (by rw [S_len, sizeLine_eq, sep_len]; omega), _, _, rfl, rfl, wss_nil (wss_nil ?_)⟩)))))
        refine ⟨some (.int (i : Nat)), some (.str ⟨#[c]⟩), d + wgt c, i + 3, fo ++ [(l.take i).drop b], ?_, ?_, by rw [List.length_append, List.length_singleton]; omega, hG⟩
        · rw [S_len, sep_len]
          rfl
        · rw [List.map_append]; rfl
      | false =>
        rw [if_neg (by rintro ⟨_, y⟩; rw [hp2] at y; cases y)] at hG
        exact wss_nil (wss_nil ⟨_, _, _, b, fo, rfl, rfl, by omega, hG⟩)
    · rw [decide_eq_false h0]
      rw [if_neg (fun y => h0 y.1)] at hG
      exact wss_nil (wss_nil ⟨_, _, _, b, fo, rfl, rfl, by omega, hG⟩)
  · rintro ρ' M' ⟨o1, o2, d, b, fo, rfl, rfl, hf, hG⟩
    rw [enumS_len] at hG hf
    rw [List.drop_length, PL.G] at hG
    refine wss_cons (ws_ret (we_lst (wa_star (we_var 2 rfl ⟨_, .inl mset_same, wa_cons (we_slice (we_var 0 rfl (we_var 4 rfl ⟨_, rfl, _, .inr (.inr ⟨_, rfl, by rw [S_len, sizeLine_eq]; omega, rfl⟩), wa_nil fun ys ey => ⟨?_, ?_⟩⟩)))⟩))))
    · rw [ey, List.length_append, List.length_map, List.length_singleton, sizeLine_eq]; omega
    · refine ⟨_, M, les_new hp, .same _, ?_⟩
      rw [ey, cut_b]
      rw [← hG, List.map_append] at hc
      exact hc
end
end W
namespace W
open PySem PySem.Spec PyProof.Rows L2 DL SX PL
section
variable {P : Program} {w : World} {K : PySem.W.Frag} {mg : Str → Option Value} {base : Heap}
theorem le30 {n : Nat} (h : n ≤ 10 ^ 30) : (n : Int) ≤ 10 ^ 30 := by
  have e : ((10 ^ 30 : Nat) : Int) = 10 ^ 30 := by decide +kernel
  omega
theorem sz1 : 1 ≤ sizeLine := by decide
theorem sz2 : 2 ≤ sizeLine := by decide
theorem sz3 : 3 ≤ sizeLine := by decide
def wrd (b : Bool) : Str := if b then "introduced" else "beside"
theorem starts1 (c d : Nat) (r : List Nat) : Txt.startswith (S (c :: r)) (S [d]) = decide (c = d) := by
  have q := TL.at_iff (x := S (c :: r)) (y := S [d]) (by simp [TL.tl]) 0
  have e : TL.pre (TL.tl (S [d])) ((TL.tl (S (c :: r))).drop 0) = decide (c = d) := by
    show TL.pre [d] (c :: r) = _
    unfold TL.pre
    simp
    rfl
  rw [e] at q
  unfold Txt.startswith
  rw [S_len, S_len]
  rw [show decide (0 + [d].length ≤ (c :: r).length) = true from decide_eq_true (by simp), Bool.true_and]
  by_cases h : c = d
  · rw [decide_eq_true h] at q ⊢
    exact (q.mpr rfl).2
  · rw [decide_eq_false h] at q ⊢
    cases hs : Builtin.Str.subAt (S (c :: r)) (S [d]) 0 with
    | false => rfl
    | true => exact absurd (q.mp ⟨by rw [S_len, S_len]; simp, hs⟩) (by decide)
theorem ends1 (c d : Nat) (r : List Nat) : Txt.endswith (S (r ++ [c])) (S [d]) = decide (c = d) := by
  have q := TL.at_iff (x := S (r ++ [c])) (y := S [d]) (by simp [TL.tl]) r.length
  have e : TL.pre (TL.tl (S [d])) ((TL.tl (S (r ++ [c]))).drop r.length) = decide (c = d) := by
    show TL.pre [d] ((r ++ [c]).drop r.length) = _
    rw [List.drop_left]
    unfold TL.pre
    simp
    rfl
  rw [e] at q
  unfold Txt.endswith
  have el : (S (r ++ [c])).length - (S [d]).length = r.length := by rw [S_len, S_len]; simp
  rw [el, S_len, S_len]
  rw [show decide (0 + [d].length ≤ (r ++ [c]).length) = true from decide_eq_true (by simp), Bool.true_and]
  by_cases h : c = d
  · rw [decide_eq_true h] at q ⊢
    exact (q.mpr rfl).2
  · rw [decide_eq_false h] at q ⊢
    cases hs : Builtin.Str.subAt (S (r ++ [c])) (S [d]) r.length with
    | false => rfl
    | true => exact absurd (q.mp ⟨by rw [S_len, S_len]; simp, hs⟩) (by decide)
theorem cut_mid (o c : Nat) (m : List Nat) : cutS (S (o :: (m ++ [c]))) (some 1) (some (-1)) = S m := by
  unfold cutS
  rw [S_len, show (some (1 : Int)) = some ((1 : Nat) : Int) from rfl, HT.sIx_nat]
  have e1 : (o :: (m ++ [c])).length = m.length + 2 := by simp
  have e2 : HT.sIx (o :: (m ++ [c])).length (o :: (m ++ [c])).length (some (-1)) = m.length + 1 := by
    rw [e1]; simp only [HT.sIx]; rw [if_pos (by decide)]; omega
  rw [e2, e1, Nat.min_eq_left (by omega)]
  show S (((m ++ [c]).drop 0).take (m.length + 1 - 1)) = _
  rw [List.drop_zero, Nat.add_sub_cancel, List.take_left]
theorem br_S (b : Bool) : (S [opn b], S [cls b]) = (if b then (("{" : Str), ("}" : Str)) else (("[" : Str), ("]" : Str))) := by
  cases b <;> decide +kernel
theorem around_get {i : Nat} {x : D} (h : (gitems aroundD)[i]? = some x) : ∃ b : Bool, x = .tup [.str (wrd b), .tup [tS [opn b], tS [cls b]]] ∧ i = if b then 1 else 0 := by
  match i, h with
  | 0, h =>
    cases h
    refine ⟨false, ?_, rfl⟩
    have := br_S false
    injection this with h1 h2
    rw [tS, tS, h1, h2]; rfl
  | 1, h =>
    cases h
    refine ⟨true, ?_, rfl⟩
    have := br_S true
    injection this with h1 h2
    rw [tS, tS, h1, h2]; rfl
  | n + 2, h => simp [gitems, aroundD] at h
theorem sep_S (b : Bool) : S (sep b) = (if b then (" * " : Str) else (" + " : Str)) := by cases b <;> decide +kernel
theorem signs_of {i : Nat} {x : D} (h : (gitems signsD)[i]? = some x) : ∃ b : Bool, x = .tup [.str (wrd b), tS (sep b)] ∧ i = if b then 1 else 0 := by
  match i, h with
  | 0, h => cases h; refine ⟨false, ?_, rfl⟩; rw [tS, sep_S]; rfl
  | 1, h => cases h; refine ⟨true, ?_, rfl⟩; rw [tS, sep_S]; rfl
  | n + 2, h => simp [gitems, signsD] at h
/-- the first sign, and no bracket of copies -/
theorem txt_no {t : T} (h : Good t) (hn : ∀ s n u, t ≠ .cop s n u) : ∃ c r, txt t = c :: r ∧ ∀ b, c ≠ opn b := by
  cases t with
  | one => exact ⟨49, [], by rw [txt], fun b => by cases b <;> decide⟩
  | name x =>
    obtain ⟨h0, h1, h2⟩ := h
    cases x with
    | nil => exact absurd rfl h0
    | cons c r =>
      have q := h2 c List.mem_cons_self
      simp [letter] at q
      exact ⟨c, r, by rw [txt], fun b => by cases b <;> simp [opn] <;> omega⟩
  | cop s n u => exact absurd rfl (hn s n u)
  | row s ts => exact ⟨40, _, by rw [txt], fun b => by cases b <;> decide⟩
def copR : T → D
  | .cop s n t => .tup [.str (wrd s), .lst [.tup [.int (n : Nat), tS (txt t)]]]
  | _ => .non
theorem opn_inj {a b : Bool} : decide (opn a = opn b) = decide (a = b) := by cases a <;> cases b <;> decide
def cCopiesIn : Con := fun ds M Φ => ∃ t, ds = [tS (txt t)] ∧ Good t ∧ (txt t).length ≤ 1000000 ∧ Φ (copR t) M
theorem ok_copies_in (F : Fx w K mg) (Fn : Fc P w K mg base "number_in" [] 1 1 cNumberIn) : BodyOk P w K mg base "copies_in" s_copies_in ["text", "word", "head", "end", "number", "blank", "rest", "many"] 1 1 cCopiesIn := by
  intro f cdv A outer s H E hr ds M Φ hl hc
  obtain ⟨t, rfl, hg, hl, hc⟩ := hc
  have nd : (["text", "word", "head", "end", "number", "blank", "rest", "many"] : List Str).Nodup := by decide +kernel
  obtain ⟨a, kvs, h1, h2, h3⟩ := F.gAROUND
  refine wss_cons (ws_for PassesOwn.never (wi_gitems h1 h2 h3 ?_))
  refine ⟨fun i ρ' M' => ∃ o1 o2 o3 o4 o5 o6 o7, ρ' = [some (tS (txt t)), o1, o2, o3, o4, o5, o6, o7] ∧ M' = M ∧ ∀ s n u, t = .cop s n u → i ≤ if s then 1 else 0, ?_, ?_, ?_⟩
  · exact ⟨none, none, none, none, none, none, none, rfl, rfl, fun s n u _ => Nat.zero_le _⟩
  · rintro i x ρ' M' hx ⟨o1, o2, o3, o4, o5, o6, o7, rfl, rfl, hi⟩
    obtain ⟨b, rfl, rfl⟩ := around_get hx
    refine wg_tup ⟨rfl, rfl, wgs_cons (wg_name 1 (wgs_cons (wg_tup ⟨rfl, rfl, wgs_cons (wg_name 2 (wgs_cons (wg_name 3 (wgs_nil ⟨rfl, wgs_nil ⟨rfl, ?_⟩⟩) nd)) nd)⟩)) nd)⟩
    refine wss_cons (ws_if (wt_ww (ww_and (wt_val (we_startswith (we_var 0 rfl ⟨_, rfl, we_var 2 rfl ⟨_, rfl, _, rfl, ?_⟩⟩))))))
    by_cases hcop : ∃ s n u, t = .cop s n u
    · obtain ⟨s, n, u, rfl⟩ := hcop
      obtain ⟨n1, n2, hu⟩ := hg
      have et : txt (.cop s n u) = opn s :: ((TL.numL n ++ 32 :: txt u) ++ [cls s]) := by rw [txt]; simp
      have hl2 : (TL.numL n).length + (txt u).length + 3 ≤ 1000000 := by rw [et] at hl; simp at hl; omega
      rw [et, starts1, opn_inj]
      by_cases hs : s = b
      · subst hs
        rw [decide_eq_true rfl]
        refine ww_and1 (wt_val (we_endswith (we_var 0 (by rfl) ⟨_, rfl, we_var 3 rfl ⟨_, rfl, _, rfl, ?_⟩⟩)))
        rw [show opn s :: ((TL.numL n ++ 32 :: txt u) ++ [cls s]) = (opn s :: (TL.numL n ++ 32 :: txt u)) ++ [cls s] from rfl, ends1, decide_eq_true rfl]
        refine wss_cons (ws_asg (we_partition (we_slice (we_var 0 rfl (we_int ⟨1, rfl, we_negI (we_int ⟨1, rfl, _, rfl, _, .inr (.inr ⟨_, rfl, ?_, rfl⟩), _, rfl, we_gstr F.gBLANK ⟨_, rfl, ?_, ?_, ?_⟩⟩)⟩)))))
        · rw [S_len, sizeLine_eq]; simp; omega
        · decide +kernel
        · refine Nat.le_trans (cutS_length _ _ _) ?_
          rw [S_len, sizeLine_eq]; simp; omega
        · rw [show (opn s :: (TL.numL n ++ 32 :: txt u)) ++ [cls s] = opn s :: ((TL.numL n ++ 32 :: txt u) ++ [cls s]) from rfl, cut_mid, show (" " : Str) = S [32] by decide +kernel]
          have hp : Txt.partition (S (TL.numL n ++ 32 :: txt u)) (S [32]) = (S (TL.numL n), S [32], S (txt u)) :=
            partition_some (by simp) (par_head (c := 32) (sep := []) (p := TL.numL n) (txt u) (TL.numL_free (by omega)))
          rw [hp]
          refine wg_tup ⟨rfl, rfl, wgs_cons (wg_name 4 (wgs_cons (wg_name 5 (wgs_cons (wg_name 6 (wgs_nil ⟨rfl, ?_⟩) nd)) nd)) nd)⟩
          refine wss_cons (ws_set 7 nd (we_call Fn (hr.mono (by decide)) (wa_cons (we_var 4 rfl (wa_nil ⟨rfl, n, rfl, by omega, n2, ?_⟩)))))
          refine wss_cons (ws_if (wt_ww (ww_and (wt_notN (we_var 7 rfl ?_)))))
          refine ww_and1 (wt_chainI (we_gint F.gLEAST_MANY (we_var 7 rfl ⟨_, _, rfl, rfl, ?_⟩)))
          rw [decide_eq_true (show (2 : Int) ≤ (n : Int) by omega)]
          refine we_gint F.gMOST_MANY ⟨_, rfl, ?_⟩
          rw [decide_eq_true (le30 n2)]
          refine wss_cons (ws_ret (we_tup (wa_cons (we_var 1 rfl (wa_cons (we_lst (wa_cons (we_tup (wa_cons (we_var 7 rfl (wa_cons (we_var 6 rfl (wa_nil ⟨sz2, wa_nil ⟨sz1, wa_nil ⟨sz2, Lets.of hc⟩⟩⟩)))))))))))))
      · rw [decide_eq_false hs]
        refine wss_nil (wss_nil ⟨_, _, _, _, _, _, _, rfl, rfl, fun s' n' u' e => ?_⟩)
        cases e
        have := hi s n u rfl
        cases s <;> cases b <;> simp_all
    · obtain ⟨c, r, et, hno⟩ := txt_no hg fun s n u e => hcop ⟨s, n, u, e⟩
      rw [et, starts1, decide_eq_false (hno b)]
      exact wss_nil (wss_nil ⟨_, _, _, _, _, _, _, by rw [← et]; rfl, rfl, fun s' n' u' e => absurd ⟨s', n', u', e⟩ hcop⟩)
  · rintro ρ' M' ⟨o1, o2, o3, o4, o5, o6, o7, rfl, rfl, hi⟩
    refine wss_cons (ws_ret (we_non (Lets.of ?_)))
    cases t with
    | cop s n u =>
      have := hi s n u rfl
      cases s <;> simp [gitems, aroundD] at this
    | one => exact hc
    | name x => exact hc
    | row s ts => exact hc
def rowR (s : Bool) (ts : List T) : D := .tup [.str (wrd s), .lst (ts.map fun t => .tup [.int 1, tS (txt t)])]
theorem txts_len (ts : List T) : (txts ts).length = ts.length := by rw [txts_map, List.length_map]
theorem joins_len (s : Bool) : ∀ (ps : List (List Nat)), ps.length ≤ (TL.joinL (sep s) ps).length + 1
  | [] => Nat.zero_le _
  | [p] => by simp
  | p :: q :: r => by
    have ih := joins_len s (q :: r)
    rw [TL.joinL, List.length_append, List.length_append, sep_len]
    simp only [List.length_cons] at ih ⊢
    omega
theorem row_txt (s : Bool) (ts : List T) : txt (.row s ts) = 40 :: (TL.joinL (sep s) (txts ts) ++ [41]) := by rw [txt]
theorem row_len (s : Bool) (ts : List T) : (txt (.row s ts)).length = (TL.joinL (sep s) (txts ts)).length + 2 := by rw [row_txt]; simp
def cRowIn : Con := fun ds M Φ => ∃ s ts, ds = [tS (txt (.row s ts))] ∧ Good (.row s ts) ∧ (txt (.row s ts)).length ≤ 1000000 ∧ Φ (rowR s ts) M
theorem ok_row_in (F : Fx w K mg) (Fp : Fc P w K mg base "parted" [] 1 2 cParted) : BodyOk P w K mg base "row_in" s_row_in ["text", "word", "sign", "parts", "part"] 1 1 cRowIn := by
  intro f cdv A outer s H E hr ds M Φ hl hc
  obtain ⟨b, ts, rfl, ⟨hg1, hg⟩, hl, hc⟩ := hc
  have nd : (["text", "word", "sign", "parts", "part"] : List Str).Nodup := by decide +kernel
  obtain ⟨a, kvs, h1, h2, h3⟩ := F.gSIGNS
  have hz := row_len b ts
  have hn : ts ≠ [] := by rintro rfl; simp at hg1
  have hj := joins_len b (txts ts)
  rw [txts_len] at hj
  refine wss_cons (ws_if (wt_ww (ww_or (wt_not (wt_val (we_startswith (we_var 0 rfl ⟨_, rfl, we_str ⟨_, rfl, _, rfl, ?_⟩⟩)))))))
  have e1 : Txt.startswith (S (txt (.row b ts))) ("(" : Str) = true := by rw [row_txt, show ("(" : Str) = S [40] by decide +kernel, starts1, decide_eq_true rfl]
  have e2 : Txt.endswith (S (txt (.row b ts))) (")" : Str) = true := by rw [row_txt, show (")" : Str) = S [41] by decide +kernel, show 40 :: (TL.joinL (sep b) (txts ts) ++ [41]) = (40 :: TL.joinL (sep b) (txts ts)) ++ [41] from rfl, ends1, decide_eq_true rfl]
  rw [e1]
  refine ww_or1 (wt_not (wt_val (we_endswith (we_var 0 rfl ⟨_, rfl, we_str ⟨_, rfl, _, rfl, ?_⟩⟩))))
  rw [e2]
  refine wss_nil (wss_cons (ws_for PassesOwn.never (wi_gitems h1 h2 h3 ?_)))
  refine ⟨fun i ρ' M' => ∃ o1 o2 o3 o4, ρ' = [some (tS (txt (.row b ts))), o1, o2, o3, o4] ∧ M' = M ∧ i ≤ if b then 1 else 0, ?_, ?_, ?_⟩
  · exact ⟨none, none, none, none, rfl, rfl, Nat.zero_le _⟩
  · rintro i x ρ' M' hx ⟨o1, o2, o3, o4, rfl, rfl, hi⟩
    obtain ⟨c, rfl, rfl⟩ := signs_of hx
    refine wg_tup ⟨rfl, rfl, wgs_cons (wg_name 1 (wgs_cons (wg_name 2 (wgs_nil ⟨rfl, ?_⟩) nd)) nd)⟩
    refine wss_cons (ws_set 3 nd (we_call Fp (hr.mono (by decide)) (wa_cons (we_slice (we_var 0 rfl (we_int ⟨1, rfl, we_negI (we_int ⟨1, rfl, _, rfl, _, .inr (.inr ⟨_, rfl, ?_, rfl⟩), wa_cons (we_var 2 rfl (wa_nil ⟨rfl, TL.joinL (sep b) (txts ts), c, ?_, ?_, ?_⟩))⟩)⟩))))))
    · rw [S_len, sizeLine_eq]; omega
    · rw [row_txt, cut_mid]; rfl
    · omega
    · by_cases hbc : b = c
      · subst hbc
        rw [parts_join hn hg]
        refine wss_cons (ws_if (wt_gtI (we_len (F.bn _ (by decide +kernel)) (we_var 3 rfl ⟨_, lenL, we_int ⟨_, _, rfl, rfl, ?_⟩⟩))))
        rw [List.length_map, txts_len, decide_eq_true (show (1 : Int) < (ts.length : Int) by omega)]
        refine wss_cons (ws_ret (we_tup (wa_cons (we_var 1 rfl (wa_cons (we_lc nd (blkOk_by (N := ["text", "word", "sign", "parts", "part"]) (sc := defScope s_row_in) (own := [("part", 4)]) (by decide +kernel)) (fun _ _ _ _ _ => pg_name (i := 4) nd rfl (Or.inl rfl)) (gt_name (by decide)) (fun _ _ _ _ _ => pts_nil) tk_nil
          (wi_list (we_var 3 rfl ⟨_, .inl rfl, ?_⟩)))))))) 
        refine ⟨by rw [List.length_map, txts_len, sizeLine_eq]; omega, fun i acc M'' => M'' = M' ∧ acc = (ts.take i).map fun t => .tup [.int 1, tS (txt t)], ⟨rfl, rfl⟩, ?_, ?_⟩
        · rintro i x acc M'' hx ⟨rfl, rfl⟩
          rw [txts_map, List.map_map, List.getElem?_map] at hx
          obtain ⟨t, ht, rfl⟩ := Option.map_eq_some_iff.mp hx
          intro s1 H1 C cl fp
          refine we_tup (wa_cons (we_int (wa_cons (we_var 4 rfl (wa_nil ⟨sz2, rfl, ?_⟩)))))
          rw [take_snoc ht, List.map_append]; rfl
        · rintro acc M'' ⟨rfl, rfl⟩
          rw [List.length_map, txts_len, List.take_length]
          exact wa_nil ⟨sz2, Lets.of hc⟩
      · have hcb : c = !b := by cases b <;> cases c <;> simp_all
        subst hcb
        have := parts_none (s := !b) hn hg
        rw [Bool.not_not] at this
        rw [this]
        refine wss_cons (ws_if (wt_gtI (we_len (F.bn _ (by decide +kernel)) (we_var 3 rfl ⟨_, lenL, we_int ⟨_, _, rfl, rfl, ?_⟩⟩))))
        rw [show decide ((1 : Int) < ((([TL.joinL (sep b) (txts ts)].map tS).length : Nat) : Int)) = false from rfl]
        refine wss_nil (wss_nil ⟨_, _, _, _, rfl, rfl, ?_⟩)
        cases b <;> simp_all
  · rintro ρ' M' ⟨o1, o2, o3, o4, rfl, rfl, hi⟩
    cases b <;> simp [gitems, signsD] at hi
end
end W
namespace PL
open PySem SX TL
/-- how often, what -/
def kids : T → List (Nat × T)
  | .cop _ n t => [(n, t)]
  | .row _ ts => ts.map fun t => (1, t)
  | _ => []
def isCop : T → Bool
  | .cop _ _ _ => true
  | _ => false
mutual
def ppl : T → Nat
  | .one => 1
  | .name _ => 1
  | .cop _ n t => n * ppl t
  | .row _ ts => ppls ts
def ppls : List T → Nat
  | [] => 0
  | t :: ts => ppl t + ppls ts
end
theorem ppls_sum : ∀ ts : List T, ppls ts = (ts.map ppl).sum
  | [] => rfl
  | t :: ts => by rw [ppls, ppls_sum ts, List.map_cons, List.sum_cons]
theorem ppl_kids {t : T} (h : kids t ≠ []) : ppl t = ((kids t).map fun q => q.1 * ppl q.2).sum := by
  cases t with
  | one => simp [kids] at h
  | name x => simp [kids] at h
  | cop s n t => simp [kids, ppl]
  | row s ts =>
    rw [ppl, ppls_sum, kids, List.map_map]
    congr 1
    apply List.map_congr_left
    intro t _
    simp
theorem ppl_none {t : T} (h : kids t = []) (hg : Good t) : ppl t = 1 := by
  cases t with
  | one => rw [ppl]
  | name x => rw [ppl]
  | cop s n t => simp [kids] at h
  | row s ts =>
    have := hg.1
    simp [kids] at h
    subst h
    simp at this
theorem join_len_mem {S : List Nat} : ∀ {ps : List (List Nat)} {p : List Nat}, p ∈ ps → p.length ≤ (joinL S ps).length
  | [q], p, h => by
    have : p = q := by simpa using h
    subst this
    rw [joinL]; exact Nat.le_refl _
  | q :: r :: ps, p, h => by
    rw [joinL, List.length_append, List.length_append]
    rcases List.mem_cons.mp h with rfl | h
    · omega
    · have := join_len_mem (S := S) h
      omega
theorem kids_ok {t : T} {q : Nat × T} (hq : q ∈ kids t) (hg : Good t) : Good q.2 ∧ ht q.2 < ht t ∧ (txt q.2).length < (txt t).length ∧ 1 ≤ q.1 ∧ q.1 ≤ 10 ^ 30 := by
  cases t with
  | one => simp [kids] at hq
  | name x => simp [kids] at hq
  | cop s n t =>
    have : q = (n, t) := by simpa [kids] using hq
    subst this
    obtain ⟨h1, h2, h3⟩ := hg
    refine ⟨h3, by rw [ht]; exact Nat.lt_succ_self _, by rw [txt]; simp; omega, by show 1 ≤ n; omega, h2⟩
  | row s ts =>
    obtain ⟨t, ht', rfl⟩ := List.mem_map.mp (show q ∈ ts.map (fun t => (1, t)) from hq)
    refine ⟨goods_all.mp hg.2 t ht', ?_, ?_, Nat.le_refl _, show 1 ≤ 10 ^ 30 by decide⟩
    · rw [ht]; have := hts_le ht'; show ht t < _; omega
    · rw [txt]
      have : (txt t).length ≤ (joinL (sep s) (txts ts)).length := join_len_mem (by rw [txts_map]; exact List.mem_map_of_mem ht')
      simp; omega
theorem kids_told {t : T} {q : Nat × T} (hq : q ∈ kids t) (hg : Told t) : Told q.2 := by
  cases t with
  | one => simp [kids] at hq
  | name x => simp [kids] at hq
  | cop s n t =>
    have : q = (n, t) := by simpa [kids] using hq
    subst this
    exact hg
  | row s ts =>
    obtain ⟨t, ht', rfl⟩ := List.mem_map.mp (show q ∈ ts.map (fun t => (1, t)) from hq)
    exact tolds_all.mp hg t ht'
theorem numL_lt16 : ∀ n : Nat, n < 16 ^ (numL n).length := by
  intro n
  induction n using Nat.strongRecOn with
  | _ n ih =>
    by_cases hn : n < 10
    · rw [numL_lt hn]; show n < 16 ^ 1; omega
    · have := ih (n / 10) (by omega)
      rw [numL_step (by omega), List.length_append, List.length_singleton, Nat.pow_succ]
      omega
theorem pow16_add {a b m n : Nat} (h1 : a < 16 ^ m) (h2 : b < 16 ^ n) : a + b < 16 ^ (m + n + 1) := by
  have e1 : 16 ^ m ≤ 16 ^ (m + n) := Nat.pow_le_pow_right (by decide) (by omega)
  have e2 : 16 ^ n ≤ 16 ^ (m + n) := Nat.pow_le_pow_right (by decide) (by omega)
  rw [Nat.pow_succ]
  omega
theorem pow16_le {a m n : Nat} (h1 : a < 16 ^ m) (h : m ≤ n) : a < 16 ^ n := Nat.lt_of_lt_of_le h1 (Nat.pow_le_pow_right (by decide) h)
mutual
theorem ppl_lt : ∀ {t : T}, Good t → ppl t < 16 ^ (txt t).length
  | .one, _ => by rw [ppl, txt]; decide
  | .name x, h => by
    rw [ppl, txt]
    have : 0 < x.length := List.length_pos_iff.mpr h.1
    exact pow16_le (m := 1) (by decide) this
  | .cop s n t, h => by
    rw [ppl, txt]
    have h1 := numL_lt16 n
    have h2 := ppl_lt h.2.2
    have h3 : n * ppl t < 16 ^ ((numL n).length + (txt t).length) := by
      rw [Nat.pow_add]
      exact Nat.mul_lt_mul'' h1 h2
    exact pow16_le h3 (by simp; omega)
  | .row s ts, h => by
    rw [ppl, txt]
    exact pow16_le (ppls_lt (s := s) h.2) (by simp; omega)
theorem ppls_lt {s : Bool} : ∀ {ts : List T}, Goods ts → ppls ts < 16 ^ (joinL (sep s) (txts ts)).length
  | [], _ => by rw [ppls]; exact Nat.pow_pos (by decide)
  | [t], h => by rw [ppls, ppls, txts, txts, joinL]; exact ppl_lt h.1
  | t :: u :: ts, h => by
    have h1 := ppl_lt h.1
    have h2 := ppls_lt (s := s) (ts := u :: ts) h.2
    rw [ppls, show txts (t :: u :: ts) = txt t :: txt u :: txts ts by rw [txts, txts], joinL]
    rw [show txts (u :: ts) = txt u :: txts ts by rw [txts]] at h2
    refine pow16_le (pow16_add h1 h2) ?_
    rw [List.length_append, List.length_append, sep_len]; omega
end
mutual
theorem txt_lt : ∀ {t : T}, Good t → ∀ c ∈ txt t, c < 128
  | .one, _, c, hc => by rw [txt] at hc; simp at hc; omega
  | .name x, h, c, hc => by
    rw [txt] at hc
    have q := h.2.2 c hc
    simp [letter] at q; omega
  | .cop s n t, h, c, hc => by
    rw [txt] at hc
    simp at hc
    rcases hc with rfl | hc | rfl | hc | rfl
    · cases s <;> decide
    · have := numL_digits n c hc; omega
    · decide
    · exact txt_lt h.2.2 c hc
    · cases s <;> decide
  | .row s ts, h, c, hc => by
    rw [txt] at hc
    simp at hc
    rcases hc with rfl | hc | rfl
    · decide
    · exact txts_lt (s := s) h.2 c hc
    · decide
theorem txts_lt {s : Bool} : ∀ {ts : List T}, Goods ts → ∀ c ∈ joinL (sep s) (txts ts), c < 128
  | [], _, c, hc => by rw [txts, joinL] at hc; simp at hc
  | [t], h, c, hc => by rw [txts, txts, joinL] at hc; exact txt_lt h.1 c hc
  | t :: u :: ts, h, c, hc => by
    rw [show txts (t :: u :: ts) = txt t :: txt u :: txts ts by rw [txts, txts], joinL] at hc
    rcases List.mem_append.mp hc with hc | hc
    · exact txt_lt h.1 c hc
    · rcases List.mem_append.mp hc with hc | hc
      · cases s <;> (simp [sep, sgn] at hc; omega)
      · exact txts_lt (s := s) (ts := u :: ts) h.2 c (by rw [show txts (u :: ts) = txt u :: txts ts by rw [txts]]; exact hc)
end
theorem log16 {a m : Nat} (h : a < 16 ^ m) : a.log2 ≤ 4 * m := by
  by_cases h0 : a = 0
  · subst h0; simp
  · have e : a < 2 ^ (4 * m) := by rw [Nat.pow_mul]; exact h
    exact Nat.le_of_lt ((Nat.log2_lt h0).mpr e)
end PL
namespace W
open PySem PySem.Spec PyProof.Rows L2 DL SX PL
section
variable {P : Program} {w : World} {K : PySem.W.Frag} {mg : Str → Option Value} {base : Heap}
def wordT : T → Str
  | .one => "one"
  | .name _ => "name"
  | .cop s _ _ => wrd s
  | .row s _ => wrd s
def grpD (t : T) : List D := (kids t).map fun q => .tup [.int (q.1 : Nat), tS (txt q.2)]
def isOne : T → Bool
  | .one => true
  | _ => false
def isNm : T → Bool
  | .name _ => true
  | _ => false
theorem first_no {t : T} (h : Good t) (h1 : isNm t = false) : ∃ c r, txt t = c :: r ∧ letter c = false := by
  cases t with
  | one => exact ⟨49, [], by rw [txt], by decide⟩
  | name x => cases h1
  | cop s n u => exact ⟨opn s, _, by rw [txt], by cases s <;> decide⟩
  | row s ts => exact ⟨40, _, by rw [txt], by decide⟩
theorem isName_txt {t : T} (h : Good t) : isNameL (txt t) = isNm t := by
  cases hn : isNm t with
  | true =>
    cases t with
    | name x =>
      obtain ⟨h0, h1, h2⟩ := h
      rw [txt]
      unfold isNameL
      rw [decide_eq_true (show 1 ≤ x.length from List.length_pos_iff.mpr h0), decide_eq_true h1, List.all_eq_true.mpr h2]; rfl
    | _ => cases hn
  | false =>
    obtain ⟨c, r, e, hc⟩ := first_no h hn
    rw [e]
    unfold isNameL
    rw [List.all_cons, hc]; simp
theorem isOne_txt {t : T} (h : Good t) : decide (S (txt t) = ("1" : Str)) = isOne t := by
  rw [show ("1" : Str) = S [49] by decide +kernel]
  have e : decide (S (txt t) = S [49]) = decide (txt t = [49]) := decide_eq_decide.mpr ⟨S_inj, fun h => by rw [h]⟩
  rw [e]
  cases t with
  | one => rw [txt]; rfl
  | name x =>
    obtain ⟨h0, h1, h2⟩ := h
    rw [txt]
    refine decide_eq_false fun q => ?_
    subst q
    exact absurd (h2 49 (by simp)) (by decide)
  | cop s n u => rw [txt]; refine decide_eq_false fun q => ?_; injection q with q1 _; cases s <;> cases q1
  | row s ts => rw [txt]; refine decide_eq_false fun q => ?_; injection q with q1 _; cases q1
def cGroupsIn : Con := fun ds M Φ => ∃ t, ds = [tS (txt t)] ∧ Good t ∧ (txt t).length ≤ 1000000 ∧ Φ (.tup [.str (wordT t), .lst (grpD t)]) M
theorem ok_groups_in (F : Fx w K mg) (F1 : Fc P w K mg base "is_name" [] 1 1 cIsName) (F2 : Fc P w K mg base "copies_in" [] 2 1 cCopiesIn) (F3 : Fc P w K mg base "row_in" [] 2 1 cRowIn) :
    BodyOk P w K mg base "groups_in" s_groups_in ["text", "found"] 1 2 cGroupsIn := by
  intro f cdv A outer s H E hr ds M Φ hl hc
  obtain ⟨t, rfl, hg, hl, hc⟩ := hc
  have nd : (["text", "found"] : List Str).Nodup := by decide +kernel
  refine wss_cons (ws_if (wt_eqS (we_var 0 rfl (we_gstr F.gPERSON ⟨_, rfl, ?_⟩))))
  rw [isOne_txt hg]
  cases h1 : isOne t with
  | true =>
    cases t with
    | one => exact wss_cons (ws_ret (we_tup (wa_cons (we_gstr F.gONE (wa_cons (we_lst (wa_nil ⟨Nat.zero_le _, wa_nil ⟨sz2, Lets.of hc⟩⟩)))))))
    | _ => cases h1
  | false =>
    refine wss_nil (wss_cons (ws_if (wt_val (we_call F1 (hr.mono (by decide)) (wa_cons (we_var 0 rfl (wa_nil ⟨rfl, _, rfl, hl, _, rfl, ?_⟩)))))))
    rw [isName_txt hg]
    cases h2 : isNm t with
    | true =>
      cases t with
      | name x => exact wss_cons (ws_ret (we_tup (wa_cons (we_gstr F.gNAME (wa_cons (we_lst (wa_nil ⟨Nat.zero_le _, wa_nil ⟨sz2, Lets.of hc⟩⟩)))))))
      | _ => cases h2
    | false =>
      refine wss_nil (wss_cons (ws_set 1 nd (we_call F2 (hr.mono (by decide)) (wa_cons (we_var 0 rfl (wa_nil ⟨rfl, _, rfl, hg, hl, ?_⟩))))))
      refine wss_cons (ws_ret (we_if (wt_isN (we_var 1 rfl ?_))))
      cases t with
      | one => cases h1
      | name x => cases h2
      | cop b n u => exact we_var 1 rfl (Lets.of hc)
      | row b ts =>
        refine we_call F3 (hr.mono (by decide)) (wa_cons (we_var 0 rfl (wa_nil ⟨rfl, _, _, rfl, hg, hl, Lets.of ?_⟩)))
        unfold grpD kids at hc
        rw [List.map_map] at hc
        exact hc
def cPlanText (h : Nat) : Con := fun ds M Φ => ∃ t d, ds = [tS (txt t), .int (d : Nat)] ∧ Good t ∧ (txt t).length ≤ 1000000 ∧ ht t ≤ h ∧ d + ht t ≤ 60 ∧ Φ (.bl true) M
theorem kids_len {t : T} (hg : Good t) : (kids t).length ≤ (txt t).length := by
  cases t with
  | one => simp [kids]
  | name x => simp [kids]
  | cop s n u => rw [txt]; simp [kids]
  | row s ts =>
    have := joins_len s (txts ts)
    rw [txts_len] at this
    rw [row_len]; simp [kids]; omega
theorem ok_is_plan_text (h : Nat) (F : Fx w K mg) (F1 : Fc P w K mg base "groups_in" [] 3 1 cGroupsIn) (F2 : ∀ j, h = j + 1 → Fc P w K mg base "is_plan_text" [] (j + 4) 2 (cPlanText j)) :
    BodyOk P w K mg base "is_plan_text" s_is_plan_text ["text", "depth", "found", "many", "part"] 2 (h + 3) (cPlanText h) := by
  intro f cdv A outer s H E hr ds M Φ hl hc
  obtain ⟨t, d, rfl, hg, hl, hh, hd, hc⟩ := hc
  have nd : (["text", "depth", "found", "many", "part"] : List Str).Nodup := by decide +kernel
  have hk := kids_len hg
  refine wss_cons (ws_set 2 nd (we_if (wt_leI (we_var 1 rfl (we_gint F.gMOST_DEPTH ⟨_, _, rfl, rfl, ?_⟩)))))
  rw [decide_eq_true (show (d : Int) ≤ 60 by omega)]
  refine we_call F1 (hr.mono (by omega)) (wa_cons (we_var 0 rfl (wa_nil ⟨rfl, _, rfl, hg, hl, ?_⟩)))
  refine wss_cons (ws_ret (we_and (we_notN (we_var 2 rfl ⟨_, rfl, ?_⟩))))
  refine we_one (we_all (F.bn _ (by decide +kernel)) (we_lc nd (blkOk_by (N := ["text", "depth", "found", "many", "part"]) (sc := defScope s_is_plan_text) (own := [("many", 3), ("part", 4)]) (by decide +kernel)) (fun _ _ _ _ _ => pg_tup rfl (pgs_cons (pg_name (i := 3) nd rfl (Or.inl rfl)) (pgs_cons (pg_name (i := 4) nd rfl (Or.inl rfl)) pgs_nil)) rfl rfl) (gt_two (by decide) (by decide)) (fun _ _ _ _ _ => pts_nil) tk_nil
    (wi_list (we_ix (we_var 2 rfl (we_int ⟨1, _, rfl, ixT (atI_nat (j := 1) rfl), _, .inl rfl, ?_⟩))))))
  refine ⟨by rw [grpD, List.length_map, sizeLine_eq]; omega, fun i acc M' => M' = M ∧ acc = (List.replicate i true).map D.bl, ⟨rfl, rfl⟩, ?_, ?_⟩
  · rintro i x acc M' hx ⟨rfl, rfl⟩
    rw [grpD, List.getElem?_map] at hx
    obtain ⟨q, hq, rfl⟩ := Option.map_eq_some_iff.mp hx
    obtain ⟨g1, g2, g3, g4, g5⟩ := kids_ok (List.mem_of_getElem? hq) hg
    refine ⟨_, _, rfl, ?_⟩
    intro s1 H1 C cl fp
    obtain ⟨j, rfl⟩ : ∃ j, h = j + 1 := ⟨h - 1, by omega⟩
    refine we_call (F2 j rfl) (hr.mono (by omega)) (wa_cons (we_var 4 rfl (wa_cons (we_addI (we_var 1 rfl (we_int ⟨_, _, rfl, rfl, wa_nil ⟨rfl, q.2, d + 1, rfl, g1, by omega, by omega, by omega, rfl, ?_⟩⟩))))))
    rw [List.replicate_succ', List.map_append]; rfl
  · rintro acc M' ⟨rfl, rfl⟩
    exact ⟨_, rfl, by rw [List.all_replicate]; simp; exact Lets.of hc⟩
theorem wordT_told {t : T} (h : Told t) : decide (wordT t = ("name" : Str)) = false := by
  cases t with
  | one => decide +kernel
  | name x => exact h.elim
  | cop s n u =>
    show decide (wrd s = ("name" : Str)) = false
    cases s <;> decide +kernel
  | row s ts =>
    show decide (wrd s = ("name" : Str)) = false
    cases s <;> decide +kernel
end
end W
namespace W
open PySem PySem.Spec PyProof.Rows L2 DL SX PL
def six (a b c d e f : D) : List (Str × D) := [("own_text", a), ("own_names", b), ("own_word", c), ("own_groups", d), ("own_copies", e), ("own_people", f)]
theorem putD_ne {g f : Str} {d y : D} {r : List (Str × D)} (h : g ≠ f) : putD f d ((g, y) :: r) = (g, y) :: putD f d r := by
  rw [putD, if_neg h]
def f1 (a : D) : List (Str × D) := [("own_text", a)]
def f2 (a b : D) : List (Str × D) := [("own_text", a), ("own_names", b)]
def f3 (a b c : D) : List (Str × D) := [("own_text", a), ("own_names", b), ("own_word", c)]
def f4 (a b c d : D) : List (Str × D) := [("own_text", a), ("own_names", b), ("own_word", c), ("own_groups", d)]
def f5 (a b c d e : D) : List (Str × D) := [("own_text", a), ("own_names", b), ("own_word", c), ("own_groups", d), ("own_copies", e)]
section
variable {a b c d e f x : D}
theorem put1 : putD "own_text" x [] = f1 x := rfl
theorem put2 : putD "own_names" x (f1 a) = f2 a x := by unfold f1; rw [putD_ne] <;> first | rfl | decide +kernel
theorem put3 : putD "own_word" x (f2 a b) = f3 a b x := by unfold f2; rw [putD_ne, putD_ne] <;> first | rfl | decide +kernel
theorem put4 : putD "own_groups" x (f3 a b c) = f4 a b c x := by unfold f3; rw [putD_ne, putD_ne, putD_ne] <;> first | rfl | decide +kernel
theorem put5 : putD "own_copies" x (f4 a b c d) = f5 a b c d x := by unfold f4; rw [putD_ne, putD_ne, putD_ne, putD_ne] <;> first | rfl | decide +kernel
theorem put6 : putD "own_people" x (f5 a b c d e) = six a b c d e x := by unfold f5; rw [putD_ne, putD_ne, putD_ne, putD_ne, putD_ne] <;> first | rfl | decide +kernel
theorem sl1 : (f1 a).length < 1000 := by show 1 < 1000; decide
theorem sl2 : (f2 a b).length < 1000 := by show 2 < 1000; decide
theorem sl3 : (f3 a b c).length < 1000 := by show 3 < 1000; decide
theorem sl4 : (f4 a b c d).length < 1000 := by show 4 < 1000; decide
theorem sl5 : (f5 a b c d e).length < 1000 := by show 5 < 1000; decide
theorem lk_hit {g : Str} {y : D} {r : List (Str × D)} : ((g, y) :: r).lookup g = some y := by rw [List.lookup_cons]; simp
theorem lk_miss {g h : Str} {y : D} {r : List (Str × D)} (hn : (g == h) = false) : ((h, y) :: r).lookup g = r.lookup g := by rw [List.lookup_cons, hn]
theorem lk_text : List.lookup ("own_text" : Str) (six a b c d e f) = some a := lk_hit
theorem lk_names : List.lookup ("own_names" : Str) (six a b c d e f) = some b := by unfold six; rw [lk_miss, lk_hit]; decide +kernel
theorem lk_word : List.lookup ("own_word" : Str) (six a b c d e f) = some c := by unfold six; rw [lk_miss, lk_miss, lk_hit] <;> decide +kernel
theorem lk_groups : List.lookup ("own_groups" : Str) (six a b c d e f) = some d := by unfold six; rw [lk_miss, lk_miss, lk_miss, lk_hit] <;> decide +kernel
theorem lk_people : List.lookup ("own_people" : Str) (six a b c d e f) = some f := by unfold six; rw [lk_miss, lk_miss, lk_miss, lk_miss, lk_miss, lk_hit] <;> decide +kernel
theorem lk5_groups : List.lookup ("own_groups" : Str) (f5 a b c d e) = some d := by unfold f5; rw [lk_miss, lk_miss, lk_miss, lk_hit] <;> decide +kernel
end
mutual
/-- the plan as an instance of the class at C -/
def planD (C : Addr) : T → D
  | .one => .ins C (six (tS (txt .one)) (.tup []) (.str (wordT .one)) (.lst []) (.bl false) (.int (ppl .one : Nat)))
  | .name x => .ins C (six (tS (txt (.name x))) (.tup [tS x]) (.str (wordT (.name x))) (.lst []) (.bl false) (.int (ppl (.name x) : Nat)))
  | .cop s n t => .ins C (six (tS (txt (.cop s n t))) (.tup []) (.str (wordT (.cop s n t))) (.lst [.tup [.int (n : Nat), planD C t]]) (.bl true) (.int (ppl (.cop s n t) : Nat)))
  | .row s ts => .ins C (six (tS (txt (.row s ts))) (.tup []) (.str (wordT (.row s ts))) (.lst (plansD C ts)) (.bl false) (.int (ppl (.row s ts) : Nat)))
def plansD (C : Addr) : List T → List D
  | [] => []
  | t :: ts => .tup [.int ((1 : Nat) : Int), planD C t] :: plansD C ts
end
theorem plansD_map (C : Addr) : ∀ ts : List T, plansD C ts = ts.map fun t => .tup [.int ((1 : Nat) : Int), planD C t]
  | [] => by rw [plansD]; rfl
  | t :: ts => by rw [plansD, plansD_map C ts, List.map_cons]
def subsD (C : Addr) (t : T) : List D := (kids t).map fun q => .tup [.int (q.1 : Nat), planD C q.2]
def fldsD (C : Addr) (t : T) : List (Str × D) := six (tS (txt t)) (.tup []) (.str (wordT t)) (.lst (subsD C t)) (.bl (isCop t)) (.int (ppl t : Nat))
theorem planD_told {C : Addr} {t : T} (h : Told t) : planD C t = .ins C (fldsD C t) := by
  cases t with
  | one => rw [planD]; rfl
  | name x => exact h.elim
  | cop s n t => rw [planD]; rfl
  | row s ts =>
    rw [planD, plansD_map]
    unfold fldsD subsD kids
    rw [List.map_map]; rfl
/-- what is known of the class -/
structure Px (K : PySem.W.Frag) (mg : Str → Option Value) (C : Addr) : Prop where
  at_ : mg "Plan" = some (.ref C)
  cl : Cls K C
  na : ∀ f, f ∈ fNames → NoAttr K C f
  init : ∃ f, Mk K C f ∧ Md K C "__init__" "Plan.__init__" s_Plan___init__ f
  text : ∃ p f, PropOf K C "text" p f ∧ Md K C "text" "Plan.text" s_Plan_text f
  names : ∃ p f, PropOf K C "names" p f ∧ Md K C "names" "Plan.names" s_Plan_names f
  word : ∃ p f, PropOf K C "word" p f ∧ Md K C "word" "Plan.word" s_Plan_word f
  many : ∃ p f, PropOf K C "many" p f ∧ Md K C "many" "Plan.many" s_Plan_many f
  invert : ∃ f, Meth K C "__invert__" f ∧ Md K C "__invert__" "Plan.__invert__" s_Plan___invert__ f
section
variable {P : Program} {w : World} {K : PySem.W.Frag} {mg : Str → Option Value} {base : Heap} {C : Addr}
theorem cop_in {t : T} (h : Good t) : ∃ c r, txt t = c :: r ∧ decide (S [c] ∈ (["[", "{"] : List Str)) = isCop t := by
  have e1 : (["[", "{"] : List Str) = [S [91], S [123]] := by decide +kernel
  rw [e1]
  have key : ∀ c : Nat, decide (S [c] ∈ [S [91], S [123]]) = (decide (c = 91) || decide (c = 123)) := fun c => by
    rw [← Bool.decide_or]
    refine decide_eq_decide.mpr ?_
    simp only [List.mem_cons, List.not_mem_nil, or_false]
    constructor
    · rintro (h | h)
      · left; injection S_inj h
      · right; injection S_inj h
    · rintro (rfl | rfl)
      · exact .inl rfl
      · exact .inr rfl
  cases t with
  | one => exact ⟨49, [], by rw [txt], by rw [key]; rfl⟩
  | name x =>
    obtain ⟨h0, h1, h2⟩ := h
    cases x with
    | nil => exact absurd rfl h0
    | cons c r =>
      have q := h2 c List.mem_cons_self
      simp [letter] at q
      exact ⟨c, r, by rw [txt], by rw [key, decide_eq_false (by omega), decide_eq_false (by omega)]; rfl⟩
  | cop s n u => exact ⟨opn s, _, by rw [txt], by rw [key]; cases s <;> rfl⟩
  | row s ts => exact ⟨40, _, by rw [txt], by rw [key]; rfl⟩
theorem cut_1 (c : Nat) (r : List Nat) : cutS (S (c :: r)) none (some 1) = S [c] := by
  unfold cutS
  rw [S_len, show (some (1 : Int)) = some ((1 : Nat) : Int) from rfl, HT.sIx_nat, HT.sIx_none, Nat.min_eq_left (by simp)]
  rfl
theorem grp_cmp {t : T} (h : Good t) : ∃ ps, CmpDs (grpD t) ps 1 :=
  ⟨_, cmps_map (j := 1) (Nat.le_refl _) (g := fun q => .tuple [.int (q.1 : Nat), .str (S (txt q.2))]) fun q hq => cmp_tup (cmps_cons (cmp_int _) (Nat.le_refl _) (cmps_cons (cmp_str fun c hc => by
    have := txt_lt (kids_ok hq h).1 c hc; omega) (Nat.le_refl _) cmps_nil))⟩
end
end W
namespace W
open PySem PySem.Spec PyProof.Rows L2 DL He HK
theorem mem_bn {x : Str} (h : x ∈ bns) : Fa.free x ∈ spec.fa := List.mem_append_left _ (List.mem_map_of_mem h)
theorem mem_glo {x : Str} (h : x ∈ globsA) : Fa.glo x ∈ spec.fa := List.mem_append_right _ (List.mem_append_left _ (List.mem_map_of_mem h))
theorem mem_na {x : Str} (h : x ∈ fNames) : Fa.noat "Plan" x ∈ spec.fa := List.mem_append_right _ (List.mem_append_right _ (List.mem_append_left _ (List.mem_map_of_mem h)))
theorem mem_co (i : Nat) {f : Fa} (h : consts[i]? = some f) : f ∈ spec.fa := List.mem_append_right _ (List.mem_append_right _ (List.mem_append_right _ (List.mem_of_getElem? h)))
theorem ob_eq (s : PySem.W.SharedT) : ob s = hk.obs s.abs := obsG_eq (HandSHeadRun.getT_eq s)
end W
namespace DL
open PySem PySem.Spec PyProof.Rows L2
abbrev eSet (w : World) : Obj := { cls := .type "set", dict := none, data := .set #[] 0 (.fresh 0 0 (!w.params.followText "set-order")) }
end DL
namespace DL
open PySem PySem.Spec PyProof.Rows L2
def GoodZ (w : World) (e : Int × Value) : Prop := ∃ x t, e.2 = Value.str x t ∧ e.1 = hashStr w x
/-- the set of texts at a: L its members, none twice -/
def SetZ (w : World) (h : Heap) (a : Addr) (L : List Str) : Prop :=
  ∃ o es ep t, h.get? a = some o ∧ (o.ExactSet ∧ o.data = .set es ep t) ∧ ((∀ e ∈ es.toList, GoodZ w e) ∧ (es.toList.map fun e => strOf e.2).Perm L ∧ L.Nodup) ∧ (es.size < scanBound ∧ t.fits es.size = true) ∧ Ris t.place.toList ∧ (w.params.followText "set-order" = true ∨ t.led = true)
section
variable {P : Program} {w : World} {h h' : Heap} {a : Addr} {L : List Str}
theorem SetZ.keep (R : SetZ w h a L) (k : ∀ o, h.get? a = some o → h'.get? a = some o) : SetZ w h' a L := by
  obtain ⟨o, es, ep, t, ho, r⟩ := R
  exact ⟨o, es, ep, t, k o ho, r⟩
theorem goodZ_elems {l : List (Int × Value)} (g : ∀ e ∈ l, GoodZ w e) : ElemsOf (PySem.strKind P w) l := fun e he => by
  obtain ⟨x, t, h1, h2⟩ := g e he
  exact ⟨⟨x, by rw [h1]; exact strKind_is P w x t, h2⟩, by rw [h1]; rfl⟩
theorem goodZ_is {e : Int × Value} (g : GoodZ w e) (x : Str) : (PySem.strKind P w).is x e.2 = true ↔ strOf e.2 = x := by
  obtain ⟨y, t, h1, _⟩ := g
  rw [h1]
  have q := strKind_is P w y t
  refine ⟨fun z => ((PySem.strKind P w).inj _ _ _ z q).symm, fun z => ?_⟩
  have z' : y = x := z
  rw [← z']; exact q
theorem goodZ_mem {l : List (Int × Value)} (g : ∀ e ∈ l, GoodZ w e) (x : Str) : (∃ e ∈ l, (PySem.strKind P w).is x e.2 = true) ↔ x ∈ l.map fun e => strOf e.2 := by
  rw [List.mem_map]
  exact ⟨fun ⟨e, he, q⟩ => ⟨e, he, (goodZ_is (g e he) x).mp q⟩, fun ⟨e, he, q⟩ => ⟨e, he, (goodZ_is (g e he) x).mpr q⟩⟩
end
section
variable {P : Program} {w : World} {A : Around} {E : Value → Shared → Prop} {s : Shared} {a : Addr} {L : List Str}
theorem setZ_tail {g : Bool → Sem Unit} (hg : ∀ (b : Bool) (s1 : Shared) (Q' : Unit → Shared → Prop), Q' () s1 → wpAny (model P w) A (g b) Q' E s1) {o : Obj} {es es1 : Array (Int × Value)} {ep : Nat} {t t2 : SetTable} {L' : List Str} {wd : Bool} {R : Option Bool → Shared → Prop}
    (ho : s.heap.get? a = some o) (hex : o.ExactSet) (hd : o.data = .set es ep t) (g1 : (∀ e ∈ es1.toList, GoodZ w e) ∧ (es1.toList.map fun e => strOf e.2).Perm L' ∧ L'.Nodup) (hb : es1.size < scanBound) (hf : t2.fits es1.size = true) (hr : Ris t2.place.toList) (hl : w.params.followText "set-order" = true ∨ t2.led = true)
    (hR : ∀ h', Heap.SameBut a s.heap h' → SetZ w h' a L' → R (some true) { s with heap := h' }) :
    wpAny (model P w) A (do
      storeSet a es1 t2
      if (!wd && t2.tooFull) = true then do
          g (relayAll t2 es1 (SetTable.grown es1.size)).2.2
          storeSet a (relayAll t2 es1 (SetTable.grown es1.size)).1 (relayAll t2 es1 (SetTable.grown es1.size)).2.1
          pure (some true)
        else pure (some true)) R E s := by
  have ho1 := store_at (es' := es1) (t' := t2) ho hd
  have sb := Heap.SameBut.update s.heap a (Obj.putSet es1 t2)
  refine wpAny_bind (wpAny_storeSet_of ho hd ?_ (fits_of_scanBound hb))
  by_cases hc : (!wd && t2.tooFull) = true
  · rw [if_pos hc]
    have q1 := relayAll_perm t2 es1 (SetTable.grown es1.size)
    have q2 := relayAll_fits t2 es1 (SetTable.grown es1.size)
    have q3 := relayAll_ris t2 es1 (SetTable.grown es1.size)
    have q4 := relayAll_led t2 es1 (SetTable.grown es1.size)
    generalize relayAll t2 es1 (SetTable.grown es1.size) = Y at q1 q2 q3 q4 ⊢
    obtain ⟨es2, t3, gv⟩ := Y
    dsimp only at q1 q2 q3 q4 ⊢
    have hb2 : es2.size < scanBound := by
      have : es2.size = es1.size := by rw [← Array.length_toList, q1.length_eq, Array.length_toList]
      omega
    refine wpAny_bind (hg _ _ _ (wpAny_bind (wpAny_storeSet_of ho1 rfl ?_ (fits_of_scanBound hb2))))
    refine wpAny_pure (hR _ (sb.trans (Heap.SameBut.update _ a _)) ⟨_, es2, _, t3, store_at (es' := es2) (t' := t3) ho1 rfl, ⟨hex, rfl⟩, ⟨fun e he => g1.1 e (q1.mem_iff.mp he), (q1.map _).trans g1.2.1, g1.2.2⟩, ⟨hb2, q2⟩, q3, ?_⟩)
    rw [q4]; exact hl
  · rw [if_neg hc]
    exact wpAny_pure (hR _ sb ⟨_, es1, _, t2, ho1, ⟨hex, rfl⟩, g1, ⟨hb, hf⟩, hr, hl⟩)
theorem setZ_add {x : Str} {tk : Tok} {Q : Bool → Shared → Prop} (R : SetZ w s.heap a L) (room : L.length + 1 < scanBound)
    (hQ : ∀ h' b, Heap.SameBut a s.heap h' → SetZ w h' a (if x ∈ L then L else x :: L) → Q b { s with heap := h' }) : wpAny (model P w) A (setAddHashed a (.str x tk) ((PySem.strKind P w).hash x)) Q E s := by
  obtain ⟨o, es, ep, t, ho, ⟨hex, hd⟩, ⟨g, pm, nd⟩, ⟨hb, hf⟩, hr, hl⟩ := R
  have hel : ElemsOf (PySem.strKind P w) es.toList := goodZ_elems g
  have hsc : (Value.str x tk).scannable = true := rfl
  unfold setAddHashed setAddHashedIn
  refine wpAny_holding (wpAny_bind (wpAny_setState_of ho hd hf ?_))
  dsimp only
  rw [byScan_of hsc hb hel]
  simp only [↓reduceIte]
  unfold setAddByScan
  refine wpAny_bind (wpAny_bind (wpAny_rule (wpAny_bind (wpAny_setScan_of (strKind_is P w x tk) ho hd hf hel ?_))))
  by_cases hx : x ∈ L
  · cases hfi : List.findIdx? (fun e => (PySem.strKind P w).is x e.2) es.toList with
    | none =>
      exfalso
      obtain ⟨e, he, q⟩ := (goodZ_mem (P := P) g x).mpr (pm.mem_iff.mpr hx)
      have c := List.findIdx?_eq_none_iff.mp hfi e he
      rw [q] at c; cases c
    | some j =>
      dsimp only
      have q := hQ s.heap false (Heap.SameBut.refl a s.heap)
      rw [if_pos hx] at q
      exact wpAny_pure (wpAny_pure (q ⟨o, es, ep, t, ho, ⟨hex, hd⟩, ⟨g, pm, nd⟩, ⟨hb, hf⟩, hr, hl⟩))
  · cases hfi : List.findIdx? (fun e => (PySem.strKind P w).is x e.2) es.toList with
    | some j =>
      exfalso
      obtain ⟨hj, pj, _⟩ := List.findIdx?_eq_some_iff_getElem.mp hfi
      exact hx (pm.mem_iff.mp ((goodZ_mem (P := P) g x).mp ⟨es.toList[j], List.getElem_mem hj, pj⟩))
    | none =>
      dsimp only
      have gw : ∀ (b : Bool) {s1 : Shared} {Q' : Unit → Shared → Prop}, Q' () s1 → wpAny (model P w) A (match b with | true => rule "set.scan.the-table-gave-way" | false => pure ()) Q' E s1 := fun b s1 Q' q => by
        cases b <;> first | exact wpAny_pure q | exact wpAny_rule q
      have p1 := layNew_perm t es ((PySem.strKind P w).hash x) (.str x tk)
      have p2 := layNew_fits t es ((PySem.strKind P w).hash x) (.str x tk)
      have p3 := layNew_ris t es ((PySem.strKind P w).hash x) (.str x tk) hr
      have p4 := layNew_led t es ((PySem.strKind P w).hash x) (.str x tk)
      generalize layNew t es ((PySem.strKind P w).hash x) (.str x tk) = Y at p1 p2 p3 p4 ⊢
      obtain ⟨es1, t1, wd, gv⟩ := Y
      dsimp only at p1 p2 p3 p4 ⊢
      rw [Array.toList_push] at p1
      have pc := p1.trans (List.perm_append_singleton _ _)
      have gN : (∀ e ∈ es1.toList, GoodZ w e) ∧ (es1.toList.map fun e => strOf e.2).Perm (x :: L) ∧ (x :: L).Nodup := by
        refine ⟨fun e he => ?_, (pc.map _).trans (pm.cons _), List.nodup_cons.mpr ⟨hx, nd⟩⟩
        rcases List.mem_cons.mp (pc.mem_iff.mp he) with z | z
        · rw [z]; exact ⟨x, tk, rfl, rfl⟩
        · exact g e z
      have hb1 : es1.size < scanBound := by
        have := gN.2.1.length_eq
        rw [List.length_map, Array.length_toList, List.length_cons] at this
        omega
      have hled : w.params.followText "set-order" = true ∨ t1.led = true := by rw [p4]; exact hl
      have fin : ∀ h', Heap.SameBut a s.heap h' → SetZ w h' a (x :: L) → Q true { s with heap := h' } := fun h' sb r => hQ h' true sb (by rw [if_neg hx]; exact r)
      refine wpAny_bind (gw _ ?_)
      split
      · refine wpAny_bind ?_
        rw [hashByValue_scannable 8 hsc]
        refine wpAny_pure (setZ_tail ?_ ho hex hd gN hb1 ?_ ?_ ?_ ?_)
        · intro b s1 Q' q
          cases b <;> first | exact wpAny_pure q | exact wpAny_rule q
        · first | (split <;> first | exact p2 | exact SetTable.fits_plain_off p2) | exact p2
        · first | (split <;> exact p3) | exact p3
        · first | (split <;> exact hled) | exact hled
        · intro h' sb r
          dsimp only
          exact wpAny_pure (fin h' sb r)
      · refine wpAny_bind (wpAny_pure ?_)
        simp only [↓reduceIte]
        refine setZ_tail ?_ ho hex hd gN hb1 p2 p3 hled ?_
        · intro b s1 Q' q
          cases b <;> first | exact wpAny_pure q | exact wpAny_rule q
        · intro h' sb r
          dsimp only
          exact wpAny_pure (fin h' sb r)
end
/-- the members behind the adds of some texts -/
def dedZ : List Str → List Str → List Str
  | L, [] => L
  | L, x :: r => dedZ (if x ∈ L then L else x :: L) r
theorem dedZ_snoc : ∀ (L r : List Str) (x : Str), dedZ L (r ++ [x]) = if x ∈ dedZ L r then dedZ L r else x :: dedZ L r
  | L, [], x => rfl
  | L, y :: r, x => dedZ_snoc _ r x
theorem dedZ_len : ∀ (L r : List Str), (dedZ L r).length ≤ L.length + r.length
  | L, [] => Nat.le_refl _
  | L, y :: r => by
    have := dedZ_len (if y ∈ L then L else y :: L) r
    unfold dedZ
    split at this <;> simp only [List.length_cons] at this ⊢ <;> split <;> simp_all <;> omega
theorem dedZ_mem : ∀ (L r : List Str) (k : Str), k ∈ dedZ L r ↔ k ∈ L ∨ k ∈ r
  | L, [], k => by simp [dedZ]
  | L, y :: r, k => by
    unfold dedZ
    rw [dedZ_mem, List.mem_cons]
    split
    · rename_i h
      constructor
      · rintro (z | z)
        · exact .inl z
        · exact .inr (.inr z)
      · rintro (z | z | z)
        · exact .inl z
        · exact .inl (z ▸ h)
        · exact .inr z
    · rw [List.mem_cons]
      constructor
      · rintro ((z | z) | z)
        · exact .inr (.inl z)
        · exact .inl z
        · exact .inr (.inr z)
      · rintro (z | z | z)
        · exact .inl (.inr z)
        · exact .inl (.inl z)
        · exact .inr z
theorem dedZ_nd : ∀ (L r : List Str), L.Nodup → (dedZ L r).Nodup
  | L, [], h => h
  | L, y :: r, h => by
    unfold dedZ
    refine dedZ_nd _ r ?_
    split
    · exact h
    · exact List.nodup_cons.mpr ⟨by assumption, h⟩
theorem setZ_new {w : World} {h : Heap} {a : Addr} (ho : h.get? a = some (eSet w)) : SetZ w h a [] :=
  ⟨_, #[], 0, _, ho, ⟨⟨rfl, rfl, rfl⟩, rfl⟩, ⟨fun e he => by simp at he, .nil, .nil⟩, ⟨by decide, by rfl⟩, List.Pairwise.nil, by
    show _ ∨ (!w.params.followText "set-order") = true
    cases w.params.followText "set-order"
    · exact .inr rfl
    · exact .inl rfl⟩
section
variable {P : Program} {w : World} {A : Around} {E : Value → Shared → Prop} {s : Shared}
theorem setZ_update {I : Addr} {fp wr : List Addr} {G : Array GenState → Array GenState → Prop} {n : Nat} {Pv : Nat → Value → Prop} {St : Nat → Shared → Prop} {R : Result → Shared → Prop}
    (W : WalksS P w A.in1 I fp wr G n Pv St) (S : Addr) (hSf : S ∉ fp) (zs : List Str) (hn : n = zs.length) (hb : zs.length + 1 < scanBound) (hv : ∀ i v, Pv i v → ∃ x t, zs[i]? = some x ∧ v = .str x t) :
    ∀ (k i : Nat) (s : Shared), n - i = k → i ≤ n → St i s → SetZ w s.heap S (dedZ [] (zs.take i)) → (∀ s', Moved (S :: wr) G s s' → SetZ w s'.heap S (dedZ [] zs) → R (.ok (.ret .none)) s') →
      codeAny (model P w) A (.builtin "set.update.loop" ⟨[.ref S, .ref I], []⟩) R s := by
  have nw : S ∉ wr := fun z => hSf (W.sub _ z)
  have sub : ∀ b ∈ wr, b ∈ S :: wr := fun b => List.mem_cons_of_mem _
  intro k
  induction k with
  | zero =>
    intro i s hk hi st hS hR
    refine codeAny_builtin PyProof.Rows.F.entry_set_update_loop ?_
    rw [Around.under_plainId PyProof.Rows.F.plain_set_update_loop _]
    obtain rfl : i = n := by omega
    refine wpAny_bind (m := pyNext _) (W.done s _ _ st fun s' hm => wpAny_pure (hR s' (hm.mono sub) ?_))
    have := hS.keep (h' := s'.heap) fun o e => hm.heap S o nw e
    rwa [List.take_of_length_le (Nat.le_of_eq hn.symm)] at this
  | succ k ih =>
    intro i s hk hi st hS hR
    refine codeAny_builtin PyProof.Rows.F.entry_set_update_loop ?_
    rw [Around.under_plainId PyProof.Rows.F.plain_set_update_loop _]
    refine wpAny_bind (m := pyNext _) (W.item i s _ _ (by omega) st fun v s' hP st' hm => ?_)
    obtain ⟨x, t, hz, rfl⟩ := hv i v hP
    have hS' := hS.keep (h' := s'.heap) fun o e => hm.heap S o nw e
    refine wpAny_bind (m := holding [Value.str x t] (setAdd S (.str x t))) (wpAny_holding ?_)
    unfold setAdd
    have hlen := dedZ_len [] (zs.take i)
    rw [List.length_nil, List.length_take] at hlen
    refine wpAny_holding (wpAny_bind ((PySem.strKind P w).pyHash (k := x) (strKind_is _ _ _ _) (setZ_add (s := { s' with toks := s'.toks + 1 }) hS' (by omega) fun h' b sb hS2 => ?_)))
    have hS3 : SetZ w h' S (dedZ [] (zs.take (i + 1))) := by
      rw [List.take_add_one, hz]
      show SetZ w h' S (dedZ [] (zs.take i ++ [x]))
      rw [dedZ_snoc]; exact hS2
    refine wpAny_pure ⟨plainId_quiet PyProof.Rows.F.plain_set_update_loop _, ih (i + 1) _ (by omega) (by omega) (W.frame _ s' _ _ st' (Nat.le_succ _) fun b hb o e => ?_) hS3 fun s2 hm2 hS4 => hR s2 (Moved.trans W.gtrans ((hm.mono sub).then_heap (Nat.le_succ _) fun b o hb e => ?_) hm2) hS4⟩
    · rw [sb.2 b fun q : b = S => hSf (q ▸ hb)]; exact e
    · rw [sb.2 b fun q : b = S => hb (q ▸ List.mem_cons_self)]; exact e
theorem set_of_texts {l : Addr} {its : Array Value} (zs : List Str) {Q : Value → Shared → Prop} (hh : A.handled = none) (hl : s.heap.IsList l its) (hit : StrsAre its.toList zs) (hb : zs.length + 1 < scanBound)
    (hQ : ∀ (h' : Heap) (tk : Nat), SetZ w h' s.heap.objs.size (dedZ [] zs) → (∀ b o, s.heap.get? b = some o → h'.get? b = some o) → Q (.ref s.heap.objs.size) { s with heap := h', toks := tk }) : wpAny (model P w) A (call (.type "set") [.ref l]) Q E s := by
  have size : its.size = zs.length := by have q := StrsAre.length hit; rwa [Array.length_toList] at q
  obtain ⟨c, tl, hmro⟩ := F.called_set.mro
  have f1 := F.called_set.made
  have f2 := F.called_set.sub
  have f3 := F.called_set.notType
  have f4 := F.called_set.canCreate
  have f5 := F.typeCall_set_1 (.ref l)
  refine wpAny_call (codeAny_of_tree (show wpAny _ _ (callAny (.type "set") _) _ _ _ from wpAny_pure ⟨Code.quiet_builtin _ (by decide +kernel), codeAny_builtin F.entry_type_call ?_⟩))
  rw [Around.under_plain (weight_type_call_type "set" [.ref l] []) rfl]
  repeat any_goals first | assumption | wp_step
  refine codeAny_mono (code_set_led1 (.ref l) (E := E) (Q₁ := fun x s1 => x = .ref s.heap.objs.size ∧ s1 = { s with heap := s.heap.push (eSet w) }) ⟨rfl, rfl⟩) fun r s1 hr => ?_
  cases r with
  | error e => exact hr
  | ok fl =>
    cases fl with
    | ret obj =>
      obtain ⟨rfl, rfl⟩ := hr
      have at0 : (s.heap.push (eSet w)).get? s.heap.objs.size = some (eSet w) := Heap.get?_push_size _ rfl
      have ty0 : Shared.TypeIs { s with heap := s.heap.push (eSet w) } (.ref s.heap.objs.size) "set" := ⟨_, at0, rfl⟩
      have g1 := F.called_set.init.lookup
      have g2 := F.called_set.init.bind (.ref s.heap.objs.size)
      repeat any_goals first | assumption | wp_step
      refine codeAny_mono (codeAny_call_builtin (R := wants (fun r s2 => r = .none ∧ ∃ h' tk, s2 = { s with heap := h', toks := tk } ∧ SetZ w h' s.heap.objs.size (dedZ [] zs) ∧ (∀ b o, s.heap.get? b = some o → h'.get? b = some o)) E) F.called_set.init.plain F.entry_set_init (check_set_init_1 ty0 ?_)) fun r2 s2 hr2 => ?_
      · obtain ⟨ol, hol, hcl, nl, hdl⟩ := hl
        obtain ⟨c1, c2, c3, c4⟩ := ol
        simp only at hcl hdl
        subst hcl hdl
        have hol1 : (s.heap.push (eSet w)).get? l = some { cls := .type "list", dict := c2, data := .seq its nl, slots := c4 } := Heap.get?_push_of_some _ hol
        have k1 := F.sub_list_set
        have k2 := F.sub_list_frozenset
        have k3 : (Value.type "list" == Value.type "dict") = false := by decide
        have hl1 : (s.heap.push (eSet w)).IsList l its := ⟨_, hol1, rfl, nl, rfl⟩
        unfold Builtin.«set.__init__» noKeywords Builtin.Frozenset.updateFrom
        generalize hPI : pyIter = PI
        wp_walk
        subst hPI
        refine wpAny_pyIter_list hl1 (wpAny_bind (wpAny_runValue ?_))
        have ll : l < s.heap.objs.size := Heap.lt_size hol
        have hh3 : A.in1.in1.in1.handled = none := by simp [hh]
        have z1 : (s.heap.push (eSet w)).objs.size = s.heap.objs.size + 1 := Heap.size_push ..
        have ne1 : l ≠ (s.heap.push (eSet w)).objs.size := by rw [z1]; exact Nat.ne_of_lt (Nat.lt_succ_of_lt ll)
        have ne2 : s.heap.objs.size ∉ [(s.heap.push (eSet w)).objs.size, l] := by
          rw [z1]; simp only [List.mem_cons, List.not_mem_nil, or_false, not_or]; exact And.intro (Nat.ne_of_lt (Nat.lt_succ_self _)) (Nat.ne_of_gt ll)
        have vals : ∀ (i : Nat) (v : Value), its[i]? = some v → ∃ x t, zs[i]? = some x ∧ v = .str x t := fun i v hv => by
          obtain ⟨y, t, e1, e2⟩ := StrsAre.item hit i v (by rw [Array.getElem?_toList]; exact hv)
          exact ⟨y, t, e2, e1⟩
        refine setZ_update ((Walks.list hh3 _ l ne1 its).toS) s.heap.objs.size ne2 zs size hb vals (its.size - 0) 0 _ (by omega) (Nat.zero_le _) ⟨⟨_, Heap.get?_push_size _ rfl, rfl, rfl⟩, (hl1.push _)⟩ (setZ_new (Heap.get?_push_of_some _ at0)) ?_
        intro s' hm hS'
        obtain ⟨h', g', d', t', o'⟩ := s'
        have e1 : g' = s.gens := hm.gens
        have e2 : d' = s.drawn := hm.drawn
        have e3 : o' = s.os := hm.os
        subst e1 e2 e3
        refine wpAny_pure (show wpAny _ _ (ret Value.none) _ _ _ from wpAny_pure ⟨rfl, h', t', rfl, hS', fun b o e => ?_⟩)
        have b0 : b < s.heap.objs.size := Heap.lt_size e
        exact hm.heap b o (by rw [z1]; simp only [List.mem_cons, List.not_mem_nil, or_false, not_or]; exact And.intro (Nat.ne_of_lt b0) (Nat.ne_of_lt (Nat.lt_succ_of_lt b0))) (Heap.get?_push_of_some _ (Heap.get?_push_of_some _ e))
      · cases r2 with
        | error e => exact hr2
        | ok fl2 =>
          cases fl2 with
          | ret r =>
            obtain ⟨rfl, h', tk, rfl, q1, q2⟩ := hr2
            repeat any_goals first | assumption | wp_step
            exact hQ _ _ q1 q2
          | _ => exact hr2.elim
    | _ => exact hr.elim
/-- sorted(a set of texts) -/
theorem sorted_setZ {a : Addr} {L : List Str} {Q : Value → Shared → Prop} (R : SetZ w s.heap a L) (hh : A.handled = none)
    (hQ : ∀ s' p (out : Array Value) (c : Nat) (zs : List Str), (∀ b o, s.heap.get? b = some o → s'.heap.get? b = some o) → s'.gens = s.gens → s'.os = s.os → s.heap.objs.size ≤ p →
      s'.heap.get? p = some (seqObj "list" out c) → StrsAre out.toList zs → zs.Perm L → sortedS zs = true → Q (.ref p) s') :
    wpAny (model P w) A (call (.builtin "sorted") [.ref a]) Q E s := by
  obtain ⟨o, es, ep, t, ho, ⟨hex, hd⟩, ⟨g, pm, nd⟩, ⟨hb, hf⟩, hr, hl⟩ := R
  refine Calls.call_function_entry kind_sorted plain_sorted entry_sorted (args_sorted1 _) ?_
  unfold Builtin.«sorted»
  refine wpAny_bind (m := checkCount "sorted" 1 1 _) (wpAny_pure ?_)
  refine wpAny_bind (collect_set (A := A.in1) hh ⟨o, ho, hex.1, hd⟩ hf hb hr hl fun s1 vs k1 hz g1 o1 pv => ?_)
  have hI : StrsAre vs (vs.map strOf) := strsAre_map vs fun v hv => by
    obtain ⟨e, he, rfl⟩ := List.mem_map.mp (pv.mem_iff.mp hv)
    obtain ⟨x, tk, h1, _⟩ := g e he
    exact ⟨x, tk, h1⟩
  have hvl : vs.length ≤ sizeLine := by
    rw [pv.length_eq, List.length_map, Array.length_toList]
    exact fits_of_scanBound hb
  have pz : (vs.map strOf).Perm L := by
    have q := pv.map strOf
    rw [List.map_map] at q
    exact q.trans pm
  refine wpAny_bind (wpAny_newList ?_ hvl)
  have hoL : (s1.heap.push (seqObj "list" vs.toArray 0)).get? s1.heap.objs.size = some (seqObj "list" vs.toArray 0) := Heap.get?_push_size _ rfl
  refine wpAny_bind (wpAny_holding (wpAny_call_entry slot_list_sort ⟨_, hoL, rfl⟩ entry_list_sort (list_sort_treeKAny strKind_oneLt hoL hI.keysOf (fun v1 v2 rest e => keyKind_strs (by rw [← e]; exact hI)) hvl fun st' hp hs => ⟨_, rfl, ?_⟩) (args_list_sort _)))
  obtain ⟨zs, q1, q2, q3⟩ := sorted_out_str hI hp hs
  obtain ⟨c, hc⟩ := sortedHeap_at (vs := vs) (out := (arrOf st').map (·.2)) hoL
  refine wpAny_pure ⟨_, rfl, hQ _ s1.heap.objs.size _ c zs (fun b u e => ?_) g1 o1 hz hc q1 (q2.trans pz) q3⟩
  have q := k1 b u e
  have hlt := Heap.lt_size q
  refine (sortedHeap_old (Nat.ne_of_lt hlt) (by rw [size_push']; exact Nat.lt_succ_of_lt hlt)).trans ?_
  exact Heap.get?_push_of_some _ q
end
end DL
namespace DL
open PySem PySem.Spec PyProof.Rows L2
/-- the set of texts at a -/
def SetZO (w : World) (a : Addr) (L : List Str) : HO := .ext fun h => SetZ w h a L
theorem setZO_new {w : World} {P : Program} {H : Hp} {h : Heap} {a : Addr} {L : List Str} (R : SetZ w h a L) : ObjOk P w H h a (SetZO w a L) := by
  have ⟨o, _, _, _, ho, _⟩ := R
  exact ⟨R, ⟨o, ho⟩, fun h1 h2 p k => SetZ.keep p k⟩
theorem vals_of_strs : ∀ {us : List Value} {zs : List Str}, StrsAre us zs → Vals (zs.map V.str) us
  | _, _, .nil => .nil
  | _, _, .cons x t h => .cons (a := V.str x) ⟨t, rfl⟩ (vals_of_strs h)
section
variable {X : Cx} {ρ : Rho} {M : Mp} {Φ : D → Mp → Prop} {e : Expr} {pos p p2 pos2 : Pos}
def rSetZ (K : PySem.W.Frag) (w : World) : List V → Hp → VK → Prop := fun xs H Q => ∃ (l : Addr) (zs : List Str), xs = [V.ref l] ∧ SqL K H l (zs.map V.str) ∧ zs.length + 1 < scanBound ∧ ∀ p : Addr, H p = none → Q (.ref p) (upd H p (SetZO w p (dedZ [] zs)))
theorem cr_setZ (hc : X.calm = true) : CallR X (.type "set") (rSetZ X.K X.w) := by
  intro pins s σ H vs us Q I r h
  obtain ⟨l, zs, rfl, hq, hl, q⟩ := h
  rw [Vals.ref1 r]
  obtain ⟨its, rv, pl, hz⟩ := I.list hq
  refine set_of_texts zs (I.ok.hd hc) pl.isList (by simpa using strsAre_of rv) hl fun h' tk R k => ?_
  exact ⟨.ref s.heap.objs.size, _, I.laid k (Nat.le_refl _) (setZO_new R), rfl, q _ (I.hok.fresh (Nat.le_refl _))⟩
def rSortZ (w : World) : List V → Hp → VK → Prop := fun vs H Q => ∃ (a : Addr) (L : List Str), vs = [V.ref a] ∧ H a = some (SetZO w a L) ∧ L.length ≤ sizeLine ∧ ∀ (zs : List Str) (p : Addr), zs.Perm L → sortedS zs = true → H p = none → Q (.ref p) (upd H p (.lst (zs.map V.str)))
theorem cr_sortZ (hc : X.calm = true) : CallR X (.builtin "sorted") (rSortZ X.w) := by
  intro pins s σ H vs us Q I r h
  obtain ⟨a, L, rfl, ha, hl, q⟩ := h
  have R : SetZ X.w s.heap a L := (I.hok a _ ha).1
  rw [Vals.ref1 r]
  refine sorted_setZ R (I.ok.hd hc) fun s' p out c zs k g o hp hg hi pm hs => ?_
  have hlen : (zs.map V.str).length ≤ sizeLine := by rw [List.length_map, pm.length_eq]; exact hl
  have hn : H p = none := I.hok.fresh hp
  have J : Inv X pins σ (upd H p (.lst (zs.map V.str))) { s with heap := s'.heap, gens := s'.gens, drawn := s'.drawn, toks := s'.toks } :=
    I.call (ch := []) (Un.laid k hp hn) (I.hok.laid k hp ⟨hlen, out.toList, c, vals_of_strs hi, hg⟩) (by rw [g]; exact I.bare) (fun _ z => nomatch z)
  have e : s' = { s with heap := s'.heap, gens := s'.gens, drawn := s'.drawn, toks := s'.toks } := by
    cases s'; cases s; cases o; rfl
  rw [e]
  exact ⟨.ref p, _, J, rfl, q zs p pm hs hn⟩
/-- sorted(set(e)), e a list of texts -/
theorem we_sortedSetS (hm : X.mg "sorted" = none) (hm2 : X.mg "set" = none) (h : WE X ρ M e fun d M1 => ∃ zs : List Str, LstOf M1 d (zs.map D.str) ∧ zs.length < 1000 ∧ ∀ ys : List Str, ys.Perm (dedZ [] zs) → sortedS ys = true → Φ (.lst (ys.map D.str)) M1) (hc : X.calm = true := by rfl)
    (hg : Gl X "sorted" := by rfl) (hg2 : Gl X "set" := by rfl) (he : starEach [.Call (.Name "set" p2) [e] [] pos2] X.env = (false, eval (.Call (.Name "set" p2) [e] [] pos2) X.env) :: starEach [] X.env := by rfl) (hpl : (backTo pos (starEach [] X.env)).any (·.1) = false := by rfl)
    (he2 : starEach [e] X.env = (false, eval e X.env) :: starEach [] X.env := by rfl) (hpl2 : (backTo pos2 (starEach [] X.env)).any (·.1) = false := by rfl) : WE X ρ M (.Call (.Name "sorted" p) [.Call (.Name "set" p2) [e] [] pos2] [] pos) Φ := .mk fun {Z} σ H Q en w k =>
  eOf (pe_callB (cr_sortZ hc) hg hm (by decide +kernel) (pa_cons (pe_callTy (cr_setZ hc) hg2 hm2 (by decide +kernel) pa_sem (by decide) (by decide) he2 hpl2) pa_nil he) (by decide) (by decide) he hpl)
    ((wa_cons (ΦA := fun ds M2 => ∃ d, ∃ zs : List Str, ds = [d] ∧ LstOf M2 d (zs.map D.str) ∧ zs.length < 1000 ∧ ∀ ys : List Str, ys.Perm (dedZ [] zs) → sortedS ys = true → Φ (.lst (ys.map D.str)) M2) (h.imp fun d M1 ⟨zs, h1, h2, h3⟩ => wa_nil ⟨d, zs, rfl, h1, h2, h3⟩) he2).run σ H _ en w fun vs ds H1 M1 e1 w1 r1 hz => by
      obtain ⟨d, zs, rfl, hl, hn, hz⟩ := hz
      cases r1 with
      | cons r1 r2 =>
        cases r2
        obtain ⟨l, us, rfl, hq, rs⟩ := r1.asLst w1 hl
        obtain rfl := rs.strs
        have hd := dedZ_len [] zs
        rw [List.length_nil] at hd
        refine ⟨l, zs, rfl, hq, by unfold scanBound; omega, fun q hq0 => ⟨q, _, rfl, upd_same, by rw [sizeLine_eq]; omega, fun ys q2 pm hs hq2 => ?_⟩⟩
        have x1 := Ext.new (o := SetZO X.w q (dedZ [] zs)) w1 hq0
        exact (k.step (e1.trans x1)).new (w1.new hq0) hq2 (.lst upd_same ((w1.new hq0).fresh hq2) (Reps.ofStrs ys)) (hz ys pm hs))
end
end DL
namespace PL
open PySem PySem.Spec SX TL PyProof.Rows DL
def leZ (a b : Str) : Bool := !ltCps b.cps.toList a.cps.toList
theorem leZ_iff (a b : Str) : leZ a b = true ↔ a.cps.toList ≤ b.cps.toList := by
  unfold leZ
  rw [ltCps_eq, Bool.not_eq_true', decide_eq_false_iff_not]
  exact List.not_lt
theorem str_ext {a b : Str} (h : a.cps.toList = b.cps.toList) : a = b := by
  obtain ⟨⟨a⟩⟩ := a
  obtain ⟨⟨b⟩⟩ := b
  simp only at h
  subst h; rfl
theorem leZ_trans {a b c : Str} (h : leZ a b = true) (g : leZ b c = true) : leZ a c = true := (leZ_iff _ _).mpr (List.le_trans ((leZ_iff _ _).mp h) ((leZ_iff _ _).mp g))
theorem leZ_total (a b : Str) : leZ a b = true ∨ leZ b a = true := (List.le_total a.cps.toList b.cps.toList).imp (leZ_iff _ _).mpr (leZ_iff _ _).mpr
theorem leZ_anti {a b : Str} (h : leZ a b = true) (g : leZ b a = true) : a = b := str_ext (List.le_antisymm ((leZ_iff _ _).mp h) ((leZ_iff _ _).mp g))
theorem rising_pw : ∀ (p : Str) (l : List Str), risingS p l = true → (p :: l).Pairwise fun a b => leZ a b = true
  | p, [], _ => List.pairwise_cons.mpr ⟨fun _ h => (nomatch h), List.Pairwise.nil⟩
  | p, x :: r, h => by
    obtain ⟨h1, h2⟩ := Bool.and_eq_true_iff.mp (show (leZ p x && risingS x r) = true from h)
    have ih := rising_pw x r h2
    refine List.pairwise_cons.mpr ⟨fun y hy => ?_, ih⟩
    rcases List.mem_cons.mp hy with rfl | hy
    · exact h1
    · exact leZ_trans h1 (List.rel_of_pairwise_cons ih hy)
theorem sorted_pw : ∀ (l : List Str), sortedS l = true → l.Pairwise fun a b => leZ a b = true
  | [], _ => .nil
  | x :: r, h => rising_pw x r h
def insZ (x : Str) : List Str → List Str
  | [] => [x]
  | y :: r => if leZ x y = true then x :: y :: r else y :: insZ x r
theorem insZ_perm (x : Str) : ∀ l : List Str, (insZ x l).Perm (x :: l)
  | [] => .refl _
  | y :: r => by
    unfold insZ
    split
    · exact .refl _
    · exact ((insZ_perm x r).cons y).trans (.swap x y r)
theorem insZ_pw (x : Str) : ∀ l : List Str, (l.Pairwise fun a b => leZ a b = true) → (insZ x l).Pairwise fun a b => leZ a b = true
  | [], _ => List.pairwise_cons.mpr ⟨fun _ h => (nomatch h), List.Pairwise.nil⟩
  | y :: r, h => by
    obtain ⟨h1, h2⟩ := List.pairwise_cons.mp h
    unfold insZ
    split
    · rename_i q
      refine List.pairwise_cons.mpr ⟨fun z hz => ?_, h⟩
      rcases List.mem_cons.mp hz with rfl | hz
      · exact q
      · exact leZ_trans q (h1 z hz)
    · rename_i q
      refine List.pairwise_cons.mpr ⟨fun z hz => ?_, insZ_pw x r h2⟩
      rcases List.mem_cons.mp ((insZ_perm x r).mem_iff.mp hz) with rfl | hz
      · exact (leZ_total z y).resolve_left q
      · exact h1 z hz
def srtZ (l : List Str) : List Str := l.foldr insZ []
theorem srtZ_perm : ∀ l : List Str, (srtZ l).Perm l
  | [] => .refl _
  | x :: l => (insZ_perm x (srtZ l)).trans ((srtZ_perm l).cons x)
theorem srtZ_pw : ∀ l : List Str, (srtZ l).Pairwise fun a b => leZ a b = true
  | [] => .nil
  | x :: l => insZ_pw x _ (srtZ_pw l)
/-- ascending, none twice -/
def nmsOf (zs : List Str) : List Str := srtZ (dedZ [] zs)
theorem pw_perm_eq : ∀ {l m : List Str}, (l.Pairwise fun a b => leZ a b = true) → (m.Pairwise fun a b => leZ a b = true) → l.Perm m → l = m
  | [], m, _, _, p => (List.Perm.nil_eq p)
  | x :: l, [], _, _, p => absurd p.length_eq (by simp)
  | x :: l, y :: m, h, g, p => by
    obtain ⟨h1, h2⟩ := List.pairwise_cons.mp h
    obtain ⟨g1, g2⟩ := List.pairwise_cons.mp g
    have e : x = y := by
      rcases List.mem_cons.mp (p.mem_iff.mp List.mem_cons_self) with e | hx
      · exact e
      · rcases List.mem_cons.mp (p.mem_iff.mpr List.mem_cons_self) with e | hy
        · exact e.symm
        · exact leZ_anti (h1 y hy) (g1 x hx)
    subst e
    rw [pw_perm_eq h2 g2 ((List.perm_cons x).mp p)]
theorem nmsOf_uniq {zs ys : List Str} (p : ys.Perm (dedZ [] zs)) (h : sortedS ys = true) : ys = nmsOf zs := pw_perm_eq (sorted_pw ys h) (srtZ_pw _) (p.trans (srtZ_perm _).symm)
theorem nmsOf_mem (zs : List Str) (k : Str) : k ∈ nmsOf zs ↔ k ∈ zs := by
  unfold nmsOf
  rw [(srtZ_perm _).mem_iff, dedZ_mem]
  simp
theorem nmsOf_nd (zs : List Str) : (nmsOf zs).Nodup := (srtZ_perm _).nodup_iff.mpr (dedZ_nd [] zs .nil)
theorem nmsOf_len (zs : List Str) : (nmsOf zs).length ≤ zs.length := by
  unfold nmsOf
  rw [(srtZ_perm _).length_eq]
  have := dedZ_len [] zs
  simpa using this
theorem nmsOf_congr {zs ws : List Str} (h : ∀ k, k ∈ zs ↔ k ∈ ws) : nmsOf zs = nmsOf ws :=
  pw_perm_eq (srtZ_pw _) (srtZ_pw _) ((List.perm_ext_iff_of_nodup (nmsOf_nd zs) (nmsOf_nd ws)).mpr fun k => by rw [nmsOf_mem, nmsOf_mem]; exact h k)
mutual
/-- the names, as they stand in the text -/
def lv : T → List Str
  | .one => []
  | .name x => [S x]
  | .cop _ _ t => lv t
  | .row _ ts => lvL ts
def lvL : List T → List Str
  | [] => []
  | t :: ts => lv t ++ lvL ts
end
theorem lvL_flat : ∀ ts : List T, lvL ts = ts.flatMap lv
  | [] => rfl
  | t :: ts => by rw [lvL, lvL_flat ts, List.flatMap_cons]
def nmT (t : T) : List Str := nmsOf (lv t)
theorem lv_kids {t : T} (h : ∀ x, t ≠ .name x) : lv t = (kids t).flatMap fun q => lv q.2 := by
  cases t with
  | one => rw [lv]; rfl
  | name x => exact absurd rfl (h x)
  | cop s n u => rw [lv]; simp [kids]
  | row s ts => rw [lv, lvL_flat, kids, List.flatMap_map]
theorem lv_told : ∀ {t : T}, Told t → lv t = []
  | .one, _ => by rw [lv]
  | .name x, h => h.elim
  | .cop s n u, h => by rw [lv]; exact lv_told h
  | .row s ts, h => by
    rw [lv, lvL_flat]
    exact List.flatMap_eq_nil_iff.mpr fun u hu => lv_told (tolds_all.mp h u hu)
theorem nmT_told {t : T} (h : Told t) : nmT t = [] := by unfold nmT; rw [lv_told h]; rfl
theorem nmT_mem (t : T) (k : Str) : k ∈ nmT t ↔ k ∈ lv t := nmsOf_mem _ _
theorem nmT_len (t : T) : (nmT t).length ≤ (lv t).length := nmsOf_len _
/-- the names of the parts, put together -/
theorem nmT_kids {t : T} (h : ∀ x, t ≠ .name x) : nmsOf ((kids t).flatMap fun q => nmT q.2) = nmT t := by
  unfold nmT
  rw [lv_kids h]
  refine nmsOf_congr fun k => ?_
  simp only [List.mem_flatMap, nmsOf_mem]
theorem flat_len {α : Type} (f g : α → List Str) (h : ∀ x, (f x).length ≤ (g x).length) : ∀ l : List α, (l.flatMap f).length ≤ (l.flatMap g).length
  | [] => Nat.le_refl _
  | x :: l => by
    rw [List.flatMap_cons, List.flatMap_cons, List.length_append, List.length_append]
    have := h x
    have := flat_len f g h l
    omega
theorem kid_names {t : T} {q : Nat × T} (hq : q ∈ kids t) : (nmT q.2).length ≤ (nmT t).length ∧ (lv q.2).length ≤ (lv t).length := by
  have hn : ∀ x, t ≠ .name x := fun x e => by rw [e] at hq; simp [kids] at hq
  have e := lv_kids hn
  constructor
  · refine List.Nodup.length_le_of_subset (nmsOf_nd _) fun k hk => ?_
    rw [nmT_mem] at hk ⊢
    rw [e]
    exact List.mem_flatMap.mpr ⟨q, hq, hk⟩
  · rw [e]
    generalize kids t = l at hq
    induction l with
    | nil => cases hq
    | cons a r ih =>
      rw [List.flatMap_cons, List.length_append]
      rcases List.mem_cons.mp hq with rfl | hq
      · omega
      · have := ih hq
        omega
end PL
namespace PL
open PySem SX TL
def Ok (t : T) : Prop := Good t ∧ Told t ∧ (txt t).length ≤ 100000
theorem kids_Ok {t : T} {q : Nat × T} (hq : q ∈ kids t) (h : Ok t) : Ok q.2 := by
  obtain ⟨h1, h2, h3⟩ := h
  obtain ⟨g1, g2, g3, g4, g5⟩ := kids_ok hq h1
  exact ⟨g1, kids_told hq h2, by omega⟩
def cnt (t : T) : Nat := ((kids t).map (·.1)).sum
/-- the part with the number i (of copies: any) -/
def piece : T → Nat → Option T
  | .cop _ _ t, _ => some t
  | .row _ ts, i => ts[i]?
  | _, _ => none
theorem cnt_cop (s : Bool) (n : Nat) (t : T) : cnt (.cop s n t) = n := by simp [cnt, kids]
theorem ones_sum : ∀ ts : List T, ((ts.map fun t => (1, t)).map (fun q : Nat × T => q.1)).sum = ts.length
  | [] => rfl
  | t :: ts => by rw [List.map_cons, List.map_cons, List.sum_cons, ones_sum ts, List.length_cons]; show 1 + _ = _; omega
theorem cnt_row (s : Bool) (ts : List T) : cnt (.row s ts) = ts.length := by
  unfold cnt kids; exact ones_sum ts
theorem piece_some {t : T} {i : Nat} (h : i < cnt t) : ∃ u, piece t i = some u := by
  cases t with
  | one => simp [cnt, kids] at h
  | name x => simp [cnt, kids] at h
  | cop s n t => exact ⟨t, rfl⟩
  | row s ts => rw [cnt_row] at h; exact ⟨ts[i], List.getElem?_eq_getElem h⟩
theorem piece_mem {t u : T} {i : Nat} (h : piece t i = some u) : ∃ q ∈ kids t, q.2 = u := by
  cases t with
  | one => cases h
  | name x => cases h
  | cop s n v => exact ⟨(n, v), by simp [kids], Option.some.inj h⟩
  | row s ts => exact ⟨(1, u), by unfold kids; exact List.mem_map.mpr ⟨u, List.mem_of_getElem? h, rfl⟩, rfl⟩
theorem piece_Ok {t u : T} {i : Nat} (h : piece t i = some u) (ok : Ok t) : Ok u := by
  obtain ⟨q, hq, rfl⟩ := piece_mem h
  exact kids_Ok hq ok
/-- going down -/
def desc : T → List Nat → Option T
  | t, [] => some t
  | t, i :: p => if i < cnt t then (piece t i).bind fun u => desc u p else none
def isOneT : T → Bool
  | .one => true
  | _ => false
/-- is it a person of the plan -/
def isPers (t : T) (p : List Nat) : Bool := match desc t p with
  | some u => isOneT u
  | none => false
/-- whether the parts know one another -/
def intr : T → Bool
  | .cop s _ _ => s
  | .row s _ => s
  | _ => false
/-- whom do_know tells -/
def knowsB : T → List Nat → List Nat → Bool
  | t, i :: p, j :: q => if i = j then (match piece t i with | some u => knowsB u p q | none => false) else intr t
  | _, _, _ => false
def flip (c : Nat) : Nat := if c = 43 then 42 else if c = 42 then 43 else if c = 91 then 123 else if c = 123 then 91 else if c = 93 then 125 else if c = 125 then 93 else c
mutual
def mir : T → T
  | .one => .one
  | .name x => .name x
  | .cop s n t => .cop (!s) n (mir t)
  | .row s ts => .row (!s) (mirs ts)
def mirs : List T → List T
  | [] => []
  | t :: ts => mir t :: mirs ts
end
theorem mirs_map : ∀ ts : List T, mirs ts = ts.map mir
  | [] => rfl
  | t :: ts => by rw [mirs, mirs_map ts, List.map_cons]
theorem flip_id {c : Nat} (h : c ≠ 43 ∧ c ≠ 42 ∧ c ≠ 91 ∧ c ≠ 123 ∧ c ≠ 93 ∧ c ≠ 125) : flip c = c := by
  unfold flip
  obtain ⟨h1, h2, h3, h4, h5, h6⟩ := h
  rw [if_neg h1, if_neg h2, if_neg h3, if_neg h4, if_neg h5, if_neg h6]
theorem map_flip_id : ∀ {l : List Nat}, (∀ c ∈ l, c ≠ 43 ∧ c ≠ 42 ∧ c ≠ 91 ∧ c ≠ 123 ∧ c ≠ 93 ∧ c ≠ 125) → l.map flip = l
  | [], _ => rfl
  | c :: l, h => by rw [List.map_cons, flip_id (h c List.mem_cons_self), map_flip_id fun x hx => h x (List.mem_cons_of_mem _ hx)]
theorem flip_sep (s : Bool) : (sep s).map flip = sep (!s) := by cases s <;> rfl
theorem map_join (f : Nat → Nat) {S S' : List Nat} (hs : S.map f = S') : ∀ ps : List (List Nat), (joinL S ps).map f = joinL S' (ps.map (·.map f))
  | [] => rfl
  | [p] => by rw [joinL]; rfl
  | p :: q :: r => by
    rw [joinL, List.map_append, List.map_append, hs, map_join f hs (q :: r)]; rfl
mutual
theorem txt_mir : ∀ {t : T}, Good t → txt (mir t) = (txt t).map flip
  | .one, _ => by rw [mir, txt]; rfl
  | .name x, h => by
    rw [mir, txt]
    refine (map_flip_id fun c hc => ?_).symm
    have q := h.2.2 c hc
    simp [letter] at q
    omega
  | .cop s n t, h => by
    rw [mir, txt, txt, txt_mir h.2.2]
    have e : (numL n).map flip = numL n := map_flip_id fun c hc => by have := numL_digits n c hc; omega
    simp only [List.map_cons, List.map_append, e]
    cases s <;> rfl
  | .row s ts, h => by
    rw [mir, txt, txt, txts_mir h.2]
    simp only [List.map_cons, List.map_append, map_join flip (flip_sep s)]
    rfl
theorem txts_mir : ∀ {ts : List T}, Goods ts → txts (mirs ts) = (txts ts).map (·.map flip)
  | [], _ => by rw [mirs, txts]; rfl
  | t :: ts, h => by rw [mirs, txts, txts, txt_mir h.1, txts_mir h.2, List.map_cons]
end
mutual
theorem mir_good : ∀ {t : T}, Good t → Good (mir t)
  | .one, _ => by rw [mir]; trivial
  | .name x, h => by rw [mir]; exact h
  | .cop s n t, h => by rw [mir]; exact ⟨h.1, h.2.1, mir_good h.2.2⟩
  | .row s ts, h => by
    rw [mir]
    refine ⟨by rw [mirs_map, List.length_map]; exact h.1, mirs_good h.2⟩
theorem mirs_good : ∀ {ts : List T}, Goods ts → Goods (mirs ts)
  | [], _ => by rw [mirs]; trivial
  | t :: ts, h => by rw [mirs]; exact ⟨mir_good h.1, mirs_good h.2⟩
end
mutual
theorem mir_told : ∀ {t : T}, Told t → Told (mir t)
  | .one, _ => by rw [mir]; trivial
  | .name x, h => h.elim
  | .cop s n t, h => by rw [mir]; exact mir_told (t := t) h
  | .row s ts, h => by rw [mir]; exact mirs_told (ts := ts) h
theorem mirs_told : ∀ {ts : List T}, Tolds ts → Tolds (mirs ts)
  | [], _ => by rw [mirs]; trivial
  | t :: ts, h => by rw [mirs]; exact ⟨mir_told h.1, mirs_told h.2⟩
end
theorem mir_Ok {t : T} (h : Ok t) : Ok (mir t) := ⟨mir_good h.1, mir_told h.2.1, by rw [txt_mir h.1, List.length_map]; exact h.2.2⟩
theorem mir_piece (t : T) (i : Nat) : piece (mir t) i = (piece t i).map mir := by
  cases t with
  | one => rw [mir]; rfl
  | name x => rw [mir]; rfl
  | cop s n t => rw [mir]; rfl
  | row s ts => rw [mir]; show (mirs ts)[i]? = _; rw [mirs_map, List.getElem?_map]; rfl
end PL
namespace PL
open PySem SX TL
theorem fm_congr {α β : Type} {f g : α → List β} : ∀ {l : List α}, (∀ x ∈ l, f x = g x) → l.flatMap f = l.flatMap g
  | [], _ => rfl
  | x :: l, h => by rw [List.flatMap_cons, List.flatMap_cons, h x List.mem_cons_self, fm_congr fun y hy => h y (List.mem_cons_of_mem _ hy)]
mutual
def persL : T → List (List Nat)
  | .one => [[]]
  | .name _ => []
  | .cop _ n t => (List.range n).flatMap fun i => (persL t).map (i :: ·)
  | .row _ ts => persR 0 ts
def persR : Nat → List T → List (List Nat)
  | _, [] => []
  | k, t :: ts => (persL t).map (k :: ·) ++ persR (k + 1) ts
end
def pieceP (t : T) (j : Nat) : List (List Nat) := match piece t j with
  | some u => (persL u).map (j :: ·)
  | none => []
def upTo (t : T) (i : Nat) : List (List Nat) := (List.range i).flatMap (pieceP t)
theorem upTo_succ {t u : T} {i : Nat} (h : piece t i = some u) : upTo t (i + 1) = upTo t i ++ (persL u).map (i :: ·) := by
  unfold upTo
  rw [List.range_succ, List.flatMap_append]
  simp [pieceP, h]
theorem persR_eq : ∀ (ts : List T) (k : Nat), persR k ts = (List.range ts.length).flatMap fun j => match ts[j]? with
    | some u => (persL u).map ((k + j) :: ·)
    | none => []
  | [], k => by rw [persR]; rfl
  | t :: ts, k => by
    rw [persR, persR_eq ts (k + 1), List.length_cons, List.range_succ_eq_map, List.flatMap_cons, List.flatMap_map]
    congr 1
    refine fm_congr ?_
    intro j _
    simp only [Function.comp, Nat.succ_eq_add_one, List.getElem?_cons_succ]
    rw [show k + 1 + j = k + (j + 1) by omega]
theorem persL_upTo {t : T} (h : isOneT t = false) : persL t = upTo t (cnt t) := by
  cases t with
  | one => cases h
  | name x => rw [persL]; rfl
  | cop s n t => rw [persL, cnt_cop]; rfl
  | row s ts =>
    rw [persL, cnt_row, persR_eq]
    unfold upTo
    refine fm_congr ?_
    intro j _
    simp only [pieceP, piece, Nat.zero_add]
theorem mem_upTo {t : T} {i : Nat} {p : List Nat} (h : p ∈ upTo t i) : ∃ j u q, j < i ∧ piece t j = some u ∧ q ∈ persL u ∧ p = j :: q := by
  unfold upTo at h
  obtain ⟨j, hj, hp⟩ := List.mem_flatMap.mp h
  unfold pieceP at hp
  cases e : piece t j with
  | none => rw [e] at hp; simp at hp
  | some u =>
    rw [e] at hp
    obtain ⟨q, hq, rfl⟩ := List.mem_map.mp hp
    exact ⟨j, u, q, List.mem_range.mp hj, e, hq, rfl⟩
theorem piece_ht {t u : T} {i : Nat} (h : piece t i = some u) : ht u < ht t := by
  cases t with
  | one => cases h
  | name x => cases h
  | cop s n v => obtain rfl := Option.some.inj h; rw [ht]; omega
  | row s ts => have := hts_le (List.mem_of_getElem? (show ts[i]? = some u from h)); rw [ht]; omega
theorem pers_is : ∀ (n : Nat) {t : T} {p : List Nat}, ht t ≤ n → p ∈ persL t → isPers t p = true := by
  intro n
  induction n with
  | zero =>
    intro t p hn hp
    cases h : isOneT t with
    | true =>
      cases t with
      | one =>
        rw [persL] at hp
        have : p = [] := by simpa using hp
        subst this; rfl
      | _ => cases h
    | false =>
      rw [persL_upTo h] at hp
      obtain ⟨j, u, q, h1, h2, h3, rfl⟩ := mem_upTo hp
      have := piece_ht h2
      omega
  | succ n ih =>
    intro t p hn hp
    cases h : isOneT t with
    | true =>
      cases t with
      | one =>
        rw [persL] at hp
        have : p = [] := by simpa using hp
        subst this; rfl
      | _ => cases h
    | false =>
      rw [persL_upTo h] at hp
      obtain ⟨j, u, q, h1, h2, h3, rfl⟩ := mem_upTo hp
      have h4 := piece_ht h2
      have h5 := ih (by omega) h3
      unfold isPers at h5 ⊢
      simp only [desc]
      rw [if_pos h1, h2]
      exact h5
/-- a person that is nothing further down -/
theorem pers_nil {t : T} (h : isPers t [] = true) : t = .one := by
  unfold isPers at h
  simp only [desc] at h
  cases t with
  | one => rfl
  | _ => cases h
theorem pers_cons {t : T} {i : Nat} {p : List Nat} (h : isPers t (i :: p) = true) : ∃ u, i < cnt t ∧ piece t i = some u ∧ isPers u p = true := by
  unfold isPers at h
  simp only [desc] at h
  split at h
  · rename_i u hu
    split at hu
    · rename_i hlt
      obtain ⟨v, h1, h2⟩ := Option.bind_eq_some_iff.mp hu
      exact ⟨v, hlt, h1, by unfold isPers; rw [h2]; exact h⟩
    · cases hu
  · cases h
theorem mem_le_sum : ∀ {l : List Nat} {n : Nat}, n ∈ l → n ≤ l.sum
  | x :: l, n, h => by
    rw [List.sum_cons]
    rcases List.mem_cons.mp h with rfl | h
    · omega
    · have := mem_le_sum h; omega
theorem pers_one {p : List Nat} (h : isPers .one p = true) : p = [] := by
  cases p with
  | nil => rfl
  | cons i p =>
    obtain ⟨u, h1, _⟩ := pers_cons h
    simp [cnt, kids] at h1
theorem knows_self : ∀ (p : List Nat) (t : T), knowsB t p p = false
  | [], t => by simp [knowsB]
  | i :: p, t => by
    rw [knowsB, if_pos rfl]
    cases piece t i with
    | none => rfl
    | some u => exact knows_self p u
theorem mir_intr {t : T} (h : 0 < cnt t) : intr (mir t) = !intr t := by
  cases t with
  | one => simp [cnt, kids] at h
  | name x => simp [cnt, kids] at h
  | cop s n t => rw [mir]; rfl
  | row s ts => rw [mir]; rfl
/-- the other way round in the mirror -/
theorem mir_knows : ∀ (p : List Nat) {q : List Nat} {t : T}, isPers t p = true → isPers t q = true → knowsB (mir t) p q = (decide (p ≠ q) && !knowsB t p q)
  | [], q, t, hp, hq => by
    have e := pers_nil hp
    subst e
    have := pers_one hq
    subst this
    simp [knowsB]
  | i :: p, [], t, hp, hq => by
    have e := pers_nil hq
    subst e
    have := pers_one hp
    cases this
  | i :: p, j :: q, t, hp, hq => by
    obtain ⟨u, h1, h2, h3⟩ := pers_cons hp
    obtain ⟨v, g1, g2, g3⟩ := pers_cons hq
    rw [knowsB, knowsB]
    by_cases hij : i = j
    · subst hij
      rw [if_pos rfl, if_pos rfl, mir_piece, h2]
      rw [h2] at g2
      obtain rfl := Option.some.inj g2
      show knowsB (mir u) p q = _
      rw [mir_knows p h3 g3]
      congr 1
      exact decide_eq_decide.mpr ⟨fun h e => h (by injection e), fun h e => h (by rw [e])⟩
    · rw [if_neg hij, if_neg hij, mir_intr (by omega)]
      rw [decide_eq_true (show i :: p ≠ j :: q from fun e => hij (by injection e))]; rfl
mutual
theorem ppl_pos : ∀ {t : T}, Good t → 1 ≤ ppl t
  | .one, _ => by rw [ppl]; omega
  | .name x, _ => by rw [ppl]; omega
  | .cop s n t, h => by
    rw [ppl]
    have h1 := ppl_pos h.2.2
    have h2 := h.1
    exact Nat.mul_pos (by omega) h1
  | .row s ts, h => by
    rw [ppl]
    have := ppls_pos h.2
    have := h.1
    omega
theorem ppls_pos : ∀ {ts : List T}, Goods ts → ts.length ≤ ppls ts
  | [], _ => Nat.zero_le _
  | t :: ts, h => by
    rw [ppls, List.length_cons]
    have h1 := ppl_pos h.1
    have h2 := ppls_pos h.2
    omega
end
theorem ht_one {t : T} (h : Good t) (h1 : ppl t = 1) : ht t = 0 := by
  cases t with
  | one => rw [ht]
  | name x => rw [ht]
  | cop s n t =>
    rw [ppl] at h1
    have h2 := ppl_pos h.2.2
    have h3 := Nat.mul_le_mul h.1 h2
    omega
  | row s ts =>
    rw [ppl] at h1
    have h2 := ppls_pos h.2
    have h3 := h.1
    omega
end PL
namespace PL
open PySem SX TL
theorem split_at {x : Nat} : ∀ {p p' r r' : List Nat}, (∀ c ∈ p, c ≠ x) → (∀ c ∈ p', c ≠ x) → p ++ x :: r = p' ++ x :: r' → p = p' ∧ r = r'
  | [], [], _, _, _, _, e => by injection e with _ e; exact ⟨rfl, e⟩
  | [], c :: p', _, _, _, h', e => by
    injection e with e1 e2
    exact absurd e1.symm (h' c List.mem_cons_self)
  | c :: p, [], _, _, h, _, e => by
    injection e with e1 e2
    exact absurd e1 (h c List.mem_cons_self)
  | c :: p, d :: p', r, r', h, h', e => by
    injection e with e1 e2
    obtain ⟨a, b⟩ := split_at (fun c hc => h c (List.mem_cons_of_mem _ hc)) (fun c hc => h' c (List.mem_cons_of_mem _ hc)) e2
    exact ⟨by rw [e1, a], b⟩
theorem snoc_inj {α : Type} {p q : List α} {a b : α} (h : p ++ [a] = q ++ [b]) : p = q ∧ a = b := by
  have := List.append_inj' h rfl
  exact ⟨this.1, by simpa using this.2⟩
theorem opn_inj {s s' : Bool} (h : opn s = opn s') : s = s' := by cases s <;> cases s' <;> first | rfl | cases h
theorem numL_inj {n m : Nat} (hn : n ≤ 10 ^ 30) (hm : m ≤ 10 ^ 30) (h : numL n = numL m) : n = m := by
  have l : ∀ {n : Nat}, n ≤ 10 ^ 30 → (numL n).length ≤ 31 := fun {n} h => numL_len (by decide) (Nat.lt_of_le_of_lt h (by decide))
  have a := int_num (n := n) (by have := l hn; omega)
  have b := int_num (n := m) (by have := l hm; omega)
  rw [num_S] at a b
  rw [h, b] at a
  have := Option.some.inj a
  omega
theorem letter_ne {c : Nat} (h : letter c = true) : c ≠ 49 ∧ c ≠ 40 ∧ c ≠ 91 ∧ c ≠ 123 := by
  simp only [letter, Bool.and_eq_true, decide_eq_true_eq] at h
  omega
theorem name_head {x : List Nat} (h : Good (.name x)) : ∃ c r, x = c :: r ∧ letter c = true := by
  obtain ⟨h0, _, h2⟩ := h
  cases x with
  | nil => exact absurd rfl h0
  | cons c r => exact ⟨c, r, rfl, h2 c List.mem_cons_self⟩
theorem txt_inj : ∀ (n : Nat) {t u : T}, (txt t).length ≤ n → Good t → Good u → txt t = txt u → t = u
  | 0, t, u, hn, ht, _, _ => by
    obtain ⟨c, r, e, _⟩ := txt_head ht
    rw [e] at hn; simp at hn
  | n + 1, t, u, hn, hg, hu, e => by
    have lists : ∀ {ts us : List T}, ts.map txt = us.map txt → (∀ a ∈ ts, (txt a).length ≤ n ∧ Good a) → (∀ b ∈ us, Good b) → ts = us := by
      intro ts
      induction ts with
      | nil => intro us h _ _; cases us with
        | nil => rfl
        | cons b us => cases h
      | cons a ts ih => intro us h h1 h2; cases us with
        | nil => cases h
        | cons b us =>
          injection h with e1 e2
          obtain ⟨l1, g1⟩ := h1 a List.mem_cons_self
          rw [txt_inj n l1 g1 (h2 b List.mem_cons_self) e1, ih e2 (fun x hx => h1 x (List.mem_cons_of_mem _ hx)) fun x hx => h2 x (List.mem_cons_of_mem _ hx)]
    cases t with
    | one =>
      cases u with
      | one => rfl
      | name x =>
        obtain ⟨c, r, rfl, hc⟩ := name_head hu
        rw [txt, txt] at e; injection e with e1 _
        exact absurd e1.symm (letter_ne hc).1
      | cop s m v => rw [txt, txt] at e; injection e with e1 _; cases s <;> cases e1
      | row s ts => rw [txt, txt] at e; injection e with e1 _; cases e1
    | name x =>
      obtain ⟨c, r, rfl, hc⟩ := name_head hg
      cases u with
      | one => rw [txt, txt] at e; injection e with e1 _; exact absurd e1 (letter_ne hc).1
      | name y => rw [txt, txt] at e; rw [e]
      | cop s m v => rw [txt, txt] at e; injection e with e1 _; cases s <;> first | exact absurd e1 (letter_ne hc).2.2.1 | exact absurd e1 (letter_ne hc).2.2.2
      | row s ts => rw [txt, txt] at e; injection e with e1 _; exact absurd e1 (letter_ne hc).2.1
    | cop s m v =>
      cases u with
      | one => rw [txt, txt] at e; injection e with e1 _; cases s <;> cases e1
      | name x =>
        obtain ⟨c, r, rfl, hc⟩ := name_head hu
        rw [txt, txt] at e; injection e with e1 _; cases s <;> first | exact absurd e1.symm (letter_ne hc).2.2.1 | exact absurd e1.symm (letter_ne hc).2.2.2
      | cop s' m' v' =>
        rw [txt] at hn
        rw [txt, txt] at e
        injection e with e1 e2
        obtain rfl := opn_inj e1
        obtain ⟨e3, e4⟩ := split_at (fun c hc => (wgt_num hc).2) (fun c hc => (wgt_num hc).2) e2
        obtain rfl := numL_inj hg.2.1 hu.2.1 e3
        obtain ⟨e5, _⟩ := snoc_inj e4
        rw [txt_inj n (by simp at hn; omega) hg.2.2 hu.2.2 e5]
      | row s' ts => rw [txt, txt] at e; injection e with e1 _; cases s <;> cases e1
    | row s ts =>
      cases u with
      | one => rw [txt, txt] at e; injection e with e1 _; cases e1
      | name x =>
        obtain ⟨c, r, rfl, hc⟩ := name_head hu
        rw [txt, txt] at e; injection e with e1 _; exact absurd e1.symm (letter_ne hc).2.1
      | cop s' m v => rw [txt, txt] at e; injection e with e1 _; cases s' <;> cases e1
      | row s' us =>
        have hn' := hn
        rw [txt] at hn'
        rw [txt, txt] at e
        injection e with _ e2
        obtain ⟨e3, _⟩ := snoc_inj e2
        have h0 : ts ≠ [] := fun h => by have := hg.1; rw [h] at this; simp at this
        have h0' : us ≠ [] := fun h => by have := hu.1; rw [h] at this; simp at this
        have p1 := parts_join (s := s) h0 hg.2
        have hlen : ∀ a ∈ ts, (txt a).length ≤ n ∧ Good a := fun a ha => by
          have := join_len_mem (S := sep s) (p := txt a) (ps := txts ts) (by rw [txts_map]; exact List.mem_map_of_mem ha)
          simp at hn'
          exact ⟨by omega, goods_all.mp hg.2 a ha⟩
        by_cases hs : s = s'
        · subst hs
          have p2 := parts_join (s := s) h0' hu.2
          rw [← e3, p1] at p2
          rw [txts_map, txts_map] at p2
          rw [lists p2 hlen (goods_all.mp hu.2)]
        · have : s' = !s := by cases s <;> cases s' <;> first | rfl | exact absurd rfl hs
          subst this
          have p2 := parts_none (s := s) h0' hu.2
          rw [← e3, p1] at p2
          have l2 := congrArg List.length p2
          rw [txts_map, List.length_map] at l2
          have := hg.1
          simp at l2; omega
theorem txt_eq {t u : T} (h1 : Good t) (h2 : Good u) (e : txt t = txt u) : t = u := txt_inj _ (Nat.le_refl _) h1 h2 e
abbrev CL := List (Nat × List Nat)
def tot (L : CL) (k : List Nat) : Nat := ((L.filter fun q => decide (q.2 = k)).map (·.1)).sum
def ky (L : CL) : List (List Nat) := (nmsOf (L.map fun q => S q.2)).map fun z => z.cps.toList
def pt (s : Bool) (n : Nat) (k : List Nat) : List Nat := if n = 1 then k else opn s :: (numL n ++ 32 :: (k ++ [cls s]))
def jn (s : Bool) (L : CL) : List Nat := match (ky L).map fun k => pt s (tot L k) k with
  | [x] => x
  | xs => 40 :: (joinL (sep s) xs ++ [41])
def scl (n : Nat) (L : CL) : CL := L.map fun q => (n * q.1, q.2)
mutual
def nf : T → List Nat × (Bool → CL)
  | .one => ([49], fun _ => [(1, [49])])
  | .name x => (x, fun _ => [(1, x)])
  | .cop s n u => (jn s (scl n ((nf u).2 s)), fun b => if b = s then scl n ((nf u).2 s) else [(1, jn s (scl n ((nf u).2 s)))])
  | .row s ts => (jn s (nfs s ts), fun b => if b = s then nfs s ts else [(1, jn s (nfs s ts))])
def nfs (s : Bool) : List T → CL
  | [] => []
  | t :: ts => (nf t).2 s ++ nfs s ts
end
/-- the text of the normal form; the pieces for a word, with the texts of their normal forms -/
def nrm (t : T) : List Nat := (nf t).1
def cn (b : Bool) (t : T) : CL := (nf t).2 b
def wd : T → Option Bool
  | .cop s _ _ => some s
  | .row s _ => some s
  | _ => none
theorem nfs_flat (s : Bool) : ∀ ts : List T, nfs s ts = ts.flatMap (cn s)
  | [] => by rw [nfs]; rfl
  | t :: ts => by rw [nfs, nfs_flat s ts, List.flatMap_cons]; rfl
theorem scl_one (L : CL) : scl 1 L = L := by
  unfold scl
  conv => rhs; rw [← List.map_id L]
  exact List.map_congr_left fun q _ => by simp
theorem cn_in {t : T} {s : Bool} (h : wd t = some s) : cn s t = (kids t).flatMap fun q => scl q.1 (cn s q.2) := by
  cases t with
  | one => cases h
  | name x => cases h
  | cop s' n u => cases h; unfold cn; rw [nf]; simp [kids]
  | row s' ts =>
    cases h
    unfold cn
    rw [nf]
    simp only [if_pos]
    rw [nfs_flat, kids, List.flatMap_map]
    refine fm_congr fun t _ => ?_
    exact (scl_one _).symm
theorem cn_out {t : T} {b : Bool} (h : wd t ≠ some b) : cn b t = [(1, nrm t)] := by
  cases t with
  | one => unfold cn nrm; rw [nf]
  | name x => unfold cn nrm; rw [nf]
  | cop s' n u => unfold cn nrm; rw [nf]; simp only; rw [if_neg (fun e => h (by rw [e]; rfl))]
  | row s' ts => unfold cn nrm; rw [nf]; simp only; rw [if_neg (fun e => h (by rw [e]; rfl))]
theorem nrm_in {t : T} {s : Bool} (h : wd t = some s) : nrm t = jn s (cn s t) := by
  cases t with
  | one => cases h
  | name x => cases h
  | cop s' n u => cases h; unfold nrm cn; rw [nf]; simp
  | row s' ts => cases h; unfold nrm cn; rw [nf]; simp
theorem nrm_leaf {t : T} (h : wd t = none) : nrm t = txt t := by
  cases t with
  | one => unfold nrm; rw [nf, txt]
  | name x => unfold nrm; rw [nf, txt]
  | cop s n u => cases h
  | row s ts => cases h
theorem un_S (z : Str) : S z.cps.toList = z := by cases z; rfl
theorem ky_mem {L : CL} {k : List Nat} : k ∈ ky L ↔ ∃ q ∈ L, q.2 = k := by
  unfold ky
  rw [List.mem_map]
  constructor
  · rintro ⟨z, hz, rfl⟩
    obtain ⟨q, hq, rfl⟩ := List.mem_map.mp ((nmsOf_mem _ _).mp hz)
    exact ⟨q, hq, rfl⟩
  · rintro ⟨q, hq, rfl⟩
    exact ⟨S q.2, (nmsOf_mem _ _).mpr (List.mem_map.mpr ⟨q, hq, rfl⟩), rfl⟩
theorem ky_nd (L : CL) : (ky L).Nodup := by
  unfold ky
  refine List.Pairwise.map _ (fun a b h e => h ?_) (nmsOf_nd _)
  rw [← un_S a, ← un_S b, e]
theorem ky_congr {L L' : CL} (h : ∀ k, (∃ q ∈ L, q.2 = k) ↔ ∃ q ∈ L', q.2 = k) : ky L = ky L' := by
  unfold ky
  rw [nmsOf_congr fun z => ?_]
  rw [List.mem_map, List.mem_map]
  constructor
  · rintro ⟨q, hq, rfl⟩
    obtain ⟨q', h1, h2⟩ := (h q.2).mp ⟨q, hq, rfl⟩
    exact ⟨q', h1, by rw [h2]⟩
  · rintro ⟨q, hq, rfl⟩
    obtain ⟨q', h1, h2⟩ := (h q.2).mpr ⟨q, hq, rfl⟩
    exact ⟨q', h1, by rw [h2]⟩
theorem tot_ge {L : CL} {q : Nat × List Nat} (h : q ∈ L) : q.1 ≤ tot L q.2 := by
  unfold tot
  exact mem_le_sum (List.mem_map_of_mem (List.mem_filter.mpr ⟨h, decide_eq_true rfl⟩))
theorem tot_le (L : CL) (k : List Nat) : tot L k ≤ (L.map (·.1)).sum := by
  unfold tot
  induction L with
  | nil => simp
  | cons q r ih =>
    rw [List.filter_cons]
    split
    · simp only [List.map_cons, List.sum_cons]; omega
    · simp only [List.map_cons, List.sum_cons]; omega
end PL
namespace PL
open PySem SX TL
theorem flat_const {β : Type} {m : Nat} (f : Nat → List β) (hf : ∀ i, (f i).length = m) : ∀ (n : Nat) {l : Nat}, l < n * m → ((List.range n).flatMap f)[l]? = (f (l / m))[l % m]?
  | 0, l, h => by simp at h
  | n + 1, l, h => by
    rw [List.range_succ, List.flatMap_append]
    have hlen : ((List.range n).flatMap f).length = n * m := by
      clear h
      induction n with
      | zero => simp
      | succ n ih => rw [List.range_succ, List.flatMap_append, List.length_append, ih]; simp [hf, Nat.succ_mul]
    by_cases hl : l < n * m
    · rw [List.getElem?_append_left (by rw [hlen]; exact hl)]
      exact flat_const f hf n hl
    · have hm : 0 < m := by
        rcases Nat.eq_zero_or_pos m with h0 | h0
        · subst h0; simp at h
        · exact h0
      rw [List.getElem?_append_right (by rw [hlen]; omega), hlen]
      have e1 : l = n * m + (l - n * m) := by omega
      have e2 : l - n * m < m := by rw [Nat.succ_mul] at h; omega
      have e3 : l / m = n := by rw [e1, Nat.add_comm, Nat.add_mul_div_right _ _ hm, Nat.div_eq_of_lt e2]; omega
      have e4 : l % m = l - n * m := by rw [e1, Nat.add_comm, Nat.add_mul_mod_self_right]; simp; exact Nat.mod_eq_of_lt e2
      rw [e3, e4]; simp
mutual
theorem persL_len : ∀ {t : T}, Told t → (persL t).length = ppl t
  | .one, _ => by rw [persL, ppl]; rfl
  | .name x, h => h.elim
  | .cop s n t, h => by
    rw [persL, ppl]
    have ih := persL_len (t := t) h
    have : ∀ m : Nat, ((List.range m).flatMap fun i => (persL t).map (i :: ·)).length = m * (persL t).length := by
      intro m
      induction m with
      | zero => simp
      | succ m ih => rw [List.range_succ, List.flatMap_append, List.length_append, ih]; simp [Nat.succ_mul]
    rw [this, ih]
  | .row s ts, h => by rw [persL, ppl]; exact persR_len 0 h
theorem persR_len : ∀ (k : Nat) {ts : List T}, Tolds ts → (persR k ts).length = ppls ts
  | k, [], _ => by rw [persR, ppls]; rfl
  | k, t :: ts, h => by rw [persR, ppls, List.length_append, List.length_map, persL_len h.1, persR_len (k + 1) h.2]
end
/-- how many people stand ahead of the part j -/
def ahead (t : T) (j : Nat) : Nat := match t with
  | .cop _ _ u => j * ppl u
  | .row _ ts => ((ts.take j).map ppl).sum
  | _ => 0
/-- the part in which the l-th of a row stands, and its number there -/
def spotR : List T → Nat → Nat × Nat
  | [], l => (0, l)
  | t :: ts, l => if l < ppl t then (0, l) else ((spotR ts (l - ppl t)).1 + 1, (spotR ts (l - ppl t)).2)
def spotT : T → Nat → Nat × Nat
  | .cop _ _ u, l => (l / ppl u, l % ppl u)
  | .row _ ts, l => spotR ts l
  | _, l => (0, l)
theorem spotR_ok : ∀ {ts : List T} {l k : Nat}, Tolds ts → l < ppls ts → ∃ v q, ts[(spotR ts l).1]? = some v ∧ (persL v)[(spotR ts l).2]? = some q ∧ (persR k ts)[l]? = some ((k + (spotR ts l).1) :: q) ∧ l = ((ts.take (spotR ts l).1).map ppl).sum + (spotR ts l).2 ∧ (spotR ts l).2 < ppl v
  | [], l, k, _, h => by rw [ppls] at h; omega
  | t :: ts, l, k, hT, h => by
    have hl := persL_len hT.1
    rw [spotR]
    by_cases hc : l < ppl t
    · rw [if_pos hc]
      have hq : (persL t)[l]? = some (persL t)[l] := List.getElem?_eq_getElem (by omega)
      refine ⟨t, _, rfl, hq, ?_, by simp, hc⟩
      rw [persR, List.getElem?_append_left (by rw [List.length_map]; omega), List.getElem?_map, hq]; rfl
    · rw [if_neg hc]
      rw [ppls] at h
      obtain ⟨v, q, h1, h2, h3, h4, h5⟩ := spotR_ok (ts := ts) (l := l - ppl t) (k := k + 1) hT.2 (by omega)
      refine ⟨v, q, by simpa using h1, h2, ?_, ?_, h5⟩
      · rw [persR, List.getElem?_append_right (by rw [List.length_map]; omega), List.length_map, hl, h3]
        congr 2; omega
      · show l = ((List.take ((spotR ts (l - ppl t)).1 + 1) (t :: ts)).map ppl).sum + _
        rw [List.take_succ_cons, List.map_cons, List.sum_cons]
        show l = ppl t + _ + (spotR ts (l - ppl t)).2
        omega
theorem spotT_ok {t : T} {l : Nat} (hT : Told t) (h1 : isOneT t = false) (h : l < ppl t) : ∃ v q, (spotT t l).1 < cnt t ∧ piece t (spotT t l).1 = some v ∧ (persL v)[(spotT t l).2]? = some q ∧ (persL t)[l]? = some ((spotT t l).1 :: q) ∧ l = ahead t (spotT t l).1 + (spotT t l).2 ∧ (spotT t l).2 < ppl v := by
  cases t with
  | one => cases h1
  | name x => exact hT.elim
  | cop s n u =>
    rw [ppl] at h
    have hu := persL_len (t := u) hT
    have hm : 0 < ppl u := by
      rcases Nat.eq_zero_or_pos (ppl u) with h0 | h0
      · rw [h0] at h; omega
      · exact h0
    have h2 : l % ppl u < ppl u := Nat.mod_lt _ hm
    have h3 : l / ppl u < n := (Nat.div_lt_iff_lt_mul hm).mpr h
    have hq : (persL u)[l % ppl u]? = some (persL u)[l % ppl u] := List.getElem?_eq_getElem (by omega)
    refine ⟨u, _, by rw [cnt_cop]; exact h3, rfl, hq, ?_, ?_, h2⟩
    · rw [persL, flat_const (m := ppl u) _ (fun i => by rw [List.length_map, hu]) n h]
      show (List.map (l / ppl u :: ·) (persL u))[l % ppl u]? = _
      rw [List.getElem?_map, hq]; rfl
    · show l = l / ppl u * ppl u + l % ppl u
      rw [Nat.mul_comm]; exact (Nat.div_add_mod l (ppl u)).symm
  | row s ts =>
    rw [ppl] at h
    obtain ⟨v, q, h1, h2, h3, h4, h5⟩ := spotR_ok (k := 0) (ts := ts) hT h
    refine ⟨v, q, ?_, h1, h2, ?_, h4, h5⟩
    · rw [cnt_row]; exact (List.getElem?_eq_some_iff.mp h1).1
    · rw [persL, h3, Nat.zero_add]; rfl
end PL
namespace PL
open PySem SX TL
theorem not_one {t : T} {i : Nat} (hi : i < cnt t) : isOneT t = false := by
  cases t with
  | one => simp [cnt, kids] at hi
  | _ => rfl
theorem ahead_succ {t u : T} {i : Nat} (hp : piece t i = some u) : ahead t (i + 1) = ahead t i + ppl u := by
  cases t with
  | one => cases hp
  | name x => cases hp
  | cop s n v =>
    obtain rfl : v = u := Option.some.inj hp
    show (i + 1) * ppl v = i * ppl v + ppl v
    rw [Nat.succ_mul]
  | row s ts =>
    have h : ts[i]? = some u := hp
    show ((ts.take (i + 1)).map ppl).sum = ((ts.take i).map ppl).sum + ppl u
    rw [List.take_add_one, h]
    simp
theorem piece_upto {t u : T} {i : Nat} (hp : piece t i = some u) {j : Nat} (h : j ≤ i) : ∃ v, piece t j = some v := by
  cases t with
  | one => cases hp
  | name x => cases hp
  | cop s n v => exact ⟨v, rfl⟩
  | row s ts =>
    have h1 : ts[i]? = some u := hp
    have := (List.getElem?_eq_some_iff.mp h1).1
    exact ⟨ts[j], List.getElem?_eq_getElem (by omega)⟩
theorem piece_told {t u : T} {i : Nat} (h : piece t i = some u) (ok : Ok t) : Told u := (piece_Ok h ok).2.1
theorem upTo_len {t v : T} {i : Nat} (ok : Ok t) (hv : piece t i = some v) : (upTo t i).length = ahead t i := by
  induction i generalizing v with
  | zero =>
    cases t with
    | cop s n v => show 0 = 0 * ppl v; simp
    | _ => rfl
  | succ i ih =>
    obtain ⟨x, hx⟩ := piece_upto hv (Nat.le_succ i)
    rw [upTo_succ hx, List.length_append, List.length_map, ahead_succ hx, persL_len (piece_told hx ok), ih hx]
theorem upTo_rest {t : T} {i : Nat} : ∀ {n : Nat}, i + 1 ≤ n → ∃ B, upTo t n = upTo t (i + 1) ++ B ∧ ∀ x ∈ B, ∃ j q, x = j :: q ∧ j ≠ i
  | 0, h => by omega
  | n + 1, h => by
    rcases Nat.eq_or_lt_of_le h with e | e
    · exact ⟨[], by rw [← e]; simp, fun x hx => nomatch hx⟩
    · obtain ⟨B, h1, h2⟩ := upTo_rest (t := t) (n := n) (i := i) (by omega)
      refine ⟨B ++ pieceP t n, ?_, fun x hx => ?_⟩
      · have : upTo t (n + 1) = upTo t n ++ pieceP t n := by
          unfold upTo
          rw [List.range_succ, List.flatMap_append]
          simp
        rw [this, h1, List.append_assoc]
      · rcases List.mem_append.mp hx with y | y
        · exact h2 x y
        · unfold pieceP at y
          cases e2 : piece t n with
          | none => rw [e2] at y; simp at y
          | some u =>
            rw [e2] at y
            obtain ⟨q, _, rfl⟩ := List.mem_map.mp y
            exact ⟨n, q, rfl, by omega⟩
/-- the people of a part stand together -/
theorem pers_split {t u : T} {i : Nat} (ok : Ok t) (hi : i < cnt t) (hp : piece t i = some u) : ∃ A B, persL t = A ++ ((persL u).map (i :: ·) ++ B) ∧ A.length = ahead t i ∧ (∀ x ∈ A, ∃ j q, x = j :: q ∧ j ≠ i) ∧ ∀ x ∈ B, ∃ j q, x = j :: q ∧ j ≠ i := by
  obtain ⟨B, h1, h2⟩ := upTo_rest (t := t) (i := i) (n := cnt t) hi
  refine ⟨upTo t i, B, ?_, upTo_len ok hp, fun x hx => ?_, h2⟩
  · rw [persL_upTo (not_one hi), h1, upTo_succ hp, List.append_assoc]
  · obtain ⟨j, _, q, h3, _, _, rfl⟩ := mem_upTo hx
    exact ⟨j, q, rfl, by omega⟩
theorem knows_in {t u : T} {i : Nat} {p q : List Nat} (hp : piece t i = some u) : knowsB t (i :: p) (i :: q) = knowsB u p q := by rw [knowsB, if_pos rfl, hp]
theorem knows_out {t : T} {i j : Nat} {p q : List Nat} (h : j ≠ i) : knowsB t (i :: p) (j :: q) = intr t := by rw [knowsB, if_neg (fun e => h e.symm)]
theorem filt_map {i : Nat} {f g : List Nat → Bool} (h : ∀ q, f (i :: q) = g q) : ∀ l : List (List Nat), (l.map (i :: ·)).filter f = (l.filter g).map (i :: ·)
  | [] => rfl
  | q :: l => by
    rw [List.map_cons, List.filter_cons, List.filter_cons, h q, filt_map h l]
    split <;> rfl
theorem cnt_map {i : Nat} {f g : List Nat → Bool} (h : ∀ q, f (i :: q) = g q) (l : List (List Nat)) : (l.map (i :: ·)).countP f = l.countP g := by
  rw [List.countP_eq_length_filter, filt_map h, List.length_map, List.countP_eq_length_filter]
end PL
namespace PL
open PySem SX TL
mutual
/-- the fewest rows -/
def rws : T → Nat
  | .one => 1
  | .name _ => 1
  | .cop s n t => if s = true then max 1 (rws t + ppl t - n * ppl t) else n * rws t
  | .row s ts => if s = true then max 1 (exs ts - ppls ts) else rwss ts
def rwss : List T → Nat
  | [] => 0
  | t :: ts => rws t + rwss ts
def exs : List T → Nat
  | [] => 0
  | t :: ts => max (rws t + ppl t) (exs ts)
end
theorem piece_le' {t u : T} {i : Nat} (h : piece t i = some u) (hg : Good t) : ppl u ≤ ppl t ∧ Good u := by
  cases t with
  | one => cases h
  | name x => cases h
  | cop s n v =>
    obtain rfl : v = u := Option.some.inj h
    rw [show ppl (.cop s n v) = n * ppl v by rw [ppl]]
    exact ⟨Nat.le_mul_of_pos_left _ (by have := hg.1; omega), hg.2.2⟩
  | row s ts =>
    have hm := List.mem_of_getElem? (show ts[i]? = some u from h)
    refine ⟨?_, goods_all.mp hg.2 u hm⟩
    rw [ppl, ppls_sum]
    exact mem_le_sum (List.mem_map_of_mem hm)
theorem exs_mem : ∀ {ts : List T} {u : T}, u ∈ ts → rws u + ppl u ≤ exs ts
  | t :: ts, u, h => by
    rw [exs]
    rcases List.mem_cons.mp h with rfl | h
    · exact Nat.le_max_left _ _
    · exact Nat.le_trans (exs_mem h) (Nat.le_max_right _ _)
mutual
theorem rws_pos : ∀ {t : T}, Good t → 1 ≤ rws t
  | .one, _ => by rw [rws]; exact Nat.le_refl _
  | .name x, _ => by rw [rws]; exact Nat.le_refl _
  | .cop s n t, h => by
    rw [rws]
    have := rws_pos h.2.2
    split
    · exact Nat.le_max_left _ _
    · exact Nat.mul_pos (by have := h.1; omega) this
  | .row s ts, h => by
    rw [rws]
    split
    · exact Nat.le_max_left _ _
    · have := rwss_pos h.2
      have := h.1
      omega
theorem rwss_pos : ∀ {ts : List T}, Goods ts → ts.length ≤ rwss ts
  | [], _ => Nat.zero_le _
  | t :: ts, h => by
    have h1 := rws_pos h.1
    have h2 := rwss_pos h.2
    rw [rwss, List.length_cons]; omega
end
mutual
theorem rws_le : ∀ {t : T}, Good t → rws t ≤ ppl t
  | .one, _ => by rw [rws, ppl]; exact Nat.le_refl _
  | .name x, _ => by rw [rws, ppl]; exact Nat.le_refl _
  | .cop s n t, h => by
    have h1 := rws_le h.2.2
    have h2 := ppl_pos h.2.2
    have h3 : 1 * ppl t ≤ n * ppl t := Nat.mul_le_mul_right _ (by have := h.1; omega)
    rw [rws, ppl]
    split
    · refine Nat.max_le.mpr ⟨by omega, by omega⟩
    · exact Nat.mul_le_mul_left _ h1
  | .row s ts, h => by
    have h1 := rwss_le h.2
    have h2 := exs_le h.2
    have h3 := ppls_pos h.2
    have h4 := h.1
    rw [rws, ppl]
    split
    · refine Nat.max_le.mpr ⟨by omega, by omega⟩
    · exact h1
theorem rwss_le : ∀ {ts : List T}, Goods ts → rwss ts ≤ ppls ts
  | [], _ => by rw [rwss]; exact Nat.zero_le _
  | t :: ts, h => by
    have h1 := rws_le h.1
    have h2 := rwss_le h.2
    rw [rwss, ppls]; omega
theorem exs_le : ∀ {ts : List T}, Goods ts → exs ts ≤ 2 * ppls ts
  | [], _ => by rw [exs]; exact Nat.zero_le _
  | t :: ts, h => by
    have h1 := rws_le h.1
    have h2 := exs_le h.2
    rw [exs, ppls]
    refine Nat.max_le.mpr ⟨by omega, by omega⟩
end
mutual
def pcs : T → Nat
  | .one => 1
  | .name _ => 1
  | .cop s n t => if s = true then 1 else n * pcs t
  | .row s ts => if s = true then 1 else pcss ts
def pcss : List T → Nat
  | [] => 0
  | t :: ts => pcs t + pcss ts
end
mutual
theorem pcs_le : ∀ {t : T}, Good t → pcs t ≤ rws t
  | .one, _ => by rw [rws, pcs]; exact Nat.le_refl _
  | .name x, _ => by rw [rws, pcs]; exact Nat.le_refl _
  | .cop s n t, h => by
    rw [rws, pcs]
    by_cases hs : s = true
    · rw [if_pos hs, if_pos hs]; exact Nat.le_max_left _ _
    · rw [if_neg hs, if_neg hs]; exact Nat.mul_le_mul_left _ (pcs_le h.2.2)
  | .row s ts, h => by
    rw [rws, pcs]
    by_cases hs : s = true
    · rw [if_pos hs, if_pos hs]; exact Nat.le_max_left _ _
    · rw [if_neg hs, if_neg hs]; exact pcss_le h.2
theorem pcss_le : ∀ {ts : List T}, Goods ts → pcss ts ≤ rwss ts
  | [], _ => by rw [rwss, pcss]; exact Nat.le_refl _
  | t :: ts, h => by
    have h1 := pcs_le h.1
    have h2 := pcss_le h.2
    rw [rwss, pcss]; omega
end
inductive Bar where
  | nil | at_ (i : Nat) (b : Bar) | bes (bs : List Bar)
mutual
/-- b is a bar of t: f pieces stay, l people leave -/
inductive Lb : T → Bar → Nat → Nat → Prop where
  | nil (t : T) : Lb t .nil (pcs t) 0
  | at_ {t u : T} {i f l : Nat} {b : Bar} (hI : intr t = true) (hi : i < cnt t) (hp : piece t i = some u) (h : Lb u b f l) : Lb t (.at_ i b) f (l + (ppl t - ppl u))
  | cop {t : T} {n f l : Nat} {b : Bar} (h : Lb t b f l) : Lb (.cop false n t) (.bes [b]) (n * f) (n * l)
  | row {ts : List T} {bs : List Bar} {f l : Nat} (h : Lbs ts bs f l) : Lb (.row false ts) (.bes bs) f l
inductive Lbs : List T → List Bar → Nat → Nat → Prop where
  | nil : Lbs [] [] 0 0
  | cons {t : T} {ts : List T} {b : Bar} {bs : List Bar} {f l f' l' : Nat} (h : Lb t b f l) (r : Lbs ts bs f' l') : Lbs (t :: ts) (b :: bs) (f + f') (l + l')
end
mutual
theorem Lb.sum : ∀ {t : T} {b : Bar} {f l : Nat}, Lb t b f l → Good t → f + l ≤ ppl t
  | _, _, _, _, .nil t, g => by
    have h1 := pcs_le g
    have h2 := rws_le g
    omega
  | _, _, _, _, .at_ hI hi hp h, g => by
    obtain ⟨h1, h2⟩ := piece_le' hp g
    have := Lb.sum h h2
    omega
  | _, _, _, _, .cop (n := n) h, g => by
    have := Lb.sum h g.2.2
    rw [ppl, ← Nat.mul_add]
    exact Nat.mul_le_mul_left _ this
  | _, _, _, _, .row h, g => by rw [ppl]; exact Lbs.sum h g.2
theorem Lbs.sum : ∀ {ts : List T} {bs : List Bar} {f l : Nat}, Lbs ts bs f l → Goods ts → f + l ≤ ppls ts
  | _, _, _, _, .nil, _ => Nat.zero_le _
  | _, _, _, _, .cons h r, g => by
    have h1 := Lb.sum h g.1
    have h2 := Lbs.sum r g.2
    rw [ppls]; omega
end
theorem Lbs.len : ∀ {ts : List T} {bs : List Bar} {f l : Nat}, Lbs ts bs f l → bs.length = ts.length
  | _, _, _, _, .nil => rfl
  | _, _, _, _, .cons h r => by rw [List.length_cons, List.length_cons, Lbs.len r]
end PL
namespace PL
open PySem SX TL
mutual
def nds : T → Nat
  | .one => 1
  | .name _ => 1
  | .cop _ _ t => nds t + 1
  | .row _ ts => ndss ts + 1
def ndss : List T → Nat
  | [] => 0
  | t :: ts => nds t + ndss ts
end
def lmG : Nat → Nat
  | 0 => 1
  | d + 1 => 3 * lmG d + 60
def ndG : Nat → Nat
  | 0 => 1
  | d + 1 => 3 * ndG d + 1
/-- told plans of at most m people, d deep -/
def Gt (t : T) (m d : Nat) : Prop := Good t ∧ Told t ∧ ppl t ≤ m ∧ ht t ≤ d ∧ (txt t).length ≤ lmG d ∧ nds t ≤ ndG d
/-- told plans that go deep -/
def Dp (t : T) (k : Nat) : Prop := Good t ∧ Told t ∧ ppl t ≤ 4 ^ k ∧ ht t ≤ k ∧ (txt t).length ≤ 1 + 10 * k ∧ nds t ≤ 1 + 3 * k
end PL
namespace PL
open PySem SX TL
/-- by the parts -/
theorem kids_rec {P : T → Prop} (h : ∀ t, (∀ q ∈ kids t, P q.2) → P t) : ∀ t, P t := fun t => by
  refine T.rec (motive_1 := P) (motive_2 := fun ts => ∀ u ∈ ts, P u) ?_ ?_ ?_ ?_ ?_ ?_ t
  · exact h _ fun q hq => by simp [kids] at hq
  · exact fun x => h _ fun q hq => by simp [kids] at hq
  · exact fun s n u ih => h _ fun q hq => by
      simp [kids] at hq
      rw [hq]; exact ih
  · exact fun s ts ih => h _ fun q hq => by
      obtain ⟨u, hu, rfl⟩ := List.mem_map.mp (show q ∈ ts.map fun t => (1, t) from hq)
      exact ih u hu
  · exact fun u hu => by cases hu
  · exact fun t ts h1 h2 u hu => (List.mem_cons.mp hu).elim (fun e => e ▸ h1) (h2 u)
theorem sum_sub {α : Type} [DecidableEq α] (g : α → Nat) : ∀ {ks ls : List α}, ks.Nodup → (∀ k ∈ ks, k ∈ ls) → (ks.map g).sum ≤ (ls.map g).sum
  | [], _, _, _ => by simp
  | k :: ks, ls, hn, hs => by
    obtain ⟨h1, h2⟩ := List.nodup_cons.mp hn
    have p := List.perm_cons_erase (hs k List.mem_cons_self)
    have e := (p.map g).sum_nat
    rw [List.map_cons, List.sum_cons] at e
    have := sum_sub g h2 (ls := ls.erase k) fun x hx => (List.mem_erase_of_ne (by intro e; subst e; exact h1 hx)).mpr (hs x (List.mem_cons_of_mem _ hx))
    rw [List.map_cons, List.sum_cons]
    omega
theorem kids_nds {t : T} (h : kids t ≠ []) : ((kids t).map fun q => nds q.2).sum + 1 = nds t := by
  cases t with
  | one => exact absurd rfl h
  | name x => exact absurd rfl h
  | cop s n u => rw [nds]; simp [kids]
  | row s ts =>
    rw [nds, kids, List.map_map]
    have : ∀ ts : List T, (ts.map ((fun q : Nat × T => nds q.2) ∘ fun t => (1, t))).sum = ndss ts := by
      intro ts
      induction ts with
      | nil => rw [ndss]; rfl
      | cons t r ih => rw [ndss, List.map_cons, List.sum_cons, ih]; rfl
    rw [this]
/-- u is the normal form of t -/
structure Nz (t u : T) : Prop where
  g : Good u
  tx : txt u = nrm t
  wd : wd u = wd t
  nf : nrm u = txt u
  ht : ht u ≤ 2 * ht t
  nd : nds u + 1 ≤ 2 * nds t
  pp : ppl u = ppl t
  lv : ∀ k, k ∈ lv u ↔ k ∈ lv t
/-- a piece: how often, its normal form, how many people it has -/
abbrev Pc3 := Nat × T × Nat
structure Cz (b : Bool) (L : CL) (m h z : Nat) (N : Str → Prop) (us : List Pc3) : Prop where
  eq : L = us.map fun q => (q.1, txt q.2.1)
  ok : ∀ q ∈ us, 1 ≤ q.1 ∧ 1 ≤ q.2.2 ∧ Good q.2.1 ∧ wd q.2.1 ≠ some b ∧ nrm q.2.1 = txt q.2.1 ∧ ht q.2.1 ≤ h ∧ q.2.2 = ppl q.2.1
  sum : (us.map fun q => q.1 * q.2.2).sum = m
  nd : (us.map fun q => nds q.2.1 + 1).sum ≤ z
  lv : ∀ k, (∃ q ∈ us, k ∈ lv q.2.1) ↔ N k
theorem mul_sum (n : Nat) {α : Type} (f : α → Nat) : ∀ l : List α, (l.map fun x => n * f x).sum = n * (l.map f).sum
  | [] => by simp
  | x :: l => by rw [List.map_cons, List.sum_cons, mul_sum n f l, List.map_cons, List.sum_cons, Nat.mul_add]
theorem Cz.scl {b : Bool} {L : CL} {m h z n : Nat} {N : Str → Prop} {us : List Pc3} (c : Cz b L m h z N us) (hn : 1 ≤ n) : Cz b (PL.scl n L) (n * m) h z N (us.map fun q => (n * q.1, q.2)) where
  eq := by rw [c.eq]; unfold PL.scl; rw [List.map_map, List.map_map]; rfl
  ok := fun q hq => by
    obtain ⟨q0, h0, rfl⟩ := List.mem_map.mp hq
    obtain ⟨a1, a2⟩ := c.ok q0 h0
    exact ⟨Nat.mul_pos hn a1, a2⟩
  sum := by
    rw [List.map_map, ← c.sum, ← mul_sum]
    refine congrArg List.sum (List.map_congr_left fun q _ => ?_)
    exact Nat.mul_assoc _ _ _
  nd := by rw [List.map_map]; exact c.nd
  lv := fun k => by
    rw [← c.lv k]
    constructor
    · rintro ⟨q, hq, hk⟩
      obtain ⟨q0, h0, rfl⟩ := List.mem_map.mp hq
      exact ⟨q0, h0, hk⟩
    · rintro ⟨q, hq, hk⟩
      exact ⟨_, List.mem_map_of_mem hq, hk⟩
theorem Cz.append {b : Bool} {L L' : CL} {m m' h z z' : Nat} {N N' : Str → Prop} {us us' : List Pc3} (c : Cz b L m h z N us) (c' : Cz b L' m' h z' N' us') : Cz b (L ++ L') (m + m') h (z + z') (fun k => N k ∨ N' k) (us ++ us') where
  eq := by rw [c.eq, c'.eq, List.map_append]
  ok := fun q hq => (List.mem_append.mp hq).elim (c.ok q) (c'.ok q)
  sum := by rw [List.map_append, List.sum_append, c.sum, c'.sum]
  nd := by rw [List.map_append, List.sum_append]; exact Nat.add_le_add c.nd c'.nd
  lv := fun k => by
    rw [← c.lv k, ← c'.lv k]
    constructor
    · rintro ⟨q, hq, hk⟩
      exact (List.mem_append.mp hq).imp (fun h => ⟨q, h, hk⟩) fun h => ⟨q, h, hk⟩
    · rintro (⟨q, hq, hk⟩ | ⟨q, hq, hk⟩)
      · exact ⟨q, List.mem_append_left _ hq, hk⟩
      · exact ⟨q, List.mem_append_right _ hq, hk⟩
theorem Cz.nil {b : Bool} {h : Nat} : Cz b [] 0 h 0 (fun _ => False) [] := ⟨rfl, fun q hq => (by cases hq), rfl, Nat.le_refl _, fun k => ⟨fun ⟨q, hq, _⟩ => (by cases hq), fun h => h.elim⟩⟩
theorem Cz.up {b : Bool} {L : CL} {m h h' z z' : Nat} {N N' : Str → Prop} {us : List Pc3} (c : Cz b L m h z N us) (hh : h ≤ h') (hz : z ≤ z') (hN : ∀ k, N k ↔ N' k) : Cz b L m h' z' N' us := ⟨c.eq, fun q hq => by
  obtain ⟨a1, a2, a3, a4, a5, a6, a7⟩ := c.ok q hq
  exact ⟨a1, a2, a3, a4, a5, by omega, a7⟩, c.sum, Nat.le_trans c.nd hz, fun k => (c.lv k).trans (hN k)⟩
/-- the pieces of some parts -/
theorem Cz.kids {b : Bool} {h : Nat} : ∀ {l : List (Nat × T)}, (∀ q ∈ l, 1 ≤ q.1 ∧ 1 ≤ ppl q.2 ∧ ∃ us, Cz b (cn b q.2) (ppl q.2) h (2 * nds q.2) (fun k => k ∈ PL.lv q.2) us) →
    ∃ us, Cz b (l.flatMap fun q => PL.scl q.1 (cn b q.2)) ((l.map fun q => q.1 * ppl q.2).sum) h (2 * (l.map fun q => nds q.2).sum) (fun k => ∃ q ∈ l, k ∈ PL.lv q.2) us ∧ (l.map (·.1)).sum ≤ (us.map (·.1)).sum
  | [], _ => ⟨[], Cz.nil.up (Nat.le_refl _) (Nat.zero_le _) fun k => ⟨fun h => h.elim, fun ⟨q, hq, _⟩ => (by cases hq)⟩, by simp⟩
  | q :: l, H => by
    obtain ⟨hq, hpos, us, c⟩ := H q List.mem_cons_self
    obtain ⟨vs, d, hd⟩ := Cz.kids (b := b) (h := h) (l := l) fun x hx => H x (List.mem_cons_of_mem _ hx)
    have c2 := c.scl hq
    refine ⟨_, by
      rw [List.flatMap_cons, List.map_cons, List.sum_cons]
      exact (c2.append d).up (Nat.le_refl _) (by rw [List.map_cons, List.sum_cons]; omega) fun k => ⟨fun h => h.elim (fun h => ⟨q, List.mem_cons_self, h⟩) fun ⟨x, hx, hk⟩ => ⟨x, List.mem_cons_of_mem _ hx, hk⟩, fun ⟨x, hx, hk⟩ => (List.mem_cons.mp hx).elim (fun e => .inl (e ▸ hk)) fun hx => .inr ⟨x, hx, hk⟩⟩, ?_⟩
    rw [List.map_append, List.sum_append, List.map_cons, List.sum_cons]
    have hne : us ≠ [] := fun e => by
      have h1 := c.sum
      rw [e] at h1
      simp at h1; omega
    obtain ⟨x, r, e⟩ : ∃ x r, us = x :: r := by
      cases us with
      | nil => exact absurd rfl hne
      | cons x r => exact ⟨x, r, rfl⟩
    have h1 := (c.ok x (by rw [e]; exact List.mem_cons_self)).1
    have : q.1 ≤ ((us.map fun z => (q.1 * z.1, z.2)).map (·.1)).sum := by
      rw [e, List.map_cons, List.map_cons, List.sum_cons]
      have := Nat.mul_le_mul_left q.1 h1
      simp only; omega
    exact Nat.add_le_add this hd
theorem choose_list {R : List Nat → T → Prop} : ∀ {ks : List (List Nat)}, (∀ k ∈ ks, ∃ v, R k v ∧ txt v = k) → ∃ vs : List T, vs.map txt = ks ∧ ∀ v ∈ vs, R (txt v) v
  | [], _ => ⟨[], rfl, fun v hv => (by cases hv)⟩
  | k :: ks, h => by
    obtain ⟨v, hv, rfl⟩ := h k List.mem_cons_self
    obtain ⟨vs, h1, h2⟩ := choose_list fun x hx => h x (List.mem_cons_of_mem _ hx)
    exact ⟨v :: vs, by rw [List.map_cons, h1], fun x hx => (List.mem_cons.mp hx).elim (fun e => e ▸ hv) (h2 x)⟩
theorem tot_one {f : T → Nat} : ∀ {vs : List T} {v : T}, (vs.map txt).Nodup → v ∈ vs → tot (vs.map fun v => (f v, txt v)) (txt v) = f v
  | x :: vs, v, hn, hv => by
    rw [List.map_cons] at hn
    obtain ⟨h1, h2⟩ := List.nodup_cons.mp hn
    have no : ∀ {vs : List T} {k : List Nat}, k ∉ vs.map txt → tot (vs.map fun v => (f v, txt v)) k = 0 := by
      intro vs k hk
      unfold tot
      rw [List.filter_eq_nil_iff.mpr]
      · rfl
      · intro q hq
        obtain ⟨y, hy, rfl⟩ := List.mem_map.mp hq
        simp only [decide_eq_true_eq]
        exact fun e => hk (e ▸ List.mem_map_of_mem hy)
    have cons : ∀ k, tot ((x :: vs).map fun v => (f v, txt v)) k = (if txt x = k then f x else 0) + tot (vs.map fun v => (f v, txt v)) k := fun k => by
      unfold tot
      rw [List.map_cons, List.filter_cons]
      by_cases e : txt x = k
      · simp [e]
      · simp [e]
    rw [cons]
    rcases List.mem_cons.mp hv with rfl | hv
    · rw [if_pos rfl, no h1, Nat.add_zero]
    · have : txt x ≠ txt v := fun e => h1 (e ▸ List.mem_map_of_mem hv)
      rw [if_neg this, Nat.zero_add]
      exact tot_one h2 hv
def prt (s : Bool) (L : CL) (v : T) : T := if tot L (txt v) = 1 then v else .cop s (tot L (txt v)) v
theorem prt_txt (s : Bool) (L : CL) (v : T) : txt (prt s L v) = pt s (tot L (txt v)) (txt v) := by
  unfold prt pt
  split
  · rfl
  · rw [txt]
theorem prt_lv (s : Bool) (L : CL) (v : T) : lv (prt s L v) = lv v := by
  unfold prt
  split
  · rfl
  · rw [lv]
theorem pick_sum {f : T → Nat} {n : Nat} : ∀ {vs : List T} {x : T}, (vs.map txt).Nodup → x ∈ vs → (vs.map fun v => (if txt x = txt v then n else 0) * f v).sum = n * f x
  | y :: vs, x, hn, hx => by
    rw [List.map_cons] at hn
    obtain ⟨h1, h2⟩ := List.nodup_cons.mp hn
    rw [List.map_cons, List.sum_cons]
    have zero : ∀ l : List T, txt x ∉ l.map txt → (l.map fun v => (if txt x = txt v then n else 0) * f v).sum = 0 := by
      intro l
      induction l with
      | nil => intro _; rfl
      | cons z r ih =>
        intro hz
        rw [List.map_cons, List.sum_cons, if_neg (fun e => hz (by rw [List.map_cons, e]; exact List.mem_cons_self)), ih fun h => hz (List.mem_cons_of_mem _ h)]
        simp
    rcases List.mem_cons.mp hx with rfl | hx
    · rw [if_pos rfl, zero vs h1, Nat.add_zero]
    · rw [if_neg (fun e => h1 (by rw [← e]; exact List.mem_map_of_mem hx)), pick_sum h2 hx]; simp
theorem group_sum {f : T → Nat} {vs : List T} (hn : (vs.map txt).Nodup) : ∀ {us : List Pc3}, (∀ q ∈ us, q.2.1 ∈ vs) → (vs.map fun v => tot (us.map fun q => (q.1, txt q.2.1)) (txt v) * f v).sum = (us.map fun q => q.1 * f q.2.1).sum
  | [], _ => by
    have : ∀ l : List T, (l.map fun v => tot (([] : List Pc3).map fun q => (q.1, txt q.2.1)) (txt v) * f v).sum = 0 := by
      intro l
      induction l with
      | nil => rfl
      | cons x r ih => rw [List.map_cons, List.sum_cons, ih]; simp [tot]
    exact this vs
  | q :: us, h => by
    have ih := group_sum (f := f) hn (us := us) fun x hx => h x (List.mem_cons_of_mem _ hx)
    have e1 : ∀ k, tot ((q :: us).map fun q => (q.1, txt q.2.1)) k = (if txt q.2.1 = k then q.1 else 0) + tot (us.map fun q => (q.1, txt q.2.1)) k := fun k => by
      unfold tot
      rw [List.map_cons, List.filter_cons]
      by_cases e : txt q.2.1 = k
      · simp [e]
      · simp [e]
    have e2 : ∀ l : List T, (l.map fun v => tot ((q :: us).map fun q => (q.1, txt q.2.1)) (txt v) * f v).sum = (l.map fun v => (if txt q.2.1 = txt v then q.1 else 0) * f v).sum + (l.map fun v => tot (us.map fun q => (q.1, txt q.2.1)) (txt v) * f v).sum := by
      intro l
      induction l with
      | nil => rfl
      | cons x r ih2 =>
        have a1 := e1 (txt x)
        generalize (q :: us).map (fun q => (q.1, txt q.2.1)) = B at ih2 a1
        simp only [List.map_cons, List.sum_cons]
        rw [ih2, a1, Nat.add_mul]
        omega
    rw [e2, ih, pick_sum hn (h q List.mem_cons_self), List.map_cons, List.sum_cons]
theorem nz_join {t : T} {s : Bool} {us : List Pc3} {h z : Nat} (hw : wd t = some s) (c : Cz s (cn s t) (ppl t) h z (fun k => k ∈ lv t) us) (h2 : 2 ≤ (us.map (·.1)).sum) (hh : h + 2 ≤ 2 * ht t) (hz : z + 2 ≤ 2 * nds t) (h30 : ppl t ≤ 10 ^ 30) : ∃ u, Nz t u := by
  have ht' := nrm_in hw
  generalize hL : cn s t = L at c ht'
  have hus : ∀ q ∈ us, (q.1, txt q.2.1) ∈ L := fun q hq => by rw [c.eq]; exact List.mem_map_of_mem (f := fun q : Pc3 => (q.1, txt q.2.1)) hq
  have hsumL : (L.map (·.1)).sum = (us.map (·.1)).sum := by rw [c.eq, List.map_map]; rfl
  have hsum : (us.map (·.1)).sum ≤ ppl t := by
    rw [← c.sum]
    have : ∀ l : List Pc3, (∀ q ∈ l, 1 ≤ q.2.2) → (l.map (·.1)).sum ≤ (l.map fun q => q.1 * q.2.2).sum := by
      intro l
      induction l with
      | nil => intro _; exact Nat.le_refl _
      | cons q r ih =>
        intro hl
        have h1 := ih fun x hx => hl x (List.mem_cons_of_mem _ hx)
        have h2 := Nat.mul_le_mul_left q.1 (hl q List.mem_cons_self)
        simp only [List.map_cons, List.sum_cons]; omega
    exact this us fun q hq => (c.ok q hq).2.1
  obtain ⟨vs, hv1, hv2⟩ := choose_list (R := fun _ v => ∃ n m, ((n, v, m) : Pc3) ∈ us) (ks := ky L) fun k hk => by
    obtain ⟨q, hq, rfl⟩ := ky_mem.mp hk
    rw [c.eq] at hq
    obtain ⟨⟨n, v, m⟩, hq0, rfl⟩ := List.mem_map.mp hq
    exact ⟨v, ⟨n, m, hq0⟩, rfl⟩
  have hnd : (vs.map txt).Nodup := by rw [hv1]; exact ky_nd L
  have hok : ∀ v ∈ vs, 1 ≤ tot L (txt v) ∧ tot L (txt v) ≤ 10 ^ 30 ∧ Good v ∧ wd v ≠ some s ∧ nrm v = txt v ∧ ht v ≤ h := fun v hv => by
    obtain ⟨n, m, hq⟩ := hv2 v hv
    obtain ⟨a1, a2, a3, a4, a5, a6, a7⟩ := c.ok _ hq
    have b1 := tot_ge (hus _ hq)
    have b2 := tot_le L (txt v)
    simp only at a1 a2 a3 a4 a5 a6 b1
    exact ⟨by omega, by omega, a3, a4, a5, a6⟩
  have hall : ∀ q ∈ us, q.2.1 ∈ vs := fun q hq => by
    have : txt q.2.1 ∈ vs.map txt := by rw [hv1]; exact ky_mem.mpr ⟨_, hus q hq, rfl⟩
    obtain ⟨v, hv, e⟩ := List.mem_map.mp this
    rw [← txt_eq (hok v hv).2.2.1 (c.ok q hq).2.2.1 e]
    exact hv
  have hpg : ∀ v ∈ vs, Good (prt s L v) ∧ ht (prt s L v) ≤ h + 1 ∧ cn s (prt s L v) = [(tot L (txt v), txt v)] := fun v hv => by
    obtain ⟨a1, a2, a3, a4, a5, a6⟩ := hok v hv
    have e1 : cn s v = [(1, txt v)] := by rw [cn_out a4, a5]
    unfold prt
    split
    · rename_i e
      exact ⟨a3, by omega, by rw [e1, e]⟩
    · rename_i e
      refine ⟨⟨by omega, a2, a3⟩, by rw [PL.ht]; omega, ?_⟩
      rw [cn_in (s := s) rfl]
      simp [kids, e1, PL.scl]
  have hjn : ∀ L', ky L' = ky L → (∀ v ∈ vs, tot L' (txt v) = tot L (txt v)) → jn s L' = jn s L := fun L' e1 e2 => by
    unfold jn
    rw [e1, ← hv1]
    have : (vs.map txt).map (fun k => pt s (tot L' k) k) = (vs.map txt).map fun k => pt s (tot L k) k := by
      rw [List.map_map, List.map_map]
      exact List.map_congr_left fun v hv => by simp only [Function.comp]; rw [e2 v hv]
    rw [this]
  have hjv : (ky L).map (fun k => pt s (tot L k) k) = (vs.map (prt s L)).map txt := by
    rw [← hv1, List.map_map, List.map_map]
    exact List.map_congr_left fun v hv => by simp only [Function.comp]; rw [prt_txt]
  have hlv : ∀ k, (∃ v ∈ vs, k ∈ lv v) ↔ k ∈ lv t := fun k => by
    rw [← c.lv k]
    constructor
    · rintro ⟨v, hv, hk⟩
      obtain ⟨n, m, hq⟩ := hv2 v hv
      exact ⟨_, hq, hk⟩
    · rintro ⟨q, hq, hk⟩
      exact ⟨_, hall q hq, hk⟩
  have hnz : (vs.map fun v => nds v + 1).sum ≤ z := by
    have : DecidableEq T := fun a b => Classical.propDecidable (a = b)
    refine Nat.le_trans (sum_sub (fun v : T => nds v + 1) ((List.pairwise_map.mp hnd).imp fun h e => h (by rw [e])) (ls := us.map (·.2.1)) fun v hv => ?_) (by rw [List.map_map]; exact c.nd)
    obtain ⟨n, m, hq⟩ := hv2 v hv
    exact List.mem_map.mpr ⟨_, hq, rfl⟩
  have hpn : ∀ v, nds (prt s L v) ≤ nds v + 1 := fun v => by
    unfold prt
    split
    · omega
    · rw [nds]; exact Nat.le_refl _
  have hpp : (vs.map fun v => tot L (txt v) * ppl v).sum = ppl t := by
    rw [← c.sum, c.eq, group_sum hnd hall]
    exact congrArg List.sum (List.map_congr_left fun q hq => by rw [(c.ok q hq).2.2.2.2.2.2])
  have hpv : ∀ v, ppl (prt s L v) = tot L (txt v) * ppl v := fun v => by
    unfold prt
    split
    · rename_i e; rw [e]; simp
    · rw [ppl]
  have hL' : ky (vs.map fun v => (tot L (txt v), txt v)) = ky L := by
    refine ky_congr fun k => ?_
    have : k ∈ ky L ↔ ∃ q ∈ L, q.2 = k := ky_mem
    rw [← this, ← hv1]
    constructor
    · rintro ⟨q, hq, rfl⟩
      obtain ⟨v, hv, rfl⟩ := List.mem_map.mp hq
      exact List.mem_map_of_mem hv
    · intro hk
      obtain ⟨v, hv, rfl⟩ := List.mem_map.mp hk
      exact ⟨_, List.mem_map_of_mem (f := fun v => (tot L (txt v), txt v)) hv, rfl⟩
  have hfin := hjn _ hL' fun v hv => tot_one (f := fun v => tot L (txt v)) hnd hv
  match vs, hjv, hnd, hok, hall, hpg, hlv, hfin, hnz, hpp with
  | [], _, _, _, hall, _, _, _, _, _ =>
    cases us with
    | nil => simp at h2
    | cons q r => exact absurd (hall q List.mem_cons_self) (by simp)
  | [v], hjv, _, hok, hall, hpg, hlv, hfin, hnz, hpp =>
    obtain ⟨a1, a2, a3, a4, a5, a6⟩ := hok v List.mem_cons_self
    have ec : tot L (txt v) = (L.map (·.1)).sum := by
      unfold tot
      rw [List.filter_eq_self.mpr]
      intro q hq
      rw [c.eq] at hq
      obtain ⟨q0, h0, rfl⟩ := List.mem_map.mp hq
      rw [List.mem_singleton.mp (hall q0 h0)]
      exact decide_eq_true rfl
    have e2 : prt s L v = .cop s (tot L (txt v)) v := by unfold prt; rw [if_neg (by omega)]
    obtain ⟨b1, b2, b3⟩ := hpg v List.mem_cons_self
    have tx : txt (prt s L v) = jn s L := by unfold jn; rw [hjv]; rfl
    refine ⟨prt s L v, b1, by rw [tx, ht'], by rw [e2, hw]; rfl, ?_, by omega, by have := hpn v; simp at hnz; omega, by rw [hpv]; simpa using hpp, fun k => ?_⟩
    · rw [nrm_in (s := s) (by rw [e2]; rfl), b3, tx]; exact hfin
    · rw [prt_lv, ← hlv k]; simp
  | v :: v' :: r, hjv, _, hok, hall, hpg, hlv, hfin, hnz, hpp =>
    have tx : txt (.row s ((v :: v' :: r).map (prt s L))) = jn s L := by unfold jn; rw [hjv, txt, txts_map]; rfl
    refine ⟨.row s ((v :: v' :: r).map (prt s L)), ⟨by simp, goods_all.mpr fun x hx => ?_⟩, by rw [tx, ht'], by rw [hw]; rfl, ?_, ?_, ?_, ?_, fun k => ?_⟩
    · obtain ⟨y, hy, rfl⟩ := List.mem_map.mp hx
      exact (hpg y hy).1
    · rw [nrm_in (s := s) rfl, cn_in (s := s) rfl, tx, ← hfin]
      congr 1
      rw [kids, List.flatMap_map, List.flatMap_map]
      rw [← List.flatMap_singleton' (List.map (fun v => (tot L (txt v), txt v)) (v :: v' :: r)), List.flatMap_map]
      refine fm_congr fun y hy => ?_
      rw [scl_one, (hpg y hy).2.2]
    · rw [PL.ht]
      have : hts ((v :: v' :: r).map (prt s L)) ≤ h + 1 := by
        have : ∀ l : List T, (∀ x ∈ l, PL.ht x ≤ h + 1) → hts l ≤ h + 1 := by
          intro l
          induction l with
          | nil => intro _; rw [hts]; omega
          | cons x r ih => intro hl; rw [hts]; have a := hl x List.mem_cons_self; have b := ih fun y hy => hl y (List.mem_cons_of_mem _ hy); omega
        refine this _ fun x hx => ?_
        obtain ⟨y, hy, rfl⟩ := List.mem_map.mp hx
        exact (hpg y hy).2.1
      omega
    · have : ∀ l : List T, ndss (l.map (prt s L)) ≤ (l.map fun v => nds v + 1).sum := by
        intro l
        induction l with
        | nil => rw [List.map_nil, ndss]; exact Nat.zero_le _
        | cons x r ih => rw [List.map_cons, ndss, List.map_cons, List.sum_cons]; exact Nat.add_le_add (hpn x) ih
      have := this (v :: v' :: r)
      rw [nds]; omega
    · rw [ppl, ppls_sum, List.map_map, ← hpp]
      exact congrArg List.sum (List.map_congr_left fun v _ => hpv v)
    · rw [lv, lvL_flat, List.mem_flatMap, ← hlv k]
      constructor
      · rintro ⟨x, hx, hk⟩
        obtain ⟨y, hy, rfl⟩ := List.mem_map.mp hx
        rw [prt_lv] at hk
        exact ⟨y, hy, hk⟩
      · rintro ⟨y, hy, hk⟩
        exact ⟨_, List.mem_map_of_mem hy, by rw [prt_lv]; exact hk⟩
theorem nz_all : ∀ t, Good t → ppl t ≤ 10 ^ 30 → (∃ u, Nz t u) ∧ ∀ b, ∃ us, Cz b (cn b t) (ppl t) (if wd t = some b then 2 * ht t - 2 else 2 * ht t) (if wd t = some b then 2 * nds t - 2 else 2 * nds t) (fun k => k ∈ lv t) us := by
  refine kids_rec fun t ih hg h30 => ?_
  cases hw : wd t with
  | none =>
    have e1 := nrm_leaf hw
    have e2 : ppl t = 1 := by
      cases t with
      | one => rw [ppl]
      | name x => rw [ppl]
      | cop s n u => cases hw
      | row s ts => cases hw
    have e3 : nds t = 1 := by
      cases t with
      | one => rw [nds]
      | name x => rw [nds]
      | cop s n u => cases hw
      | row s ts => cases hw
    refine ⟨⟨t, hg, e1.symm, rfl, e1, by omega, by omega, rfl, fun k => Iff.rfl⟩, fun b => ⟨[(1, t, 1)], ?_⟩⟩
    rw [cn_out (by rw [hw]; simp), if_neg (by simp), if_neg (by simp)]
    exact ⟨by rw [e1]; rfl, fun q hq => by rw [List.mem_singleton.mp hq]; exact ⟨Nat.le_refl _, Nat.le_refl _, hg, by rw [hw]; simp, e1, by simp; omega, e2.symm⟩, by simp [e2], by simp [e3], fun k => by simp⟩
  | some s =>
    have hn : ∀ x, t ≠ .name x := fun x e => by rw [e] at hw; cases hw
    have hk0 : kids t ≠ [] := by
      cases t with
      | one => cases hw
      | name x => cases hw
      | cop s n u => simp [kids]
      | row s ts =>
        have := hg.1
        intro e
        have h0 : ts.map (fun t => (1, t)) = [] := e
        rw [List.map_eq_nil_iff] at h0
        rw [h0] at this; simp at this
    have epp := ppl_kids hk0
    have h2 : 2 ≤ ((kids t).map (·.1)).sum := by
      cases t with
      | one => cases hw
      | name x => cases hw
      | cop s n u => simp [kids]; exact hg.1
      | row s ts => rw [show ((kids (.row s ts)).map (·.1)).sum = cnt (.row s ts) from rfl, cnt_row]; exact hg.1
    obtain ⟨us, c, hc⟩ := Cz.kids (b := s) (h := 2 * ht t - 2) (l := kids t) fun q hq => by
      obtain ⟨g1, g2, g3, g4, g5⟩ := kids_ok hq hg
      have hp := ppl_pos g1
      have hle : q.1 * ppl q.2 ≤ ppl t := by rw [epp]; exact mem_le_sum (List.mem_map_of_mem (f := fun q : Nat × T => q.1 * ppl q.2) hq)
      have hle2 : ppl q.2 ≤ q.1 * ppl q.2 := Nat.le_mul_of_pos_left _ (by omega)
      obtain ⟨us, c⟩ := (ih q hq g1 (by omega)).2 s
      refine ⟨g4, hp, us, c.up ?_ ?_ fun k => Iff.rfl⟩
      · split <;> omega
      · split <;> omega
    rw [← cn_in hw, ← epp] at c
    have hkn := kids_nds hk0
    have c := c.up (N' := fun k => k ∈ lv t) (Nat.le_refl _) (show 2 * ((kids t).map fun q => nds q.2).sum ≤ 2 * nds t - 2 by omega) fun k => by rw [lv_kids hn, List.mem_flatMap]
    have hpos : 1 ≤ ht t := by
      cases t with
      | one => cases hw
      | name x => cases hw
      | cop s n u => rw [ht]; omega
      | row s ts => rw [ht]; omega
    have hnp : 1 ≤ nds t := by omega
    have J := nz_join hw c (by omega) (by omega) (by omega) h30
    refine ⟨J, fun b => ?_⟩
    by_cases hb : s = b
    · subst hb
      rw [if_pos rfl, if_pos rfl]
      exact ⟨us, c⟩
    · have hb' : wd t ≠ some b := by rw [hw]; exact fun e => hb (Option.some.inj e)
      have hb2 : ¬ some s = some b := fun e => hb (Option.some.inj e)
      obtain ⟨u, z⟩ := J
      rw [cn_out hb', if_neg hb2, if_neg hb2]
      have hp := ppl_pos hg
      refine ⟨[(1, u, ppl t)], by rw [← z.tx]; rfl, fun q hq => ?_, by simp, ?_, fun k => ?_⟩
      · rw [List.mem_singleton.mp hq]
        exact ⟨Nat.le_refl _, hp, z.g, by rw [z.wd]; exact hb', z.nf, z.ht, z.pp.symm⟩
      · simp; exact z.nd
      · rw [← z.lv k]; simp
end PL
namespace PL
open PySem SX TL
theorem is_pers_mem : ∀ {p : List Nat} {t : T}, Ok t → isPers t p = true → p ∈ persL t
  | [], t, ok, h => by
    obtain rfl := pers_nil h
    rw [persL]; exact List.mem_singleton.mpr rfl
  | i :: p, t, ok, h => by
    obtain ⟨u, hi, hp, hu⟩ := pers_cons h
    obtain ⟨A, B, h1, _⟩ := pers_split ok hi hp
    rw [h1]
    exact List.mem_append_right _ (List.mem_append_left _ (List.mem_map_of_mem (is_pers_mem (piece_Ok hp ok) hu)))
/-- the number of a person -/
def num : T → List Nat → Nat
  | t, i :: p => match piece t i with
    | some u => ahead t i + num u p
    | none => 0
  | _, [] => 0
theorem num_cons {t u : T} {i : Nat} (hp : piece t i = some u) (p : List Nat) : num t (i :: p) = ahead t i + num u p := by rw [num, hp]
theorem num_of : ∀ {p : List Nat} {t : T} {l : Nat}, Ok t → (persL t)[l]? = some p → num t p = l
  | [], t, l, ok, h => by
    have h1 := pers_nil (pers_is _ (Nat.le_refl _) (List.mem_of_getElem? h))
    subst h1
    rw [persL] at h
    cases l with
    | zero => rw [num]
    | succ n => simp at h
  | i :: p, t, l, ok, h => by
    obtain ⟨u, hi, hp, hu⟩ := pers_cons (pers_is _ (Nat.le_refl _) (List.mem_of_getElem? h))
    have hlt : l < ppl t := by
      have := (List.getElem?_eq_some_iff.mp h).1
      rw [persL_len ok.2.1] at this; exact this
    obtain ⟨v, q, a1, a2, a3, a4, a5, a6⟩ := spotT_ok ok.2.1 (not_one hi) hlt
    rw [h] at a4
    injection a4 with a4
    injection a4 with e1 e2
    rw [← e1] at a2 a5
    rw [hp] at a2
    obtain rfl := Option.some.inj a2
    rw [num_cons hp, e2, num_of (piece_Ok hp ok) a3]; omega
theorem pers_num {p : List Nat} {t : T} (ok : Ok t) (h : isPers t p = true) : (persL t)[num t p]? = some p := by
  obtain ⟨l, hl, rfl⟩ := List.getElem_of_mem (is_pers_mem ok h)
  have h2 : (persL t)[l]? = some (persL t)[l] := List.getElem?_eq_getElem hl
  rw [num_of ok h2]; exact h2
theorem num_lt {p : List Nat} {t : T} (ok : Ok t) (h : isPers t p = true) : num t p < ppl t := by
  have := (List.getElem?_eq_some_iff.mp (pers_num ok h)).1
  rw [persL_len ok.2.1] at this; exact this
theorem ahead_mono {t u : T} {i j : Nat} (h : i ≤ j) (hp : piece t j = some u) : ahead t i ≤ ahead t j := by
  induction j generalizing u with
  | zero => rw [show i = 0 by omega]; exact Nat.le_refl _
  | succ j ih =>
    rcases Nat.eq_or_lt_of_le h with e | e
    · rw [e]; exact Nat.le_refl _
    · obtain ⟨v, hv⟩ := piece_upto hp (Nat.le_succ j)
      have := ih (by omega) hv
      rw [ahead_succ hv]; omega
theorem ahead_lt {t u v : T} {i j : Nat} (h : i < j) (hi : piece t i = some u) (hj : piece t j = some v) : ahead t i + ppl u ≤ ahead t j := by
  rw [← ahead_succ hi]; exact ahead_mono h hj
theorem knows_symm : ∀ (p q : List Nat) (t : T), knowsB t p q = knowsB t q p
  | [], [], t => rfl
  | [], j :: q, t => rfl
  | i :: p, [], t => rfl
  | i :: p, j :: q, t => by
    rw [knowsB, knowsB]
    by_cases h : i = j
    · subst h
      rw [if_pos rfl, if_pos rfl]
      cases piece t i with
      | none => rfl
      | some u => exact knows_symm p q u
    · rw [if_neg h, if_neg (fun e => h e.symm)]
def lim : Nat → Nat
  | 0 => 1
  | d + 1 => 4 * lim d + 20
end PL
namespace PL
open PySem SX TL
theorem nd_map {i : Nat} {L : List (List Nat)} (h : L.Nodup) : (L.map (i :: ·)).Nodup := by
  unfold List.Nodup
  rw [List.pairwise_map]
  exact h.imp fun {x y} hxy e => hxy (List.cons.inj e).2
theorem nd_flat {f : Nat → List (List Nat)} (h : ∀ j, (f j).Nodup) (n : Nat) : ((List.range n).flatMap fun j => (f j).map (j :: ·)).Nodup := by
  unfold List.Nodup
  rw [List.pairwise_flatMap]
  refine ⟨fun j _ => nd_map (h j), ?_⟩
  refine (List.nodup_range (n := n)).imp fun {a b} hab x hx y hy e => ?_
  obtain ⟨x', _, rfl⟩ := List.mem_map.mp hx
  obtain ⟨y', _, rfl⟩ := List.mem_map.mp hy
  exact hab (List.cons.inj e).1
theorem nd_pers (n : Nat) : ∀ {t : T}, ht t ≤ n → (persL t).Nodup := by
  induction n with
  | zero =>
    intro t hn
    cases h : isOneT t with
    | true =>
      cases t with
      | one => rw [persL]; exact List.pairwise_singleton _ _
      | _ => cases h
    | false =>
      rw [persL_upTo h, show upTo t (cnt t) = (List.range (cnt t)).flatMap fun j => (match piece t j with | some u => persL u | none => []).map (j :: ·) from fm_congr fun j _ => by unfold pieceP; cases piece t j <;> rfl]
      refine nd_flat (fun j => ?_) _
      cases e : piece t j with
      | none => exact List.Pairwise.nil
      | some u => have := piece_ht e; omega
  | succ n ih =>
    intro t hn
    cases h : isOneT t with
    | true =>
      cases t with
      | one => rw [persL]; exact List.pairwise_singleton _ _
      | _ => cases h
    | false =>
      rw [persL_upTo h, show upTo t (cnt t) = (List.range (cnt t)).flatMap fun j => (match piece t j with | some u => persL u | none => []).map (j :: ·) from fm_congr fun j _ => by unfold pieceP; cases piece t j <;> rfl]
      refine nd_flat (fun j => ?_) _
      cases e : piece t j with
      | none => exact List.Pairwise.nil
      | some u => exact ih (by have := piece_ht e; omega)
theorem pers_some {t : T} (g : Good t) (h : Told t) : ∃ p, p ∈ persL t := by
  have h1 := persL_len h
  have h2 := ppl_pos g
  exact ⟨(persL t)[0]'(by omega), List.getElem_mem _⟩
end PL
namespace PL
structure Gph (kn : Nat → Nat → Bool) : Prop where
  sym : ∀ a b, kn a b = kn b a
  irr : ∀ a, kn a a = false
/-- the other way round -/
def co (kn : Nat → Nat → Bool) (a b : Nat) : Bool := decide (a ≠ b) && !kn a b
theorem co_true {kn : Nat → Nat → Bool} {a b : Nat} : co kn a b = true ↔ a ≠ b ∧ kn a b = false := by
  unfold co
  rw [Bool.and_eq_true, decide_eq_true_eq, Bool.not_eq_true']
theorem co_false {kn : Nat → Nat → Bool} {a b : Nat} (h : co kn a b = false) (n : a ≠ b) : kn a b = true := by
  unfold co at h
  rw [decide_eq_true n, Bool.true_and] at h
  cases e : kn a b with
  | true => rfl
  | false => rw [e] at h; cases h
theorem Gph.co {kn : Nat → Nat → Bool} (g : Gph kn) : Gph (co kn) where
  sym := fun a b => by
    unfold PL.co
    rw [g.sym a b]
    congr 1
    exact decide_eq_decide.mpr ⟨Ne.symm, Ne.symm⟩
  irr := fun a => by unfold PL.co; simp
/-- no parting without a tie -/
def Conn (r : Nat → Nat → Bool) (S : List Nat) : Prop := ∀ A : Nat → Bool, (∃ x ∈ S, A x = true) → (∃ y ∈ S, A y = false) → ∃ x ∈ S, ∃ y ∈ S, A x = true ∧ A y = false ∧ r x y = true
structure P4 (kn : Nat → Nat → Bool) (a b c d : Nat) : Prop where
  ab : kn a b = true
  bc : kn b c = true
  cd : kn c d = true
  ac : kn a c = false
  bd : kn b d = false
  ad : kn a d = false
theorem bne {kn : Nat → Nat → Bool} {a b c d : Nat} (h1 : kn a b = true) (h2 : kn c d = false) : ¬ (a = c ∧ b = d) := fun ⟨e1, e2⟩ => by rw [e1, e2, h2] at h1; cases h1
theorem P4.ne {kn : Nat → Nat → Bool} (g : Gph kn) {a b c d : Nat} (h : P4 kn a b c d) : a ≠ b ∧ a ≠ c ∧ a ≠ d ∧ b ≠ c ∧ b ≠ d ∧ c ≠ d := by
  have s : ∀ {x y : Nat}, kn x y = true → x ≠ y := fun {x y} q e => by rw [e, g.irr] at q; cases q
  refine ⟨s h.ab, fun e => bne h.cd h.ad ⟨e.symm, rfl⟩, fun e => ?_, s h.bc, fun e => bne h.ab h.ad ⟨rfl, e⟩, s h.cd⟩
  have q := h.ab
  rw [e, g.sym, h.bd] at q; cases q
/-- the other way round a chain is a chain -/
theorem P4.co {kn : Nat → Nat → Bool} (g : Gph kn) {a b c d : Nat} (h : P4 (PL.co kn) a b c d) : P4 kn b d a c := by
  obtain ⟨n1, n2, n3, n4, n5, n6⟩ := h.ne g.co
  exact ⟨co_false h.bd n5, by rw [g.sym]; exact co_false h.ad n3, co_false h.ac n2, by rw [g.sym]; exact (co_true.mp h.ab).2, by rw [g.sym]; exact (co_true.mp h.cd).2, (co_true.mp h.bc).2⟩
def HasP4 (kn : Nat → Nat → Bool) (S : List Nat) : Prop := ∃ a ∈ S, ∃ b ∈ S, ∃ c ∈ S, ∃ d ∈ S, P4 kn a b c d
theorem HasP4.co {kn : Nat → Nat → Bool} (g : Gph kn) {S : List Nat} (h : HasP4 (PL.co kn) S) : HasP4 kn S := by
  obtain ⟨a, ha, b, hb, c, hc, d, hd, h⟩ := h
  exact ⟨b, hb, d, hd, a, ha, c, hc, h.co g⟩
theorem HasP4.mono {kn : Nat → Nat → Bool} {S S' : List Nat} (h : HasP4 kn S) (m : ∀ x ∈ S, x ∈ S') : HasP4 kn S' := by
  obtain ⟨a, ha, b, hb, c, hc, d, hd, h⟩ := h
  exact ⟨a, m a ha, b, m b hb, c, m c hc, d, m d hd, h⟩
theorem conn_one (r : Nat → Nat → Bool) (x : Nat) : Conn r [x] := fun A ⟨a, ha, h1⟩ ⟨b, hb, h2⟩ => by
  rw [List.mem_singleton.mp ha] at h1
  rw [List.mem_singleton.mp hb, h1] at h2
  cases h2
theorem Conn.perm {r : Nat → Nat → Bool} {S S' : List Nat} (h : Conn r S) (p : S'.Perm S) : Conn r S' := fun A ⟨a, ha, h1⟩ ⟨b, hb, h2⟩ => by
  obtain ⟨u, hu, v, hv, q⟩ := h A ⟨a, p.mem_iff.mp ha, h1⟩ ⟨b, p.mem_iff.mp hb, h2⟩
  exact ⟨u, p.mem_iff.mpr hu, v, p.mem_iff.mpr hv, q⟩
/-- the pieces of some people -/
structure Pcs (r : Nat → Nat → Bool) (S : List Nat) (fs : List (List Nat)) : Prop where
  perm : fs.flatten.Perm S
  ne : ∀ f ∈ fs, f ≠ []
  conn : ∀ f ∈ fs, Conn r f
  apart : fs.Pairwise fun f g => ∀ x ∈ f, ∀ y ∈ g, r x y = false
  asc : ∀ f ∈ fs, f.Pairwise (· < ·)
theorem Pcs.len {r : Nat → Nat → Bool} {S : List Nat} {fs : List (List Nat)} (h : Pcs r S fs) : (fs.map List.length).sum = S.length := by
  rw [← List.length_flatten]; exact h.perm.length_eq
end PL
namespace PL
open PySem SX TL
/-- some people, and for each one a person of a plan -/
abbrev Mm := List (Nat × List Nat)
abbrev Mm.ks (m : Mm) : List Nat := m.map (·.1)
structure Tel (kn : Nat → Nat → Bool) (t : T) (m : Mm) : Prop where
  good : Good t
  told : Told t
  nd : m.ks.Nodup
  all : (m.map (·.2)).Perm (persL t)
  kno : ∀ q ∈ m, ∀ r ∈ m, q.1 ≠ r.1 → knowsB t q.2 r.2 = kn q.1 r.1
theorem key_uniq : ∀ {m : Mm}, m.ks.Nodup → ∀ {x : Nat} {a b : List Nat}, (x, a) ∈ m → (x, b) ∈ m → a = b
  | q :: m, nd, x, a, b, ha, hb => by
    obtain ⟨h1, h2⟩ := List.nodup_cons.mp nd
    rcases List.mem_cons.mp ha with ea | ha <;> rcases List.mem_cons.mp hb with eb | hb
    · have := ea.trans eb.symm; injection this with _ e
    · exact absurd (List.mem_map_of_mem (f := fun q : Nat × List Nat => q.1) hb) (by rw [← ea] at h1; exact h1)
    · exact absurd (List.mem_map_of_mem (f := fun q : Nat × List Nat => q.1) ha) (by rw [← eb] at h1; exact h1)
    · exact key_uniq h2 ha hb
def tlP (i : Nat) : List Nat → Option (List Nat)
  | j :: p => if j = i then some p else none
  | [] => none
def tlQ (i : Nat) (q : Nat × List Nat) : Option (Nat × List Nat) := (tlP i q.2).map fun p => (q.1, p)
def ptM (i : Nat) (m : Mm) : Mm := m.filterMap (tlQ i)
theorem tlP_iff {i : Nat} {a p : List Nat} : tlP i a = some p ↔ a = i :: p := by
  cases a with
  | nil => exact ⟨fun h => (by cases h), fun h => (by cases h)⟩
  | cons j r =>
    show (if j = i then some r else none) = some p ↔ _
    by_cases e : j = i
    · subst e; rw [if_pos rfl]; constructor
      · intro h; cases h; rfl
      · intro h; injection h with _ h; rw [h]
    · rw [if_neg e]
      exact ⟨fun h => (by cases h), fun h => (by injection h with h _; exact absurd h e)⟩
theorem ptM_mem {i : Nat} {m : Mm} {q : Nat × List Nat} : q ∈ ptM i m ↔ (q.1, i :: q.2) ∈ m := by
  unfold ptM
  rw [List.mem_filterMap]
  constructor
  · rintro ⟨⟨x, a⟩, hm, h⟩
    obtain ⟨p, hp, rfl⟩ := Option.map_eq_some_iff.mp h
    have e : a = i :: p := tlP_iff.mp hp
    subst e; exact hm
  · intro h
    exact ⟨_, h, by unfold tlQ; rw [tlP_iff.mpr rfl]; rfl⟩
theorem ptM_sub (i : Nat) : ∀ m : Mm, (ptM i m).ks.Sublist m.ks
  | [] => .slnil
  | q :: m => by
    unfold ptM
    rw [List.filterMap_cons]
    cases h : tlQ i q with
    | none => exact (ptM_sub i m).cons _
    | some r =>
      obtain ⟨p, _, rfl⟩ := Option.map_eq_some_iff.mp h
      exact (ptM_sub i m).cons₂ _
theorem flat_pick {α : Type} (L : List α) (i : Nat) : ∀ n, ((List.range n).flatMap fun j => if j = i then L else []) = if i < n then L else []
  | 0 => by rw [if_neg (by omega)]; rfl
  | n + 1 => by
    rw [List.range_succ, List.flatMap_append, flat_pick L i n, List.flatMap_cons, List.flatMap_nil, List.append_nil]
    by_cases h : n = i
    · subst h; rw [if_neg (by omega), if_pos rfl, if_pos (by omega)]; rfl
    · rw [if_neg h, List.append_nil]
      by_cases h2 : i < n
      · rw [if_pos h2, if_pos (by omega)]
      · rw [if_neg h2, if_neg (by omega)]
theorem fm_cons_self (i : Nat) (l : List (List Nat)) : (l.map (i :: ·)).filterMap (tlP i) = l := by
  induction l with
  | nil => rfl
  | cons a l ih => rw [List.map_cons, List.filterMap_cons, tlP_iff.mpr rfl]; simp only [ih]
theorem fm_cons_ne {i j : Nat} (h : j ≠ i) (l : List (List Nat)) : (l.map (j :: ·)).filterMap (tlP i) = [] := by
  rw [List.filterMap_eq_nil_iff]
  intro a ha
  obtain ⟨p, _, rfl⟩ := List.mem_map.mp ha
  exact if_neg h
theorem pers_part {t u : T} {i : Nat} (h : piece t i = some u) (hi : i < cnt t) : (persL t).filterMap (tlP i) = persL u := by
  have h1 : isOneT t = false := by cases t <;> first | rfl | cases h
  rw [persL_upTo h1]
  unfold upTo
  rw [List.filterMap_flatMap]
  rw [fm_congr (g := fun j => if j = i then persL u else []) fun j hj => ?_, flat_pick, if_pos hi]
  by_cases e : j = i
  · subst e
    rw [if_pos rfl]
    unfold pieceP; rw [h]
    exact fm_cons_self _ _
  · rw [if_neg e]
    unfold pieceP
    cases piece t j with
    | none => rfl
    | some v => exact fm_cons_ne e _
theorem ptM_snd (i : Nat) : ∀ m : Mm, (ptM i m).map (·.2) = (m.map (·.2)).filterMap (tlP i)
  | [] => rfl
  | q :: m => by
    have ih := ptM_snd i m
    unfold ptM at ih ⊢
    rw [List.filterMap_cons, List.map_cons, List.filterMap_cons]
    unfold tlQ
    cases tlP i q.2 with
    | none => exact ih
    | some p => exact congrArg (p :: ·) ih
theorem ptM_all {t u : T} {m : Mm} {i : Nat} (h : piece t i = some u) (hi : i < cnt t) (ha : (m.map (·.2)).Perm (persL t)) : ((ptM i m).map (·.2)).Perm (persL u) := by
  rw [← pers_part h hi]
  have e := ptM_snd i m
  rw [e]
  exact ha.filterMap _
theorem piece_of {t : T} {i : Nat} (hi : i < cnt t) : ∃ u, piece t i = some u ∧ ∃ c, (c, u) ∈ kids t := by
  cases t with
  | one => simp [cnt, kids] at hi
  | name x => simp [cnt, kids] at hi
  | cop s n v => exact ⟨v, rfl, n, by simp [kids]⟩
  | row s ts =>
    rw [cnt_row] at hi
    exact ⟨ts[i], List.getElem?_eq_getElem hi, 1, List.mem_map_of_mem (List.getElem_mem hi)⟩
theorem Tel.part {kn : Nat → Nat → Bool} {t u : T} {m : Mm} {i : Nat} (h : Tel kn t m) (hu : piece t i = some u) (hk : ∃ c, (c, u) ∈ kids t) (hi : i < cnt t) : Tel kn u (ptM i m) := by
  obtain ⟨c, hk⟩ := hk
  refine ⟨(kids_ok hk h.good).1, kids_told hk h.told, h.nd.sublist (ptM_sub i m), ptM_all hu hi h.all, fun q hq r hr n => ?_⟩
  have := h.kno _ (ptM_mem.mp hq) _ (ptM_mem.mp hr) n
  rw [← this, knowsB, if_pos rfl, hu]
theorem Tel.heads {kn : Nat → Nat → Bool} {t : T} {m : Mm} (h : Tel kn t m) (h1 : isOneT t = false) : ∀ q ∈ m, ∃ j p, q.2 = j :: p ∧ j < cnt t := fun q hq => by
  have hp := h.all.mem_iff.mp (List.mem_map_of_mem (f := fun q : Nat × List Nat => q.2) hq)
  rw [persL_upTo h1] at hp
  obtain ⟨j, u, p, hj, _, _, e⟩ := mem_upTo hp
  exact ⟨j, p, e, hj⟩
theorem Tel.cross {kn : Nat → Nat → Bool} {t : T} {m : Mm} (h : Tel kn t m) {i j : Nat} (hij : i ≠ j) {q r : Nat × List Nat} (hq : q ∈ ptM i m) (hr : r ∈ ptM j m) : kn q.1 r.1 = intr t := by
  have a := ptM_mem.mp hq
  have b := ptM_mem.mp hr
  have n : q.1 ≠ r.1 := fun e => by
    rw [e] at a
    have := key_uniq h.nd a b
    injection this with e _
    exact hij e
  rw [← h.kno _ a _ b n, knowsB, if_neg hij]
theorem perm_mix {α β : Type} (f g : β → List α) : ∀ l : List β, (l.flatMap fun i => g i ++ f i).Perm (l.flatMap g ++ l.flatMap f)
  | [] => .nil
  | x :: l => by
    rw [List.flatMap_cons, List.flatMap_cons, List.flatMap_cons]
    have h := perm_mix f g l
    rw [List.append_assoc, List.append_assoc]
    refine List.Perm.append_left _ ?_
    refine (h.append_left (f x)).trans ?_
    rw [← List.append_assoc, ← List.append_assoc]
    exact List.perm_append_comm.append_right _
theorem ptM_flat {n : Nat} : ∀ {m : Mm}, (∀ q ∈ m, ∃ j p, q.2 = j :: p ∧ j < n) → ((List.range n).flatMap fun i => (ptM i m).ks).Perm m.ks
  | [], _ => by
    have : ((List.range n).flatMap fun i => (ptM i []).ks) = [] := by
      rw [List.flatMap_eq_nil_iff]; intro i _; rfl
    rw [this]; exact .nil
  | q :: m, h => by
    obtain ⟨j, p, e, hj⟩ := h q List.mem_cons_self
    have ih := ptM_flat (n := n) (m := m) fun x hx => h x (List.mem_cons_of_mem _ hx)
    rw [fm_congr (g := fun i => (if i = j then [q.1] else []) ++ (ptM i m).ks) fun i _ => ?_]
    · refine (perm_mix _ _ _).trans ?_
      rw [flat_pick, if_pos hj]
      exact ih.cons q.1
    · unfold ptM
      rw [List.filterMap_cons]
      unfold tlQ
      rw [e]
      by_cases hi : i = j
      · subst hi; rw [tlP_iff.mpr rfl, if_pos rfl]; rfl
      · rw [show tlP i (j :: p) = none from if_neg (Ne.symm hi), if_neg hi]; rfl
def ex (L : CL) : List (List Nat) := L.flatMap fun q => List.replicate q.1 q.2
theorem ex_scl (n : Nat) : ∀ L : CL, (ex (scl n L)).Perm (List.replicate n (ex L)).flatten
  | [] => by
    have : (List.replicate n (ex [])).flatten = [] := by
      rw [List.flatten_eq_nil_iff]; intro x hx; exact List.eq_of_mem_replicate hx
    rw [this]; exact .nil
  | q :: L => by
    have mix : ∀ (k : Nat) (A B : List (List Nat)), (List.replicate k (A ++ B)).flatten.Perm ((List.replicate k A).flatten ++ (List.replicate k B).flatten) := by
      intro k A B
      induction k with
      | zero => exact .nil
      | succ k ih =>
        rw [List.replicate_succ, List.replicate_succ, List.replicate_succ, List.flatten_cons, List.flatten_cons, List.flatten_cons, List.append_assoc, List.append_assoc]
        refine List.Perm.append_left _ ((ih.append_left B).trans ?_)
        rw [← List.append_assoc, ← List.append_assoc]
        exact List.perm_append_comm.append_right _
    refine List.Perm.trans ?_ (mix n (List.replicate q.1 q.2) (ex L)).symm
    rw [List.flatten_replicate_replicate]
    exact (ex_scl n L).append_left _
theorem tot_ex (L : CL) (k : List Nat) : (ex L).count k = tot L k := by
  induction L with
  | nil => rfl
  | cons q L ih =>
    unfold tot
    rw [List.filter_cons]
    show (List.replicate q.1 q.2 ++ ex L).count k = _
    rw [List.count_append, ih, List.count_replicate]
    by_cases h : q.2 = k
    · rw [if_pos (by simpa using h), if_pos (decide_eq_true h)]; rfl
    · rw [if_neg (by simpa using h), if_neg (by rw [decide_eq_false h]; decide), Nat.zero_add]; rfl
/-- how a plan falls apart by a word -/
structure Dec (kn : Nat → Nat → Bool) (s : Bool) (t : T) (m : Mm) (k : Nat) (L : List (List Nat)) (Fs : List (T × Mm)) : Prop where
  tel : ∀ F ∈ Fs, Tel kn F.1 F.2
  out : ∀ F ∈ Fs, wd F.1 ≠ some s
  hgt : ∀ F ∈ Fs, ht F.1 ≤ k
  flat : (Fs.flatMap fun F => F.2.ks).Perm m.ks
  cro : Fs.Pairwise fun F G => ∀ x ∈ F.2.ks, ∀ y ∈ G.2.ks, kn x y = s
  lab : (Fs.map fun F => nrm F.1).Perm L
theorem fr_get {α β : Type} (f : α → List β) : ∀ (ts : List α) (d : α), ((List.range ts.length).flatMap fun i => f (ts.getD i d)) = ts.flatMap f
  | [], _ => rfl
  | t :: ts, d => by
    rw [List.length_cons, List.range_succ_eq_map, List.flatMap_cons, List.flatMap_map, List.flatMap_cons, ← fr_get f ts d]
    rfl
theorem parts_ex {t : T} {s : Bool} (h : wd t = some s) : ((List.range (cnt t)).flatMap fun i => ex (cn s ((piece t i).getD .one))).Perm (ex (cn s t)) := by
  rw [cn_in h]
  cases t with
  | one => cases h
  | name x => cases h
  | cop s' n u =>
    rw [cnt_cop]
    have e : (kids (.cop s' n u)).flatMap (fun q => scl q.1 (cn s q.2)) = scl n (cn s u) := by simp [kids]
    rw [e]
    refine List.Perm.trans ?_ (ex_scl n _).symm
    have e2 : ((List.range n).flatMap fun i => ex (cn s ((piece (.cop s' n u) i).getD .one))) = (List.replicate n (ex (cn s u))).flatten := by
      rw [List.flatMap_def]
      congr 1
      refine List.ext_getElem (by simp) fun i h1 h2 => ?_
      simp [piece]
    rw [e2]
  | row s' ts =>
    rw [cnt_row]
    have e : (kids (.row s' ts)).flatMap (fun q => scl q.1 (cn s q.2)) = ts.flatMap (cn s) := by
      rw [kids, List.flatMap_map]
      exact fm_congr fun t _ => scl_one _
    rw [e]
    have e2 : ex (ts.flatMap (cn s)) = ts.flatMap fun t => ex (cn s t) := by
      unfold ex; rw [List.flatMap_assoc]
    rw [e2, ← fr_get (fun t => ex (cn s t)) ts .one]
    refine List.Perm.of_eq (fm_congr fun i _ => ?_)
    rw [List.getD_eq_getElem?_getD]; rfl
theorem wd_intr {t : T} {s : Bool} (h : wd t = some s) : intr t = s := by cases t <;> cases h <;> rfl
theorem wd_isOne {t : T} {s : Bool} (h : wd t = some s) : isOneT t = false := by cases t <;> first | rfl | cases h
theorem dec (kn : Nat → Nat → Bool) (s : Bool) : ∀ t m, Tel kn t m → ∃ Fs, Dec kn s t m (if wd t = some s then ht t - 1 else ht t) (ex (cn s t)) Fs := by
  refine kids_rec fun t ih m h => ?_
  by_cases hw : wd t = some s
  · rw [if_pos hw]
    have h1 := wd_isOne hw
    have step : ∀ k, k ≤ cnt t → ∃ Fs : List (T × Mm), (∀ F ∈ Fs, Tel kn F.1 F.2) ∧ (∀ F ∈ Fs, wd F.1 ≠ some s) ∧ (∀ F ∈ Fs, ht F.1 ≤ ht t - 1) ∧ (Fs.flatMap fun F => F.2.ks).Perm ((List.range k).flatMap fun i => (ptM i m).ks) ∧
        (Fs.Pairwise fun F G => ∀ x ∈ F.2.ks, ∀ y ∈ G.2.ks, kn x y = s) ∧ (Fs.map fun F => nrm F.1).Perm ((List.range k).flatMap fun i => ex (cn s ((piece t i).getD .one))) := by
      intro k
      induction k with
      | zero => exact fun _ => ⟨[], fun F h => (by cases h), fun F h => (by cases h), fun F h => (by cases h), .nil, .nil, .nil⟩
      | succ k ihk =>
        intro hk
        obtain ⟨Fs, a1, a2, a3, a4, a5, a6⟩ := ihk (by omega)
        obtain ⟨u, hu, c, hc⟩ := piece_of (t := t) (i := k) (by omega)
        have hut := (kids_ok hc h.good).2.1
        obtain ⟨Gs, d⟩ := ih _ hc (ptM k m) (h.part hu ⟨c, hc⟩ (by omega))
        have hd : ∀ F ∈ Gs, ht F.1 ≤ ht t - 1 := fun F hF => by
          have := d.hgt F hF
          have hut' : ht u < ht t := hut
          split at this
          · exact Nat.le_trans this (show ht u - 1 ≤ ht t - 1 by omega)
          · exact Nat.le_trans this (show ht u ≤ ht t - 1 by omega)
        refine ⟨Fs ++ Gs, fun F hF => (List.mem_append.mp hF).elim (a1 F) (d.tel F), fun F hF => (List.mem_append.mp hF).elim (a2 F) (d.out F), fun F hF => (List.mem_append.mp hF).elim (a3 F) (hd F), ?_, ?_, ?_⟩
        · rw [List.flatMap_append, List.range_succ, List.flatMap_append, List.flatMap_cons, List.flatMap_nil, List.append_nil]
          exact a4.append d.flat
        · refine List.pairwise_append.mpr ⟨a5, d.cro, fun F hF G hG x hx y hy => ?_⟩
          have hx2 := a4.mem_iff.mp (List.mem_flatMap.mpr ⟨F, hF, hx⟩)
          have hy2 := d.flat.mem_iff.mp (List.mem_flatMap.mpr ⟨G, hG, hy⟩)
          obtain ⟨i, hi, hx3⟩ := List.mem_flatMap.mp hx2
          obtain ⟨q, hq, rfl⟩ := List.mem_map.mp hx3
          obtain ⟨r, hr, rfl⟩ := List.mem_map.mp hy2
          rw [h.cross (by have := List.mem_range.mp hi; omega) hq hr, wd_intr hw]
        · rw [List.map_append, List.range_succ, List.flatMap_append, List.flatMap_cons, List.flatMap_nil, List.append_nil]
          refine a6.append ?_
          rw [hu]
          exact d.lab
    obtain ⟨Fs, a1, a2, a3, a4, a5, a6⟩ := step (cnt t) (Nat.le_refl _)
    exact ⟨Fs, a1, a2, a3, a4.trans (ptM_flat (h.heads h1)), a5, a6.trans (parts_ex hw)⟩
  · rw [if_neg hw]
    refine ⟨[(t, m)], fun F hF => by rw [List.mem_singleton.mp hF]; exact h, fun F hF => by rw [List.mem_singleton.mp hF]; exact hw, fun F hF => by rw [List.mem_singleton.mp hF]; exact Nat.le_refl _, ?_, List.pairwise_singleton _ _, ?_⟩
    · simp
    · rw [cn_out hw]; exact .refl _
end PL
namespace PL
open PySem SX TL
theorem cntT2 {t : T} {s : Bool} (h : wd t = some s) (g : Good t) : 2 ≤ cnt t := by
  cases t with
  | one => cases h
  | name x => cases h
  | cop s' n u => rw [cnt_cop]; exact g.1
  | row s' ts => rw [cnt_row]; exact g.1
theorem told_one {t : T} (h : wd t = none) (ht : Told t) : t = .one := by
  cases t with
  | one => rfl
  | name x => exact ht.elim
  | cop s n u => cases h
  | row s ts => cases h
theorem Tel.lone {kn : Nat → Nat → Bool} {m : Mm} (h : Tel kn .one m) : ∃ x, m = [(x, [])] := by
  have ha := h.all
  rw [persL] at ha
  have hl := ha.length_eq
  rw [List.length_map] at hl
  match m, hl, ha with
  | [(x, a)], _, ha =>
    have := List.perm_singleton.mp ha
    injection this with e _
    exact ⟨x, by rw [show a = [] from e]⟩
/-- somebody is in each part -/
theorem Tel.ex1 {kn : Nat → Nat → Bool} {t : T} {m : Mm} (h : Tel kn t m) : ∃ q, q ∈ m := by
  obtain ⟨p, hp⟩ := pers_some h.good h.told
  obtain ⟨q, hq, _⟩ := List.mem_map.mp (h.all.mem_iff.mpr hp)
  exact ⟨q, hq⟩
theorem Tel.inPart {kn : Nat → Nat → Bool} {t : T} {m : Mm} (h : Tel kn t m) {i : Nat} (hi : i < cnt t) : ∃ q, q ∈ ptM i m := by
  obtain ⟨u, hu, hk⟩ := piece_of hi
  exact (h.part hu hk hi).ex1
theorem Tel.where_ {kn : Nat → Nat → Bool} {t : T} {m : Mm} (h : Tel kn t m) (h1 : isOneT t = false) {x : Nat} (hx : x ∈ m.ks) : ∃ j p, j < cnt t ∧ (x, p) ∈ ptM j m := by
  obtain ⟨q, hq, rfl⟩ := List.mem_map.mp hx
  obtain ⟨j, p, e, hj⟩ := h.heads h1 q hq
  exact ⟨j, p, hj, ptM_mem.mpr (by rw [← e]; exact hq)⟩
theorem ptM_in {i : Nat} {m : Mm} {x : Nat} {p : List Nat} (h : (x, p) ∈ ptM i m) : x ∈ m.ks := List.mem_map_of_mem (f := fun q : Nat × List Nat => q.1) (ptM_mem.mp h)
/-- by its word a plan holds together -/
theorem Tel.conn {kn : Nat → Nat → Bool} {t : T} {m : Mm} {s : Bool} (h : Tel kn t m) (hw : wd t = some s) : Conn (fun x y => decide (kn x y = s)) m.ks := fun A ⟨x, hx, ax⟩ ⟨y, hy, ay⟩ => by
  have h1 := wd_isOne hw
  obtain ⟨i, p, hi, hp⟩ := h.where_ h1 hx
  obtain ⟨j, q, hj, hq⟩ := h.where_ h1 hy
  have tie : ∀ {i j : Nat} {x y : Nat} {p q : List Nat}, i ≠ j → (x, p) ∈ ptM i m → (y, q) ∈ ptM j m → decide (kn x y = s) = true := fun {i j x y p q} n a b => decide_eq_true (by rw [h.cross n a b, wd_intr hw])
  by_cases e : i = j
  · subst e
    have c2 := cntT2 hw h.good
    obtain ⟨k, hk, hki⟩ : ∃ k, k < cnt t ∧ k ≠ i := by
      by_cases h0 : i = 0
      · exact ⟨1, by omega, by omega⟩
      · exact ⟨0, by omega, by omega⟩
    obtain ⟨⟨z, r⟩, hz⟩ := h.inPart hk
    have hzm := ptM_in hz
    cases az : A z with
    | true => exact ⟨z, hzm, y, hy, az, ay, tie hki hz hq⟩
    | false => exact ⟨x, hx, z, hzm, ax, az, tie (Ne.symm hki) hp hz⟩
  · exact ⟨x, hx, y, hy, ax, ay, tie e hp hq⟩
theorem Tel.apart {kn : Nat → Nat → Bool} {t : T} {m : Mm} {s : Bool} (h : Tel kn t m) (hw : wd t = some s) : ¬ Conn (fun x y => decide (kn x y ≠ s)) m.ks := fun C => by
  have h1 := wd_isOne hw
  have c2 := cntT2 hw h.good
  obtain ⟨⟨x, p⟩, hx⟩ := h.inPart (i := 0) (by omega)
  obtain ⟨⟨y, q⟩, hy⟩ := h.inPart (i := 1) (by omega)
  have no : ∀ {z : Nat} {j : Nat} {r : List Nat}, (z, r) ∈ ptM j m → j ≠ 0 → z ∉ (ptM 0 m).ks := fun {z j r} hz hj hm => by
    obtain ⟨⟨z', r'⟩, hz', e⟩ := List.mem_map.mp hm
    obtain rfl : z' = z := e
    have k1 : (z', j :: r) ∈ m := ptM_mem.mp hz
    have k2 : (z', 0 :: r') ∈ m := ptM_mem.mp hz'
    have := key_uniq h.nd k1 k2
    injection this with e2 _
    exact hj e2
  obtain ⟨a, ha, b, hb, e1, e2, e3⟩ := C (fun z => decide (z ∈ (ptM 0 m).ks)) ⟨x, ptM_in hx, decide_eq_true (List.mem_map_of_mem (f := fun q : Nat × List Nat => q.1) hx)⟩ ⟨y, ptM_in hy, decide_eq_false (no hy (by decide))⟩
  obtain ⟨⟨a', r⟩, ha', rfl⟩ := List.mem_map.mp (of_decide_eq_true e1)
  obtain ⟨j, r2, hj, hb'⟩ := h.where_ h1 hb
  have hj0 : j ≠ 0 := fun e => by
    subst e
    exact of_decide_eq_false e2 (List.mem_map_of_mem (f := fun q : Nat × List Nat => q.1) hb')
  have := h.cross (Ne.symm hj0) ha' hb'
  rw [wd_intr hw] at this
  exact of_decide_eq_true e3 this
abbrev Pl := List Nat × List Nat
theorem sub_of {r : Nat → Nat → Bool} {F G : List Nat} {rest : List Nat} {x : Nat} (c : Conn r F) (hF : x ∈ F) (hG : x ∈ G) (all : ∀ y ∈ F, y ∈ G ∨ y ∈ rest) (cr : ∀ a ∈ G, ∀ b ∈ rest, r a b = false) : ∀ y ∈ F, y ∈ G := fun y hy => by
  rcases Classical.em (y ∈ G) with h | h
  · exact h
  · exfalso
    obtain ⟨a, ha, b, hb, e1, e2, e3⟩ := c (fun z => decide (z ∈ G)) ⟨x, hF, decide_eq_true hG⟩ ⟨y, hy, decide_eq_false h⟩
    have hbG := of_decide_eq_false e2
    rcases all b hb with h1 | h1
    · exact hbG h1
    · rw [cr a (of_decide_eq_true e1) b h1] at e3; cases e3
theorem comp_perm {r : Nat → Nat → Bool} (sy : ∀ a b, r a b = r b a) : ∀ (Fs Gs : List Pl), (Fs.flatMap (·.1)).Perm (Gs.flatMap (·.1)) → (Fs.flatMap (·.1)).Nodup → (∀ F ∈ Fs, F.1 ≠ []) → (∀ G ∈ Gs, G.1 ≠ []) → (∀ F ∈ Fs, Conn r F.1) → (∀ G ∈ Gs, Conn r G.1) →
    (Fs.Pairwise fun F G => ∀ x ∈ F.1, ∀ y ∈ G.1, r x y = false) → (Gs.Pairwise fun F G => ∀ x ∈ F.1, ∀ y ∈ G.1, r x y = false) → (∀ F ∈ Fs, ∀ G ∈ Gs, F.1.Perm G.1 → F.2 = G.2) → (Fs.map (·.2)).Perm (Gs.map (·.2))
  | [], Gs, hp, _, _, ne, _, _, _, _, _ => by
    cases Gs with
    | nil => exact .nil
    | cons G Gs =>
      have := hp.length_eq
      have h0 := List.length_pos_iff.mpr (ne G List.mem_cons_self)
      rw [List.flatMap_cons, List.length_append] at this
      simp at this; omega
  | F :: Fs, Gs, hp, nd, neF, neG, cF, cG, pF, pG, lab => by
    rw [List.flatMap_cons] at hp nd
    obtain ⟨x, hx⟩ := List.exists_mem_of_ne_nil _ (neF F List.mem_cons_self)
    obtain ⟨G, hG, hxG⟩ := List.mem_flatMap.mp (hp.mem_iff.mp (List.mem_append_left _ hx))
    obtain ⟨A, B, rfl⟩ := List.append_of_mem hG
    have hpG : ((A ++ G :: B).flatMap (·.1)).Perm (G.1 ++ (A ++ B).flatMap (·.1)) := by
      rw [List.flatMap_append, List.flatMap_cons, List.flatMap_append]
      rw [← List.append_assoc, ← List.append_assoc]
      exact List.perm_append_comm.append_right _
    have hp2 := hp.trans hpG
    obtain ⟨pF1, pF2⟩ := List.pairwise_cons.mp pF
    obtain ⟨pA, pGB, pAB⟩ := List.pairwise_append.mp pG
    obtain ⟨pB1, pB2⟩ := List.pairwise_cons.mp pGB
    have crG : ∀ a ∈ G.1, ∀ b ∈ (A ++ B).flatMap (·.1), r a b = false := fun a ha b hb => by
      obtain ⟨H, hH, hbH⟩ := List.mem_flatMap.mp hb
      rcases List.mem_append.mp hH with h | h
      · rw [sy]; exact pAB H h G List.mem_cons_self b hbH a ha
      · exact pB1 H h a ha b hbH
    have crF : ∀ a ∈ F.1, ∀ b ∈ Fs.flatMap (·.1), r a b = false := fun a ha b hb => by
      obtain ⟨H, hH, hbH⟩ := List.mem_flatMap.mp hb
      exact pF1 H hH a ha b hbH
    have s1 := sub_of (cF F List.mem_cons_self) hx hxG (fun y hy => List.mem_append.mp (hp2.mem_iff.mp (List.mem_append_left _ hy))) crG
    have s2 := sub_of (cG G (List.mem_append_right _ List.mem_cons_self)) hxG hx (fun y hy => List.mem_append.mp (hp2.mem_iff.mpr (List.mem_append_left _ hy))) crF
    have ndF := (List.nodup_append.mp nd).1
    have ndG := (List.nodup_append.mp (hp2.nodup_iff.mp nd)).1
    have pm : F.1.Perm G.1 := (List.perm_ext_iff_of_nodup ndF ndG).mpr fun a => ⟨s1 a, s2 a⟩
    have hp3 := (List.perm_append_left_iff G.1).mp ((pm.symm.append_right _).trans hp2)
    have ih := comp_perm sy Fs (A ++ B) hp3 (List.nodup_append.mp nd).2.1 (fun H h => neF H (List.mem_cons_of_mem _ h)) (fun H h => neG H ((List.mem_append.mp h).elim (fun h => List.mem_append_left _ h) fun h => List.mem_append_right _ (List.mem_cons_of_mem _ h)))
      (fun H h => cF H (List.mem_cons_of_mem _ h)) (fun H h => cG H ((List.mem_append.mp h).elim (fun h => List.mem_append_left _ h) fun h => List.mem_append_right _ (List.mem_cons_of_mem _ h))) pF2
      (List.pairwise_append.mpr ⟨pA, pB2, fun H hH H' hH' => pAB H hH H' (List.mem_cons_of_mem _ hH')⟩) (fun H h H' h' => lab H (List.mem_cons_of_mem _ h) H' ((List.mem_append.mp h').elim (fun h => List.mem_append_left _ h) fun h => List.mem_append_right _ (List.mem_cons_of_mem _ h)))
    rw [List.map_cons, lab F List.mem_cons_self G (List.mem_append_right _ List.mem_cons_self) pm]
    refine (ih.cons G.2).trans ?_
    rw [List.map_append, List.map_append, List.map_cons]
    exact List.perm_middle.symm
theorem cn_pos {t : T} (g : Good t) (h30 : ppl t ≤ 10 ^ 30) (b : Bool) : ∀ q ∈ cn b t, 1 ≤ q.1 := fun q hq => by
  obtain ⟨us, c⟩ := (nz_all t g h30).2 b
  rw [c.eq] at hq
  obtain ⟨p, hp, rfl⟩ := List.mem_map.mp hq
  exact (c.ok p hp).1
theorem tot_pos {L : CL} (h : ∀ q ∈ L, 1 ≤ q.1) (k : List Nat) : (∃ q ∈ L, q.2 = k) ↔ 1 ≤ tot L k := by
  constructor
  · rintro ⟨q, hq, rfl⟩
    exact Nat.le_trans (h q hq) (tot_ge hq)
  · intro hk
    rcases Classical.em (∃ q ∈ L, q.2 = k) with e | e
    · exact e
    · exfalso
      have : tot L k = 0 := by
        unfold tot
        rw [List.filter_eq_nil_iff.mpr]
        · rfl
        · intro q hq hd
          exact e ⟨q, hq, of_decide_eq_true hd⟩
      omega
theorem jn_congr {s : Bool} {L L' : CL} (h : ∀ q ∈ L, 1 ≤ q.1) (h' : ∀ q ∈ L', 1 ≤ q.1) (e : ∀ k, tot L k = tot L' k) : jn s L = jn s L' := by
  have ek : ky L = ky L' := ky_congr fun k => by rw [tot_pos h, tot_pos h', e]
  unfold jn
  rw [ek]
  rw [show (fun k => pt s (tot L k) k) = fun k => pt s (tot L' k) k from funext fun k => by rw [e]]
theorem uniq {kn : Nat → Nat → Bool} (sy : ∀ a b, kn a b = kn b a) : ∀ (n : Nat) {t u : T} {m m' : Mm}, ht t ≤ n → Tel kn t m → Tel kn u m' → m.ks.Perm m'.ks → ppl t ≤ 10 ^ 30 → ppl u ≤ 10 ^ 30 → nrm t = nrm u := by
  intro n
  induction n with
  | zero =>
    intro t u m m' hn ht hu hp b1 b2
    have e1 : t = .one := by
      cases t with
      | one => rfl
      | name x => exact ht.told.elim
      | cop s n v => rw [PL.ht] at hn; omega
      | row s ts => rw [PL.ht] at hn; omega
    subst e1
    obtain ⟨x, rfl⟩ := ht.lone
    cases hw : wd u with
    | none => rw [told_one hw hu.told]
    | some s =>
      exfalso
      refine hu.apart hw ((conn_one _ x).perm hp.symm)
  | succ n ih =>
    intro t u m m' hn ht hu hp b1 b2
    cases hw : wd t with
    | none =>
      obtain rfl := told_one hw ht.told
      obtain ⟨x, rfl⟩ := ht.lone
      cases hw2 : wd u with
      | none => rw [told_one hw2 hu.told]
      | some s => exact absurd ((conn_one _ x).perm hp.symm) (hu.apart hw2)
    | some s =>
      have hws : wd u = some s := by
        cases hw2 : wd u with
        | none =>
          obtain rfl := told_one hw2 hu.told
          obtain ⟨x, rfl⟩ := hu.lone
          exact absurd ((conn_one _ x).perm hp) (ht.apart hw)
        | some s' =>
          by_cases e : s' = s
          · rw [e]
          · exfalso
            refine ht.apart hw ?_
            have c := (hu.conn hw2).perm hp
            have : (fun x y => decide (kn x y = s')) = fun x y => decide (kn x y ≠ s) := by
              funext x y
              refine decide_eq_decide.mpr ?_
              cases kn x y <;> cases s <;> cases s' <;> simp_all
            rw [this] at c; exact c
      obtain ⟨Fs, d⟩ := dec kn s t m ht
      obtain ⟨Gs, d'⟩ := dec kn s u m' hu
      rw [if_pos hw] at d
      have key : (Fs.map fun F => nrm F.1).Perm (Gs.map fun G => nrm G.1) := by
        have e1 : ∀ Fs : List (T × Mm), (Fs.map fun F => ((F.2.ks, nrm F.1) : Pl)).flatMap (·.1) = Fs.flatMap fun F => F.2.ks := fun Fs => by rw [List.flatMap_map]
        have e2 : ∀ Fs : List (T × Mm), (Fs.map fun F => ((F.2.ks, nrm F.1) : Pl)).map (·.2) = Fs.map fun F => nrm F.1 := fun Fs => by rw [List.map_map]; rfl
        rw [← e2, ← e2]
        have cn2 : ∀ {Fs : List (T × Mm)}, (∀ F ∈ Fs, Tel kn F.1 F.2) → (∀ F ∈ Fs, wd F.1 ≠ some s) → ∀ F ∈ Fs.map (fun F => ((F.2.ks, nrm F.1) : Pl)), Conn (fun x y => decide (kn x y ≠ s)) F.1 := fun {Fs} a b F hF => by
          obtain ⟨H, hH, rfl⟩ := List.mem_map.mp hF
          have tl := a H hH
          cases hwH : wd H.1 with
          | none =>
            obtain ⟨u0, m0⟩ := H
            obtain rfl := told_one hwH tl.told
            obtain ⟨x, rfl⟩ := tl.lone
            exact conn_one _ x
          | some s' =>
            have c := tl.conn hwH
            have : (fun x y => decide (kn x y = s')) = fun x y => decide (kn x y ≠ s) := by
              funext x y
              refine decide_eq_decide.mpr ?_
              have n := b H hH
              rw [hwH] at n
              cases kn x y <;> cases s <;> cases s' <;> simp_all
            rw [this] at c; exact c
        have ne2 : ∀ {Fs : List (T × Mm)}, (∀ F ∈ Fs, Tel kn F.1 F.2) → ∀ F ∈ Fs.map (fun F => ((F.2.ks, nrm F.1) : Pl)), F.1 ≠ [] := fun {Fs} a F hF e => by
          obtain ⟨H, hH, rfl⟩ := List.mem_map.mp hF
          obtain ⟨q, hq⟩ := (a H hH).ex1
          have := List.mem_map_of_mem (f := fun q : Nat × List Nat => q.1) hq
          rw [show H.2.map (fun q : Nat × List Nat => q.1) = [] from e] at this
          cases this
        have cr2 : ∀ {Fs : List (T × Mm)}, (Fs.Pairwise fun F G => ∀ x ∈ F.2.ks, ∀ y ∈ G.2.ks, kn x y = s) → (Fs.map fun F => ((F.2.ks, nrm F.1) : Pl)).Pairwise fun F G => ∀ x ∈ F.1, ∀ y ∈ G.1, decide (kn x y ≠ s) = false := fun {Fs} h => by
          rw [List.pairwise_map]
          exact h.imp fun h x hx y hy => decide_eq_false fun n => n (h x hx y hy)
        refine comp_perm (r := fun x y => decide (kn x y ≠ s)) (fun a b => by simp only [sy a b]) _ _ ?_ ?_ (ne2 d.tel) (ne2 d'.tel) (cn2 d.tel d.out) (cn2 d'.tel d'.out) (cr2 d.cro) (cr2 d'.cro) ?_
        · rw [e1, e1]; exact d.flat.trans (hp.trans d'.flat.symm)
        · rw [e1]; exact d.flat.nodup_iff.mpr ht.nd
        · intro F hF G hG hFG
          obtain ⟨H, hH, rfl⟩ := List.mem_map.mp hF
          obtain ⟨H', hH', rfl⟩ := List.mem_map.mp hG
          have bd : ∀ {t : T} {m : Mm} {Fs : List (T × Mm)} {H : T × Mm}, Tel kn t m → (∀ F ∈ Fs, Tel kn F.1 F.2) → (Fs.flatMap fun F => F.2.ks).Perm m.ks → H ∈ Fs → ppl H.1 ≤ ppl t := fun {t m Fs H} a b fl hH => by
            have l1 := persL_len a.told
            have l2 := persL_len (b H hH).told
            have l3 := a.all.length_eq
            have l4 := (b H hH).all.length_eq
            have l5 := fl.length_eq
            rw [List.length_map] at l3 l4 l5
            have l6 : H.2.ks.length ≤ (Fs.flatMap fun F => F.2.ks).length := by
              rw [List.length_flatMap]
              exact mem_le_sum (List.mem_map_of_mem (f := fun F : T × Mm => F.2.ks.length) hH)
            rw [List.length_map] at l6
            omega
          have := d.hgt H hH
          exact ih (by omega) (d.tel H hH) (d'.tel H' hH') hFG (Nat.le_trans (bd ht d.tel d.flat hH) b1) (Nat.le_trans (bd hu d'.tel d'.flat hH') b2)
      rw [nrm_in hw, nrm_in hws]
      refine jn_congr (cn_pos ht.good b1 s) (cn_pos hu.good b2 s) fun k => ?_
      rw [← tot_ex, ← tot_ex]
      exact (d.lab.symm.trans (key.trans d'.lab)).count_eq k
end PL
namespace PL
open PySem SX TL
mutual
def crc : T → Nat
  | .one => 1
  | .name _ => 1
  | .cop s n t => if s = true then n * crc t else crc t
  | .row s ts => if s = true then crcS ts else crcM ts
def crcS : List T → Nat
  | [] => 0
  | t :: ts => crc t + crcS ts
def crcM : List T → Nat
  | [] => 0
  | t :: ts => max (crc t) (crcM ts)
end
mutual
def stg : T → Nat
  | .one => 1
  | .name _ => 1
  | .cop s n t => if s = true then stg t else n * stg t
  | .row s ts => if s = true then stgM ts else stgS ts
def stgS : List T → Nat
  | [] => 0
  | t :: ts => stg t + stgS ts
def stgM : List T → Nat
  | [] => 0
  | t :: ts => max (stg t) (stgM ts)
end
mutual
def hal : T → Nat
  | .one => 1
  | .name _ => 1
  | .cop s n t => if s = true then hal t + (n * ppl t - ppl t) else hal t
  | .row s ts => if s = true then ppls ts - hdf ts else halM ts
def hdf : List T → Nat
  | [] => 0
  | t :: ts => max (ppl t - hal t) (hdf ts)
def halM : List T → Nat
  | [] => 0
  | t :: ts => max (hal t) (halM ts)
end
mutual
theorem stg_mir : ∀ t : T, crc (mir t) = stg t
  | .one => by rw [mir, crc, stg]
  | .name x => by rw [mir, crc, stg]
  | .cop s n t => by rw [mir, crc, stg, stg_mir t]; cases s <;> rfl
  | .row s ts => by
    rw [mir, crc, stg, (stgs_mir ts).1, (stgs_mir ts).2]; cases s <;> rfl
theorem stgs_mir : ∀ ts : List T, crcS (mirs ts) = stgS ts ∧ crcM (mirs ts) = stgM ts
  | [] => by rw [mirs, crcS, crcM, stgS, stgM]; exact ⟨rfl, rfl⟩
  | t :: ts => by rw [mirs, crcS, crcM, stgS, stgM, stg_mir t, (stgs_mir ts).1, (stgs_mir ts).2]; exact ⟨rfl, rfl⟩
end
mutual
theorem crc_ok : ∀ {t : T}, Good t → 1 ≤ crc t ∧ crc t ≤ ppl t
  | .one, _ => by rw [crc, ppl]; exact ⟨Nat.le_refl _, Nat.le_refl _⟩
  | .name x, _ => by rw [crc, ppl]; exact ⟨Nat.le_refl _, Nat.le_refl _⟩
  | .cop s n t, h => by
    obtain ⟨h1, h2⟩ := crc_ok h.2.2
    have h3 : 1 * ppl t ≤ n * ppl t := Nat.mul_le_mul_right _ (by have := h.1; omega)
    rw [crc, ppl]
    split
    · exact ⟨Nat.mul_pos (by have := h.1; omega) h1, Nat.mul_le_mul_left _ h2⟩
    · exact ⟨h1, by omega⟩
  | .row s ts, h => by
    obtain ⟨h1, h2, h3, h4⟩ := crcs_ok h.2
    have h5 := h.1
    rw [crc, ppl]
    split
    · exact ⟨by omega, h2⟩
    · exact ⟨h4 (by omega), h3⟩
theorem crcs_ok : ∀ {ts : List T}, Goods ts → ts.length ≤ crcS ts ∧ crcS ts ≤ ppls ts ∧ crcM ts ≤ ppls ts ∧ (0 < ts.length → 1 ≤ crcM ts)
  | [], _ => by rw [crcS, crcM, ppls]; exact ⟨Nat.le_refl _, Nat.le_refl _, Nat.le_refl _, fun h => by simp at h⟩
  | t :: ts, h => by
    obtain ⟨h1, h2⟩ := crc_ok h.1
    obtain ⟨h3, h4, h5, _⟩ := crcs_ok h.2
    rw [crcS, crcM, ppls, List.length_cons]
    exact ⟨by omega, by omega, Nat.max_le.mpr ⟨by omega, by omega⟩, fun _ => Nat.le_trans h1 (Nat.le_max_left _ _)⟩
end
mutual
theorem mir_ppl : ∀ t : T, ppl (mir t) = ppl t
  | .one => by rw [mir]
  | .name x => by rw [mir]
  | .cop s n t => by rw [mir, ppl, ppl, mir_ppl t]
  | .row s ts => by rw [mir, ppl, ppl, mirs_ppl ts]
theorem mirs_ppl : ∀ ts : List T, ppls (mirs ts) = ppls ts
  | [] => by rw [mirs]
  | t :: ts => by rw [mirs, ppls, ppls, mir_ppl t, mirs_ppl ts]
end
theorem stg_ok {t : T} (h : Good t) : 1 ≤ stg t ∧ stg t ≤ ppl t := by
  have := crc_ok (mir_good h)
  rw [stg_mir] at this
  have e : ppl (mir t) = ppl t := mir_ppl t
  omega
mutual
theorem hal_ok : ∀ {t : T}, Good t → 1 ≤ hal t ∧ hal t ≤ ppl t
  | .one, _ => by rw [hal, ppl]; exact ⟨Nat.le_refl _, Nat.le_refl _⟩
  | .name x, _ => by rw [hal, ppl]; exact ⟨Nat.le_refl _, Nat.le_refl _⟩
  | .cop s n t, h => by
    obtain ⟨h1, h2⟩ := hal_ok h.2.2
    have h3 : 1 * ppl t ≤ n * ppl t := Nat.mul_le_mul_right _ (by have := h.1; omega)
    rw [hal, ppl]
    split
    · exact ⟨by omega, by omega⟩
    · exact ⟨h1, by omega⟩
  | .row s ts, h => by
    obtain ⟨h1, h3, h4⟩ := hals_ok h.2
    have h5 := h.1
    rw [hal, ppl]
    split
    · exact ⟨by have := h1 (by omega); omega, by omega⟩
    · exact ⟨h4 (by omega), h3⟩
theorem hals_ok : ∀ {ts : List T}, Goods ts → (0 < ts.length → hdf ts < ppls ts) ∧ halM ts ≤ ppls ts ∧ (0 < ts.length → 1 ≤ halM ts)
  | [], _ => by rw [halM, ppls]; exact ⟨fun h => by simp at h, Nat.le_refl _, fun h => by simp at h⟩
  | t :: ts, h => by
    obtain ⟨h1, h2⟩ := hal_ok h.1
    obtain ⟨h3, h5, _⟩ := hals_ok h.2
    have hp := ppl_pos h.1
    rw [hdf, halM, ppls]
    refine ⟨fun _ => Nat.max_lt.mpr ⟨by omega, ?_⟩, Nat.max_le.mpr ⟨by omega, by omega⟩, fun _ => Nat.le_trans h1 (Nat.le_max_left _ _)⟩
    cases ts with
    | nil => rw [hdf]; omega
    | cons u r => have := h3 (by simp); omega
end
/-- the rooms of the parts ahead -/
def cah : T → Nat → Nat
  | .cop _ _ t, i => i * crc t
  | .row _ ts, i => crcS (ts.take i)
  | _, _ => 0
def rm : T → List Nat → Nat
  | t, i :: p => match piece t i with
    | some u => (if intr t = true then cah t i else 0) + rm u p
    | none => 0
  | _, [] => 0
theorem rm_cons {t u : T} {i : Nat} (hp : piece t i = some u) (p : List Nat) : rm t (i :: p) = (if intr t = true then cah t i else 0) + rm u p := by rw [rm, hp]
theorem crcS_snoc : ∀ (l : List T) (u : T), crcS (l ++ [u]) = crcS l + crc u
  | [], u => by simp [crcS]
  | t :: l, u => by rw [List.cons_append, crcS, crcS, crcS_snoc l u]; omega
theorem crcM_snoc : ∀ (l : List T) (u : T), crcM (l ++ [u]) = max (crcM l) (crc u)
  | [], u => by simp [crcM]
  | t :: l, u => by rw [List.cons_append, crcM, crcM, crcM_snoc l u, Nat.max_assoc]
theorem crcM_mem : ∀ {ts : List T} {u : T}, u ∈ ts → crc u ≤ crcM ts
  | t :: ts, u, h => by
    rw [crcM]
    rcases List.mem_cons.mp h with rfl | h
    · exact Nat.le_max_left _ _
    · exact Nat.le_trans (crcM_mem h) (Nat.le_max_right _ _)
theorem cah_succ {t u : T} {i : Nat} (hp : piece t i = some u) : cah t (i + 1) = cah t i + crc u := by
  cases t with
  | one => cases hp
  | name x => cases hp
  | cop s n v => obtain rfl : v = u := Option.some.inj hp; show (i + 1) * crc v = _; rw [Nat.succ_mul]; rfl
  | row s ts =>
    have hu : ts[i]? = some u := hp
    show crcS (ts.take (i + 1)) = crcS (ts.take i) + crc u
    rw [List.take_add_one, hu]
    exact crcS_snoc _ _
theorem cah_all {t : T} (hI : intr t = true) : cah t (cnt t) = crc t := by
  cases t with
  | one => cases hI
  | name x => cases hI
  | cop s n v =>
    have hs : s = true := hI
    rw [cnt_cop, crc, if_pos hs]; rfl
  | row s ts =>
    have hs : s = true := hI
    rw [cnt_row, crc, if_pos hs]
    show crcS (ts.take ts.length) = _
    rw [List.take_length]
theorem cah_mono {t : T} {i j : Nat} (h : i ≤ j) (hj : j ≤ cnt t) : cah t i ≤ cah t j := by
  induction j with
  | zero => rw [show i = 0 by omega]; exact Nat.le_refl _
  | succ j ih =>
    rcases Nat.eq_or_lt_of_le h with e | e
    · rw [e]; exact Nat.le_refl _
    · obtain ⟨v, hv⟩ := piece_some (t := t) (i := j) (by omega)
      have := ih (by omega) (by omega)
      rw [cah_succ hv]; omega
theorem crc_piece {t u : T} {i : Nat} (hp : piece t i = some u) (hi : i < cnt t) : (if intr t = true then cah t i else 0) + crc u ≤ crc t := by
  by_cases hI : intr t = true
  · rw [if_pos hI, ← cah_succ hp, ← cah_all hI]
    exact cah_mono (by omega) (Nat.le_refl _)
  · rw [if_neg hI, Nat.zero_add]
    cases t with
    | one => cases hp
    | name x => cases hp
    | cop s n v =>
      have hs : ¬ s = true := hI
      obtain rfl : v = u := Option.some.inj hp
      rw [crc, if_neg hs]; exact Nat.le_refl _
    | row s ts =>
      have hs : ¬ s = true := hI
      rw [crc, if_neg hs]
      exact crcM_mem (List.mem_of_getElem? (show ts[i]? = some u from hp))
theorem rm_lt : ∀ {p : List Nat} {t : T}, isPers t p = true → rm t p < crc t
  | [], t, h => by
    obtain rfl := pers_nil h
    rw [rm, crc]; exact Nat.one_pos
  | i :: p, t, h => by
    obtain ⟨u, hi, hp, hu⟩ := pers_cons h
    have h1 := rm_lt hu
    have h2 := crc_piece hp hi
    rw [rm_cons hp]; omega
theorem rm_ne : ∀ {p q : List Nat} {t : T}, isPers t p = true → isPers t q = true → knowsB t p q = true → rm t p ≠ rm t q
  | [], q, t, _, _, h => by rw [knowsB] at h; cases h; intro _ _ _ _ e; cases e
  | i :: p, [], t, _, _, h => by simp [knowsB] at h
  | i :: p, j :: q, t, hp, hq, h => by
    obtain ⟨u, hi, hu, pu⟩ := pers_cons hp
    obtain ⟨v, hj, hv, pv⟩ := pers_cons hq
    rw [knowsB] at h
    rw [rm_cons hu, rm_cons hv]
    by_cases e : i = j
    · subst e
      rw [if_pos rfl, hu] at h
      rw [hu] at hv
      obtain rfl := Option.some.inj hv
      have := rm_ne pu pv h
      omega
    · rw [if_neg e] at h
      rw [if_pos h, if_pos h]
      have a1 := rm_lt pu
      have a2 := rm_lt pv
      rcases Nat.lt_or_ge i j with z | z
      · have := cah_mono (t := t) (i := i + 1) (j := j) z (by omega)
        rw [cah_succ hu] at this; omega
      · have := cah_mono (t := t) (i := j + 1) (j := i) (by omega) (by omega)
        rw [cah_succ hv] at this; omega
mutual
def ci : T → Nat → List Nat
  | .one, _ => []
  | .name _, _ => []
  | .cop s _ u, r => if s = true then (r / crc u) :: ci u (r % crc u) else 0 :: ci u r
  | .row s ts, r => if s = true then ciS ts 0 r else ciM (crcM ts) ts 0 r
def ciS : List T → Nat → Nat → List Nat
  | [], _, _ => []
  | t :: ts, k, r => if r < crc t then k :: ci t r else ciS ts (k + 1) (r - crc t)
def ciM : Nat → List T → Nat → Nat → List Nat
  | _, [], _, _ => []
  | m, t :: ts, k, r => if crc t = m then k :: ci t r else ciM m ts (k + 1) r
end
theorem ciS_at : ∀ {ts : List T} {k r : Nat}, r < crcS ts → ∃ j u r', ts[j]? = some u ∧ r' < crc u ∧ ciS ts k r = (k + j) :: ci u r' ∧ r = crcS (ts.take j) + r'
  | [], k, r, h => by rw [crcS] at h; omega
  | t :: ts, k, r, h => by
    rw [crcS] at h
    by_cases h1 : r < crc t
    · exact ⟨0, t, r, rfl, h1, by rw [ciS, if_pos h1]; rfl, by rw [List.take_zero, crcS]; omega⟩
    · obtain ⟨j, u, r', a1, a2, a3, a4⟩ := ciS_at (ts := ts) (k := k + 1) (r := r - crc t) (by omega)
      exact ⟨j + 1, u, r', a1, a2, by rw [ciS, if_neg h1, a3]; congr 1; omega, by rw [List.take_succ_cons, crcS]; omega⟩
theorem ciM_at : ∀ {m : Nat} {ts : List T} (k : Nat), (∃ t ∈ ts, crc t = m) → ∃ j u, ts[j]? = some u ∧ crc u = m ∧ (∀ l v, l < j → ts[l]? = some v → crc v ≠ m) ∧ ∀ r, ciM m ts k r = (k + j) :: ci u r
  | m, [], k, h => by obtain ⟨t, h, _⟩ := h; cases h
  | m, t :: ts, k, h => by
    by_cases h1 : crc t = m
    · exact ⟨0, t, rfl, h1, fun l v hl => by omega, fun r => by rw [ciM, if_pos h1]; rfl⟩
    · obtain ⟨j, u, a1, a2, a4, a3⟩ := ciM_at (m := m) (ts := ts) (k + 1) (by
        obtain ⟨x, hx, e⟩ := h
        rcases List.mem_cons.mp hx with rfl | hx
        · exact absurd e h1
        · exact ⟨x, hx, e⟩)
      refine ⟨j + 1, u, a1, a2, fun l v hl hv => ?_, fun r => by rw [ciM, if_neg h1, a3]; congr 1; omega⟩
      cases l with
      | zero => obtain rfl := Option.some.inj hv; exact h1
      | succ l => exact a4 l v (by omega) hv
theorem crcM_ex : ∀ {ts : List T}, ts ≠ [] → ∃ t ∈ ts, crc t = crcM ts
  | [], h => absurd rfl h
  | [t], _ => ⟨t, List.mem_cons_self, by rw [crcM, crcM]; omega⟩
  | t :: u :: ts, _ => by
    obtain ⟨x, hx, e⟩ := crcM_ex (ts := u :: ts) (by simp)
    rw [crcM]
    by_cases h : crc t ≤ crcM (u :: ts)
    · exact ⟨x, List.mem_cons_of_mem _ hx, by rw [e]; omega⟩
    · exact ⟨t, List.mem_cons_self, by omega⟩
theorem pers_mk {t u : T} {i : Nat} {p : List Nat} (hi : i < cnt t) (hp : piece t i = some u) (hu : isPers u p = true) : isPers t (i :: p) = true := by
  unfold isPers at hu ⊢
  rw [desc, if_pos hi, hp]; exact hu
/-- what the circle's person of a room looks like -/
theorem ci_ok : ∀ (n : Nat) {t : T}, ht t ≤ n → Good t → Told t → (∀ r, r < crc t → isPers t (ci t r) = true ∧ rm t (ci t r) = r) ∧ ∀ r r', r < crc t → r' < crc t → r ≠ r' → knowsB t (ci t r) (ci t r') = true
  | n, .one, _, _, _ => by
    refine ⟨fun r h => ?_, fun r r' h h' hn => ?_⟩
    · rw [crc] at h; rw [ci, rm]; exact ⟨rfl, by omega⟩
    · rw [crc] at h h'; omega
  | n, .name x, _, _, h => h.elim
  | 0, .cop s m u, h, _, _ => by rw [ht] at h; omega
  | 0, .row s ts, h, _, _ => by rw [ht] at h; omega
  | n + 1, .cop s m u, hh, g, tl => by
    rw [ht] at hh
    obtain ⟨i1, i2⟩ := ci_ok n (t := u) (by omega) g.2.2 tl
    have cu := (crc_ok g.2.2).1
    have hpc : ∀ i, piece (.cop s m u) i = some u := fun i => rfl
    have hm := g.1
    cases s with
    | true =>
      have e : crc (.cop true m u) = m * crc u := by rw [crc, if_pos rfl]
      have ec : ∀ r, ci (.cop true m u) r = (r / crc u) :: ci u (r % crc u) := fun r => by rw [ci, if_pos rfl]
      refine ⟨fun r h => ?_, fun r r' h h' hn => ?_⟩
      · rw [e] at h
        have hm1 := Nat.mod_lt r cu
        obtain ⟨a1, a2⟩ := i1 _ hm1
        have hdiv : r / crc u < m := (Nat.div_lt_iff_lt_mul cu).mpr h
        rw [ec]
        refine ⟨pers_mk (by rw [cnt_cop]; exact hdiv) (hpc _) a1, ?_⟩
        rw [rm_cons (hpc _), if_pos (show intr (.cop true m u) = true from rfl), a2]
        show r / crc u * crc u + r % crc u = r
        rw [Nat.mul_comm]; exact Nat.div_add_mod r (crc u)
      · rw [ec, ec, knowsB]
        by_cases hd : r / crc u = r' / crc u
        · rw [if_pos hd, hpc]
          refine i2 _ _ (Nat.mod_lt r cu) (Nat.mod_lt r' cu) (fun hm2 => hn ?_)
          have b1 := Nat.div_add_mod r (crc u)
          have b2 := Nat.div_add_mod r' (crc u)
          rw [hd, hm2] at b1
          omega
        · rw [if_neg hd]; rfl
    | false =>
      have e : crc (.cop false m u) = crc u := by rw [crc, if_neg (by simp)]
      have ec : ∀ r, ci (.cop false m u) r = 0 :: ci u r := fun r => by rw [ci, if_neg (by simp)]
      refine ⟨fun r h => ?_, fun r r' h h' hn => ?_⟩
      · rw [e] at h
        obtain ⟨a1, a2⟩ := i1 _ h
        rw [ec]
        refine ⟨pers_mk (by rw [cnt_cop]; omega) (hpc _) a1, ?_⟩
        rw [rm_cons (hpc _), if_neg (by simp [intr]), a2, Nat.zero_add]
      · rw [e] at h h'
        rw [ec, ec, knowsB, if_pos rfl, hpc]
        exact i2 r r' h h' hn
  | n + 1, .row s ts, hh, g, tl => by
    rw [ht] at hh
    have ih : ∀ j u, ts[j]? = some u → (∀ r, r < crc u → isPers u (ci u r) = true ∧ rm u (ci u r) = r) ∧ ∀ r r', r < crc u → r' < crc u → r ≠ r' → knowsB u (ci u r) (ci u r') = true := fun j u hu => by
      have hm := List.mem_of_getElem? hu
      exact ci_ok n (t := u) (by have := hts_le hm; omega) (goods_all.mp g.2 u hm) (tolds_all.mp tl u hm)
    cases s with
    | true =>
      have e : crc (.row true ts) = crcS ts := by rw [crc, if_pos rfl]
      have ec : ∀ r, ci (.row true ts) r = ciS ts 0 r := fun r => by rw [ci, if_pos rfl]
      refine ⟨fun r h => ?_, fun r r' h h' hn => ?_⟩
      · rw [e] at h
        obtain ⟨j, u, r1, a1, a2, a3, a4⟩ := ciS_at (k := 0) h
        obtain ⟨b1, b2⟩ := (ih j u a1).1 r1 a2
        have hj := (List.getElem?_eq_some_iff.mp a1).1
        have hp : piece (.row true ts) j = some u := a1
        rw [ec, a3, Nat.zero_add]
        refine ⟨pers_mk (by rw [cnt_row]; exact hj) hp b1, ?_⟩
        rw [rm_cons hp, if_pos (show intr (.row true ts) = true from rfl), b2]
        exact a4.symm
      · rw [e] at h h'
        obtain ⟨j, u, r1, a1, a2, a3, a4⟩ := ciS_at (k := 0) h
        obtain ⟨j', u', r1', a1', a2', a3', a4'⟩ := ciS_at (k := 0) h'
        rw [ec, ec, a3, a3', Nat.zero_add, Nat.zero_add, knowsB]
        by_cases hd : j = j'
        · subst hd
          rw [a1] at a1'
          obtain rfl := Option.some.inj a1'
          rw [if_pos rfl, show piece (.row true ts) j = some u from a1]
          exact (ih j u a1).2 r1 r1' a2 a2' (by omega)
        · rw [if_neg hd]; rfl
    | false =>
      have e : crc (.row false ts) = crcM ts := by rw [crc, if_neg (by simp)]
      have ne : ts ≠ [] := fun e => by have := g.1; rw [e] at this; simp at this
      obtain ⟨j, u, a1, a2, _, a3⟩ := ciM_at 0 (crcM_ex ne)
      have hj := (List.getElem?_eq_some_iff.mp a1).1
      have hp : piece (.row false ts) j = some u := a1
      have ec : ∀ r, ci (.row false ts) r = j :: ci u r := fun r => by rw [ci, if_neg (by simp), a3, Nat.zero_add]
      refine ⟨fun r h => ?_, fun r r' h h' hn => ?_⟩
      · rw [e, ← a2] at h
        obtain ⟨b1, b2⟩ := (ih j u a1).1 r h
        rw [ec]
        refine ⟨pers_mk (by rw [cnt_row]; exact hj) hp b1, ?_⟩
        rw [rm_cons hp, if_neg (by simp [intr]), b2, Nat.zero_add]
      · rw [e, ← a2] at h h'
        rw [ec, ec, knowsB, if_pos rfl, hp]
        exact (ih j u a1).2 r r' h h' hn
end PL
namespace PL
open PySem SX TL
/-- people, circle, strangers, rows, hall -/
structure F5 where
  p : Nat
  c : Nat
  s : Nat
  r : Nat
  h : Nat
def fg (t : T) : F5 := ⟨ppl t, crc t, stg t, rws t, hal t⟩
def mxL (l : List Nat) : Nat := l.foldr max 0
theorem mxL_cons (a : Nat) (l : List Nat) : mxL (a :: l) = max a (mxL l) := rfl
theorem mxL_le {l : List Nat} {k : Nat} : mxL l ≤ k ↔ ∀ x ∈ l, x ≤ k := by
  induction l with
  | nil => simp [mxL]
  | cons a l ih => rw [mxL_cons, Nat.max_le, ih]; simp
theorem mxL_ge {l : List Nat} {x : Nat} (h : x ∈ l) : x ≤ mxL l := mxL_le.mp (Nat.le_refl _) x h
/-- crowds put together by a word -/
def comb (b : Bool) (L : List F5) : F5 where
  p := (L.map (·.p)).sum
  c := if b = true then (L.map (·.c)).sum else mxL (L.map (·.c))
  s := if b = true then mxL (L.map (·.s)) else (L.map (·.s)).sum
  r := if b = true then max 1 (mxL (L.map fun f => f.r + f.p) - (L.map (·.p)).sum) else (L.map (·.r)).sum
  h := if b = true then (L.map (·.p)).sum - mxL (L.map fun f => f.p - f.h) else mxL (L.map (·.h))
theorem sums_eq : ∀ ts : List T, ppls ts = (ts.map ppl).sum ∧ crcS ts = (ts.map crc).sum ∧ crcM ts = mxL (ts.map crc) ∧ stgS ts = (ts.map stg).sum ∧ stgM ts = mxL (ts.map stg) ∧ rwss ts = (ts.map rws).sum ∧ exs ts = mxL (ts.map fun t => rws t + ppl t) ∧ hdf ts = mxL (ts.map fun t => ppl t - hal t) ∧ halM ts = mxL (ts.map hal)
  | [] => by simp [ppls, crcS, crcM, stgS, stgM, rwss, exs, hdf, halM, mxL]
  | t :: ts => by
    obtain ⟨a1, a2, a3, a4, a5, a6, a7, a8, a9⟩ := sums_eq ts
    simp only [ppls, crcS, crcM, stgS, stgM, rwss, exs, hdf, halM, List.map_cons, List.sum_cons, mxL_cons, a1, a2, a3, a4, a5, a6, a7, a8, a9, and_self]
theorem fg_row (b : Bool) (ts : List T) : fg (.row b ts) = comb b (ts.map fg) := by
  obtain ⟨a1, a2, a3, a4, a5, a6, a7, a8, a9⟩ := sums_eq ts
  unfold fg comb
  rw [ppl, crc, stg, rws, hal, a1, a2, a3, a4, a5, a6, a7, a8, a9]
  simp only [List.map_map]
  rfl
theorem rep_sum (n k : Nat) : (List.replicate n k).sum = n * k := by rw [List.sum_replicate_nat]
theorem rep_mx {n : Nat} (h : 1 ≤ n) (k : Nat) : mxL (List.replicate n k) = k := by
  refine Nat.le_antisymm (mxL_le.mpr fun x hx => by rw [List.eq_of_mem_replicate hx]; exact Nat.le_refl _) (mxL_ge ?_)
  rw [List.mem_replicate]; exact ⟨by omega, rfl⟩
theorem hal_le {t : T} (g : Good t) : hal t ≤ ppl t := (hal_ok g).2
theorem fg_cop (b : Bool) (n : Nat) (t : T) (h : 1 ≤ n) (g : Good t) : fg (.cop b n t) = comb b (List.replicate n (fg t)) := by
  have hl := hal_le g
  unfold fg comb
  rw [ppl, crc, stg, rws, hal]
  simp only [List.map_replicate, rep_sum, rep_mx h]
  congr 1
  split
  · have : ppl t ≤ n * ppl t := Nat.le_mul_of_pos_left _ h
    omega
  · rfl
theorem fg_parts {t : T} {b : Bool} (h : wd t = some b) (g : Good t) : fg t = comb b ((List.range (cnt t)).map fun i => fg ((piece t i).getD .one)) := by
  cases t with
  | one => cases h
  | name x => cases h
  | cop s n u =>
    cases h
    rw [fg_cop _ _ _ (by have := g.1; omega) g.2.2, cnt_cop]
    congr 1
    refine (List.ext_getElem (by simp) fun i h1 h2 => ?_)
    simp [piece]
  | row s ts =>
    cases h
    rw [fg_row, cnt_row]
    congr 1
    refine (List.ext_getElem (by simp) fun i h1 h2 => ?_)
    have hi : i < ts.length := by simpa using h1
    simp [piece, hi]
end PL
namespace PL
open PySem SX TL
theorem pers_in1 {t u : T} {i : Nat} {p : List Nat} (hi : i < cnt t) (hp : piece t i = some u) (hu : isPers u p = true) : isPers t (i :: p) = true := by
  unfold isPers at hu ⊢
  rw [desc, if_pos hi, hp]
  exact hu
structure Lin where
  n : Nat
  r : Nat
  st : Nat → Nat
  ro : Nat → Nat
  at_ : Nat → List Nat
  sp : List Nat → Nat
/-- a line of a plan, with as many rows as can be -/
structure OkL (t : T) (L : Lin) : Prop where
  hn : L.n = ppl t
  hr : L.r = rws t
  s0 : L.st 0 = 0
  sr : L.st L.r = L.n
  up : ∀ i, i < L.r → L.st i < L.st (i + 1)
  ro : ∀ s, s < L.n → L.ro s < L.r ∧ L.st (L.ro s) ≤ s ∧ s < L.st (L.ro s + 1)
  at_ : ∀ s, s < L.n → isPers t (L.at_ s) = true ∧ L.sp (L.at_ s) = s
  sp : ∀ p, isPers t p = true → L.sp p < L.n ∧ L.at_ (L.sp p) = p
  kn : ∀ s, s + 1 < L.n → L.ro s = L.ro (s + 1) → knowsB t (L.at_ s) (L.at_ (s + 1)) = true
def oneL : Lin := ⟨1, 1, fun i => i, fun _ => 0, fun _ => [], fun _ => 0⟩
theorem ok_oneL : OkL .one oneL := by
  refine ⟨by rw [ppl]; rfl, by rw [rws]; rfl, rfl, rfl, fun i _ => Nat.lt_succ_self i, fun s hs => ?_, fun s hs => ?_, fun p hp => ?_, fun s hs => ?_⟩
  · have : s < 1 := hs
    exact ⟨Nat.zero_lt_one, Nat.zero_le _, by show s < 0 + 1; omega⟩
  · have : s < 1 := hs
    exact ⟨rfl, by show 0 = s; omega⟩
  · exact ⟨Nat.zero_lt_one, (pers_one hp).symm⟩
  · have : s + 1 < 1 := hs
    omega
def copL (n : Nat) (u : T) : Lin := ⟨n * ppl u, 1, fun i => i * (n * ppl u), fun _ => 0, fun s => (s % n) :: (persL u).getD (s / n) [], fun p => match p with | [] => 0 | i :: q => num u q * n + i⟩
theorem ok_copL {n : Nat} {u : T} (ok : Ok (.cop true n u)) : OkL (.cop true n u) (copL n u) := by
  have hn2 := ok.1.1
  have oku : Ok u := piece_Ok (t := .cop true n u) (i := 0) rfl ok
  have hp := ppl_pos oku.1
  have hl := persL_len oku.2.1
  have hrl := rws_le oku.1
  have h2 : 2 * ppl u ≤ n * ppl u := Nat.mul_le_mul_right _ hn2
  have hdiv : ∀ {s}, s < n * ppl u → s / n < ppl u := fun {s} hs => (Nat.div_lt_iff_lt_mul (by omega)).mpr (by rw [Nat.mul_comm]; exact hs)
  have hget : ∀ {k}, k < ppl u → (persL u)[k]? = some ((persL u).getD k []) := fun {k} hk => by
    rw [List.getD_eq_getElem?_getD, List.getElem?_eq_getElem (by omega)]; rfl
  refine ⟨by rw [ppl]; rfl, ?_, Nat.zero_mul _, Nat.one_mul _, fun i hi => ?_, fun s hs => ?_, fun s hs => ?_, fun p hpp => ?_, fun s hs _ => ?_⟩
  · show 1 = rws (.cop true n u)
    rw [rws, if_pos rfl]; omega
  · obtain rfl : i = 0 := by have : i < 1 := hi; omega
    show 0 * (n * ppl u) < (0 + 1) * (n * ppl u)
    rw [Nat.zero_mul, Nat.one_mul]; omega
  · have hs : s < n * ppl u := hs
    refine ⟨Nat.zero_lt_one, ?_, ?_⟩
    · show 0 * (n * ppl u) ≤ s
      rw [Nat.zero_mul]; exact Nat.zero_le _
    · show s < (0 + 1) * (n * ppl u)
      rw [Nat.zero_add, Nat.one_mul]; exact hs
  · have hs : s < n * ppl u := hs
    have hg := hget (hdiv hs)
    refine ⟨?_, ?_⟩
    · exact pers_in1 (by rw [cnt_cop]; exact Nat.mod_lt _ (by omega)) rfl (pers_is _ (Nat.le_refl _) (List.mem_of_getElem? hg))
    · show num u ((persL u).getD (s / n) []) * n + s % n = s
      rw [num_of oku hg, Nat.mul_comm]; exact Nat.div_add_mod s n
  · cases p with
    | nil => have := pers_nil hpp; cases this
    | cons i q =>
      obtain ⟨v, hi, hv, hq⟩ := pers_cons hpp
      obtain rfl : u = v := Option.some.inj hv
      rw [cnt_cop] at hi
      have hnum := num_lt oku hq
      have h3 : num u q * n + n ≤ ppl u * n := by rw [← Nat.succ_mul]; exact Nat.mul_le_mul_right _ hnum
      refine ⟨?_, ?_⟩
      · show num u q * n + i < n * ppl u
        rw [Nat.mul_comm n]; omega
      · show ((num u q * n + i) % n) :: (persL u).getD ((num u q * n + i) / n) [] = i :: q
        rw [Nat.mul_comm, Nat.mul_add_mod, Nat.mod_eq_of_lt hi, Nat.mul_add_div (by omega), Nat.div_eq_of_lt hi, Nat.add_zero, List.getD_eq_getElem?_getD, pers_num oku hq]; rfl
  · show knowsB _ ((s % n) :: _) (((s + 1) % n) :: _) = true
    have hne : (s + 1) % n ≠ s % n := fun e => by
      have a1 := Nat.div_add_mod s n
      have a2 := Nat.div_add_mod (s + 1) n
      have a3 := Nat.mod_lt s (show 0 < n by omega)
      rw [e] at a2
      have a4 : n * ((s + 1) / n) = n * (s / n) + 1 := by omega
      rcases Nat.lt_or_ge (s / n) ((s + 1) / n) with z | z
      · have : n * (s / n + 1) ≤ n * ((s + 1) / n) := Nat.mul_le_mul_left _ z
        rw [Nat.mul_succ] at this
        omega
      · have : n * ((s + 1) / n) ≤ n * (s / n) := Nat.mul_le_mul_left _ z
        omega
    rw [knows_out hne]; rfl
end PL
namespace PL
open PySem SX TL
def totC (ps : List (Nat × T)) : Nat := (ps.map fun q => ppl q.2).sum
/-- how many stand ahead of a part -/
def bkC : List (Nat × T) → Nat → Nat
  | [], _ => 0
  | q :: r, i => if i = q.1 then 0 else ppl q.2 + bkC r i
theorem totC_cons (q : Nat × T) (r : List (Nat × T)) : totC (q :: r) = ppl q.2 + totC r := by unfold totC; rw [List.map_cons, List.sum_cons]
theorem bkC_le : ∀ {ps : List (Nat × T)} {q : Nat × T}, (ps.map (·.1)).Nodup → q ∈ ps → bkC ps q.1 + ppl q.2 ≤ totC ps
  | x :: r, q, nd, h => by
    have nd2 := List.nodup_cons.mp (show (x.1 :: r.map (·.1)).Nodup from nd)
    rw [totC_cons, bkC]
    rcases List.mem_cons.mp h with rfl | h
    · rw [if_pos rfl]; omega
    · have hne : q.1 ≠ x.1 := fun e => nd2.1 (e ▸ List.mem_map_of_mem h)
      rw [if_neg hne]
      have := bkC_le nd2.2 h
      omega
theorem bkC_find : ∀ {ps : List (Nat × T)} {m : Nat}, (ps.map (·.1)).Nodup → m < totC ps → ∃ q ∈ ps, bkC ps q.1 ≤ m ∧ m < bkC ps q.1 + ppl q.2
  | [], m, _, h => by simp [totC] at h
  | x :: r, m, nd, h => by
    have nd2 := List.nodup_cons.mp (show (x.1 :: r.map (·.1)).Nodup from nd)
    rw [totC_cons] at h
    by_cases c : m < ppl x.2
    · refine ⟨x, List.mem_cons_self, ?_, ?_⟩ <;> rw [bkC, if_pos rfl] <;> omega
    · obtain ⟨q, hq, h1, h2⟩ := bkC_find (m := m - ppl x.2) nd2.2 (by omega)
      have hne : q.1 ≠ x.1 := fun e => nd2.1 (e ▸ List.mem_map_of_mem hq)
      refine ⟨q, List.mem_cons_of_mem _ hq, ?_, ?_⟩ <;> rw [bkC, if_neg hne] <;> omega
/-- the first part has most people, and at most half of all: neighbours are of unlike parts -/
theorem half_apart {x : Nat × T} {r : List (Nat × T)} {q z : Nat × T} {h m k : Nat} (nd : ((x :: r).map (·.1)).Nodup) (hh : h = (totC (x :: r) + 1) / 2) (hmax : ∀ y ∈ x :: r, ppl y.2 ≤ ppl x.2) (hx : ppl x.2 ≤ h) (hq : q ∈ x :: r) (hz : z ∈ x :: r)
    (q1 : bkC (x :: r) q.1 ≤ m) (q2 : m < bkC (x :: r) q.1 + ppl q.2) (z1 : bkC (x :: r) z.1 ≤ k) (z2 : k < bkC (x :: r) z.1 + ppl z.2) (hk : k < totC (x :: r)) (hmk : k = m + h ∨ (m + h = k + 1 ∧ 1 ≤ m ∧ m < h)) : q.1 ≠ z.1 := by
  intro e
  have hle := hmax q hq
  have e2 : bkC (x :: r) z.1 = bkC (x :: r) q.1 := by rw [e]
  have hpz := hmax z hz
  have heq : q = z := by
    have : ∀ {l : List (Nat × T)}, (l.map (·.1)).Nodup → ∀ {a b}, a ∈ l → b ∈ l → a.1 = b.1 → a = b := by
      intro l
      induction l with
      | nil => intro _ a b ha; cases ha
      | cons y l ih =>
        intro nd a b ha hb hab
        have nd2 := List.nodup_cons.mp (show (y.1 :: l.map (·.1)).Nodup from nd)
        rcases List.mem_cons.mp ha with rfl | ha'
        · rcases List.mem_cons.mp hb with rfl | hb'
          · rfl
          · exact absurd (by rw [hab]; exact List.mem_map_of_mem hb') nd2.1
        · rcases List.mem_cons.mp hb with rfl | hb'
          · exact absurd (by rw [← hab]; exact List.mem_map_of_mem ha') nd2.1
          · exact ih nd2.2 ha' hb' hab
    exact this nd hq hz e
  subst heq
  rcases hmk with h1 | ⟨h1, h0, h2⟩
  · omega
  · -- the part would have just h people, and stand behind the first one
    by_cases ex : q = x
    · subst ex
      have : bkC (q :: r) q.1 = 0 := by rw [bkC, if_pos rfl]
      omega
    · have hb := bkC_le nd hq
      have hne : q.1 ≠ x.1 := fun e' => by
        have nd2 := List.nodup_cons.mp (show (x.1 :: r.map (·.1)).Nodup from nd)
        rcases List.mem_cons.mp hq with e3 | hq'
        · exact ex e3
        · exact nd2.1 (e' ▸ List.mem_map_of_mem hq')
      have hb2 : bkC (x :: r) q.1 = ppl x.2 + bkC r q.1 := by rw [bkC, if_neg hne]
      omega
end PL
namespace PL
open PySem SX TL
def atC : List (Nat × T) → Nat → List Nat
  | [], _ => []
  | q :: r, m => if m < ppl q.2 then q.1 :: (persL q.2).getD m [] else atC r (m - ppl q.2)
def nuC : List (Nat × T) → List Nat → Nat
  | [], _ => 0
  | q :: r, x => match x with
    | [] => 0
    | i :: p => if i = q.1 then num q.2 p else ppl q.2 + nuC r (i :: p)
theorem nuC_at : ∀ {ps : List (Nat × T)} {q : Nat × T} {p : List Nat}, (ps.map (·.1)).Nodup → q ∈ ps → nuC ps (q.1 :: p) = bkC ps q.1 + num q.2 p
  | x :: r, q, p, nd, h => by
    have nd2 := List.nodup_cons.mp (show (x.1 :: r.map (·.1)).Nodup from nd)
    rw [nuC, bkC]
    rcases List.mem_cons.mp h with rfl | h'
    · rw [if_pos rfl, if_pos rfl, Nat.zero_add]
    · have hne : q.1 ≠ x.1 := fun e => nd2.1 (by rw [← e]; exact List.mem_map_of_mem h')
      rw [if_neg hne, if_neg hne, nuC_at nd2.2 h', Nat.add_assoc]
theorem atC_at : ∀ {ps : List (Nat × T)} {q : Nat × T} {m : Nat}, (ps.map (·.1)).Nodup → q ∈ ps → bkC ps q.1 ≤ m → m < bkC ps q.1 + ppl q.2 → atC ps m = q.1 :: (persL q.2).getD (m - bkC ps q.1) []
  | x :: r, q, m, nd, h, h1, h2 => by
    have nd2 := List.nodup_cons.mp (show (x.1 :: r.map (·.1)).Nodup from nd)
    rw [bkC] at h1 h2 ⊢
    rw [atC]
    rcases List.mem_cons.mp h with rfl | h'
    · rw [if_pos rfl] at h1 h2 ⊢
      rw [if_pos (by omega), Nat.sub_zero]
    · have hne : q.1 ≠ x.1 := fun e => nd2.1 (by rw [← e]; exact List.mem_map_of_mem h')
      rw [if_neg hne] at h1 h2 ⊢
      rw [if_neg (by omega), atC_at nd2.2 h' (by omega) (by omega), show m - ppl x.2 - bkC r q.1 = m - (ppl x.2 + bkC r q.1) by omega]
/-- numbers and people answer one another -/
theorem atC_ok {ps : List (Nat × T)} {m : Nat} (nd : (ps.map (·.1)).Nodup) (hok : ∀ q ∈ ps, Ok q.2) (h : m < totC ps) : ∃ q ∈ ps, ∃ p, atC ps m = q.1 :: p ∧ isPers q.2 p = true ∧ nuC ps (q.1 :: p) = m ∧ bkC ps q.1 ≤ m ∧ m < bkC ps q.1 + ppl q.2 := by
  obtain ⟨q, hq, h1, h2⟩ := bkC_find nd h
  have okq := hok q hq
  have hl := persL_len okq.2.1
  have hg : (persL q.2)[m - bkC ps q.1]? = some ((persL q.2).getD (m - bkC ps q.1) []) := by
    rw [List.getD_eq_getElem?_getD, List.getElem?_eq_getElem (by omega)]; rfl
  refine ⟨q, hq, _, atC_at nd hq h1 h2, pers_is _ (Nat.le_refl _) (List.mem_of_getElem? hg), ?_, h1, h2⟩
  rw [nuC_at nd hq, num_of okq hg]; omega
theorem nuC_ok {ps : List (Nat × T)} {q : Nat × T} {p : List Nat} (nd : (ps.map (·.1)).Nodup) (hok : ∀ q ∈ ps, Ok q.2) (hq : q ∈ ps) (hp : isPers q.2 p = true) : nuC ps (q.1 :: p) < totC ps ∧ atC ps (nuC ps (q.1 :: p)) = q.1 :: p ∧ bkC ps q.1 ≤ nuC ps (q.1 :: p) ∧ nuC ps (q.1 :: p) < bkC ps q.1 + ppl q.2 := by
  have okq := hok q hq
  have h1 := num_lt okq hp
  have h2 := bkC_le nd hq
  rw [nuC_at nd hq]
  refine ⟨by omega, ?_, by omega, by omega⟩
  rw [atC_at nd hq (by omega) (by omega), Nat.add_sub_cancel_left, List.getD_eq_getElem?_getD, pers_num okq hp]; rfl
def hvF (n m : Nat) : Nat := if m < (n + 1) / 2 then 2 * m else 2 * (m - (n + 1) / 2) + 1
def unh (n s : Nat) : Nat := s / 2 + if s % 2 = 1 then (n + 1) / 2 else 0
theorem hvF_ok {n m : Nat} (h : m < n) : hvF n m < n ∧ unh n (hvF n m) = m := by
  unfold hvF unh
  split <;> (refine ⟨by omega, ?_⟩; split <;> omega)
theorem unh_ok {n s : Nat} (h : s < n) : unh n s < n ∧ hvF n (unh n s) = s := by
  unfold hvF unh
  split <;> (refine ⟨by omega, ?_⟩; split <;> omega)
def halL (ps : List (Nat × T)) : Lin := ⟨totC ps, 1, fun i => i * totC ps, fun _ => 0, fun s => atC ps (unh (totC ps) s), fun p => hvF (totC ps) (nuC ps p)⟩
theorem ok_halL {ts : List T} {x : Nat × T} {r : List (Nat × T)} (ok : Ok (.row true ts)) (nd : ((x :: r).map (·.1)).Nodup) (hm : ∀ i u, (i, u) ∈ x :: r ↔ ts[i]? = some u) (ht : totC (x :: r) = ppls ts) (hmax : ∀ y ∈ x :: r, ppl y.2 ≤ ppl x.2) (hx : ppl x.2 ≤ (totC (x :: r) + 1) / 2) (hr1 : rws (.row true ts) = 1) : OkL (.row true ts) (halL (x :: r)) := by
  have hok : ∀ q ∈ x :: r, Ok q.2 := fun q hq => piece_Ok (t := .row true ts) (i := q.1) ((hm q.1 q.2).mp hq) ok
  have hp1 := ppl_pos (hok x List.mem_cons_self).1
  have hpos : 0 < totC (x :: r) := by rw [totC_cons]; omega
  have pin : ∀ {q : Nat × T} {p : List Nat}, q ∈ x :: r → isPers q.2 p = true → isPers (.row true ts) (q.1 :: p) = true := fun {q p} hq hp => by
    have h1 := (hm q.1 q.2).mp hq
    exact pers_in1 (by rw [cnt_row]; exact (List.getElem?_eq_some_iff.mp h1).1) h1 hp
  generalize hN : totC (x :: r) = N at *
  refine ⟨?_, hr1.symm, Nat.zero_mul _, Nat.one_mul _, fun i hi => ?_, fun s hs => ?_, fun s hs => ?_, fun p hpp => ?_, fun s hs _ => ?_⟩
  · show totC (x :: r) = _
    rw [hN, ppl]; exact ht
  · obtain rfl : i = 0 := by have : i < 1 := hi; omega
    show 0 * totC (x :: r) < (0 + 1) * totC (x :: r)
    rw [hN, Nat.zero_mul, Nat.one_mul]; exact hpos
  · have hs : s < totC (x :: r) := hs
    refine ⟨Nat.zero_lt_one, ?_, ?_⟩
    · show 0 * totC (x :: r) ≤ s
      rw [Nat.zero_mul]; exact Nat.zero_le _
    · show s < (0 + 1) * totC (x :: r)
      rw [Nat.zero_add, Nat.one_mul]; exact hs
  · have hs : s < totC (x :: r) := hs
    rw [hN] at hs
    obtain ⟨u1, u2⟩ := unh_ok hs
    obtain ⟨q, hq, p, e, hp, hnu, _, _⟩ := atC_ok (m := unh N s) nd hok (by rw [hN]; exact u1)
    show isPers _ (atC (x :: r) (unh (totC (x :: r)) s)) = true ∧ hvF (totC (x :: r)) (nuC (x :: r) (atC (x :: r) (unh (totC (x :: r)) s))) = s
    rw [hN, e]
    exact ⟨pin hq hp, by rw [hnu, u2]⟩
  · cases p with
    | nil => have := pers_nil hpp; cases this
    | cons i p =>
      obtain ⟨u, hi, hu, hp⟩ := pers_cons hpp
      have hq := (hm i u).mpr hu
      obtain ⟨a1, a2, _, _⟩ := nuC_ok (q := (i, u)) nd hok hq hp
      rw [hN] at a1
      obtain ⟨b1, b2⟩ := hvF_ok a1
      show hvF (totC (x :: r)) (nuC (x :: r) (i :: p)) < totC (x :: r) ∧ atC (x :: r) (unh (totC (x :: r)) (hvF (totC (x :: r)) (nuC (x :: r) (i :: p)))) = i :: p
      rw [hN]
      exact ⟨b1, by rw [b2]; exact a2⟩
  · have hs : s + 1 < totC (x :: r) := hs
    rw [hN] at hs
    obtain ⟨u1, _⟩ := unh_ok (n := N) (s := s) (by omega)
    obtain ⟨w1, _⟩ := unh_ok hs
    obtain ⟨q, hq, p, e, hp, _, q1, q2⟩ := atC_ok (m := unh N s) nd hok (by rw [hN]; exact u1)
    obtain ⟨z, hz, y, e', hy, _, z1, z2⟩ := atC_ok (m := unh N (s + 1)) nd hok (by rw [hN]; exact w1)
    show knowsB _ (atC (x :: r) (unh (totC (x :: r)) s)) (atC (x :: r) (unh (totC (x :: r)) (s + 1))) = true
    rw [hN, e, e']
    have hne : q.1 ≠ z.1 := by
      by_cases c : s % 2 = 1
      · have m1 : unh N s = s / 2 + (N + 1) / 2 := by unfold unh; rw [if_pos c]
        have m2 : unh N (s + 1) = s / 2 + 1 := by unfold unh; rw [if_neg (by omega)]; omega
        exact fun e3 => half_apart (h := (N + 1) / 2) nd (by rw [hN]) hmax hx hz hq z1 z2 q1 q2 (by rw [hN]; exact u1) (.inr (by omega)) e3.symm
      · have m1 : unh N s = s / 2 := by unfold unh; rw [if_neg c]; omega
        have m2 : unh N (s + 1) = s / 2 + (N + 1) / 2 := by unfold unh; rw [if_pos (by omega)]; omega
        exact half_apart (h := (N + 1) / 2) nd (by rw [hN]) hmax hx hq hz q1 q2 z1 z2 (by rw [hN]; exact w1) (.inl (by omega))
    rw [knows_out (fun e3 => hne e3.symm)]; rfl
end PL
namespace PL
open PySem SX TL
theorem st_lt {t : T} {L : Lin} (o : OkL t L) : ∀ {i j : Nat}, i < j → j ≤ L.r → L.st i < L.st j
  | i, j + 1, h, hj => by
    have h1 := o.up j (by omega)
    by_cases e : i = j
    · subst e; exact h1
    · have := st_lt o (i := i) (j := j) (by omega) (by omega)
      omega
theorem ro_uniq {t : T} {L : Lin} (o : OkL t L) {s i : Nat} (hs : s < L.n) (hi : i < L.r) (h1 : L.st i ≤ s) (h2 : s < L.st (i + 1)) : L.ro s = i := by
  obtain ⟨a1, a2, a3⟩ := o.ro s hs
  rcases Nat.lt_trichotomy (L.ro s) i with z | z | z
  · rcases Nat.lt_or_ge (L.ro s + 1) i with y | y
    · have := st_lt o y (by omega); omega
    · have e : L.ro s + 1 = i := by omega
      rw [e] at a3; omega
  · exact z
  · rcases Nat.lt_or_ge (i + 1) (L.ro s) with y | y
    · have := st_lt o y (by omega); omega
    · have e : L.ro s = i + 1 := by omega
      rw [e] at a2; omega
theorem ro_zero {t : T} {L : Lin} (o : OkL t L) (hn : 0 < L.n) (hr : 0 < L.r) : L.ro 0 = 0 := by
  have h := o.up 0 hr
  rw [o.s0] at h
  exact ro_uniq o hn hr (by rw [o.s0]; exact Nat.le_refl _) h
theorem ro_last {t : T} {L : Lin} (o : OkL t L) (hn : 0 < L.n) (hr : 0 < L.r) : L.ro (L.n - 1) = L.r - 1 := by
  have h := o.up (L.r - 1) (by omega)
  rw [show L.r - 1 + 1 = L.r by omega, o.sr] at h
  exact ro_uniq o (by omega) (by omega) (by omega) (by rw [show L.r - 1 + 1 = L.r by omega, o.sr]; omega)
/-- the next spot is of the same row, or begins the next one -/
theorem ro_next {t : T} {L : Lin} (o : OkL t L) {s : Nat} (hs : s + 1 < L.n) : (L.ro (s + 1) = L.ro s ∧ s + 1 < L.st (L.ro s + 1)) ∨ (L.ro (s + 1) = L.ro s + 1 ∧ L.st (L.ro s + 1) = s + 1) := by
  obtain ⟨a1, a2, a3⟩ := o.ro s (by omega)
  by_cases c : s + 1 < L.st (L.ro s + 1)
  · exact .inl ⟨ro_uniq o hs a1 (by omega) c, c⟩
  · have e : L.st (L.ro s + 1) = s + 1 := by omega
    have hr : L.ro s + 1 < L.r := by
      rcases Nat.lt_or_ge (L.ro s + 1) L.r with y | y
      · exact y
      · have e2 : L.ro s + 1 = L.r := by omega
        rw [e2, o.sr] at e; omega
    have h := o.up (L.ro s + 1) hr
    exact .inr ⟨ro_uniq o hs hr (by omega) (by omega), e⟩
/-- how many pieces there are where x people are cut off one by one -/
def pcs1 (L : Lin) (x : Nat) : Nat := x + L.r - L.ro x
theorem pcs1_next {t : T} {L : Lin} (o : OkL t L) {s : Nat} (hs : s + 1 < L.n) : (pcs1 L (s + 1) = pcs1 L s + 1 ∧ L.ro (s + 1) = L.ro s) ∨ pcs1 L (s + 1) = pcs1 L s := by
  have h1 := (o.ro s (by omega)).1
  have h2 := (o.ro (s + 1) hs).1
  unfold pcs1
  rcases ro_next o hs with ⟨e, _⟩ | ⟨e, _⟩
  · exact .inl ⟨by omega, e⟩
  · exact .inr (by omega)
/-- the least number of single ones -/
theorem least_sg {t : T} {L : Lin} {k : Nat} (o : OkL t L) (hn : 0 < L.n) (hr : 0 < L.r) (hk : k ≤ L.n) : ∃ x, x < L.n ∧ k ≤ pcs1 L x ∧ (∀ y, y < x → pcs1 L y < k) ∧ (x = 0 ∨ (pcs1 L x = k ∧ L.ro x = L.ro (x - 1))) := by
  have hl : pcs1 L (L.n - 1) = L.n := by
    unfold pcs1
    rw [ro_last o hn hr]; omega
  have go : ∀ m, m < L.n → (∀ y, y < m → pcs1 L y < k) ∨ ∃ x, x < m ∧ k ≤ pcs1 L x ∧ ∀ y, y < x → pcs1 L y < k := by
    intro m
    induction m with
    | zero => intro _; exact .inl fun y h => by omega
    | succ m ih =>
      intro hm
      rcases ih (by omega) with h | ⟨x, h1, h2, h3⟩
      · by_cases c : k ≤ pcs1 L m
        · exact .inr ⟨m, by omega, c, h⟩
        · exact .inl fun y hy => by
            by_cases e : y = m
            · rw [e]; omega
            · exact h y (by omega)
      · exact .inr ⟨x, by omega, h2, h3⟩
  have fin : ∃ x, x < L.n ∧ k ≤ pcs1 L x ∧ ∀ y, y < x → pcs1 L y < k := by
    rcases go (L.n - 1) (by omega) with h | ⟨x, h1, h2, h3⟩
    · exact ⟨L.n - 1, by omega, by omega, h⟩
    · exact ⟨x, by omega, h2, h3⟩
  obtain ⟨x, h1, h2, h3⟩ := fin
  refine ⟨x, h1, h2, h3, ?_⟩
  by_cases e : x = 0
  · exact .inl e
  · right
    obtain ⟨y, rfl⟩ : ∃ y, x = y + 1 := ⟨x - 1, by omega⟩
    have h4 := h3 y (by omega)
    rcases pcs1_next o h1 with ⟨a, b⟩ | a
    · exact ⟨by omega, b⟩
    · omega
end PL
namespace PL
open PySem SX TL
/-- the first i below n with p, n if there is none -/
def fstU (p : Nat → Bool) : Nat → Nat
  | 0 => 0
  | n + 1 => if fstU p n < n then fstU p n else if p n = true then n else n + 1
theorem fstU_ok (p : Nat → Bool) : ∀ n, fstU p n ≤ n ∧ (∀ i, i < fstU p n → p i = false) ∧ (fstU p n < n → p (fstU p n) = true)
  | 0 => ⟨Nat.le_refl _, fun i h => absurd h (Nat.not_lt_zero _), fun h => absurd h (Nat.lt_irrefl _)⟩
  | n + 1 => by
    obtain ⟨h1, h2, h3⟩ := fstU_ok p n
    rw [fstU]
    by_cases c : fstU p n < n
    · rw [if_pos c]; exact ⟨by omega, h2, fun _ => h3 c⟩
    · have e : fstU p n = n := by omega
      rw [e] at h2
      rw [if_neg c]
      by_cases d : p n = true
      · rw [if_pos d]; exact ⟨by omega, h2, fun _ => d⟩
      · rw [if_neg d]
        refine ⟨Nat.le_refl _, fun i hi => ?_, fun h => absurd h (Nat.lt_irrefl _)⟩
        by_cases z : i = n
        · subst z; simpa using d
        · exact h2 i (by omega)
theorem fstU_uniq {p : Nat → Bool} {n x : Nat} (h1 : x ≤ n) (h2 : ∀ i, i < x → p i = false) (h3 : x < n → p x = true) : fstU p n = x := by
  obtain ⟨a1, a2, a3⟩ := fstU_ok p n
  rcases Nat.lt_trichotomy (fstU p n) x with z | z | z
  · have := h2 _ z; rw [a3 (by omega)] at this; cases this
  · exact z
  · have := a2 _ z; rw [h3 (by omega)] at this; cases this
/-- pieces by spots; behind piece k, ahead of the spot e k, sits one of the others -/
structure Wv (N no : Nat) (pc e : Nat → Nat) : Prop where
  mono : ∀ s, s + 1 < N → pc s ≤ pc (s + 1)
  lo : ∀ k, k < no → 1 ≤ e k ∧ e k < N ∧ pc (e k - 1) = k ∧ pc (e k) = k + 1
section
variable {N no : Nat} {pc e : Nat → Nat}
theorem Wv.le (w : Wv N no pc e) : ∀ {a b : Nat}, a ≤ b → b < N → pc a ≤ pc b
  | a, 0, h, _ => by
    have z : a = 0 := by omega
    rw [z]; exact Nat.le_refl _
  | a, b + 1, h, hb => by
    by_cases z : a = b + 1
    · rw [z]; exact Nat.le_refl _
    · exact Nat.le_trans (w.le (a := a) (b := b) (by omega) (by omega)) (w.mono b hb)
theorem Wv.lt (w : Wv N no pc e) {k s : Nat} (hk : k < no) (hs : s < N) : pc s ≤ k ↔ s < e k := by
  obtain ⟨h1, h2, h3, h4⟩ := w.lo k hk
  constructor
  · intro h
    rcases Nat.lt_or_ge s (e k) with z | z
    · exact z
    · have := w.le z hs; omega
  · intro h
    have := w.le (a := s) (b := e k - 1) (by omega) (by omega)
    omega
theorem Wv.up (w : Wv N no pc e) {j k : Nat} (h : j < k) (hk : k < no) : e j < e k := by
  obtain ⟨h1, h2, h3, h4⟩ := w.lo j (by omega)
  exact (w.lt hk h2).mp (by omega)
abbrev ahV (e : Nat → Nat) (no x : Nat) : Nat := fstU (fun k => decide (x ≤ e k + k)) no
theorem Wv.ah_os (w : Wv N no pc e) {k : Nat} (hk : k < no) : ahV e no (e k + k) = k := by
  refine fstU_uniq (by omega) (fun i hi => decide_eq_false ?_) fun _ => decide_eq_true (Nat.le_refl _)
  have := w.up hi hk
  omega
theorem Wv.ah_pl (w : Wv N no pc e) {s : Nat} (hs : s < N) : ahV e no (s + min (pc s) no) = min (pc s) no ∧ (min (pc s) no < no → e (min (pc s) no) + min (pc s) no ≠ s + min (pc s) no) := by
  have key : min (pc s) no < no → s < e (min (pc s) no) := fun h => (w.lt h hs).mp (by omega)
  refine ⟨fstU_uniq (by omega) (fun i hi => decide_eq_false ?_) fun h => decide_eq_true (by have := key h; omega), fun h => by have := key h; omega⟩
  have h2 : ¬ s < e i := fun z => by
    have := (w.lt (k := i) (by omega) hs).mpr z
    omega
  omega
theorem Wv.find (w : Wv N no pc e) {x : Nat} (hx : x < N + no) : (∃ k, k < no ∧ x = e k + k) ∨ ∃ s, s < N ∧ x = s + min (pc s) no := by
  obtain ⟨a1, a2, a3⟩ := fstU_ok (fun k => decide (x ≤ e k + k)) no
  generalize fstU (fun k => decide (x ≤ e k + k)) no = a at a1 a2 a3
  by_cases c : a < no ∧ x = e a + a
  · exact .inl ⟨a, c.1, c.2⟩
  · right
    have lo : 0 < a → e (a - 1) + a ≤ x := fun h => by
      have := of_decide_eq_false (a2 (a - 1) (by omega))
      omega
    have hi : a < no → x < e a + a := fun h => by
      have := of_decide_eq_true (a3 h)
      rcases Nat.lt_or_ge x (e a + a) with z | z
      · exact z
      · exact absurd ⟨h, by omega⟩ c
    have ha : a ≤ x := by
      by_cases z : a = 0
      · omega
      · have := lo (by omega); omega
    have hs : x - a < N := by
      by_cases z : a < no
      · have h1 := (w.lo a z).2.1
        have := hi z
        omega
      · omega
    refine ⟨x - a, hs, ?_⟩
    have h1 : a ≤ pc (x - a) := by
      by_cases z : a = 0
      · omega
      · rcases Nat.lt_or_ge (pc (x - a)) a with y | y
        · have := (w.lt (k := a - 1) (by omega) hs).mp (by omega)
          have := lo (by omega)
          omega
        · exact y
    have h2 : a < no → pc (x - a) ≤ a := fun z => (w.lt z hs).mpr (by have := hi z; omega)
    have h3 : min (pc (x - a)) no = a := by
      by_cases z : a < no
      · have := h2 z; omega
      · omega
    omega
end
def sgW (L : Lin) (k : Nat) : Nat := fstU (fun x => decide (k ≤ pcs1 L x)) (L.n - 1)
def pcW (L : Lin) (sg s : Nat) : Nat := if s < sg then s else sg + L.ro s - L.ro sg
def osW (L : Lin) (sg k : Nat) : Nat := if k < sg then 2 * k + 1 else L.st (L.ro sg + k - sg + 1) + k
def eW (L : Lin) (sg k : Nat) : Nat := if k < sg then k + 1 else L.st (L.ro sg + k - sg + 1)
theorem osW_e (L : Lin) (sg k : Nat) : osW L sg k = eW L sg k + k := by
  unfold osW eW
  split <;> omega
def ahW (L : Lin) (sg no x : Nat) : Nat := fstU (fun k => decide (x ≤ osW L sg k)) no
theorem ahW_e (L : Lin) (sg no x : Nat) : ahW L sg no x = ahV (eW L sg) no x := by
  unfold ahW
  simp only [osW_e]
def stW (L : Lin) (no i : Nat) : Nat := if i = 0 then 0 else if i = max 1 (L.r - no) then L.n + no else L.st (i + no) + no
def roW (L : Lin) (no s : Nat) : Nat := if max 1 (L.r - no) = 1 ∨ s < stW L no 1 then 0 else L.ro (s - no) - no
def atW (L : Lin) (sg u : Nat) (ps : List (Nat × T)) (x : Nat) : List Nat := if ahW L sg (totC ps) x < totC ps ∧ osW L sg (ahW L sg (totC ps) x) = x then atC ps (ahW L sg (totC ps) x) else u :: L.at_ (x - ahW L sg (totC ps) x)
def spW (L : Lin) (sg u : Nat) (ps : List (Nat × T)) (p : List Nat) : Nat := match p with
  | [] => 0
  | i :: q => if i = u then L.sp q + min (pcW L sg (L.sp q)) (totC ps) else osW L sg (nuC ps (i :: q))
def wovL (L : Lin) (u : Nat) (ps : List (Nat × T)) (sg : Nat) : Lin := ⟨L.n + totC ps, max 1 (L.r - totC ps), stW L (totC ps), roW L (totC ps), atW L sg u ps, spW L sg u ps⟩
theorem ro_mono {t : T} {L : Lin} (o : OkL t L) {s : Nat} (h : s + 1 < L.n) : L.ro s ≤ L.ro (s + 1) := by
  rcases ro_next o h with ⟨a, _⟩ | ⟨a, _⟩ <;> omega
theorem ro_le {t : T} {L : Lin} (o : OkL t L) : ∀ {a b : Nat}, a ≤ b → b < L.n → L.ro a ≤ L.ro b
  | a, 0, h, _ => by
    have z : a = 0 := by omega
    rw [z]; exact Nat.le_refl _
  | a, b + 1, h, hb => by
    by_cases z : a = b + 1
    · rw [z]; exact Nat.le_refl _
    · exact Nat.le_trans (ro_le o (a := a) (b := b) (by omega) (by omega)) (ro_mono o hb)
theorem st_le {t : T} {L : Lin} (o : OkL t L) {i j : Nat} (h : i ≤ j) (hj : j ≤ L.r) : L.st i ≤ L.st j := by
  by_cases z : i = j
  · rw [z]; exact Nat.le_refl _
  · exact Nat.le_of_lt (st_lt o (by omega) hj)
/-- what is known of the number of single ones -/
structure Sg (L : Lin) (no sg : Nat) : Prop where
  lt : sg < L.n
  ge : no + 1 ≤ pcs1 L sg
  at_ : (sg = 0 ∧ no + 1 ≤ L.r) ∨ (0 < sg ∧ L.r ≤ no ∧ pcs1 L sg = no + 1 ∧ L.ro sg = L.ro (sg - 1))
theorem sg_ok {t : T} {L : Lin} {no : Nat} (o : OkL t L) (hn : 0 < L.n) (hr : 0 < L.r) (hk : no + 1 ≤ L.n) : Sg L no (sgW L (no + 1)) := by
  obtain ⟨x, h1, h2, h3, h4⟩ := least_sg o hn hr hk
  have e : sgW L (no + 1) = x := fstU_uniq (by omega) (fun i hi => decide_eq_false (by have := h3 i hi; omega)) fun _ => decide_eq_true h2
  rw [e]
  refine ⟨h1, h2, ?_⟩
  have z0 : pcs1 L 0 = L.r := by unfold pcs1; rw [ro_zero o hn hr]; omega
  by_cases c : x = 0
  · subst c; exact .inl ⟨rfl, by omega⟩
  · have := h3 0 (by omega)
    rcases h4 with z | ⟨a, b⟩
    · exact absurd z c
    · exact .inr ⟨by omega, by omega, a, b⟩
theorem wv_ok {t : T} {L : Lin} {no sg : Nat} (o : OkL t L) (g : Sg L no sg) : Wv L.n no (pcW L sg) (eW L sg) := by
  refine ⟨fun s hs => ?_, fun k hk => ?_⟩
  · have h1 := ro_mono o hs
    unfold pcW
    by_cases c : s + 1 < sg
    · rw [if_pos (by omega), if_pos c]; omega
    · rw [if_neg c]
      by_cases d : s < sg
      · have e : s + 1 = sg := by omega
        rw [if_pos d, e]; omega
      · rw [if_neg d]; omega
  · have hro := (o.ro sg g.lt).1
    have hge := g.ge
    have hlt := g.lt
    unfold pcs1 at hge
    unfold eW pcW
    by_cases c : k < sg
    · rw [if_pos c]
      refine ⟨by omega, by omega, by rw [if_pos (by omega)]; omega, ?_⟩
      by_cases d : k + 1 < sg
      · rw [if_pos d]
      · have e : k + 1 = sg := by omega
        rw [if_neg d, e]; omega
    · rw [if_neg c]
      obtain ⟨i, hi⟩ : ∃ i, i = L.ro sg + k - sg := ⟨_, rfl⟩
      rw [← hi]
      have hi1 : i + 1 < L.r := by omega
      have hup := o.up i (by omega)
      have hup2 := o.up (i + 1) hi1
      have hn : L.st (i + 1) < L.n := by
        rw [← o.sr]; exact st_lt o hi1 (Nat.le_refl _)
      have hsg : sg < L.st (i + 1) := by
        have h1 := (o.ro sg g.lt).2.2
        have := st_le o (i := L.ro sg + 1) (j := i + 1) (by omega) (by omega)
        omega
      have r1 : L.ro (L.st (i + 1)) = i + 1 := ro_uniq o hn hi1 (Nat.le_refl _) hup2
      have r2 : L.ro (L.st (i + 1) - 1) = i := ro_uniq o (by omega) (by omega) (by omega) (by omega)
      refine ⟨by omega, hn, ?_, ?_⟩
      · rw [if_neg (by omega), r2]; omega
      · rw [if_neg (by omega), r1]; omega
end PL
namespace PL
open PySem SX TL
theorem exs_leB {B : Nat} : ∀ {ts : List T}, (∀ v ∈ ts, rws v + ppl v ≤ B) → exs ts ≤ B
  | [], _ => by rw [exs]; exact Nat.zero_le _
  | t :: ts, h => by
    rw [exs]
    exact Nat.max_le.mpr ⟨h t List.mem_cons_self, exs_leB fun v hv => h v (List.mem_cons_of_mem _ hv)⟩
theorem stW_at {t : T} {L : Lin} {no : Nat} (o : OkL t L) (h : no + 1 ≤ L.r) {i : Nat} (h1 : 1 ≤ i) (h2 : i ≤ L.r - no) : stW L no i = L.st (i + no) + no := by
  unfold stW
  rw [if_neg (by omega)]
  by_cases c : i = max 1 (L.r - no)
  · have e : i + no = L.r := by omega
    rw [if_pos c, e, o.sr]
  · rw [if_neg c]
theorem roW_at {t : T} {L : Lin} {no : Nat} (o : OkL t L) (h : no + 1 ≤ L.r) {x : Nat} (hx : x < L.n + no) : roW L no x < L.r - no ∧ stW L no (roW L no x) ≤ x ∧ x < stW L no (roW L no x + 1) := by
  have s1 := stW_at o h (i := 1) (Nat.le_refl _) (by omega)
  have s0 : stW L no 0 = 0 := by unfold stW; rw [if_pos rfl]
  unfold roW
  by_cases c : max 1 (L.r - no) = 1
  · rw [if_pos (.inl c), s0]
    have e : 0 + 1 + no = L.r := by omega
    have := stW_at o h (i := 0 + 1) (by omega) (by omega)
    rw [this, e, o.sr]
    exact ⟨by omega, by omega, by omega⟩
  · by_cases d : x < stW L no 1
    · rw [if_pos (.inr d), s0]
      exact ⟨by omega, by omega, d⟩
    · rw [if_neg (fun z => z.elim c d)]
      obtain ⟨a1, a2, a3⟩ := o.ro (x - no) (by omega)
      have h4 : no + 1 ≤ L.ro (x - no) := by
        rcases Nat.lt_or_ge (L.ro (x - no)) (no + 1) with z | z
        · have := st_le o (i := L.ro (x - no) + 1) (j := 1 + no) (by omega) (by omega)
          omega
        · exact z
      rw [stW_at o h (by omega) (by omega), stW_at o h (by omega) (by omega), show L.ro (x - no) - no + no = L.ro (x - no) by omega, show L.ro (x - no) - no + 1 + no = L.ro (x - no) + 1 by omega]
      exact ⟨by omega, by omega, by omega⟩
/-- the row of a spot of the great part -/
theorem roW_pl {t : T} {L : Lin} {no s : Nat} (o : OkL t L) (h : no + 1 ≤ L.r) (hs : s < L.n) (hn : no ≤ L.ro s) : roW L no (s + no) = L.ro s - no := by
  obtain ⟨a1, a2, a3⟩ := o.ro s hs
  have s1 := stW_at o h (i := 1) (Nat.le_refl _) (by omega)
  unfold roW
  by_cases c : max 1 (L.r - no) = 1
  · rw [if_pos (.inl c)]; omega
  · by_cases d : s + no < stW L no 1
    · rw [if_pos (.inr d)]
      rcases Nat.lt_or_ge no (L.ro s) with z | z
      · have := st_le o (i := 1 + no) (j := L.ro s) (by omega) (by omega)
        omega
      · omega
    · rw [if_neg (fun z => z.elim c d), Nat.add_sub_cancel]
theorem ok_wovL {ts : List T} {u : T} {L : Lin} {i : Nat} {ps : List (Nat × T)} (ok : Ok (.row true ts)) (hu : ts[i]? = some u) (o : OkL u L) (nd : (ps.map (·.1)).Nodup) (hm : ∀ j v, (j, v) ∈ ps ↔ (ts[j]? = some v ∧ j ≠ i)) (ht : totC ps + ppl u = ppls ts) (hbig : totC ps + 2 ≤ ppl u) :
    OkL (.row true ts) (wovL L i ps (sgW L (totC ps + 1))) := by
  have hok : ∀ q ∈ ps, Ok q.2 := fun q hq => piece_Ok (t := .row true ts) (i := q.1) ((hm q.1 q.2).mp hq).1 ok
  have oku : Ok u := piece_Ok (t := .row true ts) (i := i) hu ok
  have hLn : L.n = ppl u := o.hn
  have hLr : L.r = rws u := o.hr
  have hn : 0 < L.n := by omega
  have hr : 0 < L.r := by rw [hLr]; exact rws_pos oku.1
  have g := sg_ok (no := totC ps) o hn hr (by omega)
  generalize sgW L (totC ps + 1) = sg at g
  have wv := wv_ok o g
  obtain ⟨no, hno⟩ : ∃ no, no = totC ps := ⟨_, rfl⟩
  have inU : ∀ {p}, isPers u p = true → isPers (.row true ts) (i :: p) = true := fun {p} hp => pers_in1 (by rw [cnt_row]; exact (List.getElem?_eq_some_iff.mp hu).1) hu hp
  have inO : ∀ {q : Nat × T} {p : List Nat}, q ∈ ps → isPers q.2 p = true → isPers (.row true ts) (q.1 :: p) = true := fun {q p} hq hp => by
    have h1 := ((hm q.1 q.2).mp hq).1
    exact pers_in1 (by rw [cnt_row]; exact (List.getElem?_eq_some_iff.mp h1).1) h1 hp
  have neO : ∀ {q : Nat × T}, q ∈ ps → q.1 ≠ i := fun {q} hq => ((hm q.1 q.2).mp hq).2
  -- what sits at a spot
  have atO : ∀ {k}, k < totC ps → atW L sg i ps (osW L sg k) = atC ps k := fun {k} hk => by
    unfold atW
    have e : ahW L sg (totC ps) (osW L sg k) = k := by rw [ahW_e, osW_e]; exact wv.ah_os hk
    rw [e, if_pos ⟨hk, rfl⟩]
  have atP : ∀ {s}, s < L.n → atW L sg i ps (s + min (pcW L sg s) (totC ps)) = i :: L.at_ s := fun {s} hs => by
    unfold atW
    have h1 := wv.ah_pl hs
    rw [← ahW_e, ← osW_e] at h1
    rw [h1.1, if_neg (fun z => h1.2 z.1 z.2), Nat.add_sub_cancel]
  have find : ∀ {x}, x < L.n + totC ps → (∃ k, k < totC ps ∧ x = osW L sg k) ∨ ∃ s, s < L.n ∧ x = s + min (pcW L sg s) (totC ps) := fun {x} hx => by
    rcases wv.find hx with ⟨k, h1, h2⟩ | h
    · exact .inl ⟨k, h1, by rw [osW_e]; exact h2⟩
    · exact .inr h
  -- rows
  have rw1 : max 1 (L.r - totC ps) = rws (.row true ts) := by
    have h1 := exs_mem (List.mem_of_getElem? hu)
    have h2 : exs ts ≤ max (rws u + ppl u) (2 * totC ps) := exs_leB fun v hv => by
      obtain ⟨j, hj, e⟩ := List.getElem_of_mem hv
      by_cases c : j = i
      · subst c
        have : some v = some u := by rw [← hu, List.getElem?_eq_getElem hj, e]
        cases this
        exact Nat.le_max_left _ _
      · have hq : (j, v) ∈ ps := (hm j v).mpr ⟨by rw [List.getElem?_eq_getElem hj, e], c⟩
        have a1 := bkC_le nd hq
        have a2 := rws_le (hok _ hq).1
        have a3 : bkC ps j + ppl v ≤ totC ps := a1
        have a4 : rws v ≤ ppl v := a2
        omega
    rw [rws, if_pos rfl, hLr]
    omega
  refine ⟨?_, rw1, ?_, ?_, fun j hj => ?_, fun x hx => ?_, fun x hx => ?_, fun p hp => ?_, fun x hx he => ?_⟩
  · show L.n + totC ps = _
    rw [ppl, ← ht, hLn, Nat.add_comm]
  · show stW L (totC ps) 0 = 0
    unfold stW; rw [if_pos rfl]
  · show stW L (totC ps) (max 1 (L.r - totC ps)) = L.n + totC ps
    unfold stW; rw [if_neg (by omega), if_pos rfl]
  · have hj : j < max 1 (L.r - totC ps) := hj
    show stW L (totC ps) j < stW L (totC ps) (j + 1)
    rcases g.at_ with ⟨_, hb⟩ | ⟨_, hb, _, _⟩
    · by_cases c : j = 0
      · subst c
        rw [stW_at o hb (i := 0 + 1) (by omega) (by omega)]
        have h0 : stW L (totC ps) 0 = 0 := by unfold stW; rw [if_pos rfl]
        have := st_lt o (i := 0) (j := 0 + 1 + totC ps) (by omega) (by omega)
        rw [h0]; omega
      · rw [stW_at o hb (by omega) (by omega), stW_at o hb (by omega) (by omega)]
        have := o.up (j + totC ps) (by omega)
        rw [show j + 1 + totC ps = j + totC ps + 1 by omega]
        omega
    · have c : j = 0 := by omega
      subst c
      unfold stW
      rw [if_pos rfl, if_neg (by omega), if_pos (by omega)]; omega
  · have hx : x < L.n + totC ps := hx
    show roW L (totC ps) x < max 1 (L.r - totC ps) ∧ stW L (totC ps) (roW L (totC ps) x) ≤ x ∧ x < stW L (totC ps) (roW L (totC ps) x + 1)
    rcases g.at_ with ⟨_, hb⟩ | ⟨_, hb, _, _⟩
    · obtain ⟨a1, a2, a3⟩ := roW_at o hb hx
      exact ⟨by omega, a2, a3⟩
    · have e : roW L (totC ps) x = 0 := by unfold roW; rw [if_pos (.inl (by omega))]
      rw [e]
      refine ⟨by omega, by unfold stW; rw [if_pos rfl]; omega, ?_⟩
      unfold stW
      rw [if_neg (by omega), if_pos (by omega)]; exact hx
  · have hx : x < L.n + totC ps := hx
    show isPers _ (atW L sg i ps x) = true ∧ spW L sg i ps (atW L sg i ps x) = x
    rcases find hx with ⟨k, hk, rfl⟩ | ⟨s, hs, rfl⟩
    · rw [atO hk]
      obtain ⟨q, hq, p, e, hp, hnu, _, _⟩ := atC_ok nd hok hk
      rw [e]
      refine ⟨inO hq hp, ?_⟩
      show (if q.1 = i then _ else osW L sg (nuC ps (q.1 :: p))) = _
      rw [if_neg (neO hq), hnu]
    · rw [atP hs]
      obtain ⟨a1, a2⟩ := o.at_ s hs
      refine ⟨inU a1, ?_⟩
      show (if i = i then L.sp (L.at_ s) + min (pcW L sg (L.sp (L.at_ s))) (totC ps) else _) = _
      rw [if_pos rfl, a2]
  · show spW L sg i ps p < L.n + totC ps ∧ atW L sg i ps (spW L sg i ps p) = p
    cases p with
    | nil => have := pers_nil hp; cases this
    | cons j q =>
      obtain ⟨v, hj, hv, hq⟩ := pers_cons hp
      have hv : ts[j]? = some v := hv
      by_cases c : j = i
      · subst c
        have : some v = some u := by rw [← hu, ← hv]
        cases this
        obtain ⟨b1, b2⟩ := o.sp q hq
        have e : spW L sg j ps (j :: q) = L.sp q + min (pcW L sg (L.sp q)) (totC ps) := by
          show (if j = j then _ else _) = _
          rw [if_pos rfl]
        rw [e, atP b1, b2]
        exact ⟨by omega, rfl⟩
      · have hmem := (hm j v).mpr ⟨hv, c⟩
        obtain ⟨a1, a2, _, _⟩ := nuC_ok (q := (j, v)) nd hok hmem hq
        have e : spW L sg i ps (j :: q) = osW L sg (nuC ps (j :: q)) := by
          show (if j = i then _ else _) = _
          rw [if_neg c]
        rw [e, atO a1]
        refine ⟨?_, a2⟩
        have a1 : nuC ps (j :: q) < totC ps := a1
        have := (wv.lo (nuC ps (j :: q)) a1).2.1
        rw [osW_e]; omega
  · have hx : x + 1 < L.n + totC ps := hx
    have he : roW L (totC ps) x = roW L (totC ps) (x + 1) := he
    show knowsB _ (atW L sg i ps x) (atW L sg i ps (x + 1)) = true
    have kn1 : ∀ {k s}, k < totC ps → knowsB (.row true ts) (atC ps k) (i :: L.at_ s) = true ∧ knowsB (.row true ts) (i :: L.at_ s) (atC ps k) = true := fun {k s} hk => by
      obtain ⟨q, hq, p, e, _⟩ := atC_ok nd hok hk
      rw [e, knows_out (fun z => neO hq z.symm), knows_out (neO hq)]
      exact ⟨rfl, rfl⟩
    rcases find (show x < L.n + totC ps by omega) with ⟨k, hk, ex⟩ | ⟨s, hs, ex⟩
    · -- behind one of the others a piece begins
      obtain ⟨h1, h2, h3, h4⟩ := wv.lo k hk
      have e2 : x + 1 = eW L sg k + min (pcW L sg (eW L sg k)) (totC ps) := by
        rw [ex, osW_e, h4]; omega
      rw [e2, atP h2, ex, atO hk]
      exact (kn1 hk).1
    · rcases find hx with ⟨k, hk, ey⟩ | ⟨s2, hs2, ey⟩
      · rw [ey, atO hk, ex, atP hs]
        exact (kn1 hk).2
      · have es : s2 = s + 1 := by
          rcases Nat.lt_trichotomy s2 (s + 1) with z | z | z
          · have := wv.le (a := s2) (b := s) (by omega) hs
            omega
          · exact z
          · have := wv.le (a := s) (b := s2) (by omega) hs2
            omega
        subst es
        have hc : min (pcW L sg s) (totC ps) = min (pcW L sg (s + 1)) (totC ps) := by omega
        rw [ey, atP hs2, ex, atP hs, knows_in (show piece (.row true ts) i = some u from hu)]
        refine o.kn s hs2 ?_
        -- the row of the great part's line is one and the same
        have hmo := ro_mono o hs2
        rcases g.at_ with ⟨h0, hb⟩ | ⟨h0, hb, hpc, _⟩
        · have ep : ∀ y, pcW L sg y = L.ro y := fun y => by
            unfold pcW
            rw [h0, if_neg (by omega), ro_zero o hn hr]; omega
          rw [ep, ep] at hc
          by_cases c : L.ro s < totC ps
          · omega
          · rw [ey, ex, ep, ep, show min (L.ro s) (totC ps) = totC ps by omega, show min (L.ro (s + 1)) (totC ps) = totC ps by omega, roW_pl o hb hs (by omega), roW_pl o hb hs2 (by omega)] at he
            omega
        · -- no more pieces than others and one
          have hle : pcW L sg (s + 1) ≤ totC ps := by
            have h5 : pcW L sg (L.n - 1) = totC ps := by
              have := g.lt
              unfold pcW
              unfold pcs1 at hpc
              have h6 := (o.ro sg g.lt).1
              by_cases y : L.n - 1 < sg
              · omega
              · rw [if_neg y, ro_last o hn hr]; omega
            have := wv.le (a := s + 1) (b := L.n - 1) (by omega) (by omega)
            omega
          have h7 := wv.mono s hs2
          have h8 : pcW L sg s = pcW L sg (s + 1) := by omega
          unfold pcW at h8
          have h6 := (o.ro sg g.lt).1
          by_cases c1 : s + 1 < sg
          · rw [if_pos (by omega), if_pos c1] at h8; omega
          · rw [if_neg c1] at h8
            by_cases c2 : s < sg
            · have e : s + 1 = sg := by omega
              rw [if_pos c2, e] at h8; omega
            · rw [if_neg c2] at h8
              have h9 := ro_le o (a := sg) (b := s) (by omega) hs
              omega
end PL
namespace PL
open PySem SX TL
def stC (L : Lin) (x : Nat) : Nat := x / L.r * L.n + L.st (x % L.r)
def roC (L : Lin) (s : Nat) : Nat := s / L.n * L.r + L.ro (s % L.n)
theorem dm {a b c : Nat} (h : b < a) : (a * c + b) / a = c ∧ (a * c + b) % a = b := ⟨by rw [Nat.mul_add_div (by omega), Nat.div_eq_of_lt h, Nat.add_zero], by rw [Nat.mul_add_mod, Nat.mod_eq_of_lt h]⟩
theorem stC_at {L : Lin} {k j : Nat} (h : j < L.r) : stC L (L.r * k + j) = k * L.n + L.st j := by
  unfold stC
  rw [(dm h).1, (dm h).2]
theorem stC_all {t : T} {L : Lin} (o : OkL t L) (hr : 0 < L.r) (k : Nat) : stC L (L.r * k) = k * L.n := by
  have := stC_at (L := L) (k := k) (j := 0) hr
  rw [Nat.add_zero, o.s0, Nat.add_zero] at this
  exact this
theorem stC_up {t : T} {L : Lin} (o : OkL t L) (hr : 0 < L.r) (x : Nat) : stC L x < stC L (x + 1) := by
  have hx := Nat.div_add_mod x L.r
  have hm := Nat.mod_lt x hr
  generalize x / L.r = k at hx
  generalize x % L.r = j at hx hm
  subst hx
  have hup := o.up j hm
  rw [stC_at hm]
  by_cases h : j + 1 < L.r
  · rw [Nat.add_assoc, stC_at h]; omega
  · have hj : j + 1 = L.r := by omega
    have e : L.r * k + j + 1 = L.r * (k + 1) := by rw [Nat.mul_succ]; omega
    rw [e, stC_all o hr, Nat.succ_mul]
    rw [hj, o.sr] at hup
    omega
theorem roC_at {L : Lin} {k j : Nat} (h : j < L.n) : roC L (L.n * k + j) = k * L.r + L.ro j := by
  unfold roC
  rw [(dm h).1, (dm h).2]
theorem roC_in {t : T} {L : Lin} (o : OkL t L) (hr : 0 < L.r) (hn : 0 < L.n) (s : Nat) : stC L (roC L s) ≤ s ∧ s < stC L (roC L s + 1) := by
  have hx := Nat.div_add_mod s L.n
  have hm := Nat.mod_lt s hn
  generalize s / L.n = k at hx
  generalize s % L.n = j at hx hm
  subst hx
  obtain ⟨h1, h2, h3⟩ := o.ro j hm
  rw [roC_at hm, Nat.mul_comm k, stC_at h1, Nat.mul_comm k]
  refine ⟨by omega, ?_⟩
  by_cases h : L.ro j + 1 < L.r
  · rw [Nat.add_assoc, stC_at h, Nat.mul_comm k]; omega
  · have hj : L.ro j + 1 = L.r := by omega
    have e : L.r * k + L.ro j + 1 = L.r * (k + 1) := by rw [Nat.mul_succ]; omega
    rw [e, stC_all o hr, Nat.succ_mul, Nat.mul_comm k]
    omega
theorem roC_lt {t : T} {L : Lin} (o : OkL t L) (hn : 0 < L.n) {s m : Nat} (h : s < m * L.n) : roC L s < m * L.r := by
  have hx := Nat.div_add_mod s L.n
  have hm := Nat.mod_lt s hn
  have hk : s / L.n < m := (Nat.div_lt_iff_lt_mul hn).mpr h
  generalize s / L.n = k at hx hk
  generalize s % L.n = j at hx hm
  subst hx
  have h1 := (o.ro j hm).1
  rw [roC_at hm]
  have : (k + 1) * L.r ≤ m * L.r := Nat.mul_le_mul_right _ hk
  rw [Nat.succ_mul] at this
  omega
end PL
namespace PL
open PySem SX TL
def nB : List (Nat × Lin) → Nat
  | [] => 0
  | b :: r => b.1 * b.2.n + nB r
def rB : List (Nat × Lin) → Nat
  | [] => 0
  | b :: r => b.1 * b.2.r + rB r
def stB : List (Nat × Lin) → Nat → Nat
  | [], _ => 0
  | b :: r, x => if x < b.1 * b.2.r then stC b.2 x else b.1 * b.2.n + stB r (x - b.1 * b.2.r)
def roB : List (Nat × Lin) → Nat → Nat
  | [], _ => 0
  | b :: r, s => if s < b.1 * b.2.n then roC b.2 s else b.1 * b.2.r + roB r (s - b.1 * b.2.n)
def atB : Nat → List (Nat × Lin) → Nat → List Nat
  | _, [], _ => []
  | f, b :: r, s => if s < b.1 * b.2.n then (f + s / b.2.n) :: b.2.at_ (s % b.2.n) else atB (f + b.1) r (s - b.1 * b.2.n)
def spB : Nat → List (Nat × Lin) → Nat → List Nat → Nat
  | _, [], _, _ => 0
  | f, b :: r, i, q => if i < f + b.1 then (i - f) * b.2.n + b.2.sp q else b.1 * b.2.n + spB (f + b.1) r i q
/-- the blocks are lines of the parts from f on -/
def Bx (t : T) : Nat → List (Nat × T × Lin) → Prop
  | _, [] => True
  | f, b :: r => OkL b.2.1 b.2.2 ∧ 0 < b.2.2.n ∧ 0 < b.2.2.r ∧ (∀ i, f ≤ i → i < f + b.1 → piece t i = some b.2.1) ∧ Bx t (f + b.1) r
abbrev lns (bs : List (Nat × T × Lin)) : List (Nat × Lin) := bs.map fun b => (b.1, b.2.2)
abbrev cts (bs : List (Nat × T × Lin)) : Nat := (bs.map (·.1)).sum
structure OkB (t : T) (f : Nat) (bs : List (Nat × T × Lin)) : Prop where
  s0 : stB (lns bs) 0 = 0
  sr : stB (lns bs) (rB (lns bs)) = nB (lns bs)
  up : ∀ i, i < rB (lns bs) → stB (lns bs) i < stB (lns bs) (i + 1)
  ro : ∀ s, s < nB (lns bs) → roB (lns bs) s < rB (lns bs) ∧ stB (lns bs) (roB (lns bs) s) ≤ s ∧ s < stB (lns bs) (roB (lns bs) s + 1)
  at_ : ∀ s, s < nB (lns bs) → ∃ i q u, atB f (lns bs) s = i :: q ∧ f ≤ i ∧ i < f + cts bs ∧ piece t i = some u ∧ isPers u q = true ∧ spB f (lns bs) i q = s
  sp : ∀ i q u, f ≤ i → i < f + cts bs → piece t i = some u → isPers u q = true → spB f (lns bs) i q < nB (lns bs) ∧ atB f (lns bs) (spB f (lns bs) i q) = i :: q
  kn : ∀ s, s + 1 < nB (lns bs) → roB (lns bs) s = roB (lns bs) (s + 1) → knowsB t (atB f (lns bs) s) (atB f (lns bs) (s + 1)) = true
theorem okB {t : T} : ∀ {bs : List (Nat × T × Lin)} {f : Nat}, Bx t f bs → OkB t f bs
  | [], f, _ => ⟨rfl, rfl, fun i h => absurd h (Nat.not_lt_zero _), fun s h => absurd h (Nat.not_lt_zero _), fun s h => absurd h (Nat.not_lt_zero _), fun i q u h1 h2 => by have : i < f + 0 := h2; omega, fun s h => absurd h (Nat.not_lt_zero _)⟩
  | b :: r, f, hx => by
    obtain ⟨o, hn, hr, hpc, hx⟩ := hx
    have ih := okB hx
    obtain ⟨m, u, L⟩ := b
    have o : OkL u L := o
    have hn : 0 < L.n := hn
    have hr : 0 < L.r := hr
    have eN : nB (lns ((m, u, L) :: r)) = m * L.n + nB (lns r) := rfl
    have eR : rB (lns ((m, u, L) :: r)) = m * L.r + rB (lns r) := rfl
    have eS : ∀ x, stB (lns ((m, u, L) :: r)) x = if x < m * L.r then stC L x else m * L.n + stB (lns r) (x - m * L.r) := fun x => rfl
    have eO : ∀ s, roB (lns ((m, u, L) :: r)) s = if s < m * L.n then roC L s else m * L.r + roB (lns r) (s - m * L.n) := fun s => rfl
    have eA : ∀ s, atB f (lns ((m, u, L) :: r)) s = if s < m * L.n then (f + s / L.n) :: L.at_ (s % L.n) else atB (f + m) (lns r) (s - m * L.n) := fun s => rfl
    have eP : ∀ i q, spB f (lns ((m, u, L) :: r)) i q = if i < f + m then (i - f) * L.n + L.sp q else m * L.n + spB (f + m) (lns r) i q := fun i q => rfl
    have eC : cts ((m, u, L) :: r) = m + cts r := by show ((m :: r.map (·.1)).sum) = _; rw [List.sum_cons]
    have full : stC L (m * L.r) = m * L.n := by rw [Nat.mul_comm m, stC_all o hr]
    -- the start of a row, from both sides
    have eS2 : ∀ x, x ≤ m * L.r → stB (lns ((m, u, L) :: r)) x = stC L x := fun x hx => by
      rw [eS]
      by_cases c : x < m * L.r
      · rw [if_pos c]
      · have e : x = m * L.r := by omega
        rw [if_neg c, e, Nat.sub_self, ih.s0, full, Nat.add_zero]
    have eS3 : ∀ x, m * L.r ≤ x → stB (lns ((m, u, L) :: r)) x = m * L.n + stB (lns r) (x - m * L.r) := fun x hx => by rw [eS, if_neg (by omega)]
    have rlow : ∀ s, s < m * L.n → roC L s < m * L.r := fun s hs => roC_lt o hn hs
    refine ⟨?_, ?_, fun i hi => ?_, fun s hs => ?_, fun s hs => ?_, fun i q v h1 h2 hv hq => ?_, fun s hs he => ?_⟩
    · rw [eS2 0 (Nat.zero_le _)]
      have := stC_all o hr 0
      rw [Nat.mul_zero, Nat.zero_mul] at this
      exact this
    · rw [eR, eS3 _ (Nat.le_add_right _ _), Nat.add_sub_cancel_left, ih.sr, eN]
    · rw [eR] at hi
      by_cases c : i < m * L.r
      · rw [eS2 i (by omega), eS2 (i + 1) c]
        exact stC_up o hr i
      · rw [eS3 i (by omega), eS3 (i + 1) (by omega), show i + 1 - m * L.r = i - m * L.r + 1 by omega]
        have := ih.up (i - m * L.r) (by omega)
        omega
    · rw [eN] at hs
      rw [eO, eR]
      by_cases c : s < m * L.n
      · rw [if_pos c]
        have h1 := rlow s c
        obtain ⟨h2, h3⟩ := roC_in o hr hn s
        rw [eS2 (roC L s) (by omega), eS2 (roC L s + 1) (by omega)]
        exact ⟨by omega, h2, h3⟩
      · rw [if_neg c]
        obtain ⟨h1, h2, h3⟩ := ih.ro (s - m * L.n) (by omega)
        rw [eS3 _ (Nat.le_add_right _ _), eS3 (m * L.r + roB (lns r) (s - m * L.n) + 1) (by omega), Nat.add_sub_cancel_left, show m * L.r + roB (lns r) (s - m * L.n) + 1 - m * L.r = roB (lns r) (s - m * L.n) + 1 by omega]
        exact ⟨by omega, by omega, by omega⟩
    · rw [eN] at hs
      rw [eA, eC]
      by_cases c : s < m * L.n
      · rw [if_pos c]
        have hk : s / L.n < m := (Nat.div_lt_iff_lt_mul hn).mpr c
        obtain ⟨a1, a2⟩ := o.at_ (s % L.n) (Nat.mod_lt _ hn)
        have k1 : f + s / L.n < f + m := Nat.add_lt_add_left hk f
        refine ⟨f + s / L.n, L.at_ (s % L.n), u, rfl, Nat.le_add_right _ _, Nat.lt_of_lt_of_le k1 (by rw [← Nat.add_assoc]; exact Nat.le_add_right _ _), hpc _ (Nat.le_add_right _ _) k1, a1, ?_⟩
        rw [eP, if_pos k1, a2, Nat.add_sub_cancel_left, Nat.mul_comm]
        exact Nat.div_add_mod s L.n
      · rw [if_neg c]
        obtain ⟨i, q, v, a1, a2, a3, a4, a5, a6⟩ := ih.at_ (s - m * L.n) (by omega)
        refine ⟨i, q, v, a1, by omega, by omega, a4, a5, ?_⟩
        rw [eP, if_neg (by omega), a6]; omega
    · rw [eC] at h2
      rw [eP, eN]
      by_cases c : i < f + m
      · rw [if_pos c, eA]
        have hpi := hpc i h1 c
        rw [hpi] at hv
        obtain rfl := Option.some.inj hv
        obtain ⟨b1, b2⟩ := o.sp q hq
        have h3 : (i - f + 1) * L.n ≤ m * L.n := Nat.mul_le_mul_right _ (by omega)
        rw [Nat.succ_mul] at h3
        have h4 : (i - f) * L.n + L.sp q < m * L.n := by omega
        rw [if_pos h4, Nat.mul_comm (i - f), (dm b1).1, (dm b1).2, b2, show f + (i - f) = i by omega]
        exact ⟨by rw [Nat.mul_comm (L.n)]; omega, rfl⟩
      · rw [if_neg c, eA]
        obtain ⟨b1, b2⟩ := ih.sp i q v (by omega) (by omega) hv hq
        rw [if_neg (Nat.not_lt.mpr (Nat.le_add_right _ _)), Nat.add_sub_cancel_left, b2]
        exact ⟨Nat.add_lt_add_left b1 _, rfl⟩
    · rw [eN] at hs
      rw [eO, eO] at he
      rw [eA, eA]
      by_cases c : s + 1 < m * L.n
      · rw [if_pos (by omega), if_pos c] at he
        rw [if_pos (by omega), if_pos c]
        have hx := Nat.div_add_mod s L.n
        have hm := Nat.mod_lt s hn
        have hk : s / L.n < m := (Nat.div_lt_iff_lt_mul hn).mpr (by omega)
        generalize s / L.n = k at hx hk ⊢
        generalize s % L.n = j at hx hm ⊢
        subst hx
        by_cases d : j + 1 < L.n
        · rw [roC_at hm, Nat.add_assoc, roC_at d] at he
          rw [Nat.add_assoc, (dm d).1, (dm d).2, knows_in (hpc (f + k) (by omega) (by omega))]
          exact o.kn j d (by omega)
        · have hj : j + 1 = L.n := by omega
          have e : L.n * k + j + 1 = L.n * (k + 1) + 0 := by rw [Nat.mul_succ]; omega
          rw [roC_at hm, e, roC_at hn] at he
          have := (o.ro j hm).1
          rw [Nat.succ_mul] at he
          omega
      · by_cases d : s < m * L.n
        · rw [if_pos d, if_neg c] at he
          have := rlow s d
          omega
        · rw [if_neg d, if_neg c, show s + 1 - m * L.n = s - m * L.n + 1 by omega] at he
          rw [if_neg d, if_neg c, show s + 1 - m * L.n = s - m * L.n + 1 by omega]
          exact ih.kn (s - m * L.n) (by omega) (by omega)
end PL
namespace PL
open PySem SX TL
def besL (bs : List (Nat × T × Lin)) : Lin := ⟨nB (lns bs), rB (lns bs), stB (lns bs), roB (lns bs), atB 0 (lns bs), fun p => match p with | [] => 0 | i :: q => spB 0 (lns bs) i q⟩
abbrev kbs (lf : T → Lin) (t : T) : List (Nat × T × Lin) := (kids t).map fun q => (q.1, q.2, lf q.2)
theorem bx_row {s : Bool} {ts : List T} {lf : T → Lin} (h : ∀ u ∈ ts, OkL u (lf u) ∧ 0 < (lf u).n ∧ 0 < (lf u).r) : ∀ (l : List T) (f : Nat), (∀ k u, l[k]? = some u → ts[f + k]? = some u) → Bx (.row s ts) f (l.map fun u => (1, u, lf u))
  | [], f, _ => trivial
  | u :: l, f, hl => by
    have hu : ts[f + 0]? = some u := hl 0 u rfl
    obtain ⟨h1, h2, h3⟩ := h u (List.mem_of_getElem? hu)
    refine ⟨h1, h2, h3, fun i a b => ?_, bx_row h l (f + 1) fun k v hv => ?_⟩
    · have : i < f + 1 := b
      obtain rfl : i = f := by omega
      exact hu
    · rw [show f + 1 + k = f + (k + 1) by omega]; exact hl (k + 1) v hv
theorem ok_besL {t : T} {lf : T → Lin} (ok : Ok t) (hI : intr t = false) (h1 : isOneT t = false) (hl : ∀ u, (∃ j, piece t j = some u) → OkL u (lf u)) : OkL t (besL (kbs lf t)) := by
  have pos : ∀ {u}, (∃ j, piece t j = some u) → 0 < (lf u).n ∧ 0 < (lf u).r := fun {u} hu => by
    have o := hl u hu
    obtain ⟨j, hj⟩ := hu
    have oku := piece_Ok hj ok
    rw [o.hn, o.hr]
    exact ⟨ppl_pos oku.1, rws_pos oku.1⟩
  have hb : Bx t 0 (kbs lf t) ∧ nB (lns (kbs lf t)) = ppl t ∧ rB (lns (kbs lf t)) = rws t ∧ cts (kbs lf t) = cnt t := by
    cases t with
    | one => cases h1
    | name x => exact ok.2.1.elim
    | cop s n u =>
      obtain rfl : s = false := hI
      have o := hl u ⟨0, rfl⟩
      have p := pos (u := u) ⟨0, rfl⟩
      refine ⟨⟨o, p.1, p.2, fun i _ _ => rfl, trivial⟩, ?_, ?_, ?_⟩
      · show n * (lf u).n + 0 = _
        rw [o.hn, ppl]; rfl
      · show n * (lf u).r + 0 = _
        rw [o.hr, rws, if_neg (by simp)]; rfl
      · show n + 0 = _
        rw [cnt_cop]; rfl
    | row s ts =>
      obtain rfl : s = false := hI
      have ek : kbs lf (.row false ts) = ts.map fun u => (1, u, lf u) := by
        show (ts.map fun t => (1, t)).map _ = _
        rw [List.map_map]; rfl
      have hmem : ∀ u ∈ ts, ∃ j, piece (.row false ts) j = some u := fun u hu => by
        obtain ⟨j, hj, e⟩ := List.getElem_of_mem hu
        exact ⟨j, by show ts[j]? = _; rw [List.getElem?_eq_getElem hj, e]⟩
      rw [ek]
      refine ⟨bx_row (fun u hu => ⟨hl u (hmem u hu), pos (hmem u hu)⟩) ts 0 fun k u hu => by rw [Nat.zero_add]; exact hu, ?_, ?_, ?_⟩
      · have go : ∀ l : List T, (∀ u ∈ l, u ∈ ts) → nB (lns (l.map fun u => (1, u, lf u))) = ppls l := by
          intro l
          induction l with
          | nil => intro _; rw [ppls]; rfl
          | cons u l ih =>
            intro h
            show 1 * (lf u).n + nB (lns (l.map fun u => (1, u, lf u))) = _
            rw [ih fun v hv => h v (List.mem_cons_of_mem _ hv), (hl u (hmem u (h u List.mem_cons_self))).hn, ppls, Nat.one_mul]
        rw [go ts fun u h => h, ppl]
      · have go : ∀ l : List T, (∀ u ∈ l, u ∈ ts) → rB (lns (l.map fun u => (1, u, lf u))) = rwss l := by
          intro l
          induction l with
          | nil => intro _; rw [rwss]; rfl
          | cons u l ih =>
            intro h
            show 1 * (lf u).r + rB (lns (l.map fun u => (1, u, lf u))) = _
            rw [ih fun v hv => h v (List.mem_cons_of_mem _ hv), (hl u (hmem u (h u List.mem_cons_self))).hr, rwss, Nat.one_mul]
        rw [go ts fun u h => h, rws, if_neg (by simp)]
      · rw [cnt_row]
        show ((ts.map fun u => (1, u, lf u)).map (·.1)).sum = _
        rw [List.map_map]
        have : ∀ l : List T, (l.map ((fun b : Nat × T × Lin => b.1) ∘ fun u => (1, u, lf u))).sum = l.length := by
          intro l
          induction l with
          | nil => rfl
          | cons u l ih => rw [List.map_cons, List.sum_cons, ih, List.length_cons]; show 1 + _ = _; omega
        exact this ts
  obtain ⟨bx, e1, e2, e3⟩ := hb
  have o := okB bx
  have isone : ∀ {p}, isPers t p = true → ∃ i q, p = i :: q := fun {p} hp => by
    cases p with
    | nil => have := pers_nil hp; subst this; cases h1
    | cons i q => exact ⟨i, q, rfl⟩
  refine ⟨e1, e2, o.s0, o.sr, o.up, o.ro, fun s hs => ?_, fun p hp => ?_, o.kn⟩
  · obtain ⟨i, q, u, a1, a2, a3, a4, a5, a6⟩ := o.at_ s hs
    show isPers t (atB 0 (lns (kbs lf t)) s) = true ∧ (besL (kbs lf t)).sp (atB 0 (lns (kbs lf t)) s) = s
    rw [a1]
    exact ⟨pers_in1 (by rw [Nat.zero_add, e3] at a3; exact a3) a4 a5, a6⟩
  · obtain ⟨i, q, rfl⟩ := isone hp
    obtain ⟨u, hi, hu, hq⟩ := pers_cons hp
    exact o.sp i q u (Nat.zero_le _) (by rw [Nat.zero_add, e3]; exact hi) hu hq
end PL
namespace PL
open PySem SX TL
def idxT : Nat → List T → List (Nat × T)
  | _, [] => []
  | k, t :: r => (k, t) :: idxT (k + 1) r
theorem idxT_mem : ∀ {ts : List T} {k i : Nat} {u : T}, (i, u) ∈ idxT k ts ↔ ∃ j, i = k + j ∧ ts[j]? = some u
  | [], k, i, u => by
    constructor
    · intro h; cases h
    · rintro ⟨j, _, h⟩; simp at h
  | t :: r, k, i, u => by
    rw [idxT, List.mem_cons, idxT_mem (ts := r)]
    constructor
    · rintro (h | ⟨j, h1, h2⟩)
      · cases h; exact ⟨0, rfl, rfl⟩
      · exact ⟨j + 1, by omega, by simpa using h2⟩
    · rintro ⟨j, h1, h2⟩
      cases j with
      | zero => simp at h2; exact .inl (by rw [h1, h2]; rfl)
      | succ j => exact .inr ⟨j, by omega, by simpa using h2⟩
theorem idx0_mem {ts : List T} {i : Nat} {u : T} : (i, u) ∈ idxT 0 ts ↔ ts[i]? = some u := by
  rw [idxT_mem]
  constructor
  · rintro ⟨j, h1, h2⟩; rw [Nat.zero_add] at h1; rw [h1]; exact h2
  · intro h; exact ⟨i, (Nat.zero_add i).symm, h⟩
theorem idxT_nd : ∀ (ts : List T) (k : Nat), ((idxT k ts).map (·.1)).Nodup
  | [], k => List.nodup_nil
  | t :: r, k => by
    rw [idxT, List.map_cons]
    refine List.nodup_cons.mpr ⟨fun h => ?_, idxT_nd r (k + 1)⟩
    obtain ⟨⟨i, u⟩, h1, h2⟩ := List.mem_map.mp h
    obtain ⟨j, h3, _⟩ := idxT_mem.mp h1
    have : i = k := h2
    omega
theorem idxT_tot : ∀ (ts : List T) (k : Nat), totC (idxT k ts) = ppls ts
  | [], k => by rw [ppls]; rfl
  | t :: r, k => by rw [idxT, totC_cons, idxT_tot r, ppls]
theorem idxT_len : ∀ (ts : List T) (k : Nat), (idxT k ts).length = ts.length
  | [], k => rfl
  | t :: r, k => by rw [idxT, List.length_cons, idxT_len r, List.length_cons]
def leP (a b : Nat × T) : Bool := decide (ppl b.2 < ppl a.2) || (decide (ppl a.2 = ppl b.2) && decide (a.1 ≤ b.1))
theorem leP_iff (a b : Nat × T) : leP a b = true ↔ (ppl b.2 < ppl a.2 ∨ (ppl a.2 = ppl b.2 ∧ a.1 ≤ b.1)) := by
  unfold leP
  rw [Bool.or_eq_true, Bool.and_eq_true, decide_eq_true_eq, decide_eq_true_eq, decide_eq_true_eq]
def byP (ts : List T) : List (Nat × T) := (idxT 0 ts).mergeSort leP
theorem byP_perm (ts : List T) : (byP ts).Perm (idxT 0 ts) := List.mergeSort_perm _ _
theorem byP_mem {ts : List T} {i : Nat} {u : T} : (i, u) ∈ byP ts ↔ ts[i]? = some u := by
  rw [(byP_perm ts).mem_iff, idx0_mem]
theorem byP_nd (ts : List T) : ((byP ts).map (·.1)).Nodup := ((byP_perm ts).map _).nodup_iff.mpr (idxT_nd ts 0)
theorem tot_perm {a b : List (Nat × T)} (h : a.Perm b) : totC a = totC b := by
  unfold totC
  exact (h.map _).sum_nat
theorem byP_tot (ts : List T) : totC (byP ts) = ppls ts := by rw [tot_perm (byP_perm ts), idxT_tot]
theorem byP_len (ts : List T) : (byP ts).length = ts.length := by rw [(byP_perm ts).length_eq, idxT_len]
theorem byP_sorted (ts : List T) : (byP ts).Pairwise fun a b => leP a b = true := by
  unfold byP
  apply List.pairwise_mergeSort
  · intro a b c h1 h2
    rw [leP_iff] at *
    omega
  · intro a b
    rw [Bool.or_eq_true, leP_iff, leP_iff]
    omega
theorem byP_head {ts : List T} {x : Nat × T} {r : List (Nat × T)} (h : byP ts = x :: r) : ∀ y ∈ x :: r, ppl y.2 ≤ ppl x.2 := by
  have hs := byP_sorted ts
  rw [h] at hs
  intro y hy
  rcases List.mem_cons.mp hy with rfl | hy
  · exact Nat.le_refl _
  · have := (leP_iff _ _).mp ((List.pairwise_cons.mp hs).1 y hy)
    omega
theorem byP_ne {ts : List T} (h : ts ≠ []) : ∃ x r, byP ts = x :: r := by
  cases e : byP ts with
  | nil =>
    have := byP_len ts
    rw [e] at this
    cases ts with
    | nil => exact absurd rfl h
    | cons _ _ => simp at this
  | cons x r => exact ⟨x, r, rfl⟩
/-- the greatest part's number, the others -/
def topN (ts : List T) : Nat := match byP ts with
  | [] => 0
  | x :: _ => x.1
def topT (ts : List T) : T := match byP ts with
  | [] => .one
  | x :: _ => x.2
def othC (ts : List T) : List (Nat × T) := (idxT 0 ts).filter fun q => decide (q.1 ≠ topN ts)
theorem top_at {ts : List T} (h : ts ≠ []) : ts[topN ts]? = some (topT ts) := by
  obtain ⟨x, r, e⟩ := byP_ne h
  unfold topN topT
  rw [e]
  exact byP_mem.mp (by rw [e]; exact List.mem_cons_self)
theorem top_max {ts : List T} {v : T} (hv : v ∈ ts) : ppl v ≤ ppl (topT ts) := by
  obtain ⟨x, r, e⟩ := byP_ne (List.ne_nil_of_mem hv)
  obtain ⟨j, hj, ej⟩ := List.getElem_of_mem hv
  have hm : (j, v) ∈ byP ts := byP_mem.mpr (by rw [List.getElem?_eq_getElem hj, ej])
  rw [e] at hm
  have h := byP_head e (j, v) hm
  unfold topT
  rw [e]
  exact h
theorem oth_mem {ts : List T} {j : Nat} {v : T} : (j, v) ∈ othC ts ↔ (ts[j]? = some v ∧ j ≠ topN ts) := by
  unfold othC
  rw [List.mem_filter, idx0_mem, decide_eq_true_eq]
theorem oth_nd (ts : List T) : ((othC ts).map (·.1)).Nodup := by
  unfold othC
  exact List.Nodup.sublist (List.Sublist.map _ List.filter_sublist) (idxT_nd ts 0)
theorem tot_filter {i : Nat} {u : T} : ∀ {l : List (Nat × T)}, (l.map (·.1)).Nodup → (i, u) ∈ l → totC (l.filter fun q => decide (q.1 ≠ i)) + ppl u = totC l
  | x :: r, nd, h => by
    have nd2 := List.nodup_cons.mp (show (x.1 :: r.map (·.1)).Nodup from nd)
    rw [List.filter_cons, totC_cons]
    rcases List.mem_cons.mp h with e | h
    · subst e
      rw [if_neg (by simp)]
      have e2 : (r.filter fun q => decide (q.1 ≠ i)) = r := by
        refine List.filter_eq_self.mpr fun y hy => decide_eq_true fun e => nd2.1 ?_
        show i ∈ _
        rw [← e]; exact List.mem_map_of_mem hy
      rw [e2]
      show totC r + ppl u = ppl u + totC r
      omega
    · have hne : x.1 ≠ i := fun e => nd2.1 (by rw [e]; exact List.mem_map_of_mem (f := fun q : Nat × T => q.1) h)
      rw [if_pos (decide_eq_true hne), totC_cons]
      have := tot_filter nd2.2 h
      omega
theorem oth_tot {ts : List T} (h : ts ≠ []) : totC (othC ts) + ppl (topT ts) = ppls ts := by
  have := tot_filter (idxT_nd ts 0) (idx0_mem.mpr (top_at h))
  rw [idxT_tot] at this
  exact this
mutual
def linM : T → Lin
  | .one => oneL
  | .name _ => oneL
  | .cop s n u => if s = true then copL n u else besL [(n, u, linM u)]
  | .row s ts => if s = true then (if ppl (topT ts) ≤ totC (othC ts) + 1 then halL (byP ts) else wovL (((linMs ts)[topN ts]?.map fun b => b.2.2).getD oneL) (topN ts) (othC ts) (sgW (((linMs ts)[topN ts]?.map fun b => b.2.2).getD oneL) (totC (othC ts) + 1))) else besL (linMs ts)
def linMs : List T → List (Nat × T × Lin)
  | [] => []
  | t :: ts => (1, t, linM t) :: linMs ts
end
theorem linMs_map : ∀ ts : List T, linMs ts = ts.map fun u => (1, u, linM u)
  | [] => by rw [linMs]; rfl
  | t :: ts => by rw [linMs, linMs_map ts]; rfl
/-- the line of the greatest part -/
theorem linMs_top {ts : List T} (h : ts ≠ []) : ((linMs ts)[topN ts]?.map fun b => b.2.2).getD oneL = linM (topT ts) := by
  rw [linMs_map, List.getElem?_map, top_at h]; rfl
theorem linM_bes {t : T} (ht : Told t) (hI : intr t = false) (h1 : isOneT t = false) : linM t = besL (kbs linM t) := by
  cases t with
  | one => cases h1
  | name x => exact ht.elim
  | cop s n u =>
    obtain rfl : s = false := hI
    rw [linM, if_neg (by simp)]; rfl
  | row s ts =>
    obtain rfl : s = false := hI
    rw [linM, if_neg (by simp), linMs_map]
    show _ = besL ((ts.map fun t => (1, t)).map _)
    rw [List.map_map]; rfl
theorem linM_hal {ts : List T} (h : ppl (topT ts) ≤ totC (othC ts) + 1) : linM (.row true ts) = halL (byP ts) := by
  rw [linM, if_pos rfl, if_pos h]
theorem linM_wov {ts : List T} (h0 : ts ≠ []) (h : ¬ ppl (topT ts) ≤ totC (othC ts) + 1) : linM (.row true ts) = wovL (linM (topT ts)) (topN ts) (othC ts) (sgW (linM (topT ts)) (totC (othC ts) + 1)) := by
  rw [linM, if_pos rfl, if_neg h, linMs_top h0]
theorem linM_ok : ∀ (h : Nat) {t : T}, ht t ≤ h → Ok t → OkL t (linM t) := by
  intro h
  induction h with
  | zero =>
    intro t hh ok
    cases t with
    | one => rw [linM]; exact ok_oneL
    | name x => exact ok.2.1.elim
    | cop s n u => rw [ht] at hh; omega
    | row s ts => rw [ht] at hh; omega
  | succ h ih =>
    intro t hh ok
    have sub : ∀ {u}, (∃ j, piece t j = some u) → OkL u (linM u) := fun {u} ⟨j, hj⟩ => ih (by have := piece_ht hj; omega) (piece_Ok hj ok)
    by_cases h1 : isOneT t = true
    · cases t with
      | one => rw [linM]; exact ok_oneL
      | _ => cases h1
    have h1 : isOneT t = false := by simpa using h1
    by_cases hI : intr t = true
    · cases t with
      | one => cases h1
      | name x => exact ok.2.1.elim
      | cop s n u =>
        obtain rfl : s = true := hI
        rw [linM, if_pos rfl]
        exact ok_copL ok
      | row s ts =>
        obtain rfl : s = true := hI
        have h0 : ts ≠ [] := fun e => by have := ok.1.1; rw [e] at this; simp at this
        have hu := top_at h0
        have ht := oth_tot h0
        by_cases c : ppl (topT ts) ≤ totC (othC ts) + 1
        · rw [linM_hal c]
          obtain ⟨x, r, e⟩ := byP_ne h0
          have ex : topT ts = x.2 := by unfold topT; rw [e]
          rw [e]
          have hmax := byP_head e
          have htot := byP_tot ts
          rw [e] at htot
          have nd := byP_nd ts
          rw [e] at nd
          refine ok_halL ok nd (fun i u => by rw [← e]; exact byP_mem) htot hmax (by rw [← ex]; omega) ?_
          have hr1 : exs ts ≤ 2 * ppl (topT ts) := exs_leB fun v hv => by
            have a1 := top_max hv
            obtain ⟨j, hj, ej⟩ := List.getElem_of_mem hv
            have okv : Ok v := piece_Ok (t := .row true ts) (i := j) (by show ts[j]? = _; rw [List.getElem?_eq_getElem hj, ej]) ok
            have := rws_le okv.1
            omega
          rw [rws, if_pos rfl]
          omega
        · rw [linM_wov h0 c]
          exact ok_wovL ok hu (sub ⟨topN ts, hu⟩) (oth_nd ts) (fun j v => oth_mem) ht (by omega)
    · have hI : intr t = false := by simpa using hI
      rw [linM_bes ok.2.1 hI h1]
      exact ok_besL ok hI h1 fun u hu => sub hu
end PL
namespace PL
open PySem SX TL
/-- pieces by spots; behind piece k, ahead of the spot e k, sits one of the others -/
structure Wr (N no : Nat) (pc e : Nat → Nat) : Prop where
  mono : ∀ s, s + 1 < N → pc s ≤ pc (s + 1)
  lo : ∀ k, k < no → 1 ≤ e k ∧ e k ≤ N ∧ pc (e k - 1) = k ∧ (e k < N → pc (e k) = k + 1)
section
variable {N no : Nat} {pc e : Nat → Nat}
theorem Wr.le (w : Wr N no pc e) : ∀ {a b : Nat}, a ≤ b → b < N → pc a ≤ pc b
  | a, 0, h, _ => by
    have z : a = 0 := by omega
    rw [z]; exact Nat.le_refl _
  | a, b + 1, h, hb => by
    by_cases z : a = b + 1
    · rw [z]; exact Nat.le_refl _
    · exact Nat.le_trans (w.le (a := a) (b := b) (by omega) (by omega)) (w.mono b hb)
theorem Wr.lt (w : Wr N no pc e) {k s : Nat} (hk : k < no) (hs : s < N) : pc s ≤ k ↔ s < e k := by
  obtain ⟨h1, h2, h3, h4⟩ := w.lo k hk
  constructor
  · intro h
    rcases Nat.lt_or_ge s (e k) with z | z
    · exact z
    · have h5 := h4 (by omega)
      have := w.le z hs; omega
  · intro h
    have := w.le (a := s) (b := e k - 1) (by omega) (by omega)
    omega
theorem Wr.up (w : Wr N no pc e) {j k : Nat} (h : j < k) (hk : k < no) : e j < e k := by
  obtain ⟨h1, h2, h3, h4⟩ := w.lo j (by omega)
  obtain ⟨g1, g2, g3, g4⟩ := w.lo k hk
  have := (w.lt (k := j) (s := e k - 1) (by omega) (by omega))
  omega
theorem Wr.ah_os (w : Wr N no pc e) {k : Nat} (hk : k < no) : ahV e no (e k + k) = k := by
  refine fstU_uniq (by omega) (fun i hi => decide_eq_false ?_) fun _ => decide_eq_true (Nat.le_refl _)
  have := w.up hi hk
  omega
theorem Wr.ah_pl (w : Wr N no pc e) {s : Nat} (hs : s < N) : ahV e no (s + min (pc s) no) = min (pc s) no ∧ (min (pc s) no < no → e (min (pc s) no) + min (pc s) no ≠ s + min (pc s) no) := by
  have key : min (pc s) no < no → s < e (min (pc s) no) := fun h => (w.lt h hs).mp (by omega)
  refine ⟨fstU_uniq (by omega) (fun i hi => decide_eq_false ?_) fun h => decide_eq_true (by have := key h; omega), fun h => by have := key h; omega⟩
  have h2 : ¬ s < e i := fun z => by
    have := (w.lt (k := i) (by omega) hs).mpr z
    omega
  omega
theorem Wr.find (w : Wr N no pc e) {x : Nat} (hx : x < N + no) : (∃ k, k < no ∧ x = e k + k) ∨ ∃ s, s < N ∧ x = s + min (pc s) no := by
  obtain ⟨a1, a2, a3⟩ := fstU_ok (fun k => decide (x ≤ e k + k)) no
  generalize fstU (fun k => decide (x ≤ e k + k)) no = a at a1 a2 a3
  by_cases c : a < no ∧ x = e a + a
  · exact .inl ⟨a, c.1, c.2⟩
  · right
    have lo : 0 < a → e (a - 1) + a ≤ x := fun h => by
      have := of_decide_eq_false (a2 (a - 1) (by omega))
      omega
    have hi : a < no → x < e a + a := fun h => by
      have := of_decide_eq_true (a3 h)
      rcases Nat.lt_or_ge x (e a + a) with z | z
      · exact z
      · exact absurd ⟨h, by omega⟩ c
    have ha : a ≤ x := by
      by_cases z : a = 0
      · omega
      · have := lo (by omega); omega
    have hs : x - a < N := by
      by_cases z : a < no
      · have h1 := (w.lo a z).2.1
        have := hi z
        omega
      · omega
    refine ⟨x - a, hs, ?_⟩
    have h1 : a ≤ pc (x - a) := by
      by_cases z : a = 0
      · omega
      · rcases Nat.lt_or_ge (pc (x - a)) a with y | y
        · have := (w.lt (k := a - 1) (by omega) hs).mp (by omega)
          have := lo (by omega)
          omega
        · exact y
    have h2 : a < no → pc (x - a) ≤ a := fun z => (w.lt z hs).mpr (by have := hi z; omega)
    have h3 : min (pc (x - a)) no = a := by
      by_cases z : a < no
      · have := h2 z; omega
      · omega
    omega
end
/-- the line of the greatest part, cut to as many pieces as there are others -/
structure Sr (L : Lin) (no sg : Nat) : Prop where
  lt : sg < L.n
  eq : pcs1 L sg = no
theorem Sr.sl {t : T} {L : Lin} {no sg : Nat} (o : OkL t L) (g : Sr L no sg) : sg < no := by
  have h := g.eq
  have := (o.ro sg g.lt).1
  unfold pcs1 at h
  omega
end PL
namespace PL
open PySem SX TL
def pzL (m : Nat) : List T → Nat
  | [] => 0
  | t :: ts => if ppl t - hal t = m then 0 else pzL m ts + 1
/-- the part that passes while all others are there -/
def pz : T → Nat
  | .cop _ n _ => n - 1
  | .row _ ts => pzL (hdf ts) ts
  | _ => 0
def puT (t : T) : T := (piece t (pz t)).getD .one
theorem hdf_mem : ∀ {ts : List T} {u : T}, u ∈ ts → ppl u - hal u ≤ hdf ts
  | t :: ts, u, h => by
    rw [hdf]
    rcases List.mem_cons.mp h with rfl | h
    · exact Nat.le_max_left _ _
    · exact Nat.le_trans (hdf_mem h) (Nat.le_max_right _ _)
theorem hdf_ex : ∀ {ts : List T}, ts ≠ [] → ∃ u ∈ ts, ppl u - hal u = hdf ts
  | [t], _ => ⟨t, List.mem_cons_self, by rw [hdf, hdf]; omega⟩
  | t :: u :: ts, _ => by
    obtain ⟨v, h1, h2⟩ := hdf_ex (ts := u :: ts) (by simp)
    rw [hdf]
    by_cases h : ppl t - hal t ≤ hdf (u :: ts)
    · exact ⟨v, List.mem_cons_of_mem _ h1, by omega⟩
    · exact ⟨t, List.mem_cons_self, by omega⟩
theorem pzL_at {m : Nat} : ∀ {ts : List T}, (∃ u ∈ ts, ppl u - hal u = m) → ∃ u, ts[pzL m ts]? = some u ∧ ppl u - hal u = m ∧ ∀ k v, k < pzL m ts → ts[k]? = some v → ppl v - hal v ≠ m
  | [], h => by obtain ⟨u, h, _⟩ := h; cases h
  | t :: ts, h => by
    rw [pzL]
    by_cases e : ppl t - hal t = m
    · rw [if_pos e]
      exact ⟨t, rfl, e, fun k v hk => by omega⟩
    · rw [if_neg e]
      obtain ⟨u, h1, h2⟩ := h
      have h3 : u ∈ ts := by
        rcases List.mem_cons.mp h1 with rfl | h1
        · exact absurd h2 e
        · exact h1
      obtain ⟨v, a1, a2, a3⟩ := pzL_at ⟨u, h3, h2⟩
      refine ⟨v, a1, a2, fun k w hk hw => ?_⟩
      cases k with
      | zero => rw [← Option.some.inj hw]; exact e
      | succ k => exact a3 k w (by omega) hw
theorem pz_ok {t : T} (hI : intr t = true) (g : Good t) : ∃ u, pz t < cnt t ∧ piece t (pz t) = some u ∧ hal t + ppl u = ppl t + hal u ∧ ∀ j v, piece t j = some v → hal t + ppl v ≤ ppl t + hal v := by
  cases t with
  | one => cases hI
  | name x => cases hI
  | cop s n u =>
    have hs : s = true := hI
    have hn := g.1
    have h3 : 1 * ppl u ≤ n * ppl u := Nat.mul_le_mul_right _ (by omega)
    refine ⟨u, by rw [cnt_cop]; show n - 1 < n; omega, rfl, ?_, fun j v hv => ?_⟩
    · rw [hal, if_pos hs, ppl]; omega
    · obtain rfl : u = v := Option.some.inj hv
      rw [hal, if_pos hs, ppl]; omega
  | row s ts =>
    have hs : s = true := hI
    have hne : ts ≠ [] := fun e => by have := g.1; rw [e] at this; simp at this
    obtain ⟨u, h1, h2, _⟩ := pzL_at (hdf_ex hne)
    have hlt := (List.getElem?_eq_some_iff.mp h1).1
    have hd := (hals_ok g.2).1 (by have := g.1; omega)
    have hle : ∀ {v}, v ∈ ts → hal v ≤ ppl v := fun {v} hv => (hal_ok (goods_all.mp g.2 v hv)).2
    refine ⟨u, by rw [cnt_row]; exact hlt, h1, ?_, fun j v hv => ?_⟩
    · have := hle (List.mem_of_getElem? h1)
      rw [hal, if_pos hs, ppl]; omega
    · have hm := List.mem_of_getElem? (show ts[j]? = some v from hv)
      have h5 := hdf_mem hm
      have := hle hm
      rw [hal, if_pos hs, ppl]; omega
theorem puT_eq {t u : T} (h : piece t (pz t) = some u) : puT t = u := by unfold puT; rw [h]; rfl
theorem ahead_le {t u : T} {i : Nat} (ok : Ok t) (hi : i < cnt t) (hp : piece t i = some u) : ahead t i + ppl u ≤ ppl t := by
  obtain ⟨A, B, h1, h2, _, _⟩ := pers_split ok hi hp
  have h3 := congrArg List.length h1
  rw [List.length_append, List.length_append, List.length_map, persL_len ok.2.1, persL_len (piece_told hp ok)] at h3
  omega
/-- numbers of the others -/
def nmO (t : T) (p : List Nat) : Nat := if num t p < ahead t (pz t) then num t p else num t p - ppl (puT t)
theorem nmO_zone {t u v : T} {i : Nat} {p : List Nat} (ok : Ok t) (hi : i < cnt t) (hp : piece t i = some u) (hu : isPers u p = true) (hz : pz t < cnt t) (hpz : piece t (pz t) = some v) (hn : i ≠ pz t) :
    (i < pz t ∧ num t (i :: p) < ahead t (pz t) ∧ nmO t (i :: p) = num t (i :: p)) ∨ (pz t < i ∧ ahead t (pz t) + ppl v ≤ num t (i :: p) ∧ nmO t (i :: p) + ppl v = num t (i :: p)) := by
  have h1 := num_cons hp p
  have h2 := num_lt (piece_Ok hp ok) hu
  unfold nmO
  rw [puT_eq hpz]
  rcases Nat.lt_or_gt_of_ne hn with h | h
  · have := ahead_lt h hp hpz
    have hl : num t (i :: p) < ahead t (pz t) := by omega
    exact .inl ⟨h, hl, by rw [if_pos hl]⟩
  · have := ahead_lt h hpz hp
    have hl : ¬ num t (i :: p) < ahead t (pz t) := by omega
    exact .inr ⟨h, by omega, by rw [if_neg hl]; omega⟩
theorem nmO_lt {t u v : T} {i : Nat} {p : List Nat} (ok : Ok t) (hi : i < cnt t) (hp : piece t i = some u) (hu : isPers u p = true) (hz : pz t < cnt t) (hpz : piece t (pz t) = some v) (hn : i ≠ pz t) : nmO t (i :: p) + ppl v < ppl t := by
  have h1 := num_lt ok (pers_mk hi hp hu)
  have h2 := ahead_le ok hz hpz
  rcases nmO_zone ok hi hp hu hz hpz hn with h | h <;> omega
theorem num_inj {t : T} {p q : List Nat} (ok : Ok t) (hp : isPers t p = true) (hq : isPers t q = true) (h : num t p = num t q) : p = q := by
  have h1 := pers_num ok hp
  rw [h, pers_num ok hq] at h1
  exact (Option.some.inj h1).symm
/-- the moment at which somebody comes, or leaves -/
def mom : T → List Nat → Bool → Nat
  | _, [], w => if w = true then 0 else 1
  | t, i :: p, w => match piece t i with
    | none => 0
    | some u => if intr t = true then (if i = pz t then (ppl t - ppl u) + mom u p w else (if w = true then 0 else ppl t + ppl (puT t)) + nmO t (i :: p)) else 2 * ahead t i + mom u p w
theorem mom_bes {t u : T} {i : Nat} {p : List Nat} {w : Bool} (hI : intr t = false) (hp : piece t i = some u) : mom t (i :: p) w = 2 * ahead t i + mom u p w := by rw [mom, hp]; simp [hI]
theorem mom_pz {t u : T} {p : List Nat} {w : Bool} (hI : intr t = true) (hp : piece t (pz t) = some u) : mom t (pz t :: p) w = (ppl t - ppl u) + mom u p w := by rw [mom, hp]; simp [hI]
theorem mom_oth {t u v : T} {i : Nat} {p : List Nat} {w : Bool} (hI : intr t = true) (hp : piece t i = some u) (hn : i ≠ pz t) (hz : piece t (pz t) = some v) : mom t (i :: p) w = (if w = true then 0 else ppl t + ppl v) + nmO t (i :: p) := by rw [mom, hp, puT_eq hz]; simp [hI, hn]
theorem mom_lt : ∀ {p : List Nat} {t : T}, Ok t → isPers t p = true → mom t p true < mom t p false ∧ mom t p false < 2 * ppl t
  | [], t, ok, h => by
    rw [pers_nil h, mom, mom, ppl]; simp
  | i :: p, t, ok, h => by
    obtain ⟨u, hi, hp, hu⟩ := pers_cons h
    have oku := piece_Ok hp ok
    obtain ⟨h1, h2⟩ := mom_lt oku hu
    have h3 := (piece_le' hp ok.1).1
    cases hI : intr t with
    | false =>
      have := ahead_le ok hi hp
      rw [mom_bes hI hp, mom_bes hI hp]; omega
    | true =>
      obtain ⟨v, z1, z2, _⟩ := pz_ok hI ok.1
      by_cases hn : i = pz t
      · subst hn
        rw [mom_pz hI hp, mom_pz hI hp]; omega
      · have := nmO_lt ok hi hp hu z1 z2 hn
        rw [mom_oth hI hp hn z2, mom_oth hI hp hn z2]
        simp
        omega
theorem mom_lt' {p : List Nat} {t : T} (ok : Ok t) (h : isPers t p = true) (w : Bool) : mom t p w < 2 * ppl t := by
  have := mom_lt ok h
  cases w <;> omega
theorem mom_inj : ∀ {p q : List Nat} {t : T} {w w' : Bool}, Ok t → isPers t p = true → isPers t q = true → mom t p w = mom t q w' → p = q ∧ w = w'
  | [], q, t, w, w', ok, hp, hq, h => by
    obtain rfl := pers_nil hp
    obtain rfl := pers_one hq
    refine ⟨rfl, ?_⟩
    rw [mom, mom] at h
    cases w <;> cases w' <;> simp at h <;> rfl
  | i :: p, q, t, w, w', ok, hp, hq, h => by
    obtain ⟨u, hi, hpu, hu⟩ := pers_cons hp
    cases q with
    | nil => obtain rfl := pers_nil hq; simp [cnt, kids] at hi
    | cons j q =>
    obtain ⟨v, hj, hqv, hv⟩ := pers_cons hq
    have oku := piece_Ok hpu ok
    have okv := piece_Ok hqv ok
    have lu := mom_lt' oku hu w
    have lv := mom_lt' okv hv w'
    cases hI : intr t with
    | false =>
      rw [mom_bes hI hpu, mom_bes hI hqv] at h
      rcases Nat.lt_trichotomy i j with z | z | z
      · have := ahead_lt z hpu hqv; omega
      · subst z
        rw [hpu] at hqv
        obtain rfl := Option.some.inj hqv
        obtain ⟨h1, h2⟩ := mom_inj oku hu hv (by omega : mom u p w = mom u q w')
        exact ⟨by rw [h1], h2⟩
      · have := ahead_lt z hqv hpu; omega
    | true =>
      obtain ⟨z, z1, z2, _⟩ := pz_ok hI ok.1
      have hle := (piece_le' z2 ok.1).1
      by_cases hn : i = pz t
      · by_cases hm : j = pz t
        · subst hn
          obtain rfl : pz t = j := hm.symm
          rw [hpu] at hqv
          obtain rfl := Option.some.inj hqv
          rw [mom_pz hI hpu, mom_pz hI hpu] at h
          obtain ⟨h1, h2⟩ := mom_inj oku hu hv (by omega : mom u p w = mom u q w')
          exact ⟨by rw [h1], h2⟩
        · subst hn
          rw [hpu] at z2
          obtain rfl := Option.some.inj z2
          have := nmO_lt ok hj hqv hv hi hpu hm
          rw [mom_pz hI hpu, mom_oth hI hqv hm hpu] at h
          cases w' <;> simp at h <;> omega
      · by_cases hm : j = pz t
        · subst hm
          rw [hqv] at z2
          obtain rfl := Option.some.inj z2
          have := nmO_lt ok hi hpu hu hj hqv hn
          rw [mom_pz hI hqv, mom_oth hI hpu hn hqv] at h
          cases w <;> simp at h <;> omega
        · have a1 := nmO_lt ok hi hpu hu z1 z2 hn
          have a2 := nmO_lt ok hj hqv hv z1 z2 hm
          rw [mom_oth hI hpu hn z2, mom_oth hI hqv hm z2] at h
          have hw : w = w' := by cases w <;> cases w' <;> simp at h <;> first | rfl | omega
          subst hw
          have h2 : nmO t (i :: p) = nmO t (j :: q) := by omega
          refine ⟨num_inj ok hp hq ?_, rfl⟩
          rcases nmO_zone ok hi hpu hu z1 z2 hn with b | b <;> rcases nmO_zone ok hj hqv hv z1 z2 hm with c | c <;> omega
theorem mom_meet : ∀ {p q : List Nat} {t : T}, Ok t → isPers t p = true → isPers t q = true → knowsB t p q = true → mom t p true < mom t q false
  | [], q, t, ok, hp, hq, hk => by
    cases q with
    | nil => rw [knows_self] at hk; cases hk
    | cons j q => simp [knowsB] at hk
  | i :: p, q, t, ok, hp, hq, hk => by
    obtain ⟨u, hi, hpu, hu⟩ := pers_cons hp
    cases q with
    | nil => simp [knowsB] at hk
    | cons j q =>
    obtain ⟨v, hj, hqv, hv⟩ := pers_cons hq
    have oku := piece_Ok hpu ok
    have okv := piece_Ok hqv ok
    have lu := mom_lt' oku hu true
    have lv := mom_lt' okv hv false
    cases hI : intr t with
    | false =>
      by_cases hij : i = j
      · subst hij
        rw [hpu] at hqv
        obtain rfl := Option.some.inj hqv
        rw [knows_in hpu] at hk
        have := mom_meet oku hu hv hk
        rw [mom_bes hI hpu, mom_bes hI hpu]; omega
      · rw [knows_out (fun e => hij e.symm), hI] at hk; cases hk
    | true =>
      obtain ⟨z, z1, z2, _⟩ := pz_ok hI ok.1
      have hle := (piece_le' z2 ok.1).1
      by_cases hn : i = pz t
      · by_cases hm : j = pz t
        · subst hn
          obtain rfl : pz t = j := hm.symm
          rw [hpu] at hqv
          obtain rfl := Option.some.inj hqv
          rw [knows_in hpu] at hk
          have := mom_meet oku hu hv hk
          rw [mom_pz hI hpu, mom_pz hI hpu]; omega
        · subst hn
          rw [hpu] at z2
          obtain rfl := Option.some.inj z2
          rw [mom_pz hI hpu, mom_oth hI hqv hm hpu]
          simp; omega
      · have a1 := nmO_lt ok hi hpu hu z1 z2 hn
        rw [mom_oth hI hpu hn z2]
        by_cases hm : j = pz t
        · subst hm
          rw [hqv] at z2
          obtain rfl := Option.some.inj z2
          rw [mom_pz hI hqv]
          simp; omega
        · rw [mom_oth hI hqv hm z2]
          simp; omega
def isIn (t : T) (m : Nat) (p : List Nat) : Bool := decide (mom t p true ≤ m) && decide (m < mom t p false)
def thr (t : T) (m : Nat) : Nat := (persL t).countP (isIn t m)
theorem cnt_zero {l : List (List Nat)} {f : List Nat → Bool} (h : ∀ x ∈ l, f x = false) : l.countP f = 0 := by
  rw [List.countP_eq_zero]
  intro x hx
  rw [h x hx]; simp
theorem cnt_eq {l : List (List Nat)} {f g : List Nat → Bool} (h : ∀ x ∈ l, f x = g x) : l.countP f = l.countP g := List.countP_congr fun x hx => by rw [h x hx]
theorem pers_of {t : T} {x : List Nat} (h : x ∈ persL t) : isPers t x = true := pers_is _ (Nat.le_refl _) h
theorem thr_bes {t u : T} {i m : Nat} (ok : Ok t) (hI : intr t = false) (hi : i < cnt t) (hp : piece t i = some u) (h1 : 2 * ahead t i ≤ m) (h2 : m < 2 * (ahead t i + ppl u)) : thr t m = thr u (m - 2 * ahead t i) := by
  obtain ⟨A, B, e, _, hA, hB⟩ := pers_split ok hi hp
  have out : ∀ {x j q}, x ∈ persL t → x = j :: q → j ≠ i → isIn t m x = false := fun {x j q} hx ex hj => by
    subst ex
    obtain ⟨v, hj1, hv, hv2⟩ := pers_cons (pers_of hx)
    have l1 := mom_lt' (piece_Ok hv ok) hv2 false
    unfold isIn
    rw [mom_bes hI hv, mom_bes hI hv]
    rcases Nat.lt_or_gt_of_ne hj with z | z
    · have := ahead_lt z hv hp
      rw [decide_eq_false (show ¬ m < 2 * ahead t j + mom v q false by omega), Bool.and_false]
    · have := ahead_lt z hp hv
      rw [decide_eq_false (show ¬ 2 * ahead t j + mom v q true ≤ m by omega), Bool.false_and]
  unfold thr
  rw [e, List.countP_append, List.countP_append, cnt_zero (l := A) fun x hx => ?_, cnt_zero (l := B) fun x hx => ?_, Nat.zero_add, Nat.add_zero]
  · rw [cnt_map (g := isIn u (m - 2 * ahead t i))]
    intro q
    unfold isIn
    rw [mom_bes hI hp, mom_bes hI hp]
    congr 1 <;> rw [decide_eq_decide] <;> omega
  · obtain ⟨j, q, ex, hj⟩ := hB x hx
    exact out (by rw [e]; exact List.mem_append_right _ (List.mem_append_right _ hx)) ex hj
  · obtain ⟨j, q, ex, hj⟩ := hA x hx
    exact out (by rw [e]; exact List.mem_append_left _ hx) ex hj
theorem cr_le (m : Nat) : ∀ n, (List.range n).countP (fun k => decide (k ≤ m)) = min (m + 1) n
  | 0 => by simp
  | n + 1 => by
    rw [List.range_succ, List.countP_append, cr_le m n, List.countP_cons, List.countP_nil]
    by_cases h : n ≤ m <;> simp [h] <;> omega
theorem cr_gt (m : Nat) : ∀ n, (List.range n).countP (fun k => decide (m < k)) = n - (m + 1)
  | 0 => by simp
  | n + 1 => by
    rw [List.range_succ, List.countP_append, cr_gt m n, List.countP_cons, List.countP_nil]
    by_cases h : m < n <;> simp [h] <;> omega
theorem cnt_range {l : List (List Nat)} {f : List Nat → Nat} (g : Nat → Bool) (h : ∀ (k : Nat) (x : List Nat), l[k]? = some x → f x = k) : l.countP (fun x => g (f x)) = (List.range l.length).countP g := by
  have e : l.map f = List.range l.length := by
    refine List.ext_getElem? fun k => ?_
    rw [List.getElem?_map]
    by_cases hk : k < l.length
    · rw [List.getElem?_eq_getElem hk, List.getElem?_range hk]
      show some (f l[k]) = some k
      rw [h k _ (List.getElem?_eq_getElem hk)]
    · rw [List.getElem?_eq_none (by omega), List.getElem?_eq_none (by rw [List.length_range]; omega)]; rfl
  rw [← e, List.countP_map]; rfl
/-- the counts where all are introduced -/
theorem thr_int {t u : T} {m : Nat} (ok : Ok t) (hI : intr t = true) (hz : pz t < cnt t) (hp : piece t (pz t) = some u) :
    (m < ppl t - ppl u → thr t m = m + 1) ∧ (ppl t - ppl u ≤ m → m < ppl t + ppl u → thr t m = (ppl t - ppl u) + thr u (m - (ppl t - ppl u))) ∧ (ppl t + ppl u ≤ m → thr t m = (ppl t - ppl u) - (m - (ppl t + ppl u) + 1)) := by
  obtain ⟨A, B, e, hAl, hA, hB⟩ := pers_split ok hz hp
  have hle := (piece_le' hp ok.1).1
  have hlen : A.length + B.length = ppl t - ppl u := by
    have h3 := congrArg List.length e
    rw [List.length_append, List.length_append, List.length_map, persL_len ok.2.1, persL_len (piece_told hp ok)] at h3
    omega
  have hub := persL_len (piece_told hp ok)
  have hix : ∀ (k : Nat) (x : List Nat), (A ++ B)[k]? = some x → nmO t x = k := fun k x hx => by
    unfold nmO
    rw [puT_eq hp]
    by_cases hk : k < A.length
    · rw [List.getElem?_append_left hk] at hx
      have : (persL t)[k]? = some x := by rw [e, List.getElem?_append_left hk]; exact hx
      rw [num_of ok this, if_pos (by omega)]
    · rw [List.getElem?_append_right (by omega)] at hx
      have : (persL t)[k + ppl u]? = some x := by
        rw [e, List.getElem?_append_right (by omega), List.getElem?_append_right (by rw [List.length_map]; omega), List.length_map, hub, show k + ppl u - A.length - ppl u = k - A.length by omega]
        exact hx
      rw [num_of ok this, if_neg (by omega)]; omega
  have hmo : ∀ x ∈ A ++ B, ∀ w, mom t x w = (if w = true then 0 else ppl t + ppl u) + nmO t x := fun x hx w => by
    have hm : x ∈ persL t := by
      rw [e]
      rcases List.mem_append.mp hx with hx | hx
      · exact List.mem_append_left _ hx
      · exact List.mem_append_right _ (List.mem_append_right _ hx)
    obtain ⟨j, q, rfl, hj⟩ : ∃ j q, x = j :: q ∧ j ≠ pz t := by
      rcases List.mem_append.mp hx with hx | hx
      · exact hA x hx
      · exact hB x hx
    obtain ⟨v, hj1, hv, _⟩ := pers_cons (pers_of hm)
    exact mom_oth hI hv hj hp
  have hsum : thr t m = (A ++ B).countP (isIn t m) + (persL u).countP (fun q => isIn t m (pz t :: q)) := by
    unfold thr
    rw [e, List.countP_append, List.countP_append, List.countP_append, cnt_map (g := fun q => isIn t m (pz t :: q)) (fun q => rfl)]
    omega
  have hin : ∀ q, isIn t m (pz t :: q) = (decide ((ppl t - ppl u) + mom u q true ≤ m) && decide (m < (ppl t - ppl u) + mom u q false)) := fun q => by
    unfold isIn
    rw [mom_pz hI hp, mom_pz hI hp]
  have hot : ∀ x ∈ A ++ B, isIn t m x = (decide (nmO t x ≤ m) && decide (m < ppl t + ppl u + nmO t x)) := fun x hx => by
    unfold isIn
    rw [hmo x hx, hmo x hx]; simp
  refine ⟨fun h => ?_, fun h1 h2 => ?_, fun h => ?_⟩
  · rw [hsum, cnt_zero (l := persL u) fun q hq => ?_, Nat.add_zero, cnt_eq hot]
    · rw [cnt_range (fun k => decide (k ≤ m) && decide (m < ppl t + ppl u + k)) hix, List.length_append, hlen, show (List.range (ppl t - ppl u)).countP (fun k => decide (k ≤ m) && decide (m < ppl t + ppl u + k)) = (List.range (ppl t - ppl u)).countP (fun k => decide (k ≤ m)) from List.countP_congr fun k hk => by rw [decide_eq_true (show m < ppl t + ppl u + k by omega), Bool.and_true], cr_le]
      omega
    · rw [hin, decide_eq_false (by omega), Bool.false_and]
  · rw [hsum, cnt_eq hot, cnt_range (fun k => decide (k ≤ m) && decide (m < ppl t + ppl u + k)) hix, List.length_append, hlen, show (List.range (ppl t - ppl u)).countP (fun k => decide (k ≤ m) && decide (m < ppl t + ppl u + k)) = (List.range (ppl t - ppl u)).countP (fun k => decide (k ≤ m)) from List.countP_congr fun k hk => by rw [decide_eq_true (show m < ppl t + ppl u + k by omega), Bool.and_true], cr_le]
    have : (persL u).countP (fun q => isIn t m (pz t :: q)) = thr u (m - (ppl t - ppl u)) := cnt_eq fun q hq => by
      rw [hin]
      unfold isIn
      congr 1 <;> rw [decide_eq_decide] <;> omega
    rw [this]; omega
  · rw [hsum, cnt_zero (l := persL u) fun q hq => ?_, Nat.add_zero, cnt_eq hot]
    · rw [cnt_range (fun k => decide (k ≤ m) && decide (m < ppl t + ppl u + k)) hix, List.length_append, hlen, show (List.range (ppl t - ppl u)).countP (fun k => decide (k ≤ m) && decide (m < ppl t + ppl u + k)) = (List.range (ppl t - ppl u)).countP (fun k => decide (m - (ppl t + ppl u) < k)) from List.countP_congr fun k hk => by
        have hk := List.mem_range.mp hk
        rw [decide_eq_true (show k ≤ m by omega), Bool.true_and]
        simp only [decide_eq_true_eq]; omega, cr_gt]
    · have := mom_lt' (piece_Ok hp ok) (pers_of hq) false
      rw [hin, decide_eq_false (show ¬ m < (ppl t - ppl u) + mom u q false by omega), Bool.and_false]
theorem halM_mem : ∀ {ts : List T} {u : T}, u ∈ ts → hal u ≤ halM ts
  | t :: ts, u, h => by
    rw [halM]
    rcases List.mem_cons.mp h with rfl | h
    · exact Nat.le_max_left _ _
    · exact Nat.le_trans (halM_mem h) (Nat.le_max_right _ _)
theorem hal_bes {t u : T} {i : Nat} (hI : intr t = false) (hp : piece t i = some u) : hal u ≤ hal t := by
  cases t with
  | one => cases hp
  | name x => cases hp
  | cop s n v =>
    obtain rfl : v = u := Option.some.inj hp
    obtain rfl : s = false := hI
    rw [show hal (.cop false n v) = hal v by rw [hal, if_neg (by simp)]]; exact Nat.le_refl _
  | row s ts =>
    obtain rfl : s = false := hI
    rw [show hal (.row false ts) = halM ts by rw [hal, if_neg (by simp)]]
    exact halM_mem (List.mem_of_getElem? (show ts[i]? = some u from hp))
theorem hal_max {t : T} (hI : intr t = false) (g : Good t) (hT : Told t) (h1 : isOneT t = false) : ∃ i u, i < cnt t ∧ piece t i = some u ∧ hal u = hal t := by
  cases t with
  | one => cases h1
  | name x => exact hT.elim
  | cop s n v =>
    obtain rfl : s = false := hI
    exact ⟨0, v, by rw [cnt_cop]; have := g.1; omega, rfl, by rw [hal, if_neg (by simp)]⟩
  | row s ts =>
    obtain rfl : s = false := hI
    have ex : ∀ {ts : List T}, ts ≠ [] → ∃ u ∈ ts, hal u = halM ts := by
      intro ts
      induction ts with
      | nil => intro h; exact absurd rfl h
      | cons t ts ih =>
        intro _
        rw [halM]
        cases ts with
        | nil => exact ⟨t, List.mem_cons_self, by rw [halM]; omega⟩
        | cons w r =>
          obtain ⟨u, hu, e⟩ := ih (by simp)
          by_cases h : hal t ≤ halM (w :: r)
          · exact ⟨u, List.mem_cons_of_mem _ hu, by omega⟩
          · exact ⟨t, List.mem_cons_self, by omega⟩
    obtain ⟨u, hu, e⟩ := ex (ts := ts) (fun e => by have := g.1; rw [e] at this; simp at this)
    obtain ⟨i, hi, rfl⟩ := List.getElem_of_mem hu
    exact ⟨i, ts[i], by rw [cnt_row]; exact hi, List.getElem?_eq_getElem hi, by rw [hal, if_neg (by simp)]; exact e⟩
/-- never more than the hall -/
theorem thr_le : ∀ (n : Nat) {t : T} {m : Nat}, ht t ≤ n → Ok t → m < 2 * ppl t → thr t m ≤ hal t := by
  intro n
  have one : ∀ {t : T} {m : Nat}, isOneT t = true → thr t m ≤ hal t := fun {t m} h => by
    cases t with
    | one =>
      unfold thr
      rw [persL, hal]
      exact List.countP_le_length
    | _ => cases h
  induction n with
  | zero =>
    intro t m hn ok hm
    cases h1 : isOneT t with
    | true => exact one h1
    | false =>
      obtain ⟨v, q, a1, a2, _⟩ := spotT_ok ok.2.1 h1 (ppl_pos ok.1)
      have := piece_ht a2; omega
  | succ n ih =>
    intro t m hn ok hm
    cases h1 : isOneT t with
    | true => exact one h1
    | false =>
    cases hI : intr t with
    | false =>
      obtain ⟨v, q, a1, a2, a3, a4, a5, a6⟩ := spotT_ok ok.2.1 h1 (show m / 2 < ppl t by omega)
      rw [thr_bes ok hI a1 a2 (by omega) (by omega)]
      exact Nat.le_trans (ih (by have := piece_ht a2; omega) (piece_Ok a2 ok) (by omega)) (hal_bes hI a2)
    | true =>
      obtain ⟨u, z1, z2, z3, _⟩ := pz_ok hI ok.1
      obtain ⟨b1, b2, b3⟩ := thr_int (m := m) ok hI z1 z2
      have oku := piece_Ok z2 ok
      have hl := hal_ok oku.1
      have hle := (piece_le' z2 ok.1).1
      by_cases c1 : m < ppl t - ppl u
      · rw [b1 c1]; omega
      by_cases c2 : m < ppl t + ppl u
      · have := ih (m := m - (ppl t - ppl u)) (by have := piece_ht z2; omega) oku (by omega)
        rw [b2 (by omega) c2]; omega
      · rw [b3 (by omega)]; omega
end PL
namespace PL
open PySem SX TL
theorem nd_leP : ∀ {a b : List (List Nat)}, a.Nodup → (∀ x ∈ a, x ∈ b) → a.length ≤ b.length
  | [], b, _, _ => Nat.zero_le _
  | x :: a, b, nd, h => by
    have hx := h x List.mem_cons_self
    have nd2 := List.nodup_cons.mp nd
    have := nd_leP (a := a) (b := b.erase x) nd2.2 fun y hy => (List.mem_erase_of_ne (fun e : y = x => nd2.1 (by rw [← e]; exact hy))).mpr (h y (List.mem_cons_of_mem _ hy))
    rw [List.length_erase_of_mem hx] at this
    have := List.length_pos_of_mem hx
    rw [List.length_cons]; omega
/-- whether somebody knows one who is not of some people -/
def wait (t : T) (l : List (List Nat)) (x : List Nat) : Bool := (persL t).any fun y => knowsB t x y && decide (y ∉ l)
def bdT (t : T) (l : List (List Nat)) : Nat := l.countP (wait t l)
/-- the greatest number there, the last to come first in the list -/
def costT (t : T) : List (List Nat) → Nat
  | [] => 0
  | x :: l => max (costT t l) (1 + bdT t l)
theorem wait_of {t : T} {l : List (List Nat)} {x y : List Nat} (hy : y ∈ persL t) (hk : knowsB t x y = true) (hn : y ∉ l) : wait t l x = true := by
  unfold wait
  rw [List.any_eq_true]
  exact ⟨y, hy, by rw [hk, decide_eq_true hn]; rfl⟩
theorem of_wait {t : T} {l : List (List Nat)} {x : List Nat} (h : wait t l x = true) : ∃ y ∈ persL t, knowsB t x y = true ∧ y ∉ l := by
  unfold wait at h
  rw [List.any_eq_true] at h
  obtain ⟨y, hy, h⟩ := h
  rw [Bool.and_eq_true] at h
  exact ⟨y, hy, h.1, of_decide_eq_true h.2⟩
/-- those of one part -/
def strip (i : Nat) (x : List Nat) : Option (List Nat) := match x with
  | [] => none
  | j :: q => if j = i then some q else none
def sub (i : Nat) (l : List (List Nat)) : List (List Nat) := l.filterMap (strip i)
theorem strip_some {i : Nat} {x q : List Nat} : strip i x = some q ↔ x = i :: q := by
  cases x with
  | nil => simp [strip]
  | cons j r =>
    show (if j = i then some r else none) = some q ↔ j :: r = i :: q
    by_cases h : j = i
    · subst h; simp
    · rw [if_neg h]; simp [h]
theorem mem_sub {i : Nat} {l : List (List Nat)} {q : List Nat} : q ∈ sub i l ↔ i :: q ∈ l := by
  unfold sub
  rw [List.mem_filterMap]
  exact ⟨fun ⟨x, hx, e⟩ => by rw [strip_some.mp e] at hx; exact hx, fun h => ⟨_, h, strip_some.mpr rfl⟩⟩
theorem sub_in (i : Nat) (q : List Nat) (l : List (List Nat)) : sub i ((i :: q) :: l) = q :: sub i l := by
  unfold sub; rw [List.filterMap_cons, strip_some.mpr rfl]
theorem sub_out {i : Nat} {x : List Nat} (h : ∀ q, x ≠ i :: q) (l : List (List Nat)) : sub i (x :: l) = sub i l := by
  unfold sub
  rw [List.filterMap_cons]
  cases e : strip i x with
  | none => rfl
  | some q => exact absurd (strip_some.mp e) (h q)
theorem nd_sub {i : Nat} : ∀ {l : List (List Nat)}, l.Nodup → (sub i l).Nodup
  | [], _ => List.Pairwise.nil
  | x :: l, h => by
    have h2 := List.nodup_cons.mp h
    by_cases hx : ∃ q, x = i :: q
    · obtain ⟨q, rfl⟩ := hx
      rw [sub_in]
      exact List.nodup_cons.mpr ⟨fun hm => h2.1 (mem_sub.mp hm), nd_sub h2.2⟩
    · rw [sub_out (fun q e => hx ⟨q, e⟩)]; exact nd_sub h2.2
/-- not of a part -/
def outB (i : Nat) (x : List Nat) : Bool := (strip i x).isNone
theorem outB_in (i : Nat) (q : List Nat) : outB i (i :: q) = false := by unfold outB; rw [strip_some.mpr rfl]; rfl
theorem outB_out {i : Nat} {x : List Nat} (h : ∀ q, x ≠ i :: q) : outB i x = true := by
  unfold outB
  cases e : strip i x with
  | none => rfl
  | some q => exact absurd (strip_some.mp e) (h q)
theorem cnt_parts {i : Nat} {f g : List Nat → Bool} : ∀ {l : List (List Nat)}, (∀ q ∈ sub i l, f q = true → g (i :: q) = true) → (∀ x ∈ l, outB i x = true → g x = true) → (sub i l).countP f + (l.filter (outB i)).length ≤ l.countP g
  | [], _, _ => by simp [sub]
  | x :: l, h1, h2 => by
    by_cases hx : ∃ q, x = i :: q
    · obtain ⟨q, rfl⟩ := hx
      have hs := sub_in i q l
      rw [hs] at h1
      have ih := cnt_parts (l := l) (fun q' hq => h1 q' (List.mem_cons_of_mem _ hq)) fun y hy => h2 y (List.mem_cons_of_mem _ hy)
      have hfl : ((i :: q) :: l).filter (outB i) = l.filter (outB i) := by rw [List.filter_cons, outB_in]; rfl
      rw [hs, List.countP_cons, List.countP_cons, hfl]
      have h3 := h1 q List.mem_cons_self
      by_cases hf : f q = true
      · rw [if_pos hf, if_pos (h3 hf)]; omega
      · rw [if_neg hf]
        split <;> omega
    · have ho := outB_out fun q e => hx ⟨q, e⟩
      have hs := sub_out (i := i) (x := x) (fun q e => hx ⟨q, e⟩) l
      rw [hs] at h1 ⊢
      have ih := cnt_parts (l := l) h1 fun y hy => h2 y (List.mem_cons_of_mem _ hy)
      have := h2 x List.mem_cons_self ho
      rw [List.countP_cons, List.filter_cons, ho, if_pos rfl, if_pos this, List.length_cons]
      omega
theorem cnt_sub {i : Nat} {f g : List Nat → Bool} : ∀ {l : List (List Nat)}, (∀ q ∈ sub i l, f q = true → g (i :: q) = true) → (sub i l).countP f ≤ l.countP g
  | [], _ => by simp [sub]
  | x :: l, h1 => by
    by_cases hx : ∃ q, x = i :: q
    · obtain ⟨q, rfl⟩ := hx
      have hs := sub_in i q l
      rw [hs] at h1
      have ih := cnt_sub (l := l) (fun q' hq => h1 q' (List.mem_cons_of_mem _ hq))
      rw [hs, List.countP_cons, List.countP_cons]
      have h3 := h1 q List.mem_cons_self
      by_cases hf : f q = true
      · rw [if_pos hf, if_pos (h3 hf)]; omega
      · rw [if_neg hf]
        split <;> omega
    · have hs := sub_out (i := i) (x := x) (fun q e => hx ⟨q, e⟩) l
      rw [hs] at h1 ⊢
      have ih := cnt_sub (l := l) h1
      rw [List.countP_cons]; omega
theorem pers_up {t u : T} {i : Nat} {y : List Nat} (ok : Ok t) (hi : i < cnt t) (hp : piece t i = some u) (hy : y ∈ persL u) : i :: y ∈ persL t := is_pers_mem ok (pers_mk hi hp (pers_of hy))
theorem wait_sub {t u : T} {i : Nat} {l : List (List Nat)} {q : List Nat} (ok : Ok t) (hi : i < cnt t) (hp : piece t i = some u) (h : wait u (sub i l) q = true) : wait t l (i :: q) = true := by
  obtain ⟨y, hy, hk, hn⟩ := of_wait h
  exact wait_of (pers_up ok hi hp hy) (by rw [knows_in hp]; exact hk) (fun hm => hn (mem_sub.mpr hm))
theorem cost_sub {t u : T} {i : Nat} (ok : Ok t) (hi : i < cnt t) (hp : piece t i = some u) : ∀ l : List (List Nat), costT u (sub i l) ≤ costT t l
  | [] => Nat.le_refl _
  | x :: l => by
    have ih := cost_sub ok hi hp l
    have hb : bdT u (sub i l) ≤ bdT t l := cnt_sub fun q _ h => wait_sub ok hi hp h
    by_cases hx : ∃ q, x = i :: q
    · obtain ⟨q, rfl⟩ := hx
      rw [sub_in, costT, costT]; omega
    · rw [sub_out (fun q e => hx ⟨q, e⟩), costT]; omega
theorem cost_len (t : T) : ∀ l : List (List Nat), costT t l ≤ l.length
  | [] => Nat.le_refl _
  | x :: l => by
    have ih := cost_len t l
    have hb : bdT t l ≤ l.length := List.countP_le_length
    rw [costT, List.length_cons]; omega
theorem others_le {t u : T} {i : Nat} {l : List (List Nat)} (ok : Ok t) (hi : i < cnt t) (hp : piece t i = some u) (h : ∀ y, isPers t y = true → (∀ q, y ≠ i :: q) → y ∈ l) : ppl t - ppl u ≤ (l.filter (outB i)).length := by
  obtain ⟨A, B, e, _, hA, hB⟩ := pers_split ok hi hp
  have hnd : (persL t).Nodup := by
    have : ∀ n (t : T), ht t ≤ n → Ok t → (persL t).Nodup := by
      intro n t _ ok
      unfold List.Nodup
      rw [List.pairwise_iff_getElem]
      intro a b ha hb hab he
      have h1 := num_of ok (List.getElem?_eq_getElem ha)
      have h2 := num_of ok (List.getElem?_eq_getElem hb)
      rw [he, h2] at h1
      omega
    exact this _ t (Nat.le_refl _) ok
  rw [e] at hnd
  have nd1 : (A ++ B).Nodup := by
    unfold List.Nodup at hnd ⊢
    rw [List.pairwise_append, List.pairwise_append] at hnd
    rw [List.pairwise_append]
    exact ⟨hnd.1, hnd.2.1.2.1, fun a ha b hb => hnd.2.2 a ha b (List.mem_append_right _ hb)⟩
  have hlen : (A ++ B).length = ppl t - ppl u := by
    have h3 := congrArg List.length e
    rw [List.length_append, List.length_append, List.length_map, persL_len ok.2.1, persL_len (piece_told hp ok)] at h3
    rw [List.length_append]; omega
  rw [← hlen]
  refine nd_leP nd1 fun x hx => ?_
  have hm : x ∈ persL t := by
    rw [e]
    rcases List.mem_append.mp hx with hx | hx
    · exact List.mem_append_left _ hx
    · exact List.mem_append_right _ (List.mem_append_right _ hx)
  obtain ⟨j, q, rfl, hj⟩ : ∃ j q, x = j :: q ∧ j ≠ i := by
    rcases List.mem_append.mp hx with hx | hx
    · exact hA x hx
    · exact hB x hx
  have hout : ∀ q', j :: q ≠ i :: q' := fun q' e => hj (List.cons.inj e).1
  exact List.mem_filter.mpr ⟨h _ (pers_of hm) hout, outB_out hout⟩
theorem knows_intr {t : T} {i j : Nat} {p q : List Nat} (hI : intr t = true) (h : j ≠ i) : knowsB t (i :: p) (j :: q) = true := by rw [knows_out h]; exact hI
theorem split_first {i : Nat} : ∀ {r : List (List Nat)}, (∃ b ∈ r, ∀ q, b ≠ i :: q) → ∃ l1 b l2, r = l1 ++ b :: l2 ∧ (∀ a ∈ l1, ∃ q, a = i :: q) ∧ ∀ q, b ≠ i :: q
  | [], h => by obtain ⟨b, hb, _⟩ := h; cases hb
  | x :: r, h => by
    by_cases hx : ∃ q, x = i :: q
    · obtain ⟨b, hb, hq⟩ := h
      obtain ⟨q, rfl⟩ := hx
      have hb : b ∈ r := by
        rcases List.mem_cons.mp hb with rfl | hb
        · exact absurd rfl (hq q)
        · exact hb
      obtain ⟨l1, b', l2, e, h1, h2⟩ := split_first ⟨b, hb, hq⟩
      refine ⟨(i :: q) :: l1, b', l2, by rw [e]; rfl, fun a ha => ?_, h2⟩
      rcases List.mem_cons.mp ha with rfl | ha
      · exact ⟨q, rfl⟩
      · exact h1 a ha
    · exact ⟨[], x, r, rfl, (fun a h => nomatch h), fun q e => hx ⟨q, e⟩⟩
/-- one more of the part that is complete last -/
theorem step_last {t u : T} {i : Nat} {q : List Nat} {l : List (List Nat)} (ok : Ok t) (hI : intr t = true) (hi : i < cnt t) (hp : piece t i = some u) (hq : isPers u q = true) (hn : i :: q ∉ l) (hall : ∀ x ∈ l, isPers t x = true) (hB : ∀ y, isPers t y = true → (∀ q, y ≠ i :: q) → y ∈ l) (h : (ppl t - ppl u) + costT u (sub i l) ≤ costT t l) :
    (ppl t - ppl u) + costT u (sub i ((i :: q) :: l)) ≤ costT t ((i :: q) :: l) := by
  have h1 := others_le ok hi hp hB
  have h2 : (sub i l).countP (wait u (sub i l)) + (l.filter (outB i)).length ≤ l.countP (wait t l) := by
    refine cnt_parts (fun q' _ hw => wait_sub ok hi hp hw) fun x hx ho => ?_
    obtain ⟨j, q', rfl⟩ : ∃ j q', x = j :: q' := by
      cases x with
      | nil => have := pers_nil (hall [] hx); subst this; cases hI
      | cons j q' => exact ⟨j, q', rfl⟩
    have hj : j ≠ i := fun e => by subst e; rw [outB_in] at ho; cases ho
    exact wait_of (is_pers_mem ok (pers_mk hi hp hq)) (knows_intr hI (fun e => hj e.symm)) hn
  rw [sub_in, costT, costT]
  unfold bdT
  omega
theorem base_last {t u : T} {i : Nat} {a b : List Nat} {l : List (List Nat)} (ok : Ok t) (hI : intr t = true) (hi : i < cnt t) (hp : piece t i = some u) (nd : (b :: l).Nodup) (hall : ∀ x ∈ b :: l, isPers t x = true) (hb : ∀ q, b ≠ i :: q) (ha : isPers u a = true) (hna : i :: a ∉ b :: l) (hB : ∀ y, isPers t y = true → (∀ q, y ≠ i :: q) → y ∈ b :: l) :
    (ppl t - ppl u) + costT u (sub i (b :: l)) ≤ costT t (b :: l) := by
  have h1 := others_le ok hi hp hB
  rw [List.filter_cons, outB_out hb, if_pos rfl, List.length_cons] at h1
  have nd2 := List.nodup_cons.mp nd
  have hdec : ∀ {x}, x ∈ b :: l → ∃ j q', x = j :: q' := fun {x} hx => by
    cases x with
    | nil => have := pers_nil (hall [] hx); subst this; cases hI
    | cons j q' => exact ⟨j, q', rfl⟩
  obtain ⟨jb, qb, rfl⟩ := hdec List.mem_cons_self
  have hjb : jb ≠ i := fun e => hb qb (by rw [e])
  have h2 : (sub i l).countP (fun _ => true) + (l.filter (outB i)).length ≤ l.countP (wait t l) := by
    refine cnt_parts (fun q' hq' _ => ?_) fun x hx ho => ?_
    · exact wait_of (is_pers_mem ok (hall _ List.mem_cons_self)) (knows_intr hI hjb) nd2.1
    · obtain ⟨j, q', rfl⟩ := hdec (List.mem_cons_of_mem _ hx)
      have hj : j ≠ i := fun e => by subst e; rw [outB_in] at ho; cases ho
      exact wait_of (is_pers_mem ok (pers_mk hi hp ha)) (knows_intr hI (fun e => hj e.symm)) fun hm => hna (List.mem_cons_of_mem _ hm)
  have h3 := cost_len u (sub i l)
  have h4 : (sub i l).countP (fun _ => true) = (sub i l).length := by simp
  rw [sub_out hb, costT]
  unfold bdT
  omega
theorem int_last {t u : T} {i : Nat} {x : List Nat} {r : List (List Nat)} (ok : Ok t) (hI : intr t = true) (hi : i < cnt t) (hp : piece t i = some u) (nd : ((i :: x) :: r).Nodup) (hall : ∀ y ∈ (i :: x) :: r, isPers t y = true) (hev : ∀ y, isPers t y = true → y ∈ (i :: x) :: r) :
    (ppl t - ppl u) + costT u (sub i ((i :: x) :: r)) ≤ costT t ((i :: x) :: r) := by
  have nd2 := List.nodup_cons.mp nd
  have hx : isPers u x = true := by
    obtain ⟨v, _, hv, h⟩ := pers_cons (hall _ List.mem_cons_self)
    rw [hp] at hv
    rw [Option.some.inj hv]; exact h
  have hB : ∀ y, isPers t y = true → (∀ q, y ≠ i :: q) → y ∈ r := fun y hy hq => by
    rcases List.mem_cons.mp (hev y hy) with e | h
    · exact absurd e (hq x)
    · exact h
  have hr : ∀ y ∈ r, isPers t y = true := fun y hy => hall y (List.mem_cons_of_mem _ hy)
  -- somebody of another part
  have hex : ∃ b ∈ r, ∀ q, b ≠ i :: q := by
    have h1 := not_one hi
    obtain ⟨k, hk, hki⟩ : ∃ k, k < cnt t ∧ k ≠ i := by
      have h2 : 2 ≤ cnt t := by
        cases t with
        | one => cases h1
        | name x => exact ok.2.1.elim
        | cop s n u => rw [cnt_cop]; exact ok.1.1
        | row s ts => rw [cnt_row]; exact ok.1.1
      by_cases h0 : i = 0
      · exact ⟨1, by omega, by omega⟩
      · exact ⟨0, by omega, fun e => h0 e.symm⟩
    obtain ⟨v, hv⟩ := piece_some hk
    have okv := piece_Ok hv ok
    have hl := persL_len okv.2.1
    have hpv := ppl_pos okv.1
    have hy := pers_mk hk hv (pers_of (List.getElem_mem (l := persL v) (n := 0) (by omega)))
    exact ⟨_, hB _ hy fun q e => hki (List.cons.inj e).1, fun q e => hki (List.cons.inj e).1⟩
  obtain ⟨l1, b, l2, rfl, h1, h2⟩ := split_first hex
  -- by those who came behind b
  have go : ∀ l1 : List (List Nat), (∀ a ∈ l1, ∃ q, a = i :: q) → (∀ y ∈ l1 ++ b :: l2, isPers t y = true) → (l1 ++ b :: l2).Nodup → i :: x ∉ l1 ++ b :: l2 → (∀ y, isPers t y = true → (∀ q, y ≠ i :: q) → y ∈ b :: l2) → (ppl t - ppl u) + costT u (sub i (l1 ++ b :: l2)) ≤ costT t (l1 ++ b :: l2) := by
    intro l1
    induction l1 with
    | nil => intro _ hal nd hnx hB; exact base_last ok hI hi hp nd hal h2 hx hnx hB
    | cons a l1 ih =>
      intro ha hal nd hnx hB
      obtain ⟨q, rfl⟩ := ha a List.mem_cons_self
      have nd3 := List.nodup_cons.mp (show ((i :: q) :: (l1 ++ b :: l2)).Nodup from nd)
      have hq : isPers u q = true := by
        obtain ⟨v, _, hv, h⟩ := pers_cons (hal _ List.mem_cons_self)
        rw [hp] at hv
        rw [Option.some.inj hv]; exact h
      exact step_last ok hI hi hp hq nd3.1 (fun y hy => hal y (List.mem_cons_of_mem _ hy)) (fun y hy hn => List.mem_append_right _ (hB y hy hn)) (ih (fun a' ha' => ha a' (List.mem_cons_of_mem _ ha')) (fun y hy => hal y (List.mem_cons_of_mem _ hy)) nd3.2 (fun hm => hnx (List.mem_cons_of_mem _ hm)) hB)
  refine step_last ok hI hi hp hx nd2.1 hr hB (go l1 h1 hr nd2.2 nd2.1 fun y hy hn => ?_)
  rcases List.mem_append.mp (hB y hy hn) with h | h
  · obtain ⟨q, e⟩ := h1 y h
    exact absurd e (hn q)
  · exact h
/-- no order has a smaller hall -/
theorem cost_ge : ∀ (n : Nat) {t : T} {l : List (List Nat)}, ht t ≤ n → Ok t → l.Nodup → (∀ x, x ∈ l ↔ isPers t x = true) → hal t ≤ costT t l := by
  intro n
  have one : ∀ {t : T} {l : List (List Nat)}, isOneT t = true → (∀ x, x ∈ l ↔ isPers t x = true) → hal t ≤ costT t l := fun {t l} h hm => by
    cases t with
    | one =>
      cases l with
      | nil => exact absurd ((hm []).mpr rfl) (fun h => nomatch h)
      | cons x l => rw [hal, costT]; omega
    | _ => cases h
  induction n with
  | zero =>
    intro t l hn ok nd hm
    cases h1 : isOneT t with
    | true => exact one h1 hm
    | false =>
      obtain ⟨v, q, a1, a2, _⟩ := spotT_ok ok.2.1 h1 (ppl_pos ok.1)
      have := piece_ht a2; omega
  | succ n ih =>
    intro t l hn ok nd hm
    cases h1 : isOneT t with
    | true => exact one h1 hm
    | false =>
    have part : ∀ {i u}, i < cnt t → piece t i = some u → hal u ≤ costT u (sub i l) := fun {i u} hi hp => by
      refine ih (by have := piece_ht hp; omega) (piece_Ok hp ok) (nd_sub nd) fun q => ?_
      rw [mem_sub, hm]
      refine ⟨fun h => ?_, fun h => pers_mk hi hp h⟩
      obtain ⟨v, _, hv, h⟩ := pers_cons h
      rw [hp] at hv
      rw [Option.some.inj hv]; exact h
    cases hI : intr t with
    | false =>
      obtain ⟨i, u, hi, hp, e⟩ := hal_max hI ok.1 ok.2.1 h1
      have := part hi hp
      have := cost_sub ok hi hp l
      omega
    | true =>
      have hp1 := ppl_pos ok.1
      have hl := persL_len ok.2.1
      cases l with
      | nil =>
        have := (hm _).mpr (pers_of (List.getElem_mem (l := persL t) (n := 0) (by omega)))
        cases this
      | cons x r =>
        have hx := (hm x).mp List.mem_cons_self
        cases x with
        | nil => have := pers_nil hx; subst this; cases hI
        | cons i q =>
        obtain ⟨u, hi, hp, hu⟩ := pers_cons hx
        have h2 := int_last ok hI hi hp nd (fun y hy => (hm y).mp hy) fun y hy => (hm y).mpr hy
        have h3 := part hi hp
        obtain ⟨_, _, _, _, h4⟩ := pz_ok hI ok.1
        have h5 := h4 i u hp
        have h6 := (piece_le' hp ok.1).1
        omega
/-- the order of coming has this hall -/
theorem cost_le {t : T} (ok : Ok t) : ∀ m, m ≤ 2 * ppl t → ∃ l : List (List Nat), l.Nodup ∧ (∀ x, x ∈ l ↔ isPers t x = true ∧ mom t x true < m) ∧ costT t l ≤ hal t
  | 0, _ => ⟨[], List.Pairwise.nil, fun x => ⟨fun h => (nomatch h), fun h => by omega⟩, Nat.zero_le _⟩
  | m + 1, hm => by
    obtain ⟨l, nd, hl, hc⟩ := cost_le ok m (by omega)
    by_cases hx : ∃ x, isPers t x = true ∧ mom t x true = m
    · obtain ⟨x, hx, ex⟩ := hx
      have hxl : x ∉ l := fun h => by have := (hl x).mp h; omega
      refine ⟨x :: l, List.nodup_cons.mpr ⟨hxl, nd⟩, fun y => ?_, ?_⟩
      · rw [List.mem_cons, hl y]
        refine ⟨fun h => ?_, fun h => ?_⟩
        · rcases h with rfl | h
          · exact ⟨hx, by omega⟩
          · exact ⟨h.1, by omega⟩
        · by_cases e : mom t y true = m
          · exact .inl (mom_inj ok h.1 hx (e.trans ex.symm)).1
          · exact .inr ⟨h.1, by omega⟩
      · have h1 : 1 + bdT t l ≤ thr t m := by
          have e1 : 1 + bdT t l = (x :: l.filter (wait t l)).length := by
            unfold bdT
            rw [List.length_cons, List.countP_eq_length_filter]; omega
          have e2 : thr t m = ((persL t).filter (isIn t m)).length := by unfold thr; rw [List.countP_eq_length_filter]
          rw [e1, e2]
          refine nd_leP (List.nodup_cons.mpr ⟨fun h => hxl (List.mem_filter.mp h).1, List.Pairwise.filter _ nd⟩) fun y hy => ?_
          rcases List.mem_cons.mp hy with rfl | hy
          · refine List.mem_filter.mpr ⟨is_pers_mem ok hx, ?_⟩
            have := (mom_lt ok hx).1
            unfold isIn
            rw [decide_eq_true (by omega), decide_eq_true (by omega)]; rfl
          · obtain ⟨hy, hw⟩ := List.mem_filter.mp hy
            obtain ⟨y1, y2⟩ := (hl y).mp hy
            obtain ⟨z, hz, hk, hzl⟩ := of_wait hw
            have z1 := pers_of hz
            have z2 : m ≤ mom t z true := by
              by_cases h : m ≤ mom t z true
              · exact h
              · exact absurd ((hl z).mpr ⟨z1, by omega⟩) hzl
            have := mom_meet ok z1 y1 (by rw [knows_symm]; exact hk)
            refine List.mem_filter.mpr ⟨is_pers_mem ok y1, ?_⟩
            unfold isIn
            rw [decide_eq_true (by omega), decide_eq_true (by omega)]; rfl
        have := thr_le _ (Nat.le_refl _) ok (show m < 2 * ppl t by omega)
        rw [costT]; omega
    · refine ⟨l, nd, fun y => ?_, hc⟩
      rw [hl y]
      refine ⟨fun h => ⟨h.1, by omega⟩, fun h => ⟨h.1, ?_⟩⟩
      by_cases e : mom t y true = m
      · exact absurd ⟨y, h.1, e⟩ hx
      · omega
theorem cost_best {t : T} (ok : Ok t) : ∃ l : List (List Nat), l.Nodup ∧ (∀ x, x ∈ l ↔ isPers t x = true) ∧ costT t l = hal t := by
  obtain ⟨l, h1, h2, h3⟩ := cost_le ok (2 * ppl t) (Nat.le_refl _)
  have h4 : ∀ x, x ∈ l ↔ isPers t x = true := fun x => by
    rw [h2]
    exact ⟨fun h => h.1, fun h => ⟨h, mom_lt' ok h true⟩⟩
  have := cost_ge _ (Nat.le_refl _) ok h1 h4
  exact ⟨l, h1, h4, by omega⟩
end PL
namespace PL
open PySem SX TL
def bitsN (l : List Nat) : Nat := l.foldl (fun f s => f ||| 2 ^ s) 0
theorem bits_fold (i : Nat) : ∀ (l : List Nat) (n : Nat), (l.foldl (fun f s => f ||| 2 ^ s) n).testBit i = (n.testBit i || decide (i ∈ l))
  | [], n => by simp
  | s :: l, n => by
    rw [List.foldl_cons, bits_fold i l, Nat.testBit_or, Nat.testBit_two_pow]
    by_cases h : s = i
    · subst h; simp
    · have h2 : ¬ i = s := fun e => h e.symm
      simp [h, h2]
theorem bits_tb (l : List Nat) (i : Nat) : (bitsN l).testBit i = decide (i ∈ l) := by
  unfold bitsN
  rw [bits_fold, Nat.zero_testBit, Bool.false_or]
theorem and_half (a b : Nat) : (a &&& b) / 2 = a / 2 &&& b / 2 := by
  apply Nat.eq_of_testBit_eq
  intro i
  rw [← Nat.testBit_succ, Nat.testBit_and, Nat.testBit_and, Nat.testBit_succ, Nat.testBit_succ]
theorem and_odd (a b : Nat) : (a &&& b) % 2 = a % 2 * (b % 2) := by
  have h := Nat.testBit_and a b 0
  rw [Nat.testBit_zero, Nat.testBit_zero, Nat.testBit_zero] at h
  have h1 := Nat.mod_two_eq_zero_or_one (a &&& b)
  rcases Nat.mod_two_eq_zero_or_one a with ha | ha <;> rcases Nat.mod_two_eq_zero_or_one b with hb | hb <;> rw [ha, hb] at h ⊢ <;> rcases h1 with h1 | h1 <;> rw [h1] at h ⊢ <;> first | rfl | (exact absurd h (by decide))
theorem tb_sub : ∀ (i a b : Nat), (a - (a &&& b)).testBit i = (a.testBit i && !b.testBit i)
  | 0, a, b => by
    have h1 := and_odd a b
    have h2 : a &&& b ≤ a := Nat.and_le_left
    rw [Nat.testBit_zero, Nat.testBit_zero, Nat.testBit_zero]
    rcases Nat.mod_two_eq_zero_or_one a with ha | ha <;> rcases Nat.mod_two_eq_zero_or_one b with hb | hb <;> rw [ha, hb] at h1 ⊢
    · rw [show (a - (a &&& b)) % 2 = 0 by omega]; rfl
    · rw [show (a - (a &&& b)) % 2 = 0 by omega]; rfl
    · rw [show (a - (a &&& b)) % 2 = 1 by omega]; rfl
    · rw [show (a - (a &&& b)) % 2 = 0 by omega]; rfl
  | i + 1, a, b => by
    have h1 := and_odd a b
    have h2 : a &&& b ≤ a := Nat.and_le_left
    have h3 := and_half a b
    have h4 : a / 2 &&& b / 2 ≤ a / 2 := Nat.and_le_left
    have h5 : (a - (a &&& b)) / 2 = a / 2 - (a / 2 &&& b / 2) := by
      rw [← h3] at h4 ⊢
      rcases Nat.mod_two_eq_zero_or_one a with ha | ha <;> rcases Nat.mod_two_eq_zero_or_one b with hb | hb <;> rw [ha, hb] at h1 <;> omega
    rw [Nat.testBit_succ, Nat.testBit_succ, Nat.testBit_succ, h5]
    exact tb_sub i _ _
end PL
namespace PL
open PySem SX TL
def gp (t : T) (i : Nat) : List Nat := (persL t).getD i []
theorem gp_at {t : T} {i : Nat} (h : i < (persL t).length) : (persL t)[i]? = some (gp t i) := by
  unfold gp
  rw [List.getD_eq_getElem?_getD, List.getElem?_eq_getElem h]; rfl
theorem gp_pers {t : T} {i : Nat} (h : i < (persL t).length) : isPers t (gp t i) = true := pers_of (List.mem_of_getElem? (gp_at h))
theorem gp_num {t : T} {i : Nat} (ok : Ok t) (h : i < (persL t).length) : num t (gp t i) = i := num_of ok (gp_at h)
theorem gp_inj {t : T} {i j : Nat} (ok : Ok t) (hi : i < (persL t).length) (hj : j < (persL t).length) (h : gp t i = gp t j) : i = j := by rw [← gp_num ok hi, h, gp_num ok hj]
end PL
namespace PL
open PySem SX TL
section
variable {α : Type} (k : α → α → Bool)
/-- neighbours who do not know one another -/
def br : List α → Nat
  | [] => 0
  | [_] => 0
  | x :: y :: r => (if k x y = true then 0 else 1) + br (y :: r)
theorem br_cc (x y : α) (r : List α) : br k (x :: y :: r) = (if k x y = true then 0 else 1) + br k (y :: r) := by rw [br]
theorem br_tail (x : α) : ∀ r : List α, br k r ≤ br k (x :: r)
  | [] => Nat.le_refl _
  | y :: r => by rw [br_cc]; omega
theorem br_cons (x : α) : ∀ r : List α, br k (x :: r) ≤ br k r + 1
  | [] => by simp [br]
  | y :: r => by rw [br_cc]; split <;> omega
theorem br_map {β : Type} (k' : β → β → Bool) (f : β → α) : ∀ L : List β, (∀ x ∈ L, ∀ y ∈ L, k (f x) (f y) = k' x y) → br k (L.map f) = br k' L
  | [], _ => rfl
  | [_], _ => rfl
  | x :: y :: r, h => by
    rw [List.map_cons, List.map_cons, br_cc, br_cc, ← List.map_cons, br_map k' f (y :: r) fun a ha b hb => h a (List.mem_cons_of_mem _ ha) b (List.mem_cons_of_mem _ hb), h x List.mem_cons_self y (List.mem_cons_of_mem _ List.mem_cons_self)]
/-- some are taken out -/
theorem br_rm (P : α → Bool) : ∀ L : List α, br k (L.filter P) ≤ br k L + (L.filter fun x => !P x).length
  | [] => Nat.zero_le _
  | x :: r => by
    have ih := br_rm P r
    rw [List.filter_cons, List.filter_cons]
    cases hx : P x with
    | false =>
      simp only [Bool.not_false, if_pos, Bool.false_eq_true, ↓reduceIte, List.length_cons]
      have := br_tail k x r
      omega
    | true =>
      simp only [Bool.not_true, if_pos, Bool.false_eq_true, ↓reduceIte]
      cases r with
      | nil => simp [br]
      | cons y r =>
        rw [br_cc]
        rw [List.filter_cons, List.filter_cons] at ih ⊢
        cases hy : P y with
        | true =>
          rw [hy] at ih
          simp only [Bool.not_true, if_pos, Bool.false_eq_true, ↓reduceIte] at ih ⊢
          rw [br_cc]
          omega
        | false =>
          simp only [Bool.not_false, if_pos, Bool.false_eq_true, ↓reduceIte, List.length_cons]
          have i2 := br_rm P r
          have := br_cons k x (r.filter P)
          have := br_tail k y r
          omega
/-- the rows of those of one colour -/
def cF (c : α → Nat) (L : List α) (i : Nat) : Nat := if (L.filter fun x => decide (c x = i)) = [] then 0 else 1 + br k (L.filter fun x => decide (c x = i))
def cG (L : List α) : Nat := if L = [] then 0 else 1 + br k L
theorem sum_upd {f g : Nat → Nat} {i d : Nat} : ∀ n, (∀ j, j < n → j ≠ i → f j = g j) → (i < n → f i ≤ g i + d) → ((List.range n).map f).sum ≤ ((List.range n).map g).sum + (if i < n then d else 0)
  | 0, _, _ => by simp
  | n + 1, h, hi => by
    rw [List.range_succ, List.map_append, List.map_append, List.sum_append, List.sum_append]
    simp only [List.map_cons, List.map_nil, List.sum_cons, List.sum_nil]
    by_cases e : i = n
    · subst e
      have := hi (by omega)
      have e2 : ((List.range i).map f).sum = ((List.range i).map g).sum := by
        congr 1
        exact List.map_congr_left fun j hj => by have := List.mem_range.mp hj; exact h j (by omega) (by omega)
      rw [if_pos (by omega)]; omega
    · have ih := sum_upd (f := f) (g := g) (i := i) (d := d) n (fun j hj => h j (by omega)) (fun hj => hi (by omega))
      have := h n (by omega) (fun z => e z.symm)
      by_cases hl : i < n
      · rw [if_pos hl] at ih; rw [if_pos (by omega)]; omega
      · rw [if_neg hl] at ih; rw [if_neg (by omega)]; omega
theorem colours (c : α → Nat) (n : Nat) : ∀ L : List α, (∀ x ∈ L, ∀ y ∈ L, k x y = true → c x = c y) → ((List.range n).map (cF k c L)).sum ≤ cG k L
  | [], _ => by
    have : (List.range n).map (cF k c []) = List.replicate n 0 := by
      refine List.ext_getElem (by simp) fun i h1 h2 => ?_
      simp [cF]
    rw [this]; simp [cG]
  | x :: r, h => by
    have ih := colours c n r fun a ha b hb => h a (List.mem_cons_of_mem _ ha) b (List.mem_cons_of_mem _ hb)
    have key := sum_upd (f := cF k c (x :: r)) (g := cF k c r) (i := c x) (d := cG k (x :: r) - cG k r) n (fun j _ hj => ?_) (fun _ => ?_)
    · have le : cG k r ≤ cG k (x :: r) := by
        unfold cG
        rw [if_neg (List.cons_ne_nil x r)]
        have := br_tail k x r
        split <;> omega
      split at key <;> omega
    · unfold cF
      rw [List.filter_cons, decide_eq_false (fun e => hj e.symm)]; simp
    · unfold cF cG
      rw [List.filter_cons, decide_eq_true rfl, if_pos rfl, if_neg (List.cons_ne_nil _ _), if_neg (List.cons_ne_nil x r)]
      cases r with
      | nil => simp [br]
      | cons y r =>
        rw [if_neg (List.cons_ne_nil y r), br_cc]
        rw [List.filter_cons]
        by_cases hk : k x y = true
        · have e := h x List.mem_cons_self y (List.mem_cons_of_mem _ List.mem_cons_self) hk
          rw [decide_eq_true e.symm, if_pos rfl, if_neg (List.cons_ne_nil _ _), br_cc, if_pos hk]
          omega
        · rw [if_neg hk]
          by_cases e : c y = c x
          · rw [decide_eq_true e, if_pos rfl, if_neg (List.cons_ne_nil _ _)]
            have := br_cons k x (y :: r.filter fun z => decide (c z = c x))
            omega
          · rw [decide_eq_false e]
            simp only [Bool.false_eq_true, ↓reduceIte]
            split
            · rename_i hn; rw [hn]; simp [br]
            · have := br_cons k x (r.filter fun z => decide (c z = c x))
              omega
end
theorem len_split {α : Type} (P : α → Bool) : ∀ L : List α, (L.filter P).length + (L.filter fun x => !P x).length = L.length
  | [] => rfl
  | x :: L => by
    have := len_split P L
    rw [List.filter_cons, List.filter_cons, List.length_cons]
    cases P x <;> simp <;> omega
theorem part_filter {t : T} {i : Nat} : ∀ L : List (List Nat), (∀ p ∈ L, p ≠ []) → L.filter (fun p => decide (p.headD 0 = i)) = (L.filterMap (tlP i)).map (i :: ·)
  | [], _ => rfl
  | p :: L, h => by
    rw [List.filter_cons, List.filterMap_cons, part_filter (t := t) L fun q hq => h q (List.mem_cons_of_mem _ hq)]
    cases p with
    | nil => exact absurd rfl (h [] List.mem_cons_self)
    | cons j q =>
      rw [show (j :: q).headD 0 = j from rfl]
      by_cases e : j = i
      · subst e
        rw [tlP_iff.mpr rfl, decide_eq_true rfl]; rfl
      · rw [show tlP i (j :: q) = none from if_neg e, decide_eq_false e]; rfl
theorem heads_of {t : T} (h1 : isOneT t = false) {L : List (List Nat)} (hL : L.Perm (persL t)) {p : List Nat} (hp : p ∈ L) : ∃ j q, p = j :: q ∧ j < cnt t := by
  have := hL.mem_iff.mp hp
  rw [persL_upTo h1] at this
  obtain ⟨j, u, q, hj, _, _, e⟩ := mem_upTo this
  exact ⟨j, q, e, hj⟩
/-- what a part of a sequence is -/
structure Pa (t u : T) (L : List (List Nat)) (i : Nat) : Prop where
  perm : (L.filterMap (tlP i)).Perm (persL u)
  brk : br (knowsB u) (L.filterMap (tlP i)) = br (knowsB t) (L.filter fun p => decide (p.headD 0 = i))
  len : (L.filter fun p => decide (p.headD 0 = i)).length = ppl u
theorem pa_of {t u : T} {i : Nat} (h1 : isOneT t = false) (hu : piece t i = some u) (hi : i < cnt t) (tu : Told u) {L : List (List Nat)} (hL : L.Perm (persL t)) : Pa t u L i := by
  have hne : ∀ p ∈ L, p ≠ [] := fun p hp e => by
    obtain ⟨j, q, e2, _⟩ := heads_of h1 hL hp
    rw [e2] at e; cases e
  have pm : (L.filterMap (tlP i)).Perm (persL u) := by
    rw [← pers_part hu hi]; exact hL.filterMap _
  refine ⟨pm, ?_, ?_⟩
  · rw [part_filter (t := t) L hne]
    exact (br_map (knowsB t) (knowsB u) (i :: ·) _ fun x _ y _ => by rw [knowsB, if_pos rfl, hu]).symm
  · rw [part_filter (t := t) L hne, List.length_map, pm.length_eq, persL_len tu]
theorem low : ∀ t : T, Good t → Told t → ∀ L : List (List Nat), L.Perm (persL t) → rws t ≤ 1 + br (knowsB t) L := by
  refine kids_rec fun t ih g tt L hL => ?_
  cases hw : wd t with
  | none =>
    obtain rfl := told_one hw tt
    rw [rws]; omega
  | some s =>
    have h1 := wd_isOne hw
    have c2 := cntT2 hw g
    have er : rws t = (comb s ((List.range (cnt t)).map fun i => fg ((piece t i).getD .one))).r := by rw [← fg_parts hw g]; rfl
    have ep : ppl t = (comb s ((List.range (cnt t)).map fun i => fg ((piece t i).getD .one))).p := by rw [← fg_parts hw g]; rfl
    have prt : ∀ i, i < cnt t → ∃ u, piece t i = some u ∧ Good u ∧ Told u ∧ Pa t u L i ∧ rws u ≤ 1 + br (knowsB t) (L.filter fun p => decide (p.headD 0 = i)) := fun i hi => by
      obtain ⟨u, hu, c, hc⟩ := piece_of hi
      have gu : Good u := (kids_ok hc g).1
      have tu : Told u := kids_told hc tt
      have pa := pa_of h1 hu hi tu hL
      refine ⟨u, hu, gu, tu, pa, ?_⟩
      have := ih _ hc gu tu _ pa.perm
      rw [pa.brk] at this; exact this
    have hlen : L.length = ppl t := by rw [hL.length_eq, persL_len tt]
    cases s with
    | true =>
      rw [er]
      show max 1 (mxL _ - _) ≤ _
      have hp : (((List.range (cnt t)).map fun i => fg ((piece t i).getD .one)).map (·.p)).sum = ppl t := by rw [ep]; rfl
      rw [hp]
      have : mxL (((List.range (cnt t)).map fun i => fg ((piece t i).getD .one)).map fun f => f.r + f.p) ≤ 1 + br (knowsB t) L + ppl t := by
        refine mxL_le.mpr fun x hx => ?_
        rw [List.map_map] at hx
        obtain ⟨i, hi, rfl⟩ := List.mem_map.mp hx
        obtain ⟨u, hu, gu, tu, pa, hr⟩ := prt i (List.mem_range.mp hi)
        show (fg ((piece t i).getD .one)).r + (fg ((piece t i).getD .one)).p ≤ _
        rw [hu]
        show rws u + ppl u ≤ _
        have a := br_rm (knowsB t) (fun p : List Nat => decide (p.headD 0 = i)) L
        have b := pa.len
        have c : (L.filter fun p => decide (p.headD 0 = i)).length + (L.filter fun p => !decide (p.headD 0 = i)).length = L.length := len_split _ L
        omega
      omega
    | false =>
      rw [er]
      show (((List.range (cnt t)).map fun i => fg ((piece t i).getD .one)).map (·.r)).sum ≤ _
      rw [List.map_map]
      have hne : L ≠ [] := fun e => by
        rw [e] at hlen
        have := ppl_pos g
        simp at hlen; omega
      have col := colours (knowsB t) (fun p : List Nat => p.headD 0) (cnt t) L fun x hx y hy hk => by
        obtain ⟨i, p, rfl, _⟩ := heads_of h1 hL hx
        obtain ⟨j, q, rfl, _⟩ := heads_of h1 hL hy
        show i = j
        rw [knowsB] at hk
        by_cases e : i = j
        · exact e
        · rw [if_neg e, wd_intr hw] at hk; cases hk
      rw [show cG (knowsB t) L = 1 + br (knowsB t) L from if_neg hne] at col
      refine Nat.le_trans ?_ col
      have : ∀ l : List Nat, (∀ i ∈ l, i < cnt t) → (l.map ((fun f : F5 => f.r) ∘ fun i => fg ((piece t i).getD .one))).sum ≤ (l.map (cF (knowsB t) (fun p : List Nat => p.headD 0) L)).sum := by
        intro l
        induction l with
        | nil => intro _; exact Nat.le_refl _
        | cons i l ihl =>
          intro hl
          rw [List.map_cons, List.map_cons, List.sum_cons, List.sum_cons]
          refine Nat.add_le_add ?_ (ihl fun j hj => hl j (List.mem_cons_of_mem _ hj))
          obtain ⟨u, hu, gu, tu, pa, hr⟩ := prt i (hl i List.mem_cons_self)
          show (fg ((piece t i).getD .one)).r ≤ _
          rw [hu]
          show rws u ≤ _
          unfold cF
          rw [if_neg ?_]
          · exact hr
          · intro e
            have := pa.len
            rw [e] at this
            have := ppl_pos gu
            simp at *; omega
      exact this _ fun i hi => List.mem_range.mp hi
theorem perm_fullL {a b : List (List Nat)} (na : a.Nodup) (nb : b.Nodup) (h : ∀ x ∈ a, x ∈ b) (l : b.length ≤ a.length) : a.Perm b := by
  refine (List.perm_ext_iff_of_nodup na nb).mpr fun x => ⟨h x, fun hx => ?_⟩
  by_cases hm : x ∈ a
  · exact hm
  · have := List.Nodup.length_le_of_subset (List.nodup_cons.mpr ⟨hm, na⟩) (l₂ := b) fun y hy => by
      rcases List.mem_cons.mp hy with rfl | hy
      · exact hx
      · exact h y hy
    rw [List.length_cons] at this
    omega
theorem seq_perm {t : T} (ok : Ok t) {A : Nat → List Nat} {B : List Nat → Nat} (h : ∀ s, s < ppl t → isPers t (A s) = true ∧ B (A s) = s) : ((List.range (ppl t)).map A).Perm (persL t) := by
  refine perm_fullL ?_ (nd_pers _ (Nat.le_refl _)) (fun x hx => ?_) ?_
  · unfold List.Nodup
    rw [List.pairwise_map]
    refine List.Pairwise.imp_of_mem (fun {a b} ha hb hne e => hne ?_) List.nodup_range
    rw [← (h a (List.mem_range.mp ha)).2, ← (h b (List.mem_range.mp hb)).2, e]
  · obtain ⟨s, hs, rfl⟩ := List.mem_map.mp hx
    exact is_pers_mem ok (h s (List.mem_range.mp hs)).1
  · rw [List.length_map, List.length_range, persL_len ok.2.1]; exact Nat.le_refl _
theorem br_steps {t : T} {A : Nat → List Nat} {ro : Nat → Nat} : ∀ (m a : Nat), (∀ s, a ≤ s → s < a + m → ro s ≤ ro (s + 1) ∧ (ro s = ro (s + 1) → knowsB t (A s) (A (s + 1)) = true)) → br (knowsB t) ((List.range' a (m + 1)).map A) + ro a ≤ ro (a + m)
  | 0, a, _ => by simp [br]
  | m + 1, a, h => by
    have ih := br_steps (t := t) (A := A) (ro := ro) m (a + 1) fun s h1 h2 => h s (by omega) (by omega)
    obtain ⟨h1, h2⟩ := h a (Nat.le_refl _) (by omega)
    rw [List.range'_succ, List.map_cons]
    rw [List.range'_succ, List.map_cons] at ih ⊢
    rw [br_cc, show a + (m + 1) = a + 1 + m by omega]
    split
    · omega
    · rename_i hk
      have : ro a ≠ ro (a + 1) := fun e => hk (h2 e)
      omega
theorem up {t : T} (ok : Ok t) : ∃ L : List (List Nat), L.Perm (persL t) ∧ 1 + br (knowsB t) L ≤ rws t := by
  have o := linM_ok _ (Nat.le_refl _) ok
  generalize linM t = l at o
  have hn := o.hn
  have hp := ppl_pos ok.1
  refine ⟨(List.range (ppl t)).map l.at_, seq_perm ok fun s hs => o.at_ s (by omega), ?_⟩
  have mono : ∀ i j, i ≤ j → j ≤ l.r → l.st i ≤ l.st j := by
    intro i j h
    induction h with
    | refl => intro _; exact Nat.le_refl _
    | step h ih => intro hj; exact Nat.le_trans (ih (by omega)) (Nat.le_of_lt (o.up _ (by omega)))
  have st : ∀ s, s + 1 < ppl t → l.ro s ≤ l.ro (s + 1) := fun s hs => by
    obtain ⟨a1, a2, a3⟩ := o.ro s (by omega)
    obtain ⟨b1, b2, b3⟩ := o.ro (s + 1) (by omega)
    by_cases h : l.ro s ≤ l.ro (s + 1)
    · exact h
    · have := mono (l.ro (s + 1) + 1) (l.ro s) (by omega) (by omega)
      omega
  obtain ⟨m, hm⟩ : ∃ m, ppl t = m + 1 := ⟨ppl t - 1, by omega⟩
  have key := br_steps (t := t) (A := l.at_) (ro := l.ro) m 0 fun s _ hs => ⟨st s (by omega), fun e => o.kn s (by omega) e⟩
  rw [hm, List.range_eq_range']
  have := (o.ro (0 + m) (by omega)).1
  have := o.hr
  omega
end PL
namespace DL
open PySem PySem.Spec PyProof.Rows L2
section
variable {X : Cx} {ρ : Rho} {M : Mp} {Φ : D → Mp → Prop} {Θ : Bool → Mp → Prop} {a b e o : Expr} {es : List Expr} {pos p apos : Pos}
theorem we_dict0 (h : Φ (.dK []) M) : WE X ρ M (.Dict [] [] pos) Φ := .mk fun σ H Q en w k => eOf pe_dnewK fun p hp => k.new w hp (.dK upd_same (w.fresh hp) .nil) h
end
end DL
namespace DL
open PySem PySem.Spec PyProof.Rows L2
section
variable {X : Cx} {ρ : Rho} {M : Mp} {Φ : D → Mp → Prop} {Ψ : DE} {a b e o : Expr} {es : List Expr} {pos p apos : Pos} {ss : List Stmt}
inductive FzF (M M' : Mp) : List (Str × D) → List (Str × D) → Prop where
  | nil : FzF M M' [] []
  | cons {k : Str} {d d' : D} {r r' : List (Str × D)} : Fz M M' d d' → FzF M M' r r' → FzF M M' ((k, d) :: r) ((k, d') :: r')
theorem FzF.rep {K : PySem.W.Frag} {M M' : Mp} {Z : Zn} {H : Hp} (l : Les M' M) (w : Wd K M Z H) : ∀ {vs : List (Str × V)} {fs fs' : List (Str × D)}, FzF M M' fs fs' → RepF K M Z H vs fs → RepF K M' Z H vs fs'
  | _, _, _, .nil, .nil => .nil
  | _, _, _, .cons f t, .cons r u => .cons (f.rep l w r) (FzF.rep l w t u)
end
end DL
namespace DL
open PySem PySem.Spec PyProof.Rows L2
theorem perm_map {α β : Type} {f : α → β} {a b : List β} (h : a.Perm b) : ∀ l : List α, b = l.map f → ∃ l' : List α, l'.Perm l ∧ a = l'.map f := by
  induction h with
  | nil =>
    intro l e
    cases l with
    | nil => exact ⟨[], .nil, rfl⟩
    | cons x l => cases e
  | cons x h ih =>
    intro l e
    cases l with
    | nil => cases e
    | cons y l =>
      obtain ⟨e1, e2⟩ := List.cons.inj e
      obtain ⟨l', h1, h2⟩ := ih l e2
      exact ⟨y :: l', h1.cons y, by rw [e1, h2]; rfl⟩
  | swap x y r =>
    intro l e
    match l, e with
    | p :: q :: l, e =>
      obtain ⟨e1, e2⟩ := List.cons.inj e
      obtain ⟨e3, e4⟩ := List.cons.inj e2
      exact ⟨q :: p :: l, .swap p q l, by rw [e1, e3, e4]; rfl⟩
  | trans h1 h2 ih1 ih2 =>
    intro l e
    obtain ⟨l1, p1, e1⟩ := ih2 l e
    obtain ⟨l2, p2, e2⟩ := ih1 l1 e1
    exact ⟨l2, p2.trans p1, e2⟩
section
variable {X : Cx} {ρ : Rho} {M : Mp} {Φ : D → Mp → Prop} {a b e o : Expr} {es : List Expr} {pos p apos : Pos}
theorem flat_rep {α : Type} (x : α) : ∀ n : Nat, (List.replicate n [x]).flatten = List.replicate n x
  | 0 => rfl
  | n + 1 => by rw [List.replicate_succ, List.flatten_cons, flat_rep x n, List.replicate_succ]; rfl
theorem reps_rep {K : PySem.W.Frag} {M : Mp} {Z : Zn} {H : Hp} {v : V} {d : D} (r : Rep K M Z H v d) : ∀ n : Nat, Reps K M Z H (List.replicate n v) (List.replicate n d)
  | 0 => .nil
  | n + 1 => by rw [List.replicate_succ, List.replicate_succ]; exact .cons r (reps_rep r n)
theorem we_repM (h : WE X ρ M a fun x M1 => WE X ρ M1 b fun y M2 => ∃ (d : D) (n : Nat), x = .lst [d] ∧ y = .int (n : Nat) ∧ n ≤ sizeLine ∧ ∀ q, M2 q = none → Φ (.ob q) (mset M2 q (.lst (List.replicate n d)))) : WE X ρ M (.BinOp a .Mult b pos) Φ := we_op op_rep (h.imp fun _ _ h => h.imp fun _ M2 h Z v u H Q w r1 r2 k => by
  obtain ⟨d, n, rfl, rfl, hz, h⟩ := h
  cases r2
  cases r1 with
  | lst h1 m1 r1 =>
    cases r1 with
    | cons r1 r2 =>
      cases r2
      have hs := sizeLine_eq
      refine ⟨_, _, _, rfl, rfl, h1, by omega, by omega, by rw [Int.toNat_natCast]; simp; exact hz, fun q hq => ?_⟩
      rw [Int.toNat_natCast, flat_rep]
      exact k _ (.ob q) _ (mset M2 q (.lst (List.replicate n d))) (Ext.newM w hq) (w.newM hq ⟨_, upd_same, (reps_rep r1 n).mono (Ext.newM w hq)⟩) (.ob q) (h q (w.fresh hq).1))
end
end DL
namespace PL
open PySem SX TL
theorem ex_bit {a : Nat} (h : a ≠ 0) : ∃ i, a.testBit i = true := by
  refine Classical.byContradiction fun n => h (Nat.eq_of_testBit_eq fun i => ?_)
  rw [Nat.zero_testBit]
  cases e : a.testBit i with
  | false => rfl
  | true => exact absurd ⟨i, e⟩ n
theorem and_bit {a b : Nat} : a &&& b ≠ 0 ↔ ∃ i, a.testBit i = true ∧ b.testBit i = true := by
  constructor
  · intro h
    obtain ⟨i, hi⟩ := ex_bit h
    rw [Nat.testBit_and, Bool.and_eq_true] at hi
    exact ⟨i, hi⟩
  · rintro ⟨i, h1, h2⟩ e
    have : (a &&& b).testBit i = true := by rw [Nat.testBit_and, h1, h2]; rfl
    rw [e, Nat.zero_testBit] at this; cases this
theorem bit_lt {S n i : Nat} (h : S < 2 ^ n) (hi : S.testBit i = true) : i < n := by
  by_cases c : i < n
  · exact c
  · have := Nat.testBit_lt_two_pow (Nat.lt_of_lt_of_le h (Nat.pow_le_pow_right (by decide) (show n ≤ i by omega)))
    rw [hi] at this; cases this
/-- the numbers of a set, listed -/
def SetL (S : Nat) (L : List Nat) : Prop := L.Nodup ∧ ∀ i, i ∈ L ↔ S.testBit i = true
theorem SetL.perm {S : Nat} {L L' : List Nat} (h : SetL S L) (p : L.Perm L') : SetL S L' := ⟨p.nodup_iff.mp h.1, fun i => p.mem_iff.symm.trans (h.2 i)⟩
theorem SetL.uniq {S : Nat} {L L' : List Nat} (h : SetL S L) (h' : SetL S L') : L.Perm L' := (List.perm_ext_iff_of_nodup h.1 h'.1).mpr fun x => (h.2 x).trans (h'.2 x).symm
theorem setL_of {S n : Nat} (h : S < 2 ^ n) : SetL S ((List.range n).filter fun i => S.testBit i) := ⟨List.nodup_range.filter _, fun i => by
  rw [List.mem_filter, List.mem_range]
  exact ⟨fun h => h.2, fun hi => ⟨bit_lt h hi, hi⟩⟩⟩
theorem setL_bits {L : List Nat} (h : L.Nodup) : SetL (bitsN L) L := ⟨h, fun i => by rw [bits_tb, decide_eq_true_iff]⟩
abbrev Sub (R S : Nat) : Prop := ∀ i, R.testBit i = true → S.testBit i = true
abbrev out (S R : Nat) : Nat := S - (S &&& R)
theorem setL_split {S : Nat} {r L : List Nat} (h : SetL S (r ++ L)) : SetL (bitsN r) r ∧ Sub (bitsN r) S ∧ SetL (out S (bitsN r)) L := by
  obtain ⟨nd, h⟩ := h
  obtain ⟨n1, n2, n3⟩ := List.nodup_append.mp nd
  refine ⟨setL_bits n1, fun i hi => ?_, n2, fun i => ?_⟩
  · rw [bits_tb, decide_eq_true_iff] at hi
    exact (h i).mp (List.mem_append_left _ hi)
  · rw [tb_sub, bits_tb, Bool.and_eq_true, ← h i, Bool.not_eq_true', decide_eq_false_iff_not, List.mem_append]
    constructor
    · exact fun hi => ⟨.inr hi, fun hr => n3 i hr i hi rfl⟩
    · rintro ⟨hi | hi, n⟩
      · exact absurd hi n
      · exact hi
theorem setL_join {S R : Nat} {r L : List Nat} (hr : SetL R r) (hs : Sub R S) (h : SetL (out S R) L) : SetL S (r ++ L) := by
  refine ⟨List.nodup_append.mpr ⟨hr.1, h.1, fun x hx y hy e => ?_⟩, fun i => ?_⟩
  · subst e
    have a := (hr.2 x).mp hx
    have b := (h.2 x).mp hy
    rw [tb_sub, a] at b
    simp at b
  · rw [List.mem_append, hr.2 i, h.2 i, tb_sub, Bool.and_eq_true, Bool.not_eq_true']
    constructor
    · rintro (h1 | h1)
      · exact hs i h1
      · exact h1.1
    · intro hi
      cases e : R.testBit i with
      | true => exact .inl rfl
      | false => exact .inr ⟨hi, rfl⟩
theorem out_lt {S R l : Nat} (hs : Sub R S) (hl : R.testBit l = true) : out S R < S := by
  have e : S &&& R ≠ 0 := and_bit.mpr ⟨l, hs l hl, hl⟩
  have : S &&& R ≤ S := Nat.and_le_left
  show S - (S &&& R) < S
  omega
theorem sub_next : ∀ (R w S : Nat), Sub R S → Sub w S → R < w → R ≤ (w - 1) &&& S := by
  intro R
  induction R using Nat.strongRecOn with
  | ind R ih =>
    intro w S hR hw hlt
    have d := Nat.and_div_two (a := w - 1) (b := S)
    have m := Nat.and_mod_two_eq_one (a := w - 1) (b := S)
    have half : ∀ {A : Nat}, Sub A S → Sub (A / 2) (S / 2) := fun {A} h i hi => by
      have := h (i + 1) (by rw [Nat.testBit_add_one]; exact hi)
      rw [Nat.testBit_add_one] at this; exact this
    have odd : ∀ {A : Nat}, Sub A S → A % 2 = 1 → S % 2 = 1 := fun {A} h ho => by
      have := h 0 (by rw [Nat.testBit_zero, ho]; rfl)
      rw [Nat.testBit_zero] at this; exact of_decide_eq_true this
    by_cases o : w % 2 = 1
    · have e1 : (w - 1) / 2 = w / 2 := by omega
      have e2 : (w / 2 &&& S / 2) = w / 2 := by
        refine Nat.eq_of_testBit_eq fun i => ?_
        rw [Nat.testBit_and]
        cases e : (w / 2).testBit i with
        | false => rfl
        | true => rw [half hw i e]; rfl
      rw [e1, e2] at d
      omega
    · have e1 : (w - 1) / 2 = w / 2 - 1 := by omega
      rw [e1] at d
      by_cases z : R = 0
      · omega
      have := ih (R / 2) (by omega) (w / 2) (S / 2) (half hR) (half hw) (by omega)
      by_cases ro : R % 2 = 1
      · have := m.mpr ⟨by omega, odd hR ro⟩
        omega
      · omega
section
variable (k : Nat → Nat → Bool)
def PathAt (S x : Nat) : Prop := ∃ L, SetL S (x :: L) ∧ br k (x :: L) = 0
def RowsC (S m : Nat) : Prop := ∃ Rs : List (List Nat), Rs.length = m ∧ (∀ r ∈ Rs, r ≠ [] ∧ br k r = 0) ∧ SetL S Rs.flatten
def Least (S v : Nat) : Prop := RowsC k S v ∧ ∀ m, RowsC k S m → v ≤ m
theorem Least.uniq {S v w : Nat} (h : Least k S v) (h' : Least k S w) : v = w := Nat.le_antisymm (h.2 _ h'.1) (h'.2 _ h.1)
theorem rows_take {S m l : Nat} (h : RowsC k S m) (hl : S.testBit l = true) : ∃ R x, PathAt k R x ∧ R.testBit l = true ∧ Sub R S ∧ 1 ≤ m ∧ RowsC k (out S R) (m - 1) := by
  obtain ⟨Rs, rfl, hr, hs⟩ := h
  obtain ⟨r, hrm, hlr⟩ := List.mem_flatten.mp ((hs.2 l).mpr hl)
  obtain ⟨A, B, rfl⟩ := List.append_of_mem hrm
  have pm : (A ++ r :: B).flatten.Perm (r ++ (A ++ B).flatten) := by
    rw [List.flatten_append, List.flatten_cons, List.flatten_append, ← List.append_assoc, ← List.append_assoc]
    exact List.perm_append_comm.append_right _
  obtain ⟨s1, s2, s3⟩ := setL_split (hs.perm pm)
  obtain ⟨rne, rb⟩ := hr r hrm
  cases r with
  | nil => exact absurd rfl rne
  | cons x r =>
    refine ⟨bitsN (x :: r), x, ⟨r, s1, rb⟩, by rw [bits_tb, decide_eq_true hlr], s2, ?_, A ++ B, ?_, fun z hz => hr z ?_, s3⟩
    · rw [List.length_append, List.length_cons]; omega
    · rw [List.length_append, List.length_append, List.length_cons]; omega
    · rcases List.mem_append.mp hz with hz | hz
      · exact List.mem_append_left _ hz
      · exact List.mem_append_right _ (List.mem_cons_of_mem _ hz)
theorem rows_put {S R x m : Nat} (h : PathAt k R x) (hs : Sub R S) (hr : RowsC k (out S R) m) : RowsC k S (m + 1) := by
  obtain ⟨L, h1, h2⟩ := h
  obtain ⟨Rs, rfl, a, b⟩ := hr
  refine ⟨(x :: L) :: Rs, rfl, fun r hr => ?_, ?_⟩
  · rcases List.mem_cons.mp hr with rfl | hr
    · exact ⟨List.cons_ne_nil _ _, h2⟩
    · exact a r hr
  · rw [List.flatten_cons]; exact setL_join h1 hs b
theorem rows_single {S : Nat} {L : List Nat} (h : SetL S L) : RowsC k S L.length := by
  refine ⟨L.map fun x => [x], List.length_map _, fun r hr => ?_, ?_⟩
  · obtain ⟨x, _, rfl⟩ := List.mem_map.mp hr
    exact ⟨List.cons_ne_nil _ _, rfl⟩
  · have : (L.map fun x => [x]).flatten = L := by
      clear h
      induction L with
      | nil => rfl
      | cons x r ih => rw [List.map_cons, List.flatten_cons, ih]; rfl
    rw [this]; exact h
/-- the best behind some of the sets: those above w were looked at -/
structure BestR (S n l w best : Nat) : Prop where
  le : best ≤ n
  got : best = n ∨ ∃ R x, Sub R S ∧ PathAt k R x ∧ 1 ≤ best ∧ RowsC k (out S R) (best - 1)
  all : ∀ R, Sub R S → w < R → R.testBit l = true → (∃ x, PathAt k R x) → ∀ v, Least k (out S R) v → best ≤ 1 + v
theorem BestR.start {S n l : Nat} : BestR k S n l S n := ⟨Nat.le_refl _, .inl rfl, fun R hR hlt _ _ v _ => by
  exfalso
  have : R ≤ S := by
    have e : S &&& R = R := Nat.eq_of_testBit_eq fun i => by
      rw [Nat.testBit_and]
      cases e : R.testBit i with
      | false => rw [Bool.and_false]
      | true => rw [hR i e]; rfl
    rw [← e]; exact Nat.and_le_left
  omega⟩
theorem BestR.step {S n l w best v : Nat} (h : BestR k S n l w best) (hw : Sub w S) (hx : ∃ x, PathAt k w x) (hv : Least k (out S w) v) : BestR k S n l ((w - 1) &&& S) (min best (1 + v)) := by
  refine ⟨Nat.le_trans (Nat.min_le_left _ _) h.le, ?_, fun R hR hlt hl hxR v' hv' => ?_⟩
  · by_cases c : best ≤ 1 + v
    · rw [Nat.min_eq_left c]; exact h.got
    · rw [Nat.min_eq_right (by omega)]
      obtain ⟨x, hx⟩ := hx
      exact .inr ⟨w, x, hw, hx, by omega, by rw [Nat.add_sub_cancel_left]; exact hv.1⟩
  · by_cases e : R < w
    · have := sub_next R w S hR hw e; omega
    · by_cases e2 : R = w
      · subst e2
        rw [hv.uniq k hv']; exact Nat.min_le_right _ _
      · exact Nat.le_trans (Nat.min_le_left _ _) (h.all R hR (by omega) hl hxR v' hv')
theorem BestR.done {S n l best : Nat} (hS : S < 2 ^ n) (hl : S.testBit l = true) (hL : ∀ S', S' < S → ∃ v, Least k S' v) (h : BestR k S n l 0 best) : Least k S best := by
  have lo : ∀ m, RowsC k S m → best ≤ m := fun m hm => by
    obtain ⟨R, x, p, hRl, hs, m1, hr⟩ := rows_take k hm hl
    obtain ⟨v, hv⟩ := hL _ (out_lt hs hRl)
    have R0 : 0 < R := by
      refine Nat.pos_of_ne_zero fun e => ?_
      rw [e, Nat.zero_testBit] at hRl; cases hRl
    have := h.all R hs R0 hRl ⟨x, p⟩ v hv
    have := hv.2 _ hr
    omega
  refine ⟨?_, lo⟩
  rcases h.got with e | ⟨R, x, hs, p, b1, hr⟩
  · have hs := setL_of hS
    have r := rows_single k hs
    have a := lo _ r
    have b : ((List.range n).filter fun i => S.testBit i).length ≤ n := by
      have := List.length_filter_le (fun i => S.testBit i) (List.range n)
      rwa [List.length_range] at this
    have e2 : best = ((List.range n).filter fun i => S.testBit i).length := by omega
    rw [e2]; exact r
  · have := rows_put k p hs hr
    rw [Nat.sub_add_cancel b1] at this; exact this
end
def kT (t : T) (i j : Nat) : Bool := knowsB t (gp t i) (gp t j)
theorem gp_allK (t : T) : (List.range (persL t).length).map (gp t) = persL t := by
  refine List.ext_getElem (by simp) fun i h1 h2 => ?_
  simp [gp, List.getD_eq_getElem?_getD, h2]
theorem full_iff {n : Nat} {L : List Nat} : SetL (2 ^ n - 1) L ↔ L.Perm (List.range n) := by
  have tb : ∀ i, (2 ^ n - 1).testBit i = decide (i < n) := fun i => Nat.testBit_two_pow_sub_one n i
  have : SetL (2 ^ n - 1) (List.range n) := ⟨List.nodup_range, fun i => by rw [List.mem_range, tb, decide_eq_true_iff]⟩
  exact ⟨fun h => h.uniq this, fun h => this.perm h.symm⟩
theorem to_nums {t : T} {L : List (List Nat)} (h : L.Perm (persL t)) : ∃ M, SetL (2 ^ (persL t).length - 1) M ∧ L = M.map (gp t) := by
  obtain ⟨M, h1, h2⟩ := DL.perm_map (f := gp t) h (List.range (persL t).length) (gp_allK t).symm
  exact ⟨M, full_iff.mpr h1, h2⟩
theorem of_nums {t : T} {M : List Nat} (h : SetL (2 ^ (persL t).length - 1) M) : (M.map (gp t)).Perm (persL t) := by
  have := (full_iff.mp h).map (gp t)
  rw [gp_allK] at this; exact this
theorem br_nums (t : T) (M : List Nat) : br (knowsB t) (M.map (gp t)) = br (kT t) M := br_map (knowsB t) (kT t) (gp t) M fun x _ y _ => rfl
end PL
namespace PL
open PySem SX TL
section
variable {κ : Type} [DecidableEq κ]
def getA (es : List (κ × Nat)) (k : κ) : Option Nat := (es.find? fun q => decide (q.1 = k)).map (·.2)
def putA (es : List (κ × Nat)) (k : κ) (v : Nat) : List (κ × Nat) := if (es.any fun q => decide (q.1 = k)) = true then es.map (fun q => if q.1 = k then (q.1, v) else q) else es ++ [(k, v)]
theorem getA_nil {k : κ} : getA ([] : List (κ × Nat)) k = none := rfl
theorem getA_cons {e : κ × Nat} {es : List (κ × Nat)} {k : κ} : getA (e :: es) k = if e.1 = k then some e.2 else getA es k := by
  unfold getA
  by_cases h : e.1 = k
  · rw [List.find?_cons_of_pos (by simpa using h), if_pos h]; rfl
  · rw [List.find?_cons_of_neg (by simpa using h), if_neg h]
theorem getA_app {es fs : List (κ × Nat)} {k : κ} : getA (es ++ fs) k = (getA es k).or (getA fs k) := by
  induction es with
  | nil => rw [List.nil_append, getA_nil, Option.none_or]
  | cons e es ih =>
    rw [List.cons_append, getA_cons, getA_cons, ih]
    split
    · rfl
    · rfl
theorem getA_none {es : List (κ × Nat)} {k : κ} (h : ¬ (es.any fun q => decide (q.1 = k)) = true) : getA es k = none := by
  induction es with
  | nil => rfl
  | cons e es ih =>
    rw [List.any_cons, Bool.or_eq_true, decide_eq_true_iff, not_or] at h
    rw [getA_cons, if_neg h.1, ih h.2]
theorem getA_put (es : List (κ × Nat)) (k j : κ) (v : Nat) : getA (putA es k v) j = if j = k then some v else getA es j := by
  unfold putA
  split
  · rename_i h
    by_cases hj : j = k
    · subst hj
      rw [if_pos rfl]
      induction es with
      | nil => cases h
      | cons e es ih =>
        rw [List.map_cons, getA_cons]
        by_cases h1 : e.1 = j
        · rw [if_pos h1, if_pos h1]
        · rw [List.any_cons, decide_eq_false h1, Bool.false_or] at h
          rw [if_neg h1, if_neg h1, ih h]
    · rw [if_neg hj]
      clear h
      induction es with
      | nil => rfl
      | cons e es ih =>
        rw [List.map_cons, getA_cons, getA_cons, ih]
        by_cases h1 : e.1 = k
        · rw [if_pos h1]
          show (if e.1 = j then some v else _) = _
          have hne : ¬ e.1 = j := fun z => hj (z.symm.trans h1)
          rw [if_neg hne, if_neg hne]
        · rw [if_neg h1]
  · rename_i h
    rw [getA_app]
    by_cases e : j = k
    · subst e
      rw [getA_none h, Option.none_or, getA_cons, if_pos rfl, if_pos rfl]
    · rw [if_neg e, getA_cons, if_neg (fun z => e z.symm), getA_nil, Option.or_none]
theorem putA_mem {es : List (κ × Nat)} {k : κ} {v : Nat} {q : κ × Nat} (h : q ∈ putA es k v) : q ∈ es ∨ q = (k, v) := by
  unfold putA at h
  split at h
  · obtain ⟨r, hr, e⟩ := List.mem_map.mp h
    by_cases c : r.1 = k
    · rw [if_pos c] at e
      exact .inr (by rw [← e, c])
    · rw [if_neg c] at e
      exact .inl (e ▸ hr)
  · rcases List.mem_append.mp h with h | h
    · exact .inl h
    · exact .inr (List.mem_singleton.mp h)
theorem putA_len (es : List (κ × Nat)) (k : κ) (v : Nat) : (putA es k v).length ≤ es.length + 1 := by
  unfold putA
  split
  · rw [List.length_map]; omega
  · rw [List.length_append]; simp
theorem getA_mem {es : List (κ × Nat)} {k : κ} {v : Nat} (h : getA es k = some v) : (k, v) ∈ es := by
  induction es with
  | nil => cases h
  | cons e es ih =>
    rw [getA_cons] at h
    by_cases c : e.1 = k
    · rw [if_pos c] at h
      rw [← Option.some.inj h, ← c]; exact List.mem_cons_self
    · rw [if_neg c] at h
      exact List.mem_cons_of_mem _ (ih h)
/-- one candidate is put in -/
structure Rlx (es : List (κ × Nat)) (g : κ) (c : Nat) (es' : List (κ × Nat)) : Prop where
  mem : ∀ q ∈ es', q ∈ es ∨ q = (g, c)
  new : ∃ v, getA es' g = some v ∧ v ≤ c
  old : ∀ k v, getA es k = some v → ∃ v', getA es' k = some v' ∧ v' ≤ v
  len : es'.length ≤ es.length + 1
theorem rlx_put {es : List (κ × Nat)} {g : κ} {c : Nat} (h : ∀ v, getA es g = some v → c ≤ v) : Rlx es g c (putA es g c) :=
  ⟨fun q hq => putA_mem hq, ⟨c, by rw [getA_put, if_pos rfl], Nat.le_refl _⟩, fun k v hk => by
    rw [getA_put]
    by_cases e : k = g
    · subst e; exact ⟨c, if_pos rfl, h v hk⟩
    · exact ⟨v, by rw [if_neg e]; exact hk, Nat.le_refl _⟩, putA_len _ _ _⟩
theorem rlx_less {es : List (κ × Nat)} {g : κ} {c n : Nat} (hn : c < n) : Rlx es g c (if c < (getA es g).getD n then putA es g c else es) := by
  by_cases h : c < (getA es g).getD n
  · rw [if_pos h]
    exact rlx_put fun v hv => by rw [hv] at h; exact Nat.le_of_lt h
  · rw [if_neg h]
    refine ⟨fun q hq => .inl hq, ?_, fun k v hk => ⟨v, hk, Nat.le_refl _⟩, Nat.le_succ _⟩
    cases e : getA es g with
    | none => rw [e] at h; exact absurd hn h
    | some v => rw [e] at h; exact ⟨v, rfl, Nat.le_of_not_lt h⟩
theorem rlx_min {es : List (κ × Nat)} {g : κ} {c n : Nat} (hn : c ≤ n) : Rlx es g c (putA es g (min c ((getA es g).getD n))) := by
  cases e : getA es g with
  | none =>
    show Rlx es g c (putA es g (min c n))
    rw [Nat.min_eq_left hn]
    exact rlx_put fun v hv => by rw [e] at hv; cases hv
  | some u =>
    show Rlx es g c (putA es g (min c u))
    refine ⟨fun q hq => ?_, ⟨_, by rw [getA_put, if_pos rfl], Nat.min_le_left _ _⟩, fun k v hk => ?_, putA_len _ _ _⟩
    · rcases putA_mem hq with h | h
      · exact .inl h
      · rcases Nat.le_total c u with z | z
        · rw [Nat.min_eq_left z] at h; exact .inr h
        · rw [Nat.min_eq_right z] at h; exact .inl (h ▸ getA_mem e)
    · rw [getA_put]
      by_cases z : k = g
      · subst z
        rw [e] at hk
        rw [if_pos rfl]
        exact ⟨_, rfl, by rw [← Option.some.inj hk]; exact Nat.min_le_right _ _⟩
      · exact ⟨v, by rw [if_neg z]; exact hk, Nat.le_refl _⟩
/-- a table behind some candidates -/
structure Lat (S : κ → Nat → Prop) (L : List (κ × Nat)) (es : List (κ × Nat)) : Prop where
  snd : ∀ q ∈ es, S q.1 q.2
  cov : ∀ q ∈ L, ∃ v, getA es q.1 = some v ∧ v ≤ q.2
  len : es.length ≤ L.length
theorem Lat.nil {S : κ → Nat → Prop} : Lat S [] [] := ⟨fun q h => (by cases h), fun q h => (by cases h), Nat.le_refl _⟩
theorem Lat.step {S : κ → Nat → Prop} {L es es' : List (κ × Nat)} {g : κ} {c : Nat} (h : Lat S L es) (r : Rlx es g c es') (s : S g c) : Lat S (L ++ [(g, c)]) es' := by
  refine ⟨fun q hq => ?_, fun q hq => ?_, ?_⟩
  · rcases r.mem q hq with z | rfl
    · exact h.snd q z
    · exact s
  · rcases List.mem_append.mp hq with z | z
    · obtain ⟨v, h1, h2⟩ := h.cov q z
      obtain ⟨v', h3, h4⟩ := r.old _ _ h1
      exact ⟨v', h3, by omega⟩
    · rw [List.mem_singleton.mp z]; exact r.new
  · have := r.len
    have := h.len
    rw [List.length_append, List.length_singleton]; omega
end
def rowN (n : Nat) (M : List Nat) : List Bool := (List.range n).map fun i => decide (i ∈ M)
theorem rowN_len (n : Nat) (M : List Nat) : (rowN n M).length = n := by unfold rowN; rw [List.length_map, List.length_range]
theorem rowN_at {n i : Nat} {M : List Nat} (h : i < n) : (rowN n M)[i]? = some (decide (i ∈ M)) := by unfold rowN; rw [List.getElem?_map, List.getElem?_range h]; rfl
theorem rowN_set {n p : Nat} {M : List Nat} : (rowN n M).set p true = rowN n (p :: M) := by
  refine List.ext_getElem? fun i => ?_
  rw [List.getElem?_set]
  by_cases hi : i < n
  · by_cases e : p = i
    · subst e; rw [if_pos rfl, if_pos (by rw [rowN_len]; exact hi), rowN_at hi, decide_eq_true List.mem_cons_self]
    · rw [if_neg e, rowN_at hi, rowN_at hi]
      congr 1
      exact decide_eq_decide.mpr ⟨fun h => List.mem_cons_of_mem _ h, fun h => (List.mem_cons.mp h).elim (fun z => absurd z.symm e) id⟩
  · rw [List.getElem?_eq_none (by rw [rowN_len]; omega), List.getElem?_eq_none (l := rowN n (p :: M)) (by rw [rowN_len]; omega)]
    split
    · rw [if_neg (by rw [rowN_len]; omega)]
    · rfl
theorem rowN_cut {n p : Nat} {M : List Nat} (h : p < n) : (rowN n M).take p ++ [true] ++ (rowN n M).drop (p + 1) = rowN n (p :: M) := by
  rw [← rowN_set, List.set_eq_take_append_cons_drop, if_pos (by rw [rowN_len]; exact h), List.append_assoc]; rfl
def outsN (n : Nat) (M : List Nat) : List Nat := (List.range n).filter fun i => !decide (i ∈ M)
theorem outs_mem {n i : Nat} {M : List Nat} : i ∈ outsN n M ↔ i < n ∧ i ∉ M := by
  unfold outsN; rw [List.mem_filter, List.mem_range, Bool.not_eq_true', decide_eq_false_iff_not]
theorem nd_leM : ∀ {a b : List Nat}, a.Nodup → (∀ x ∈ a, x ∈ b) → a.length ≤ b.length
  | [], b, _, _ => Nat.zero_le _
  | x :: a, b, nd, h => by
    have hx := h x List.mem_cons_self
    have nd2 := List.nodup_cons.mp nd
    have := nd_leM (a := a) (b := b.erase x) nd2.2 fun y hy => (List.mem_erase_of_ne (fun e : y = x => nd2.1 (by rw [← e]; exact hy))).mpr (h y (List.mem_cons_of_mem _ hy))
    rw [List.length_erase_of_mem hx] at this
    have := List.length_pos_of_mem hx
    rw [List.length_cons]; omega
theorem nd_le (n : Nat) {M : List Nat} (nd : M.Nodup) (h : ∀ x ∈ M, x < n) : M.length ≤ n := by
  have := nd_leM nd (b := List.range n) fun x hx => List.mem_range.mpr (h x hx)
  rwa [List.length_range] at this
theorem nd_lt (n : Nat) {M : List Nat} {p : Nat} (nd : M.Nodup) (h : ∀ x ∈ M, x < n) (hp : p < n) (hn : p ∉ M) : M.length + 1 ≤ n := by
  have := nd_le n (M := p :: M) (List.nodup_cons.mpr ⟨hn, nd⟩) fun x hx => (List.mem_cons.mp hx).elim (fun e => e ▸ hp) (h x)
  rwa [List.length_cons] at this
/-- distinct numbers, so many of them -/
structure Seq (n L : Nat) (M : List Nat) : Prop where
  nd : M.Nodup
  lt : ∀ x ∈ M, x < n
  len : M.length = L
theorem Seq.put {n L p : Nat} {M : List Nat} (h : Seq n L M) (hp : p < n) (hn : p ∉ M) : Seq n (L + 1) (p :: M) :=
  ⟨List.nodup_cons.mpr ⟨hn, h.nd⟩, fun x hx => (List.mem_cons.mp hx).elim (fun e => e ▸ hp) (h.lt x), by rw [List.length_cons, h.len]⟩
theorem Seq.cut {n L p : Nat} {M : List Nat} (h : Seq n (L + 1) (p :: M)) : Seq n L M ∧ p < n ∧ p ∉ M := by
  obtain ⟨h1, h2⟩ := List.nodup_cons.mp h.nd
  refine ⟨⟨h2, fun x hx => h.lt x (List.mem_cons_of_mem _ hx), ?_⟩, h.lt p List.mem_cons_self, h1⟩
  have := h.len
  rw [List.length_cons] at this; omega
theorem Seq.le {n L : Nat} {M : List Nat} (h : Seq n L M) : L ≤ n := by rw [← h.len]; exact nd_le n h.nd h.lt
theorem flat_le {α β : Type} {f : α → List β} {n : Nat} : ∀ l : List α, (∀ x ∈ l, (f x).length ≤ n) → (l.flatMap f).length ≤ l.length * n
  | [], _ => by simp
  | x :: l, h => by
    have := flat_le l fun y hy => h y (List.mem_cons_of_mem _ hy)
    have := h x List.mem_cons_self
    rw [List.flatMap_cons, List.length_append, List.length_cons, Nat.succ_mul]; omega
section
variable (k : Nat → Nat → Bool) (n : Nat)
abbrev KR := List Bool × Nat
def SndR (L : Nat) (g : KR) (v : Nat) : Prop := ∃ M, Seq n L (g.2 :: M) ∧ g.1 = rowN n (g.2 :: M) ∧ 1 + br k (g.2 :: M) ≤ v ∧ v ≤ L
structure TabR (L : Nat) (es : List (KR × Nat)) : Prop where
  snd : ∀ q ∈ es, SndR k n L q.1 q.2
  cov : ∀ x M, Seq n L (x :: M) → ∃ v, getA es (rowN n (x :: M), x) = some v ∧ v ≤ 1 + br k (x :: M)
  len : es.length ≤ n ^ L
def outR (r : List Bool) : List Nat := (List.range n).filter fun i => !(r.getD i false)
theorem outR_row (M : List Nat) : outR n (rowN n M) = outsN n M := by
  unfold outR outsN
  refine List.filter_congr fun i hi => ?_
  rw [List.getD_eq_getElem?_getD, rowN_at (List.mem_range.mp hi)]; rfl
def candR (e : KR × Nat) (p : Nat) : KR × Nat := ((e.1.1.take p ++ [true] ++ e.1.1.drop (p + 1), p), e.2 + if k e.1.2 p = true then 0 else 1)
def candsR (e : KR × Nat) : List (KR × Nat) := (outR n e.1.1).map (candR k e)
theorem candsR_len (e : KR × Nat) : (candsR k n e).length ≤ n := by
  unfold candsR outR
  rw [List.length_map]
  have := List.length_filter_le (fun i => !(e.1.1.getD i false)) (List.range n)
  rwa [List.length_range] at this
theorem snd_cand (sy : ∀ i j, k i j = k j i) {L p : Nat} {e : KR × Nat} (h : SndR k n L e.1 e.2) (hp : p ∈ outR n e.1.1) : SndR k n (L + 1) (candR k e p).1 (candR k e p).2 ∧ (candR k e p).2 ≤ n := by
  obtain ⟨M, hs, hr, h1, h2⟩ := h
  rw [hr, outR_row, outs_mem] at hp
  have hs2 := hs.put hp.1 hp.2
  have hc : (candR k e p).2 ≤ L + 1 := by
    show e.2 + (if k e.1.2 p = true then 0 else 1) ≤ _
    split <;> omega
  refine ⟨⟨e.1.2 :: M, hs2, ?_, ?_, hc⟩, Nat.le_trans hc hs2.le⟩
  · show e.1.1.take p ++ [true] ++ e.1.1.drop (p + 1) = _
    rw [hr, rowN_cut hp.1]; rfl
  · show 1 + br k (p :: e.1.2 :: M) ≤ e.2 + if k e.1.2 p = true then 0 else 1
    rw [br_cc, sy p e.1.2]; omega
theorem TabR.step (sy : ∀ i j, k i j = k j i) {L : Nat} {es fs : List (KR × Nat)} (h : TabR k n L es) (hL : 1 ≤ L) (h2 : Lat (SndR k n (L + 1)) (es.flatMap (candsR k n)) fs) : TabR k n (L + 1) fs := by
  refine ⟨h2.snd, fun x M hs => ?_, ?_⟩
  · cases M with
    | nil => have := hs.len; simp at this; omega
    | cons y M =>
      obtain ⟨s1, s2, s3⟩ := hs.cut
      obtain ⟨v, g1, g2⟩ := h.cov y M s1
      have hm := getA_mem g1
      have hc : candR k ((rowN n (y :: M), y), v) x ∈ es.flatMap (candsR k n) := List.mem_flatMap.mpr ⟨_, hm, List.mem_map.mpr ⟨x, by rw [outR_row]; exact outs_mem.mpr ⟨s2, s3⟩, rfl⟩⟩
      obtain ⟨u, g3, g4⟩ := h2.cov _ hc
      refine ⟨u, ?_, Nat.le_trans g4 ?_⟩
      · rw [← g3]
        show _ = getA fs ((rowN n (y :: M)).take x ++ [true] ++ (rowN n (y :: M)).drop (x + 1), x)
        rw [rowN_cut s2]
      · show v + (if k y x = true then 0 else 1) ≤ _
        rw [br_cc, sy x y]; omega
  · have := h2.len
    have := flat_le (n := n) es fun e _ => candsR_len k n e
    have := Nat.mul_le_mul_right n h.len
    rw [Nat.pow_succ]; omega
theorem tabR_one {es : List (KR × Nat)} (h : Lat (SndR k n 1) ((List.range n).map fun p => ((rowN n [p], p), 1)) es) : TabR k n 1 es := by
  refine ⟨h.snd, fun x M hs => ?_, ?_⟩
  · cases M with
    | cons y M => have := hs.len; simp at this
    | nil =>
      obtain ⟨v, h1, h2⟩ := h.cov ((rowN n [x], x), 1) (List.mem_map.mpr ⟨x, List.mem_range.mpr (hs.lt x List.mem_cons_self), rfl⟩)
      exact ⟨v, h1, h2⟩
  · have := h.len
    rw [List.length_map, List.length_range] at this
    rw [Nat.pow_one]; exact this
theorem sndR_one {p : Nat} (h : p < n) : SndR k n 1 (rowN n [p], p) 1 := ⟨[], ⟨by simp, fun x hx => by rw [List.mem_singleton.mp hx]; exact h, rfl⟩, rfl, Nat.le_refl _, Nat.le_refl _⟩
def waitK (M : List Nat) (i : Nat) : Bool := (List.range n).any fun y => k i y && decide (y ∉ M)
def costK : List Nat → Nat
  | [] => 0
  | x :: M => max (costK M) (1 + M.countP (waitK k n M))
abbrev KH := List Bool
def SndH (L : Nat) (g : KH) (v : Nat) : Prop := ∃ M, Seq n L M ∧ g = rowN n M ∧ costK k n M ≤ v ∧ v ≤ n
structure TabH (L : Nat) (es : List (KH × Nat)) : Prop where
  snd : ∀ q ∈ es, SndH k n L q.1 q.2
  cov : ∀ M, Seq n L M → ∃ v, getA es (rowN n M) = some v ∧ v ≤ costK k n M
  len : es.length ≤ n ^ L
def thereR (r : List Bool) : List Nat := (List.range n).filter fun i => r.getD i false && ((outR n r).map fun y => k i y).any id
theorem perm_in {M : List Nat} (nd : M.Nodup) (h : ∀ x ∈ M, x < n) : ((List.range n).filter fun i => decide (i ∈ M)).Perm M := by
  refine (List.perm_ext_iff_of_nodup (List.Pairwise.filter _ List.nodup_range) nd).mpr fun i => ?_
  rw [List.mem_filter, List.mem_range, decide_eq_true_iff]
  exact ⟨fun z => z.2, fun z => ⟨h i z, z⟩⟩
theorem there_len {M : List Nat} (nd : M.Nodup) (h : ∀ x ∈ M, x < n) : (thereR k n (rowN n M)).length = M.countP (waitK k n M) := by
  rw [← (perm_in n nd h).countP_eq, List.countP_filter, List.countP_eq_length_filter]
  unfold thereR
  congr 1
  refine List.filter_congr fun i hi => ?_
  rw [List.getD_eq_getElem?_getD, rowN_at (List.mem_range.mp hi), outR_row]
  show (decide (i ∈ M) && _) = _
  rw [Bool.and_comm]
  congr 1
  refine Bool.eq_iff_iff.mpr ?_
  unfold waitK
  rw [List.any_map, List.any_eq_true, List.any_eq_true]
  constructor
  · rintro ⟨y, hy, e⟩
    have := outs_mem.mp hy
    exact ⟨y, List.mem_range.mpr this.1, by rw [Bool.and_eq_true]; exact ⟨e, decide_eq_true this.2⟩⟩
  · rintro ⟨y, hy, e⟩
    rw [Bool.and_eq_true] at e
    exact ⟨y, outs_mem.mpr ⟨List.mem_range.mp hy, of_decide_eq_true e.2⟩, e.1⟩
def candH (e : KH × Nat) (p : Nat) : KH × Nat := (e.1.take p ++ [true] ++ e.1.drop (p + 1), max e.2 ((thereR k n e.1).length + 1))
def candsH (e : KH × Nat) : List (KH × Nat) := (outR n e.1).map (candH k n e)
theorem candsH_len (e : KH × Nat) : (candsH k n e).length ≤ n := by
  unfold candsH outR
  rw [List.length_map]
  have := List.length_filter_le (fun i => !(e.1.getD i false)) (List.range n)
  rwa [List.length_range] at this
theorem snd_candH {L p : Nat} {e : KH × Nat} (h : SndH k n L e.1 e.2) (hp : p ∈ outR n e.1) : SndH k n (L + 1) (candH k n e p).1 (candH k n e p).2 ∧ (candH k n e p).2 ≤ n := by
  obtain ⟨M, hs, hr, h1, h2⟩ := h
  rw [hr, outR_row, outs_mem] at hp
  have hs2 := hs.put hp.1 hp.2
  have ht : (thereR k n e.1).length = M.countP (waitK k n M) := by rw [hr]; exact there_len k n hs.nd hs.lt
  have hM := nd_lt n hs.nd hs.lt hp.1 hp.2
  have hw : M.countP (waitK k n M) ≤ M.length := List.countP_le_length
  have hc : (candH k n e p).2 ≤ n := Nat.max_le.mpr ⟨h2, by rw [ht]; omega⟩
  refine ⟨⟨p :: M, hs2, ?_, ?_, hc⟩, hc⟩
  · show e.1.take p ++ [true] ++ e.1.drop (p + 1) = _
    rw [hr, rowN_cut hp.1]
  · show max (costK k n M) (1 + M.countP (waitK k n M)) ≤ max e.2 ((thereR k n e.1).length + 1)
    rw [ht]; omega
theorem TabH.step {L : Nat} {es fs : List (KH × Nat)} (h : TabH k n L es) (h2 : Lat (SndH k n (L + 1)) (es.flatMap (candsH k n)) fs) : TabH k n (L + 1) fs := by
  refine ⟨h2.snd, fun M hs => ?_, ?_⟩
  · cases M with
    | nil => have := hs.len; simp at this
    | cons x M =>
      obtain ⟨s1, s2, s3⟩ := hs.cut
      obtain ⟨v, g1, g2⟩ := h.cov M s1
      have hm := getA_mem g1
      have hc : candH k n (rowN n M, v) x ∈ es.flatMap (candsH k n) := List.mem_flatMap.mpr ⟨_, hm, List.mem_map.mpr ⟨x, by rw [outR_row]; exact outs_mem.mpr ⟨s2, s3⟩, rfl⟩⟩
      obtain ⟨u, g3, g4⟩ := h2.cov _ hc
      refine ⟨u, ?_, Nat.le_trans g4 ?_⟩
      · rw [← g3]
        show _ = getA fs ((rowN n M).take x ++ [true] ++ (rowN n M).drop (x + 1))
        rw [rowN_cut s2]
      · show max v ((thereR k n (rowN n M)).length + 1) ≤ max (costK k n M) (1 + M.countP (waitK k n M))
        rw [there_len k n s1.nd s1.lt]; omega
  · have := h2.len
    have := flat_le (n := n) es fun e _ => candsH_len k n e
    have := Nat.mul_le_mul_right n h.len
    rw [Nat.pow_succ]; omega
theorem tabH_zero : TabH k n 0 [(rowN n [], 0)] := by
  refine ⟨fun q hq => ?_, fun M hs => ?_, Nat.le_refl _⟩
  · rw [List.mem_singleton.mp hq]
    exact ⟨[], ⟨.nil, (fun x h => by cases h), rfl⟩, rfl, Nat.le_refl _, Nat.zero_le _⟩
  · have := List.length_eq_zero_iff.mp hs.len
    subst this
    exact ⟨0, by rw [getA_cons, if_pos rfl], Nat.le_refl _⟩
theorem rowN_nil : rowN n [] = List.replicate n false := by
  refine List.ext_getElem (by rw [rowN_len, List.length_replicate]) fun i h1 h2 => ?_
  unfold rowN
  simp
end
end PL
namespace PL
open PySem SX TL
theorem Seq.all {n : Nat} {M : List Nat} (h : Seq n n M) {i : Nat} (hi : i < n) : i ∈ M := Classical.byContradiction fun z => by
  have := nd_lt n h.nd h.lt hi z
  have := h.len
  omega
theorem Seq.perm {n : Nat} {M : List Nat} (h : Seq n n M) : M.Perm (List.range n) := (List.perm_ext_iff_of_nodup h.nd List.nodup_range).mpr fun i => ⟨fun z => List.mem_range.mpr (h.lt i z), fun z => h.all (List.mem_range.mp z)⟩
theorem seq_of_perm {n : Nat} {M : List Nat} (h : M.Perm (List.range n)) : Seq n n M := ⟨h.nodup_iff.mpr List.nodup_range, fun x hx => List.mem_range.mp (h.mem_iff.mp hx), by rw [h.length_eq, List.length_range]⟩
theorem br_congr {k k' : Nat → Nat → Bool} : ∀ L : List Nat, L.Nodup → (∀ x ∈ L, ∀ y ∈ L, x ≠ y → k x y = k' x y) → br k L = br k' L
  | [], _, _ => rfl
  | [x], _, _ => rfl
  | x :: y :: r, nd, h => by
    obtain ⟨h1, h2⟩ := List.nodup_cons.mp nd
    rw [br_cc, br_cc, br_congr (y :: r) h2 (fun a ha b hb => h a (List.mem_cons_of_mem _ ha) b (List.mem_cons_of_mem _ hb)), h x List.mem_cons_self y (List.mem_cons_of_mem _ List.mem_cons_self) (fun e => h1 (e ▸ List.mem_cons_self))]
section
variable {t : T} {k : Nat → Nat → Bool} {n : Nat}
theorem rows_end (ok : Ok t) (hn : (persL t).length = n) (hk : ∀ i j, i < n → j < n → i ≠ j → k i j = kT t i j) {es : List (KR × Nat)} (h : TabR k n n es) {m : Nat} (hm : m ∈ es.map (·.2)) (hmin : ∀ y ∈ es.map (·.2), m ≤ y) : m = rws t := by
  have bc : ∀ M, Seq n n M → br k M = br (kT t) M := fun M hs => br_congr M hs.nd fun x hx y hy hne => hk x y (hs.lt x hx) (hs.lt y hy) hne
  refine Nat.le_antisymm ?_ ?_
  · obtain ⟨L, h1, h2⟩ := up ok
    obtain ⟨M, h3, rfl⟩ := to_nums h1
    rw [hn] at h3
    have hs := seq_of_perm (full_iff.mp h3)
    have hp := ppl_pos ok.1
    have hl := persL_len ok.2.1
    cases M with
    | nil => have := hs.len; simp at this; omega
    | cons x M =>
      obtain ⟨v, g1, g2⟩ := h.cov x M hs
      rw [br_nums] at h2
      rw [bc _ hs] at g2
      have := hmin v (List.mem_map.mpr ⟨_, getA_mem g1, rfl⟩)
      omega
  · obtain ⟨q, hq, rfl⟩ := List.mem_map.mp hm
    obtain ⟨M, hs, _, h1, _⟩ := h.snd q hq
    have := low t ok.1 ok.2.1 _ (of_nums (M := q.1.2 :: M) (by rw [hn]; exact full_iff.mpr hs.perm))
    rw [br_nums] at this
    rw [bc _ hs] at h1
    omega
theorem wait_eq (ok : Ok t) (hn : (persL t).length = n) (hk : ∀ i j, i < n → j < n → i ≠ j → k i j = kT t i j) {M : List Nat} (lt : ∀ x ∈ M, x < n) {i : Nat} (hi : i ∈ M) : wait t (M.map (gp t)) (gp t i) = waitK k n M i := by
  unfold wait waitK
  rw [← gp_allK t, List.any_map, hn]
  refine Bool.eq_iff_iff.mpr ?_
  rw [List.any_eq_true, List.any_eq_true]
  have key : ∀ y ∈ List.range n, (((fun y => knowsB t (gp t i) y && decide (y ∉ M.map (gp t))) ∘ gp t) y = true ↔ (k i y && decide (y ∉ M)) = true) := fun y hy => by
    have hy := List.mem_range.mp hy
    show (knowsB t (gp t i) (gp t y) && decide (gp t y ∉ M.map (gp t))) = true ↔ _
    rw [Bool.and_eq_true, Bool.and_eq_true, decide_eq_true_iff, decide_eq_true_iff]
    have e : gp t y ∉ M.map (gp t) ↔ y ∉ M := not_congr ⟨fun h => by
      obtain ⟨z, hz, e⟩ := List.mem_map.mp h
      rw [← gp_inj ok (by rw [hn]; exact lt z hz) (by rw [hn]; exact hy) e]; exact hz, fun h => List.mem_map_of_mem h⟩
    rw [e]
    refine and_congr_left fun z => ?_
    rw [hk i y (lt i hi) hy (fun e => z (e ▸ hi))]; rfl
  exact exists_congr fun y => and_congr_right fun hy => key y hy
theorem cost_eq (ok : Ok t) (hn : (persL t).length = n) (hk : ∀ i j, i < n → j < n → i ≠ j → k i j = kT t i j) : ∀ M : List Nat, (∀ x ∈ M, x < n) → costT t (M.map (gp t)) = costK k n M
  | [], _ => rfl
  | x :: M, lt => by
    have lt2 : ∀ x ∈ M, x < n := fun y hy => lt y (List.mem_cons_of_mem _ hy)
    rw [List.map_cons, costT, costK, cost_eq ok hn hk M lt2]
    unfold bdT
    rw [List.countP_map]
    congr 2
    exact List.countP_congr fun i hi => by
      show wait t (M.map (gp t)) (gp t i) = true ↔ _
      rw [wait_eq ok hn hk lt2 hi]
theorem hall_end (ok : Ok t) (hn : (persL t).length = n) (hk : ∀ i j, i < n → j < n → i ≠ j → k i j = kT t i j) {es : List (KH × Nat)} (h : TabH k n n es) {m : Nat} (hm : m ∈ es.map (·.2)) (hmin : ∀ y ∈ es.map (·.2), m ≤ y) : m = hal t := by
  refine Nat.le_antisymm ?_ ?_
  · obtain ⟨l, h1, h2, h3⟩ := cost_best ok
    have hp : l.Perm (persL t) := (List.perm_ext_iff_of_nodup h1 (nd_pers _ (Nat.le_refl _))).mpr fun x => (h2 x).trans ⟨fun z => is_pers_mem ok z, fun z => pers_of z⟩
    obtain ⟨M, g1, rfl⟩ := to_nums hp
    rw [hn] at g1
    have hs := seq_of_perm (full_iff.mp g1)
    obtain ⟨v, e1, e2⟩ := h.cov M hs
    rw [cost_eq ok hn hk M hs.lt] at h3
    have := hmin v (List.mem_map.mpr ⟨_, getA_mem e1, rfl⟩)
    omega
  · obtain ⟨q, hq, rfl⟩ := List.mem_map.mp hm
    obtain ⟨M, hs, _, h1, _⟩ := h.snd q hq
    have hp := of_nums (t := t) (M := M) (by rw [hn]; exact full_iff.mpr hs.perm)
    have := cost_ge _ (Nat.le_refl _) ok (hp.nodup_iff.mpr (nd_pers _ (Nat.le_refl _))) fun x => hp.mem_iff.trans ⟨fun z => pers_of z, fun z => is_pers_mem ok z⟩
    rw [cost_eq ok hn hk M hs.lt] at this
    omega
end
mutual
theorem mir_persN : ∀ t : T, persL (mir t) = persL t
  | .one => by rw [mir]
  | .name x => by rw [mir]
  | .cop s n t => by rw [mir, persL, persL, mir_persN t]
  | .row s ts => by rw [mir, persL, persL, mirs_persN 0 ts]
theorem mirs_persN : ∀ (k : Nat) (ts : List T), persR k (mirs ts) = persR k ts
  | _, [] => by rw [mirs]
  | k, t :: ts => by rw [mirs, persR, persR, mir_persN t, mirs_persN (k + 1) ts]
end
theorem clique_le {t : T} {S : List Nat} (nd : S.Nodup) (lt : ∀ i ∈ S, i < (persL t).length) (h : ∀ i ∈ S, ∀ j ∈ S, i ≠ j → kT t i j = true) : S.length ≤ crc t := by
  have h1 : (S.map fun i => rm t (gp t i)).Nodup := by
    unfold List.Nodup
    rw [List.pairwise_map]
    refine List.Pairwise.imp_of_mem (fun {i j} hi hj hn => ?_) nd
    exact rm_ne (gp_pers (lt i hi)) (gp_pers (lt j hj)) (h i hi j hj hn)
  have h2 := nd_leM h1 (b := List.range (crc t)) fun x hx => by
    obtain ⟨i, hi, rfl⟩ := List.mem_map.mp hx
    exact List.mem_range.mpr (rm_lt (gp_pers (lt i hi)))
  rw [List.length_map, List.length_range] at h2
  exact h2
theorem clique_best {t : T} (ok : Ok t) : ∃ S : List Nat, S.Nodup ∧ (∀ i ∈ S, i < (persL t).length) ∧ (∀ i ∈ S, ∀ j ∈ S, i ≠ j → kT t i j = true) ∧ S.length = crc t := by
  obtain ⟨g1, g2⟩ := ci_ok _ (Nat.le_refl _) ok.1 ok.2.1
  let nm : Nat → Nat := fun r => num t (ci t r)
  have hnm : ∀ r, r < crc t → (persL t)[nm r]? = some (ci t r) := fun r hr => pers_num ok (g1 r hr).1
  have hlt : ∀ r, r < crc t → nm r < (persL t).length := fun r hr => (List.getElem?_eq_some_iff.mp (hnm r hr)).1
  have hD : ∀ r, r < crc t → gp t (nm r) = ci t r := fun r hr => by unfold gp; rw [List.getD_eq_getElem?_getD, hnm r hr]; rfl
  have hinj : ∀ r r', r < crc t → r' < crc t → nm r = nm r' → r = r' := fun r r' h1 h2 e => by
    have e1 := hnm r h1
    rw [e, hnm r' h2] at e1
    have e2 := Option.some.inj e1
    rw [← (g1 r h1).2, ← (g1 r' h2).2, e2]
  have hl : ∀ {i}, i ∈ (List.range (crc t)).map nm → ∃ r, r < crc t ∧ i = nm r := fun {i} hi => by
    obtain ⟨r, hr, e⟩ := List.mem_map.mp hi
    exact ⟨r, List.mem_range.mp hr, e.symm⟩
  refine ⟨(List.range (crc t)).map nm, ?_, fun i hi => ?_, fun i hi j hj hne => ?_, by rw [List.length_map, List.length_range]⟩
  · unfold List.Nodup
    rw [List.pairwise_map]
    exact List.Pairwise.imp_of_mem (fun {i j} hi hj hn e => hn (hinj i j (List.mem_range.mp hi) (List.mem_range.mp hj) e)) List.nodup_range
  · obtain ⟨r, hr, rfl⟩ := hl hi
    exact hlt r hr
  · obtain ⟨r, hr, rfl⟩ := hl hi
    obtain ⟨r', hr', rfl⟩ := hl hj
    unfold kT
    rw [hD r hr, hD r' hr']
    exact g2 r r' hr hr' fun e => hne (by rw [e])
def numW (w : Bool) (t : T) : Nat := if w = true then crc t else stg t
theorem kT_mir {t : T} (ok : Ok t) {i j : Nat} (hi : i < (persL t).length) (hj : j < (persL t).length) (h : i ≠ j) : kT (mir t) i j = !kT t i j := by
  unfold kT
  have e : gp (mir t) = gp t := by
    funext i
    unfold gp
    rw [mir_persN]
  rw [e, mir_knows _ (gp_pers hi) (gp_pers hj), decide_eq_true (show gp t i ≠ gp t j from fun z => h (gp_inj ok hi hj z)), Bool.true_and]
theorem free_le {t : T} (ok : Ok t) {w : Bool} {S : List Nat} (nd : S.Nodup) (lt : ∀ i ∈ S, i < (persL t).length) (h : ∀ i ∈ S, ∀ j ∈ S, i ≠ j → kT t i j = w) : S.length ≤ numW w t := by
  cases w with
  | true => exact clique_le nd lt h
  | false =>
    show S.length ≤ stg t
    rw [← stg_mir]
    refine clique_le nd (by rw [mir_persN]; exact lt) fun i hi j hj hn => ?_
    rw [kT_mir ok (lt i hi) (lt j hj) hn, h i hi j hj hn]; rfl
theorem free_best {t : T} (ok : Ok t) (w : Bool) : ∃ S : List Nat, S.Nodup ∧ (∀ i ∈ S, i < (persL t).length) ∧ (∀ i ∈ S, ∀ j ∈ S, i ≠ j → kT t i j = w) ∧ S.length = numW w t := by
  cases w with
  | true => exact clique_best ok
  | false =>
    obtain ⟨S, h1, h2, h3, h4⟩ := clique_best (mir_Ok ok)
    rw [mir_persN] at h2
    refine ⟨S, h1, h2, fun i hi j hj hn => ?_, by rw [h4, stg_mir]; rfl⟩
    have := h3 i hi j hj hn
    rw [kT_mir ok (h2 i hi) (h2 j hj) hn] at this
    simpa using this
/-- all sets -/
def setsL : Nat → List (List Bool)
  | 0 => [[]]
  | n + 1 => (setsL n).map (· ++ [false]) ++ (setsL n).map (· ++ [true])
theorem sets_mem : ∀ {n : Nat} {r : List Bool}, r ∈ setsL n ↔ r.length = n
  | 0, r => by rw [setsL, List.mem_singleton, List.length_eq_zero_iff]
  | n + 1, r => by
    rw [setsL, List.mem_append, List.mem_map, List.mem_map]
    constructor
    · rintro (⟨q, hq, rfl⟩ | ⟨q, hq, rfl⟩) <;> rw [List.length_append, sets_mem.mp hq] <;> rfl
    · intro h
      have hne : r ≠ [] := fun e => by rw [e] at h; simp at h
      have e := List.dropLast_concat_getLast hne
      have hl : r.dropLast ∈ setsL n := sets_mem.mpr (by rw [List.length_dropLast, h]; rfl)
      cases hb : r.getLast hne with
      | false => exact .inl ⟨_, hl, by rw [hb] at e; exact e⟩
      | true => exact .inr ⟨_, hl, by rw [hb] at e; exact e⟩
theorem sets_len : ∀ n : Nat, (setsL n).length = 2 ^ n
  | 0 => rfl
  | n + 1 => by rw [setsL, List.length_append, List.length_map, List.length_map, sets_len n, Nat.pow_succ]; omega
def setOf (r : List Bool) : List Nat := (List.range r.length).filter fun i => r.getD i false
theorem setOf_mem {r : List Bool} {i : Nat} : i ∈ setOf r ↔ i < r.length ∧ r.getD i false = true := by unfold setOf; rw [List.mem_filter, List.mem_range]
theorem row_setOf (r : List Bool) : rowN r.length (setOf r) = r := by
  refine List.ext_getElem (rowN_len _ _) fun i h1 h2 => ?_
  have e := rowN_at (n := r.length) (M := setOf r) h2
  rw [List.getElem?_eq_getElem h1] at e
  rw [Option.some.inj e]
  have g : r.getD i false = r[i] := by rw [List.getD_eq_getElem?_getD, List.getElem?_eq_getElem h2]; rfl
  cases hb : r[i] with
  | true => exact decide_eq_true (setOf_mem.mpr ⟨h2, by rw [g, hb]⟩)
  | false => exact decide_eq_false fun m => by have := (setOf_mem.mp m).2; rw [g, hb] at this; cases this
theorem row_count {n : Nat} {S : List Nat} (nd : S.Nodup) (lt : ∀ i ∈ S, i < n) : (rowN n S).count true = S.length := by
  rw [← (perm_in n nd lt).length_eq, List.count, rowN, List.countP_map, List.countP_eq_length_filter]
  congr 1
  exact List.filter_congr fun i _ => by show (decide (i ∈ S) == true) = _; cases decide (i ∈ S) <;> rfl
def badR (bars : List (Nat × Nat)) (r : List Bool) : Bool := (bars.map fun q => r.getD q.1 false && r.getD q.2 false).any id
theorem most_end {t : T} (ok : Ok t) {n : Nat} (hn : (persL t).length = n) {w : Bool} {bars : List (Nat × Nat)} (hb : ∀ i j, i < j → j < n → ((i, j) ∈ bars ↔ kT t i j ≠ w)) (hin : ∀ q ∈ bars, q.1 < q.2 ∧ q.2 < n) {m : Nat} (hm : m ∈ ((setsL n).filter fun r => !badR bars r).map fun r => r.count true) (hmax : ∀ y ∈ ((setsL n).filter fun r => !badR bars r).map fun r => r.count true, y ≤ m) : m = numW w t := by
  have sy : ∀ i j, kT t i j = kT t j i := fun i j => knows_symm _ _ _
  have good : ∀ S : List Nat, (∀ i ∈ S, i < n) → (badR bars (rowN n S) = false ↔ ∀ i ∈ S, ∀ j ∈ S, i ≠ j → kT t i j = w) := fun S lt => by
    have gd : ∀ i, i < n → ((rowN n S).getD i false = true ↔ i ∈ S) := fun i hi => by
      rw [List.getD_eq_getElem?_getD, rowN_at hi]
      exact decide_eq_true_iff
    unfold badR
    rw [List.any_map, List.any_eq_false]
    constructor
    · intro h
      have one : ∀ i ∈ S, ∀ j ∈ S, i < j → kT t i j = w := fun i hi j hj hlt => Classical.byContradiction fun z => by
        have := h (i, j) ((hb i j hlt (lt j hj)).mpr z)
        refine this ?_
        show ((rowN n S).getD i false && (rowN n S).getD j false) = true
        rw [Bool.and_eq_true]
        exact ⟨(gd i (lt i hi)).mpr hi, (gd j (lt j hj)).mpr hj⟩
      intro i hi j hj hne
      rcases Nat.lt_or_gt_of_ne hne with z | z
      · exact one i hi j hj z
      · rw [sy]; exact one j hj i hi z
    · intro h q hq hc
      have hc : ((rowN n S).getD q.1 false && (rowN n S).getD q.2 false) = true := hc
      rw [Bool.and_eq_true] at hc
      have hq2 := hin q hq
      have m1 := (gd q.1 (by omega)).mp hc.1
      have m2 := (gd q.2 hq2.2).mp hc.2
      exact (hb q.1 q.2 hq2.1 hq2.2).mp hq (h _ m1 _ m2 (by omega))
  refine Nat.le_antisymm ?_ ?_
  · obtain ⟨r, hr, rfl⟩ := List.mem_map.mp hm
    obtain ⟨h1, h2⟩ := List.mem_filter.mp hr
    have hl := sets_mem.mp h1
    have e := row_setOf r
    rw [hl] at e
    have lt : ∀ i ∈ setOf r, i < n := fun i hi => by have := (setOf_mem.mp hi).1; omega
    have nd : (setOf r).Nodup := List.Pairwise.filter _ List.nodup_range
    rw [Bool.not_eq_true', ← e] at h2
    have hc := row_count nd lt
    rw [e] at hc
    show r.count true ≤ _
    rw [hc]
    exact free_le ok nd (by rw [hn]; exact lt) ((good _ lt).mp h2)
  · obtain ⟨S, nd, lt, h, hl⟩ := free_best ok w
    rw [hn] at lt
    rw [← hl, ← row_count nd lt]
    refine hmax _ (List.mem_map.mpr ⟨rowN n S, List.mem_filter.mpr ⟨sets_mem.mpr (rowN_len _ _), ?_⟩, rfl⟩)
    rw [(good S lt).mpr h]; rfl
theorem most_ne {t : T} (ok : Ok t) {n : Nat} (hn : (persL t).length = n) {bars : List (Nat × Nat)} : 0 < ((setsL n).filter fun r => !badR bars r).length := by
  refine List.length_pos_of_mem (a := rowN n []) (List.mem_filter.mpr ⟨sets_mem.mpr (rowN_len _ _), ?_⟩)
  have : badR bars (rowN n []) = false := by
    unfold badR
    rw [List.any_map, List.any_eq_false]
    intro q _ hc
    have hc : ((rowN n []).getD q.1 false && (rowN n []).getD q.2 false) = true := hc
    rw [Bool.and_eq_true, rowN_nil, List.getD_eq_getElem?_getD, List.getElem?_replicate] at hc
    have := hc.1
    split at this <;> cases this
  rw [this]; rfl
end PL
namespace DL
open PySem PySem.Spec PyProof.Rows L2
section
variable {X : Cx} {ρ : Rho} {M : Mp} {Φ : D → Mp → Prop} {Θ : Bool → Mp → Prop} {a b c e : Expr} {pos : Pos}
def valK (kvs : List (Key × D)) (k : Key) : Option D := (kvs.find? fun kv => decide (kv.1 = k)).map (·.2)
theorem RepK.val {K : PySem.W.Frag} {Z : Zn} {H : Hp} {k : Key} {d : D} : ∀ {vs : List (Key × V)} {ds : List (Key × D)}, RepK K M Z H vs ds → valK ds k = some d → ∃ v, valV vs k = some v ∧ Rep K M Z H v d
  | _, _, .nil, h => by simp [valK] at h
  | _, _, .cons (k := k') (v := v) (d := d') r t, h => by
    unfold valK at h
    unfold valV
    rw [List.find?_cons] at h ⊢
    by_cases hk : k' = k
    · rw [decide_eq_true hk] at h ⊢
      obtain rfl := Option.some.inj h
      exact ⟨v, rfl, r⟩
    · rw [decide_eq_false hk] at h ⊢
      exact RepK.val t h
end
end DL
namespace DL
open PySem PySem.Spec PyProof.Rows L2
def putKD (kvs : List (Key × D)) (k : Key) (d : D) : List (Key × D) := if (kvs.any fun kv => decide (kv.1 = k)) = true then kvs.map (fun kv => if kv.1 = k then (kv.1, d) else kv) else kvs ++ [(k, d)]
section
variable {K : PySem.W.Frag} {M : Mp} {Z : Zn} {H : Hp} {k : Key} {v : V} {d : D}
theorem RepK.length : ∀ {vs : List (Key × V)} {ds : List (Key × D)}, RepK K M Z H vs ds → vs.length = ds.length
  | _, _, .nil => rfl
  | _, _, .cons r t => by rw [List.length_cons, List.length_cons, RepK.length t]
theorem RepK.any : ∀ {vs : List (Key × V)} {ds : List (Key × D)}, RepK K M Z H vs ds → (vs.any fun kv => decide (kv.1 = k)) = ds.any fun kv => decide (kv.1 = k)
  | _, _, .nil => rfl
  | _, _, .cons r t => by rw [List.any_cons, List.any_cons, RepK.any t]
theorem RepK.snoc (r : Rep K M Z H v d) : ∀ {vs : List (Key × V)} {ds : List (Key × D)}, RepK K M Z H vs ds → RepK K M Z H (vs ++ [(k, v)]) (ds ++ [(k, d)])
  | _, _, .nil => .cons r .nil
  | _, _, .cons r1 t => .cons r1 (RepK.snoc r t)
theorem RepK.repl (r : Rep K M Z H v d) : ∀ {vs : List (Key × V)} {ds : List (Key × D)}, RepK K M Z H vs ds → RepK K M Z H (vs.map fun kv => if kv.1 = k then (kv.1, v) else kv) (ds.map fun kv => if kv.1 = k then (kv.1, d) else kv)
  | _, _, .nil => .nil
  | _, _, .cons (k := j) r1 t => by
    rw [List.map_cons, List.map_cons]
    by_cases e : j = k
    · simp only [if_pos e]; exact .cons r (RepK.repl r t)
    · simp only [if_neg e]; exact .cons r1 (RepK.repl r t)
theorem RepK.put {vs : List (Key × V)} {ds : List (Key × D)} (r : Rep K M Z H v d) (t : RepK K M Z H vs ds) : RepK K M Z H (putK vs k v) (putKD ds k d) := by
  unfold putK putKD
  rw [t.any]
  split
  · exact t.repl r
  · exact t.snoc r
end
section
variable {X : Cx} {ρ : Rho} {M : Mp} {Φ : D → Mp → Prop} {a b o i : Expr} {pos : Pos}
theorem we_disp3I {a1 b1 a2 b2 a3 b3 : Expr} {dp : Pos} (h : WE X ρ M a1 fun x1 M1 => WE X ρ M1 b1 fun y1 M2 => WE X ρ M2 a2 fun x2 M3 => WE X ρ M3 b2 fun y2 M4 => WE X ρ M4 a3 fun x3 M5 => WE X ρ M5 b3 fun y3 M6 => ∃ (k1 k2 k3 : Str) (n1 n2 n3 : Int), x1 = .str k1 ∧ y1 = .int n1 ∧ x2 = .str k2 ∧ y2 = .int n2 ∧ x3 = .str k3 ∧ y3 = .int n3 ∧ k1 ≠ k2 ∧ k1 ≠ k3 ∧ k2 ≠ k3 ∧ ∀ p, M6 p = none → Φ (.ob p) (mset M6 p (.dK [(.inr k1, .int n1), (.inr k2, .int n2), (.inr k3, .int n3)]))) :
    WE X ρ M (.Dict [some a1, some a2, some a3] [b1, b2, b3] dp) Φ := .mk fun {Z} σ H Q en w k => by
  refine eOf (pe_disp (pps_cons pe_sem pe_sem (pps_cons pe_sem pe_sem (pps_cons pe_sem pe_sem pps_nil))) rfl rfl (by simp) (by simp)) ?_
  intro t ht
  have zne := w.zne ht
  have xh : ExI M Z H M (hid Z t) (upd H t (.dK [])) := hide_x ht
  have wh : Wd X.K M (hid Z t) (upd H t (.dK [])) := hide_w w ht
  have en0 := en.monoI xh
  refine h.run σ _ _ en0 wh fun v1 x1 H1 M1 e1 w1 r1 hz => ?_
  refine hz.run σ H1 _ (en0.mono e1) w1 fun u1 y1 H2 M2 e2 w2 s1 hz => ?_
  have e12 := e1.trans e2
  refine hz.run σ H2 _ (en0.mono e12) w2 fun v2 x2 H3 M3 e3 w3 r2 hz => ?_
  have e13 := e12.trans e3
  refine hz.run σ H3 _ (en0.mono e13) w3 fun u2 y2 H4 M4 e4 w4 s2 hz => ?_
  have e14 := e13.trans e4
  refine hz.run σ H4 _ (en0.mono e14) w4 fun v3 x3 H5 M5 e5 w5 r3 hz => ?_
  have e15 := e14.trans e5
  refine hz.run σ H5 _ (en0.mono e15) w5 fun u3 y3 H6 M6 e6 w6 s3 hz => ?_
  have e16 := e15.trans e6
  obtain ⟨k1, k2, k3, n1, n2, n3, rfl, rfl, rfl, rfl, rfl, rfl, h12, h13, h23, hz⟩ := hz
  cases r1
  cases s1
  cases r2
  cases s2
  cases r3
  cases s3
  have hT : H6 t = some (.dK []) := (e16.2 t (.inr rfl)).1.trans upd_same
  refine ⟨hT, [(.inr k1, .int n1), (.inr k2, .int n2), (.inr k3, .int n3)], rfl, by simp, ?_⟩
  have em : mergeK [] [((.inr k1 : Key), V.int n1), (.inr k2, .int n2), (.inr k3, .int n3)] = [(.inr k1, .int n1), (.inr k2, .int n2), (.inr k3, .int n3)] := by
    simp [mergeK, putK, h12, h13, h23]
  rw [em]
  have mT : M6 t = none := (w6.2 t (.inr rfl)).1
  have xi : ExI M6 (hid Z t) H6 (mset M6 t (.dK [(.inr k1, .int n1), (.inr k2, .int n2), (.inr k3, .int n3)])) Z (upd H6 t (.dK [(.inr k1, .int n1), (.inr k2, .int n2), (.inr k3, .int n3)])) := fun b u q m => by
    have n : b ≠ t := fun e => m.2 (.inr e)
    exact ⟨by rw [upd_ne n]; exact q, by rw [mset_ne n]; exact m.1, fun z => m.2 (.inl z)⟩
  have x0 : ExI M Z H M6 (hid Z t) H6 := xh.trans e16.i
  refine k _ (.ob t) _ _ ⟨fun b u q m => ?_, fun b z => ?_⟩ ⟨fun c u e => ?_, fun b z => ?_⟩ (.ob t) (hz t mT)
  · obtain ⟨q1, m1⟩ := x0 b u q m
    exact xi b u q1 m1
  · have n := zne b z
    have := e16.2 b (.inl z)
    exact ⟨by rw [upd_ne n, this.1, upd_ne n], by rw [mset_ne n]; exact this.2⟩
  · by_cases hc : c = t
    · subst hc
      rw [mset_same] at e
      cases e
      exact ⟨_, upd_same, .cons (.int _) (.cons (.int _) (.cons (.int _) .nil))⟩
    · rw [mset_ne hc] at e
      exact (w6.1 c u e).stepI xi (upd_ne hc)
  · have n := zne b z
    obtain ⟨m, u, q⟩ := w6.2 b (.inl z)
    exact ⟨by rw [mset_ne n]; exact m, u, by rw [upd_ne n]; exact q⟩
/-- d[k] of a dict that changes -/
theorem we_dKgetO (hu : X.A.units + 1 < cLine) (h : WE X ρ M a fun x M1 => WE X ρ M1 b fun y M2 => ∃ q kvs k d, x = .ob q ∧ M2 q = some (.dK kvs) ∧ y = .str k ∧ valK kvs (.inr k) = some d ∧ Φ d M2) (hs : NoSl b := by exact fun _ _ => rfl) : WE X ρ M (.Subscript a b pos) Φ := .mk fun {Z} σ H Q en w k =>
  eOf (pe_dget hu pe_sem pe_sem hs) (bind2 h en w fun v u x y H2 M2 e2 w2 r1 r2 hz => by
    obtain ⟨q, kvs, z, d, rfl, hM, rfl, hv, hz⟩ := hz
    cases r1
    cases r2
    obtain ⟨vs, hq, rs⟩ := w2.1 q _ hM
    obtain ⟨v, h1, rv⟩ := rs.val hv
    exact ⟨_, v, rfl, by rw [← h1]; exact DGet.k (k := .inr z) hq, (k.step e2).now w2 rv hz⟩)
/-- d[k] = v -/
theorem wg_dputK {d : D} {Ω : Rho → Mp → Prop} (hu : X.A.units + 1 < cLine) (h : WE X ρ M o fun x M1 => WE X ρ M1 i fun y M2 => ∃ q kvs z, x = .ob q ∧ y = .str z ∧ M2 q = some (.dK kvs) ∧ kvs.length < sizeLine ∧ Ω ρ (mset M2 q (.dK (putKD kvs (.inr z) d))))
    (ha : ∀ v, assign (.Subscript o i pos) X.env v = (do
      let ov ← holding [v] (eval o X.env)
      let iv ← holding [v, ov] (eval i X.env)
      standAt pos
      holding [v, ov, iv] (setItem ov iv v)
      release [v, ov, iv] []) := by intro _; rfl) : WG X (.Subscript o i pos) d ρ M Ω := .mk fun {Z} σ H v Q en w r k =>
  gOf (pg_sub pe_sem pe_sem (set_dict hu) ha) (bind2 h en w fun v1 v2 x y H2 M2 e2 w2 r1 r2 hz => by
    obtain ⟨q, kvs, z, rfl, rfl, hM, hl, hz⟩ := hz
    cases r1
    cases r2
    obtain ⟨vs, hv, rs⟩ := w2.1 q _ hM
    refine ⟨q, _, rfl, DPut.k (k := .inr z) hv (by rw [rs.length]; exact hl), ?_⟩
    have x3 : Ext M2 _ H2 (mset M2 q (.dK (putKD kvs (.inr z) d))) (upd H2 q (.dK (putK vs (.inr z) v))) := Ext.put w2 hM
    exact k σ ρ _ _ (e2.trans x3) (w2.put hM ⟨_, upd_same, (rs.mono x3).put ((r.mono e2).mono x3)⟩) (en.mono (e2.trans x3)) hz)
end
end DL
namespace DL
open PySem PySem.Spec PyProof.Rows L2
theorem RepK.get {K : PySem.W.Frag} {M : Mp} {Z : Zn} {H : Hp} : ∀ {vs : List (Key × V)} {ds : List (Key × D)} {i : Nat} {k : Key} {d : D}, RepK K M Z H vs ds → ds[i]? = some (k, d) → ∃ v, vs[i]? = some (k, v) ∧ Rep K M Z H v d
  | _, _, _, _, _, .nil, e => by simp at e
  | _, _, 0, _, _, .cons r _, e => by simp at e; obtain ⟨rfl, rfl⟩ := e; exact ⟨_, rfl, r⟩
  | _, _, i + 1, k, d, .cons _ t, e => by
    obtain ⟨u, h1, h2⟩ := RepK.get (i := i) (d := d) t (by simpa using e)
    exact ⟨u, by simpa using h1, h2⟩
section
variable {X : Cx} {ρ : Rho} {M : Mp} {Φ : D → Mp → Prop} {Θ : Bool → Mp → Prop} {Ψ : DE} {a b o e f i tg : Expr} {ss : List Stmt} {pos apos p : Pos}
theorem frz_x {Z : Zn} {H : Hp} {q : Addr} {u : MO} {x : HO} (w : Wd X.K M Z H) (hq : M q = some u) : Ext M Z H (mdel M q) (upd H q x) := ⟨fun b o h m => by
    have n : b ≠ q := fun e => by have m := m.1; rw [e, hq] at m; cases m
    exact ⟨by rw [upd_ne n]; exact h, by rw [mdel_ne n]; exact m.1, m.2⟩, fun b z => ⟨upd_ne (w.zneM hq b z), mdel_ne (w.zneM hq b z)⟩⟩
theorem frz_w {Z : Zn} {H : Hp} {q : Addr} {u : MO} {x : HO} (w : Wd X.K M Z H) (hq : M q = some u) : Wd X.K (mdel M q) Z (upd H q x) := ⟨fun c v e => by
    by_cases hc : c = q
    · subst hc; rw [mdel_same] at e; cases e
    · rw [mdel_ne hc] at e
      exact (w.1 c v e).step (frz_x w hq) (upd_ne hc), fun b z => by
    obtain ⟨m, v, h⟩ := w.2 b z
    exact ⟨by rw [mdel_ne (w.zneM hq b z)]; exact m, v, by rw [upd_ne (w.zneM hq b z)]; exact h⟩⟩
def tFrz (t : TE) : TE := fun σ H Q => t σ H fun v H1 => ∃ d u, v = .ref d ∧ H1 d = some u ∧ Mut (some u) ∧ ∀ od, Q v (upd H1 d (.frz od u))
theorem pe_frz {t : TE} (h : PE X e t) : PE X e (tFrz t) := ⟨fun pins s σ H Q I hw => thn (h.run pins s σ H _ I hw) fun v s1 ⟨v', H1, I2, r, d, u, e1, hd, mu, q⟩ => by
  obtain ⟨od, I3⟩ := I2.lock hd mu
  exact ⟨v', _, I3, r, q od⟩⟩
end
end DL
namespace DL
open PySem PySem.Spec PyProof.Rows L2
mutual
/-- plain data as a key -/
def nkP : PyData → Option NestedKey
  | .none => some .none
  | .bool b => some (.num (if b = true then 1 else 0))
  | .int i => some (.num i)
  | .str x => some (.text x)
  | .tuple ds => (nkPs ds).map .tup
  | _ => none
def nkPs : List PyData → Option (List NestedKey)
  | [] => some []
  | d :: ds => (nkP d).bind fun k => (nkPs ds).map (k :: ·)
end
mutual
theorem nk_py : ∀ {d : D} {k : NestedKey}, nkD d = some k → ∃ p, toPy d = some p ∧ nkP p = some k
  | .non, k, h => ⟨.none, by simp [toPy], by rw [nkD] at h; rw [nkP]; exact h⟩
  | .bl b, k, h => ⟨.bool b, by simp [toPy], by rw [nkD] at h; rw [nkP]; exact h⟩
  | .int i, k, h => ⟨.int i, by simp [toPy], by rw [nkD] at h; rw [nkP]; exact h⟩
  | .str x, k, h => ⟨.str x, by simp [toPy], by rw [nkD] at h; rw [nkP]; exact h⟩
  | .tup ds, k, h => by
    rw [nkD] at h
    obtain ⟨ks, h1, rfl⟩ := Option.map_eq_some_iff.mp h
    obtain ⟨ps, e1, e2⟩ := nks_py h1
    exact ⟨.tuple ps, by rw [toPy, e1]; rfl, by rw [nkP, e2]; rfl⟩
  | .lst _, _, h => by simp [nkD] at h
  | .rol _, _, h => by simp [nkD] at h
  | .dK _, _, h => by simp [nkD] at h
  | .dT _, _, h => by simp [nkD] at h
  | .ins _ _, _, h => by simp [nkD] at h
  | .ty _, _, h => by simp [nkD] at h
  | .fn _, _, h => by simp [nkD] at h
  | .ob _, _, h => by simp [nkD] at h
  | .key _, _, h => by simp [nkD] at h
  | .fig _ _, _, h => by simp [nkD] at h
  | .exc _ _, _, h => by simp [nkD] at h
  | .lam _ _ _ _ _, _, h => by simp [nkD] at h
  | .fdK _, _, h => by simp [nkD] at h
  | .slo _ _, _, h => by simp [nkD] at h
theorem nks_py : ∀ {ds : List D} {ks : List NestedKey}, nkDs ds = some ks → ∃ ps, toPys ds = some ps ∧ nkPs ps = some ks
  | [], ks, h => ⟨[], by simp [toPys], by rw [nkDs] at h; rw [nkPs]; exact h⟩
  | d :: ds, ks, h => by
    rw [nkDs] at h
    obtain ⟨k, h1, h2⟩ := Option.bind_eq_some_iff.mp h
    obtain ⟨r, h3, rfl⟩ := Option.map_eq_some_iff.mp h2
    obtain ⟨p, e1, e2⟩ := nk_py h1
    obtain ⟨ps, e3, e4⟩ := nks_py h3
    exact ⟨p :: ps, by rw [toPys, e1, e3]; rfl, by rw [nkPs, e2, e4]; rfl⟩
end
mutual
theorem nested_of {h : Heap} : ∀ {p : PyData} {u : Value} {as : List Addr} {k : NestedKey}, Reads h u p as → nkP p = some k → NestedIs h k u
  | .none, _, _, _, r, e => by cases r; rw [nkP] at e; cases e; exact .none
  | .bool b, _, _, _, r, e => by cases r; rw [nkP] at e; cases e; exact .bool rfl
  | .int i, _, _, _, r, e => by cases r; rw [nkP] at e; cases e; exact .int _ _
  | .str x, _, _, _, r, e => by cases r; rw [nkP] at e; cases e; exact .text _ _
  | .tuple ds, _, _, _, r, e => by
    rw [nkP] at e
    obtain ⟨ks, e1, rfl⟩ := Option.map_eq_some_iff.mp e
    cases r with
    | tuple h1 h2 h3 r => exact .tup h1 h2 h3 (nesteds_of r e1)
  | .list _, _, _, _, _, e => by simp [nkP] at e
  | .dict _, _, _, _, _, e => by simp [nkP] at e
theorem nesteds_of {h : Heap} : ∀ {ps : List PyData} {us : List Value} {as : List Addr} {ks : List NestedKey}, ReadsAll h us ps as → nkPs ps = some ks → NestedAll h ks us
  | [], _, _, _, r, e => by cases r; rw [nkPs] at e; cases e; exact .nil
  | p :: ps, _, _, _, r, e => by
    rw [nkPs] at e
    obtain ⟨k, e1, e2⟩ := Option.bind_eq_some_iff.mp e
    obtain ⟨r2, e3, rfl⟩ := Option.map_eq_some_iff.mp e2
    cases r with
    | cons ra rb => exact .cons (nested_of ra e1) (nesteds_of rb e3)
end
/-- the tuple at b is the key k -/
def KyN (K : PySem.W.Frag) (H : Hp) (k : NestedKey) (b : Addr) : Prop := k.depth ≤ 8 ∧ ∃ p, Dp K H (.ref b) p ∧ nkP p = some k
def KysN (K : PySem.W.Frag) (H : Hp) (xs : List (NestedKey × Addr × V)) : Prop := ∀ x ∈ xs, KyN K H x.1 x.2.1
def valN (xs : List (NestedKey × Addr × V)) (k : NestedKey) : Option V := (xs.find? fun x => decide (x.1 = k)).map (·.2.2)
def putN (xs : List (NestedKey × Addr × V)) (k : NestedKey) (b : Addr) (v : V) : List (NestedKey × Addr × V) := if (xs.any fun x => decide (x.1 = k)) = true then xs.map (fun x => if x.1 = k then (x.1, x.2.1, v) else x) else xs ++ [(k, b, v)]
abbrev PrN : NestedKey × Addr × V → NestedKey × Addr × Value → Prop := fun p q => p.1 = q.1 ∧ p.2.1 = q.2.1 ∧ RelV p.2.2 q.2.2
theorem paired_at {α β : Type} {F : α → β → Prop} {l : List α} {m : List β} (r : Paired F l m) : ∀ {j : Nat} {x : β}, m[j]? = some x → ∃ y, l[j]? = some y ∧ F y x := by
  induction r with
  | nil => intro j x h; simp at h
  | cons h t ih =>
    intro j x e
    cases j with
    | zero => simp at e; subst e; exact ⟨_, rfl, h⟩
    | succ j =>
      obtain ⟨y, h1, h2⟩ := ih (by simpa using e)
      exact ⟨y, by simpa using h1, h2⟩
theorem paired_to {α β : Type} {F : α → β → Prop} {l : List α} {m : List β} (r : Paired F l m) : ∀ {j : Nat} {x : α}, l[j]? = some x → ∃ y, m[j]? = some y ∧ F x y := by
  induction r with
  | nil => intro j x h; simp at h
  | cons h t ih =>
    intro j x e
    cases j with
    | zero => simp at e; subst e; exact ⟨_, rfl, h⟩
    | succ j =>
      obtain ⟨y, h1, h2⟩ := ih (by simpa using e)
      exact ⟨y, by simpa using h1, h2⟩
section
variable {X : Cx} {pins : List (Addr × Obj)} {σ : L2.St} {H : Hp} {s : Shared} {a : Addr} {xs : List (NestedKey × Addr × V)}
theorem kyN_is (I : Inv X pins σ H s) {k : NestedKey} {b : Addr} (h : KyN X.K H k b) : (nestedKind X.prog X.w).is s.heap k b := by
  obtain ⟨hd, p, dp, e⟩ := h
  obtain ⟨as, r⟩ := Dp.reads I p (.ref b) (.ref b) dp rfl
  exact ⟨nested_of r e, hd⟩
theorem dn_at (I : Inv X pins σ H s) (h : H a = some (DNo X.w a xs)) (hk : KysN X.K H xs) : xs.length ≤ sizeLine ∧ (a == sysModules) = false ∧ ∃ ys, Paired PrN xs ys ∧ s.heap.DictOfH (nestedKind X.prog X.w) a ys := by
  obtain ⟨⟨z, hs, ys, pr, o, es, ep, ho, hx, hd, he, hn⟩, _, _⟩ := I.hok a _ h
  refine ⟨z, hs, ys, pr, o, es, ep, ho, hx, hd, he, fun y hy => ?_, hn⟩
  obtain ⟨i, hi⟩ := List.mem_iff_getElem?.mp hy
  obtain ⟨x, hxi, e1, e2, _⟩ := paired_at pr hi
  rw [← e1, ← e2]
  exact kyN_is I (hk x (List.mem_of_getElem? hxi))
theorem dn_ok {P : Program} {w : World} {H' : Hp} {h' : Heap} {ys : List (NestedKey × Addr × Value)} (z : xs.length ≤ sizeLine) (hs : (a == sysModules) = false) (pr : Paired PrN xs ys) (dd : h'.DictOfH (nestedKind P w) a ys) : ObjOk P w H' h' a (DNo w a xs) := by
  obtain ⟨o, es, ep, ho, hx, hd, he, _, hn⟩ := dd
  refine ⟨⟨z, hs, ys, pr, o, es, ep, ho, hx, hd, he, hn⟩, ⟨o, ho⟩, ?_⟩
  rintro h1 h2 ⟨z, hs, ys, pr, o, es, ep, ho, r⟩ k
  exact ⟨z, hs, ys, pr, o, es, ep, k o ho, r⟩
end
theorem relN_val {k : NestedKey} {xs : List (NestedKey × Addr × V)} {ys : List (NestedKey × Addr × Value)} (r : Paired PrN xs ys) : RelO (valN xs k) ((atKey ys k).map (·.2)) := by
  induction r with
  | nil => exact trivial
  | @cons x y xs ys h t ih =>
    obtain ⟨e1, e2, e3⟩ := h
    unfold valN atKey at ih ⊢
    by_cases e : x.1 = k
    · rw [List.find?_cons_of_pos (by simpa using e), List.find?_cons_of_pos (by rw [← e1]; simpa using e)]
      exact e3
    · rw [List.find?_cons_of_neg (by simpa using e), List.find?_cons_of_neg (by rw [← e1]; simpa using e)]
      exact ih
theorem relN_any {k : NestedKey} {xs : List (NestedKey × Addr × V)} {ys : List (NestedKey × Addr × Value)} (r : Paired PrN xs ys) : (atKey ys k).isSome = xs.any fun x => decide (x.1 = k) := by
  induction r with
  | nil => rfl
  | @cons x y xs ys h t ih =>
    obtain ⟨e1, e2, e3⟩ := h
    unfold atKey at ih ⊢
    rw [List.any_cons]
    by_cases e : x.1 = k
    · rw [List.find?_cons_of_pos (by rw [← e1]; simpa using e), decide_eq_true e]; rfl
    · rw [List.find?_cons_of_neg (by rw [← e1]; simpa using e), decide_eq_false e, Bool.false_or]
      exact ih
theorem relN_map {k : NestedKey} {v : V} {u : Value} (ru : RelV v u) {xs : List (NestedKey × Addr × V)} {ys : List (NestedKey × Addr × Value)} (r : Paired PrN xs ys) : Paired PrN (xs.map fun x => if x.1 = k then (x.1, x.2.1, v) else x) (ys.map (putAt k u)) := by
  induction r with
  | nil => exact .nil
  | @cons x y xs ys h t ih =>
    obtain ⟨e1, e2, e3⟩ := h
    rw [List.map_cons, List.map_cons]
    refine .cons ?_ ih
    unfold putAt
    by_cases e : x.1 = k
    · rw [if_pos e, if_pos (by rw [← e1]; exact e)]; exact ⟨e1, e2, ru⟩
    · rw [if_neg e, if_neg (by rw [← e1]; exact e)]; exact ⟨e1, e2, e3⟩
theorem relN_snoc {x : NestedKey × Addr × V} {y : NestedKey × Addr × Value} (h : PrN x y) {xs : List (NestedKey × Addr × V)} {ys : List (NestedKey × Addr × Value)} (r : Paired PrN xs ys) : Paired PrN (xs ++ [x]) (ys ++ [y]) := by
  induction r with
  | nil => exact .cons h .nil
  | cons h1 t ih => exact .cons h1 ih
theorem relN_put {k : NestedKey} {b : Addr} {v : V} {u : Value} (ru : RelV v u) {xs : List (NestedKey × Addr × V)} {ys : List (NestedKey × Addr × Value)} (r : Paired PrN xs ys) : Paired PrN (putN xs k b v) (storedH ys k b u) := by
  unfold putN storedH
  rw [relN_any r]
  split
  · exact relN_map ru r
  · exact relN_snoc ⟨rfl, rfl, ru⟩ r
theorem putN_len (xs : List (NestedKey × Addr × V)) (k : NestedKey) (b : Addr) (v : V) : (putN xs k b v).length ≤ xs.length + 1 := by
  unfold putN
  split
  · rw [List.length_map]; omega
  · rw [List.length_append]; exact Nat.le_refl _
section
variable {X : Cx} {pins : List (Addr × Obj)} {σ : L2.St} {H : Hp} {s : Shared} {a b : Addr} {xs : List (NestedKey × Addr × V)} {k : NestedKey} {v : V} {u : Value} {A : Around} {E : Value → Shared → Prop}
/-- d[k] = v -/
theorem dn_set {Q : Unit → Shared → Prop} (hu : A.units + 9 < cLine) (I : Inv X pins σ H s) (h : H a = some (DNo X.w a xs)) (hk : KysN X.K H xs) (kb : KyN X.K H k b) (rv : RelV v u) (hl : xs.length < sizeLine) (hq : ∀ s', Inv X pins σ (upd H a (DNo X.w a (putN xs k b v))) s' → Q () s') :
    wpAny (model X.prog X.w) A (setItem (.ref a) (.ref b) u) Q E s := by
  obtain ⟨z, hs, ys, pr, dd⟩ := dn_at I h hk
  have hz : ys.length ≤ sizeLine := by have e := Paired.length pr; omega
  refine wpAny_setItem_heap (hsz := hz) (knd := nestedKind X.prog X.w) (show A.in1.units + 8 < cLine by show A.units + 1 + 8 < cLine; omega) (kyN_is I kb) dd fun h' dd' sb => hq _ ?_
  have he : ∃ q, h'.get? a = some q := let ⟨q, _, _, hq, _⟩ := dd'; ⟨q, hq⟩
  exact d_write I (by rw [h]; exact True.intro) sb he (dn_ok (by have := putN_len xs k b v; omega) hs (relN_put rv pr) dd')
/-- d.get(k, x) -/
theorem dn_get {r : Value} {d : V} {Q : Value → Shared → Prop} (hu : A.units + 9 < cLine) (I : Inv X pins σ H s) (h : H a = some (DNo X.w a xs)) (hk : KysN X.K H xs) (kb : KyN X.K H k b) (rd : RelV d r) (hq : ∀ w' s', Inv X pins σ H s' → RelV ((valN xs k).getD d) w' → Q w' s') :
    wpAny (model X.prog X.w) A (call (.builtin "dict.get") [.ref a, .ref b, r]) Q E s := by
  obtain ⟨z, hs, ys, pr, dd⟩ := dn_at I h hk
  refine call_meetsIn PySem.F.slot_dict_get dd.typeIs PySem.F.entry_dict_get (PySem.F.args_dict_get_3 _ _ _) (meetsH_dict_get_default (nestedKind X.prog X.w) a b hs r) ⟨show A.in1.units + 8 < cLine by show A.units + 1 + 8 < cLine; omega, k, ys, kyN_is I kb, dd, hq _ _ (I.tok _) ?_⟩
  exact (relN_val pr).getD rd
end
end DL
namespace DL
open PySem PySem.Spec PyProof.Rows L2
def valDN (kvs : List (D × D)) (k : NestedKey) : Option D := (kvs.find? fun q => decide (nkD q.1 = some k)).map (·.2)
def putDN (kvs : List (D × D)) (dk : D) (k : NestedKey) (d : D) : List (D × D) := if (kvs.any fun q => decide (nkD q.1 = some k)) = true then kvs.map (fun q => if nkD q.1 = some k then (q.1, d) else q) else kvs ++ [(dk, d)]
section
variable {K : PySem.W.Frag} {M : Mp} {Z : Zn} {H : Hp} {k : NestedKey} {d : D} {v : V}
theorem RepN.kys {xs : List (NestedKey × Addr × V)} {kvs : List (D × D)} (r : RepN K M Z H xs kvs) : KysN K H xs := by
  induction r with
  | nil => exact fun x h => (by cases h)
  | cons hk dp rk r t ih =>
    intro x hx
    rcases List.mem_cons.mp hx with rfl | hx
    · obtain ⟨p, e1, e2⟩ := nk_py hk
      exact ⟨dp, p, rk.dp e1, e2⟩
    · exact ih x hx
theorem RepN.length {xs : List (NestedKey × Addr × V)} {kvs : List (D × D)} (r : RepN K M Z H xs kvs) : xs.length = kvs.length := by
  induction r with
  | nil => rfl
  | cons hk dp rk r t ih => rw [List.length_cons, List.length_cons, ih]
theorem RepN.val {xs : List (NestedKey × Addr × V)} {kvs : List (D × D)} (r : RepN K M Z H xs kvs) : (valN xs k = none ∧ valDN kvs k = none) ∨ ∃ v d, valN xs k = some v ∧ valDN kvs k = some d ∧ Rep K M Z H v d := by
  induction r with
  | nil => exact .inl ⟨rfl, rfl⟩
  | @cons j a v dk d xs kvs hk dp rk r t ih =>
    unfold valN valDN at ih ⊢
    by_cases e : j = k
    · subst e
      rw [List.find?_cons_of_pos (by simp), List.find?_cons_of_pos (by simpa using hk)]
      exact .inr ⟨_, _, rfl, rfl, r⟩
    · rw [List.find?_cons_of_neg (by simpa using e), List.find?_cons_of_neg (by rw [hk]; simpa using e)]
      exact ih
theorem RepN.any {xs : List (NestedKey × Addr × V)} {kvs : List (D × D)} (r : RepN K M Z H xs kvs) : (xs.any fun x => decide (x.1 = k)) = kvs.any fun q => decide (nkD q.1 = some k) := by
  induction r with
  | nil => rfl
  | cons hk dp rk r t ih =>
    rw [List.any_cons, List.any_cons, ih, hk]
    congr 1
    exact decide_eq_decide.mpr ⟨fun e => congrArg some e, fun e => Option.some.inj e⟩
theorem RepN.put {xs : List (NestedKey × Addr × V)} {kvs : List (D × D)} {b : Addr} {dk : D} (hk : nkD dk = some k) (dp : k.depth ≤ 8) (rk : Rep K M Z H (.ref b) dk) (rv : Rep K M Z H v d) (r : RepN K M Z H xs kvs) : RepN K M Z H (putN xs k b v) (putDN kvs dk k d) := by
  unfold putN putDN
  rw [r.any]
  split
  · rename_i hh
    clear hh hk rk
    induction r with
    | nil => exact .nil
    | @cons j a v0 dk0 d0 xs kvs hk0 dp0 rk0 r0 t ih =>
      rw [List.map_cons, List.map_cons]
      by_cases e : j = k
      · subst e
        rw [if_pos rfl, if_pos hk0]
        exact .cons hk0 dp0 rk0 rv ih
      · rw [if_neg e, if_neg (fun z => e (Option.some.inj (hk0.symm.trans z)))]
        exact .cons hk0 dp0 rk0 r0 ih
  · rename_i hh
    clear hh
    induction r with
    | nil => exact .cons hk dp rk rv .nil
    | cons hk0 dp0 rk0 r0 t ih => exact .cons hk0 dp0 rk0 r0 ih
end
section
variable {X : Cx} {pos : Pos}
def tDNewN (w : World) : TE := fun _ H Q => ∀ p, H p = none → Q (.ref p) (upd H p (DNo w p []))
theorem pe_dnewN : PE X (.Dict [] [] pos) (tDNewN X.w) := ⟨fun pins s σ H Q I h => by
  have hs := (dt_empty (P := X.prog) (w := X.w) (H := H) s.heap I.big).2.1
  exact wpAny_Dict_empty ⟨.ref s.heap.objs.size, _, I.laid (a := s.heap.objs.size) (o := DNo X.w s.heap.objs.size []) (t' := s.toks) (fun _ _ q => Heap.get?_push_of_some _ q) (Nat.le_refl _) (dn_ok (Nat.zero_le _) hs .nil (Heap.DictOfH.new s.heap)), rfl, h _ (I.hok.fresh (Nat.le_refl _))⟩⟩
def rSetN (X : Cx) : TSet := fun o i v H Q => ∃ a b k xs, o = .ref a ∧ i = .ref b ∧ H a = some (DNo X.w a xs) ∧ KysN X.K H xs ∧ KyN X.K H k b ∧ xs.length < sizeLine ∧ Q (upd H a (DNo X.w a (putN xs k b v)))
theorem set_dictN (hu : X.A.units + 9 < cLine) : PSet X (rSetN X) := by
  intro pins s σ H o i v ov iv u Q I ro ri rv h
  obtain ⟨a, b, k, xs, rfl, rfl, ha, hk, kb, hl, q⟩ := h
  cases (show ov = Value.ref a from ro)
  cases (show iv = Value.ref b from ri)
  exact dn_set hu I ha hk kb rv hl fun s' I' => ⟨_, I', q⟩
def tDGetN (X : Cx) (td ty tx : TE) : TE := fun σ H Q => td σ H fun x H1 => ∃ a xs0, x = .ref a ∧ H1 a = some (DNo X.w a xs0) ∧ ty σ H1 fun y H2 => tx σ H2 fun z H3 => ∃ b k xs, y = .ref b ∧ H3 a = some (DNo X.w a xs) ∧ KysN X.K H3 xs ∧ KyN X.K H3 k b ∧ Q ((valN xs k).getD z) H3
theorem pe_dgetN {o e f : Expr} {apos cpos : Pos} {td ty tx : TE} (hu : X.A.units + 9 < cLine) (ho : PE X o td) (he : PE X e ty) (hf : PE X f tx) (m : M2 X o "get" apos e f cpos) : PE X (.Call (.Attribute o "get" apos) [e, f] [] cpos) (tDGetN X td ty tx) := ⟨fun pins s σ H Q I0 h0 => by
  refine wpAny_Call_method m.base m.few m.line PySem.F.plainAttrs_dict PySem.F.slot_dict_get PySem.F.type_dict_get (thn (ho.run pins s σ H _ I0 h0) fun u s1 ⟨x, H1, I1, rx, a, xs0, ex, ha, q1⟩ => ?_)
  subst ex
  cases (show u = Value.ref a from rx)
  obtain ⟨⟨_, _, ys, _, ob, es, ep, g1, g2, _⟩, _, _⟩ := I1.hok a _ ha
  refine ⟨⟨ob, g1, g2.1⟩, fun b q => by cases q; exact ⟨ob, g1, g2.2.1⟩, ?_⟩
  rw [m.trees]
  refine Calls.callWith_builtin rfl (Calls.evalArgs_plain (Calls.spliced_cons (thn (he.run pins s1 σ H1 _ I1 q1) fun iv s2 ⟨y, H2, I2, ry, q2⟩ => ?_)))
  refine Calls.spliced_cons (thn (hf.run pins s2 σ H2 _ I2 q2) fun fv s3 ⟨z, H3, I3, rz, b, k, xs, ey, hb, hk, kb, q3⟩ => Calls.spliced_nil ?_)
  subst ey
  cases (show iv = Value.ref b from ry)
  exact dn_get hu I3 hb hk kb rz fun w' s4 I4 rw' => ⟨_, H3, I4, rw', q3⟩⟩
end
section
variable {X : Cx} {ρ : Rho} {M : Mp} {Φ : D → Mp → Prop} {o i e f : Expr} {apos pos : Pos}
theorem we_dnewN (h : ∀ p, M p = none → Φ (.ob p) (mset M p (.dN X.w []))) : WE X ρ M (.Dict [] [] pos) Φ := .mk fun σ H Q en w k =>
  eOf pe_dnewN fun p hp => k _ (.ob p) _ (mset M p (.dN X.w [])) (Ext.newM w hp) (w.newM hp ⟨[], upd_same, .nil⟩) (.ob p) (h p (w.fresh hp).1)
theorem wg_dputN {d : D} {Ω : Rho → Mp → Prop} (hu : X.A.units + 9 < cLine) (h : WE X ρ M o fun x M1 => WE X ρ M1 i fun y M2 => ∃ q kvs ds k, x = .ob q ∧ y = .tup ds ∧ nkD y = some k ∧ k.depth ≤ 8 ∧ M2 q = some (.dN X.w kvs) ∧ kvs.length < sizeLine ∧ Ω ρ (mset M2 q (.dN X.w (putDN kvs y k d))))
    (ha : ∀ v, assign (.Subscript o i pos) X.env v = (do
      let ov ← holding [v] (eval o X.env)
      let iv ← holding [v, ov] (eval i X.env)
      standAt pos
      holding [v, ov, iv] (setItem ov iv v)
      release [v, ov, iv] []) := by intro _; rfl) : WG X (.Subscript o i pos) d ρ M Ω := .mk fun {Z} σ H v Q en w r k =>
  gOf (pg_sub pe_sem pe_sem (set_dictN hu) ha) (bind2 h en w fun v1 v2 x y H2 M2 e2 w2 r1 r2 hz => by
    obtain ⟨q, kvs, ds, kk, rfl, ey, hk, hd, hM, hl, hz⟩ := hz
    cases r1
    obtain ⟨xs, hx, rs⟩ := w2.1 q _ hM
    obtain ⟨b, rfl⟩ : ∃ b, v2 = V.ref b := by
      rw [ey] at r2
      cases r2 <;> exact ⟨_, rfl⟩
    obtain ⟨p, e1, e3⟩ := nk_py hk
    refine ⟨q, b, kk, xs, rfl, rfl, hx, rs.kys, ⟨hd, p, r2.dp e1, e3⟩, by rw [rs.length]; exact hl, ?_⟩
    have x3 : Ext M2 _ H2 (mset M2 q (.dN X.w (putDN kvs y kk d))) (upd H2 q (DNo X.w q (putN xs kk b v))) := Ext.put w2 hM
    exact k σ ρ _ _ (e2.trans x3) (w2.put hM ⟨_, upd_same, RepN.put hk hd (r2.mono x3) ((r.mono e2).mono x3) (rs.monoI x3.i)⟩) (en.mono (e2.trans x3)) hz)
theorem we_dgetN (hu : X.A.units + 9 < cLine) (h : WE X ρ M o fun x M1 => ∃ q kvs0, x = .ob q ∧ M1 q = some (.dN X.w kvs0) ∧ WE X ρ M1 e fun y M2 => WE X ρ M2 f fun z M3 => ∃ kvs ds k, y = .tup ds ∧ nkD y = some k ∧ k.depth ≤ 8 ∧ M3 q = some (.dN X.w kvs) ∧ Φ ((valDN kvs k).getD z) M3)
    (m : M2 X o "get" apos e f pos := by exact ⟨rfl, rfl, rfl, rfl⟩) : WE X ρ M (.Call (.Attribute o "get" apos) [e, f] [] pos) Φ := .mk fun {Z} σ H Q en w k =>
  eOf (pe_dgetN hu pe_sem pe_sem pe_sem m) (h.run σ H _ en w fun v x H1 M1 e1 w1 r1 hz => by
    obtain ⟨q, kvs0, rfl, hq0, hz⟩ := hz
    cases r1
    obtain ⟨xs0, hx0, _⟩ := w1.1 q _ hq0
    refine ⟨q, xs0, rfl, hx0, hz.run σ H1 _ (en.mono e1) w1 fun u y H2 M2 e2 w2 r2 hz => hz.run σ H2 _ (en.mono (e1.trans e2)) w2 fun t z H3 M3 e3 w3 r3 hz3 => ?_⟩
    obtain ⟨kvs, ds, kk, ey, hk, hd, hM, hz3⟩ := hz3
    obtain ⟨xs, hx, rs⟩ := w3.1 q _ hM
    have r2 := r2.mono e3
    obtain ⟨b, rfl⟩ : ∃ b, u = V.ref b := by
      rw [ey] at r2
      cases r2 <;> exact ⟨_, rfl⟩
    obtain ⟨p, p1, p2⟩ := nk_py hk
    refine ⟨b, kk, xs, rfl, hx, rs.kys, ⟨hd, p, r2.dp p1, p2⟩, ?_⟩
    have ks := k.step ((e1.trans e2).trans e3)
    rcases rs.val (k := kk) with ⟨a1, a2⟩ | ⟨v, d, a1, a2, rv⟩
    · rw [a1]
      rw [a2] at hz3
      exact ks.now w3 r3 hz3
    · rw [a1]
      rw [a2] at hz3
      exact ks.now w3 rv hz3)
end
end DL
namespace DL
open PySem PySem.Spec PyProof.Rows L2
section
variable {X : Cx} {pos : Pos} {k v : Expr} {tk tv : TE}
def tDispN (X : Cx) (tk tv : TE) : TE := fun σ H Q => ∀ p, H p = none → tk σ (upd H p (DNo X.w p [])) fun x H1 => tv σ H1 fun y H2 => H2 p = some (DNo X.w p []) ∧ ∃ b ks, x = .ref b ∧ KyN X.K H2 ks b ∧ Q (.ref p) (upd H2 p (DNo X.w p [(ks, b, y)]))
theorem pe_dispN (hu : X.A.units + 9 < cLine) (hk : PE X k tk) (hv : PE X v tv) : PE X (.Dict [some k] [v] pos) (tDispN X tk tv) := ⟨fun pins s σ H Q I q => by
  have hn := I.hok.fresh (Nat.le_refl s.heap.objs.size)
  have hs0 := (dt_empty (P := X.prog) (w := X.w) (H := H) s.heap I.big).2.1
  have I1 := I.laid (a := s.heap.objs.size) (o := DNo X.w s.heap.objs.size []) (h' := s.heap.push { cls := .type "dict", data := .dict #[] }) (t' := s.toks) (fun _ _ q => Heap.get?_push_of_some _ q) (Nat.le_refl _) (dn_ok (Nat.zero_le _) hs0 .nil (Heap.DictOfH.new s.heap))
  rw [arm_eval_Dict, zip_pairTrees [some k] [v] X.env pos rfl rfl, dictDisplay_pairs _ (by simp [pairTrees]) (by simp [pairTrees])]
  refine wpAny_bind (wpAny_standAt (wpAny_bind ?_))
  unfold subDict
  refine wpAny_bind (wpAny_alloc (wpAny_bind (wpAny_holding ?_)))
  rw [if_pos (by simp [pairTrees])]
  refine wpAny_bind (wpAny_mono (Q := fun vs s' => ∃ u w2 x y H2, vs = [(u, w2)] ∧ L2.Inv X pins σ H2 s' ∧ RelV x u ∧ RelV y w2 ∧ H2 s.heap.objs.size = some (DNo X.w s.heap.objs.size []) ∧ ∃ b ks, x = .ref b ∧ KyN X.K H2 ks b ∧ Q (.ref s.heap.objs.size) (upd H2 s.heap.objs.size (DNo X.w s.heap.objs.size [(ks, b, y)])))
    (pairTrees_cons_walk (thn (hk.run pins _ σ _ _ I1 (q _ hn)) fun u s1 ⟨x, H1, I2, rx, q1⟩ => thn (hv.run pins s1 σ H1 _ I2 q1) fun w2 s2 ⟨y, H2, I3, ry, q2⟩ => pairTrees_nil_walk ⟨u, w2, x, y, H2, rfl, I3, rx, ry, q2⟩)) (fun vs s1 h1 => ?_) fun _ _ e => e)
  obtain ⟨u, w2, x, y, H2, rfl, I3, rx, ry, e, b, ks, rfl, kb, q2⟩ := h1
  cases (show u = Value.ref b from rx)
  obtain ⟨z, hd, ys, pr, dd⟩ := dn_at I3 e (fun x h => by cases h)
  cases pr
  refine wpAny_holding (wpAny_bind ?_)
  rw [List.forIn_cons]
  refine wpAny_bind (wpAny_bind (wpAny_dictSet_heap (hsz := Nat.zero_le _) (knd := nestedKind X.prog X.w) (show X.A.units + 8 < cLine by omega) (kyN_is I3 kb) dd fun h' dd' sb => wpAny_pure ?_))
  show wpAny _ _ (forIn [] PUnit.unit _) _ _ _
  rw [List.forIn_nil]
  refine wpAny_pure (wpAny_pure (wpAny_pure (wpAny_pure ⟨.ref s.heap.objs.size, _, ?_, rfl, q2⟩)))
  have he : ∃ q, h'.get? s.heap.objs.size = some q := let ⟨q, _, _, hq, _⟩ := dd'; ⟨q, hq⟩
  exact d_write I3 (by rw [e]; exact True.intro) sb he (dn_ok (by show 1 ≤ sizeLine; rw [sizeLine_eq]; decide) hd (.cons ⟨rfl, rfl, ry⟩ .nil) dd')⟩
end
section
variable {X : Cx} {ρ : Rho} {M : Mp} {Φ : D → Mp → Prop}
theorem we_disp1N {a1 b1 : Expr} {dp : Pos} (hu : X.A.units + 9 < cLine) (h : WE X ρ M a1 fun x1 M1 => WE X ρ M1 b1 fun y1 M2 => ∃ ds ks, x1 = .tup ds ∧ nkD x1 = some ks ∧ ks.depth ≤ 8 ∧ ∀ p, M2 p = none → Φ (.ob p) (mset M2 p (.dN X.w [(x1, y1)]))) :
    WE X ρ M (.Dict [some a1] [b1] dp) Φ := .mk fun {Z} σ H Q en w k => by
  refine eOf (pe_dispN hu pe_sem pe_sem) ?_
  intro t ht
  have zne := w.zne ht
  have xh : ExI M Z H M (hid Z t) (upd H t (DNo X.w t [])) := hide_x ht
  have wh : Wd X.K M (hid Z t) (upd H t (DNo X.w t [])) := hide_w w ht
  have en0 := en.monoI xh
  refine h.run σ _ _ en0 wh fun v1 x1 H1 M1 e1 w1 r1 hz => ?_
  refine hz.run σ H1 _ (en0.mono e1) w1 fun u1 y1 H2 M2 e2 w2 s1 hy => ?_
  have e12 := e1.trans e2
  obtain ⟨ds, ks, ex, hk, hd, hz2⟩ := hy
  have r1 := r1.mono e2
  obtain ⟨b, rfl⟩ : ∃ b, v1 = V.ref b := by
    rw [ex] at r1
    cases r1 <;> exact ⟨_, rfl⟩
  have hT : H2 t = some (DNo X.w t []) := (e12.2 t (.inr rfl)).1.trans upd_same
  obtain ⟨p, p1, p2⟩ := nk_py hk
  refine ⟨hT, b, ks, rfl, ⟨hd, p, r1.dp p1, p2⟩, ?_⟩
  have mT : M2 t = none := (w2.2 t (.inr rfl)).1
  have xi : ExI M2 (hid Z t) H2 (mset M2 t (.dN X.w [(x1, y1)])) Z (upd H2 t (DNo X.w t [(ks, b, u1)])) := fun c u q m => by
    have n : c ≠ t := fun e => m.2 (.inr e)
    exact ⟨by rw [upd_ne n]; exact q, by rw [mset_ne n]; exact m.1, fun z => m.2 (.inl z)⟩
  have x0 : ExI M Z H M2 (hid Z t) H2 := xh.trans e12.i
  refine k _ (.ob t) _ _ ⟨fun c u q m => ?_, fun c z => ?_⟩ ⟨fun c u e => ?_, fun c z => ?_⟩ (.ob t) (hz2 t mT)
  · obtain ⟨q1, m1⟩ := x0 c u q m
    exact xi c u q1 m1
  · have n := zne c z
    have := e12.2 c (.inl z)
    exact ⟨by rw [upd_ne n, this.1, upd_ne n], by rw [mset_ne n]; exact this.2⟩
  · by_cases hc : c = t
    · subst hc
      rw [mset_same] at e
      cases e
      exact ⟨_, upd_same, .cons hk hd (r1.monoI xi) (s1.monoI xi) .nil⟩
    · rw [mset_ne hc] at e
      exact (w2.1 c u e).stepI xi (upd_ne hc)
  · have n := zne c z
    obtain ⟨m, u, q⟩ := w2.2 c (.inl z)
    exact ⟨by rw [mset_ne n]; exact m, u, by rw [upd_ne n]; exact q⟩
end
end DL
namespace DL
open PySem PySem.Spec PyProof.Rows L2
section
variable {X : Cx} {pins : List (Addr × Obj)} {σ : L2.St} {H : Hp} {s : Shared} {d : Addr} {o : Obj} {xs : List (NestedKey × Addr × V)}
theorem frzN (I : Inv X pins σ H s) (h : H d = some (.frz o (DNo X.w d xs))) : (d == sysModules) = false ∧ s.heap.get? d = some o ∧ o.ExactDict ∧ ∃ (es : Array DictEntry) (ep : Nat) (ys : List (NestedKey × Addr × Value)), o.data = .dict es ep ∧ es.size = xs.length ∧ Paired PrN xs ys ∧ es.toList = ys.map (entN X.w) := by
  obtain ⟨hd, ⟨z, hs, ys, pr, o', es, ep, ho, hx, hdt, he, _⟩, _, _⟩ := I.hok d _ h
  rw [hd] at ho
  cases ho
  refine ⟨hs, hd, hx, es, ep, ys, hdt, ?_, pr, he⟩
  have l1 : es.toList.length = ys.length := by rw [he, List.length_map]
  have l2 : xs.length = ys.length := Paired.length pr
  rw [Array.length_toList] at l1
  omega
/-- the pairs of the locked dict at d, each a new tuple -/
def Itn (w : World) (d : Addr) (o : Obj) (xs : List (NestedKey × Addr × V)) : It :=
  ⟨fun i H => H d = some (.frz o (DNo w d xs)) ∧ i < xs.length, fun i H x H' => ∃ T k b v, xs[i]? = some (k, b, v) ∧ x = .ref T ∧ H T = none ∧ H' = upd H T (.tup [.ref b, v]), fun i H => H d = some (.frz o (DNo w d xs)) ∧ xs.length ≤ i⟩
end
section
variable {P : Program} {w : World} {K : PySem.W.Frag} {d : Addr} {o : Obj} {es : Array DictEntry} {ep : Nat}
theorem turn_itemsN {xs : List (NestedKey × Addr × V)} {elts : List Expr} {kk : Nat} {tpos : Pos} (it : Addr) (hod : o.data = .dict es ep) :
    Turn P w K (.Tuple elts kk tpos) (Itn w d o xs) [it] it (fun i h => ∃ ok ov, IsItemIter h it d i xs.length ep ok ov) where
  mem := by simp
  obj := fun i h st b hb => by
    obtain rfl : b = it := by simpa using hb
    obtain ⟨ok, ov, e⟩ := st
    exact ⟨_, e, fun v z => nomatch z⟩
  keep := fun i h h' st k => let ⟨ok, ov, e⟩ := st; ⟨ok, ov, k it (by simp) _ e⟩
  item := by
    intro X hP hw hK hc i pins s σ H E I hf st hg
    subst hP hw hK
    obtain ⟨hd, hi⟩ := hg
    obtain ⟨hs, hgd, hx, es', ep', ys, hdt, hsz, pr, he0⟩ := frzN I hd
    obtain ⟨rfl, rfl⟩ := dict_ep hod hdt
    obtain ⟨⟨k, b, v⟩, hkv⟩ : ∃ p, xs[i]? = some p := ⟨xs[i], List.getElem?_eq_getElem hi⟩
    obtain ⟨⟨k', b', u⟩, hu, e1, e2, ru⟩ := paired_to pr hkv
    have e1 : k = k' := e1
    have e2 : b = b' := e2
    subst e1 e2
    obtain ⟨ok, ov, he⟩ := st
    rw [← hsz] at he
    have hlt : it < s.heap.objs.size := Heap.lt_size he
    have hi2 : i < es'.size := by omega
    have hent : es'[i] = entN X.w (k, b, u) := by
      have q : es'.toList[i]? = some (entN X.w (k, b, u)) := by rw [he0, List.getElem?_map, hu]; rfl
      rw [Array.getElem?_toList, Array.getElem?_eq_getElem hi2] at q
      exact Option.some.inj q
    refine wpAny_pyNext_items_item_raw he ⟨o, hgd, hx, hdt⟩ hi2 fun h' ho hT hz hk => ?_
    refine ⟨_, rfl, wpAny_letOwnedTupleGo_items (s := { s with heap := h' }) ho fun h'' he' sb => ?_⟩
    have hT2 : h''.get? s.heap.objs.size = some { cls := .type "tuple", data := .seq #[.ref b, u] } := by
      refine (sb.2 _ (Nat.ne_of_gt hlt)).trans ?_
      rw [hT, hent]; rfl
    have new : ObjOk X.prog X.w (upd H s.heap.objs.size (.tup [.ref b, v])) h'' s.heap.objs.size (.tup [.ref b, v]) :=
      ⟨by show 2 ≤ sizeLine; decide, [.ref b, u], .cons rfl (.cons ru .nil), ⟨_, hT2, rfl, _, rfl⟩⟩
    have I1 := I.turnedNew (t' := s.toks) (ch := [it]) (fun c ob hb e => (sb.2 c (by simpa using hb)).trans (hk c ob (by simpa using hb) e)) hf (Nat.le_refl _) new
    refine ⟨.ref s.heap.objs.size, _, I1, rfl, ⟨_, k, b, v, hkv, rfl, I.hok.fresh (Nat.le_refl _), rfl⟩, ⟨_, _, by rw [← hsz]; exact he'⟩, fun c hb => ?_⟩
    obtain rfl : c = it := by simpa using hb
    rw [upd_ne (Nat.ne_of_lt hlt)]
    exact (hf c (by simp)).1
  done := by
    intro X hP hw hK hc i pins s σ H E I hf st hg
    subst hP hw hK
    obtain ⟨hd, hi⟩ := hg
    obtain ⟨f0, f1, f2, f3, f4, f5⟩ := hf it (by simp)
    obtain ⟨hs, hgd, hx, es', ep', ys, hdt, hsz, pr, he0⟩ := frzN I hd
    obtain ⟨rfl, rfl⟩ := dict_ep hod hdt
    obtain ⟨ok, ov, he⟩ := st
    rw [← hsz] at he
    exact wpAny_pyNext_items_end_raw (I.ok.hd hc) he ⟨o, hgd, hx, hdt⟩ (by omega) fun h' eb => ⟨rfl, I.turned (t' := s.toks) (fun b ob hb e => eb b ob hb e) f0 f1 f3 f4 f5⟩
  self := fun A i s Q E st h => let ⟨_, _, e⟩ := st; PySem.W.kcp_self e h
end
def iItemsN (w : World) (td : TE) : TI := fun σ H R => td σ H fun x H1 => ∃ d o xs, x = .ref d ∧ H1 d = some (.frz o (DNo w d xs)) ∧ R (Itn w d o xs) H1
section
variable {X : Cx} {e : Expr} {td : TE} {apos cpos : Pos}
theorem pi_itemsN {elts : List Expr} {kk : Nat} {tpos : Pos} (he : PE X e td) (hbase : attributeBase e "items" X.env (eval e X.env) = eval e X.env := by rfl) (hline : (apos.endLine == cpos.line) = true := by rfl) :
    PI X (.Tuple elts kk tpos) (.Call (.Attribute e "items" apos) [] [] cpos) (iItemsN X.w td) := ⟨fun pins s σ H R I0 h0 => by
  refine wpAny_Call_method (T := "dict") (id := "dict.items") hbase rfl hline PySem.F.plainAttrs_dict PySem.F.slot_dict_items PySem.F.type_dict_items (thn (he.run pins s σ H _ I0 h0) fun u s1 ⟨x, H1, I1, rx, d, o, xs, ex, hd, q⟩ => ?_)
  subst ex
  cases (show u = Value.ref d from rx)
  obtain ⟨hs, hgd, hx, es, ep, ys, hdt, hsz, pr, he0⟩ := frzN I1 hd
  have raw : s1.heap.DictRaw d es ep := ⟨o, hgd, hx, hdt⟩
  refine ⟨raw.typeIs, fun b q => by cases q; exact ⟨o, hgd, hx.2.1⟩, ?_⟩
  have I2 : Inv X pins σ H1 { s1 with heap := s1.heap.push { cls := .type "dict_items", data := .fields #[.ref d] } } := I1.kept (t' := s1.toks) fun b ob q => Heap.get?_push_of_some _ q
  have fin : wpAny (model X.prog X.w) X.A (pyIter (.ref s1.heap.objs.size)) (PIE X pins σ (.Tuple elts kk tpos) R) X.xe { s1 with heap := s1.heap.push { cls := .type "dict_items", data := .fields #[.ref d] } } := by
    refine wpAny_pyIter_items_raw (d := d) ⟨_, Heap.get?_push_size _ rfl, rfl, rfl⟩ (raw.at fun o q => Heap.get?_push_of_some _ q) (pi_one (tk := s1.toks) I2 _ (turn_itemsN _ hdt) ⟨.none, .none, ?_⟩ q)
    rw [← hsz]
    exact Heap.get?_push_size _ rfl
  show wpAny _ _ (callWith cpos (.builtin "dict.items") [.ref d] [] []) _ X.xe s1
  exact method_meetsIn PySem.F.slot_dict_items PySem.F.entry_dict_items rfl (PySem.evalArgs_none ⟨rfl, raw.typeIs, PySem.F.args_dict_items_1 _, _, meets_dict_items_raw d hs, ⟨es, ep, raw⟩, fin⟩)⟩
end
/-- the pairs as data -/
def itemsN (kvs : List (D × D)) : List D := kvs.map fun q => .tup [q.1, q.2]
theorem RepN.get {K : PySem.W.Frag} {M : Mp} {Z : Zn} {H : Hp} {xs : List (NestedKey × Addr × V)} {kvs : List (D × D)} (r : RepN K M Z H xs kvs) : ∀ {i : Nat} {q : D × D}, kvs[i]? = some q → ∃ k b v, xs[i]? = some (k, b, v) ∧ Rep K M Z H (.ref b) q.1 ∧ Rep K M Z H v q.2 := by
  induction r with
  | nil => intro i q h; simp at h
  | cons hk dp rk r t ih =>
    intro i q h
    cases i with
    | zero => simp at h; subst h; exact ⟨_, _, _, rfl, rk, r⟩
    | succ i =>
      obtain ⟨k, b, v, h1, h2, h3⟩ := ih (by simpa using h)
      exact ⟨k, b, v, by simpa using h1, h2, h3⟩
theorem sq_itemsN {K : PySem.W.Frag} {M1 : Mp} {Z1 : Zn} {H1 : Hp} {w0 : World} {q : Addr} {od : Obj} {xs : List (NestedKey × Addr × V)} {kvs : List (D × D)} (hq : H1 q = some (.frz od (DNo w0 q xs))) (m : Im M1 Z1 q) (rs : RepN K M1 Z1 H1 xs kvs) : Sq K M1 Z1 H1 (Itn w0 q od xs) (itemsN kvs) := fun i M Z H x w => by
  have h1 := (x _ _ hq m).1
  have r2 := rs.monoI x
  refine ⟨fun hi => ⟨h1, ?_⟩, fun d hd => ?_⟩
  · rw [hi, r2.length]; unfold itemsN; rw [List.length_map]; exact Nat.le_refl _
  · unfold itemsN at hd
    rw [List.getElem?_map] at hd
    obtain ⟨y, hy, rfl⟩ := Option.map_eq_some_iff.mp hd
    obtain ⟨k, b, v, hv, rb, rv⟩ := r2.get hy
    refine ⟨⟨h1, (List.getElem?_eq_some_iff.mp hv).1⟩, fun z H2 yl => ?_⟩
    obtain ⟨T, k', b', v', hkv, rfl, hT, rfl⟩ := yl
    rw [hv] at hkv; cases hkv
    have x3 : Ext M Z H M (upd H T (.tup [.ref b, v])) := Ext.new w hT
    exact ⟨x3, w.new hT, .tup (.inl upd_same) (w.fresh hT) (.cons (rb.mono x3) (.cons (rv.mono x3) .nil))⟩
section
variable {X : Cx} {ρ : Rho} {M : Mp} {e : Expr} {apos pos : Pos}
/-- for .. in e.items(), the dict is e's own and falls -/
theorem wi_itemsN {elts : List Expr} {kk : Nat} {tpos : Pos} {Φ : List D → Mp → Prop} (h : WE X ρ M e fun d M1 => ∃ q kvs, d = .ob q ∧ M1 q = some (.dN X.w kvs) ∧ Φ (itemsN kvs) (mdel M1 q))
    (hbase : attributeBase e "items" X.env (eval e X.env) = eval e X.env := by rfl) (hline : (apos.endLine == pos.line) = true := by rfl) : WI X ρ M (.Tuple elts kk tpos) (.Call (.Attribute e "items" apos) [] [] pos) Φ := .mk fun {Z} σ H R en w k =>
  iOf (pi_itemsN (pe_frz pe_sem) hbase hline) (h.run σ H _ en w fun v d H1 M1 e1 w1 r1 hz => by
    obtain ⟨q, kvs, rfl, hq, hz⟩ := hz
    cases r1
    obtain ⟨xs, hH, rs⟩ := w1.1 q _ hq
    refine ⟨q, DNo X.w q xs, rfl, hH, trivial, fun od => ⟨q, od, xs, rfl, upd_same, ?_⟩⟩
    have x2 := frz_x (x := .frz od (DNo X.w q xs)) w1 hq
    exact k _ _ _ (mdel M1 q) (e1.trans x2) (frz_w w1 hq) (sq_itemsN upd_same ⟨mdel_same, fun z => by have := (w1.2 q z).1; rw [hq] at this; cases this⟩ (rs.monoI x2.i)) hz)
end
end DL
namespace DL
open PySem PySem.Spec PyProof.Rows L2
theorem vals_prN {xs : List (NestedKey × Addr × V)} {ys : List (NestedKey × Addr × Value)} (r : Paired PrN xs ys) : Vals (xs.map fun x => x.2.2) (ys.map fun y => y.2.2) := by
  induction r with
  | nil => exact .nil
  | cons h t ih => exact .cons h.2.2 ih
section
variable {X : Cx} {e : Expr} {te : TE} {p pos apos cpos : Pos}
def tListValsN (w : World) (te : TE) : TE := fun σ H Q => te σ H fun x H1 => ∃ d xs, x = .ref d ∧ H1 d = some (DNo w d xs) ∧ ∀ q, H1 q = none → Q (.ref q) (upd H1 q (.lst (xs.map fun x => x.2.2)))
theorem pe_listValsN (hc : X.calm = true) (he : PE X e te) (hg : Gl X "list") (hm : X.mg "list" = none) (hv : bootBuiltins "list" = some (.type "list")) (hbase : attributeBase e "values" X.env (eval e X.env) = eval e X.env := by rfl) (hline : (apos.endLine == cpos.line) = true := by rfl)
    (hs : starEach [.Call (.Attribute e "values" apos) [] [] cpos] X.env = (false, eval (.Call (.Attribute e "values" apos) [] [] cpos) X.env) :: starEach [] X.env := by rfl) :
    PE X (.Call (.Name "list" p) [.Call (.Attribute e "values" apos) [] [] cpos] [] pos) (tListValsN X.w te) := ⟨fun pins s σ H Q I0 h0 => by
  refine wpAny_Call_Name_kw (ld_blt I0 hg hm hv ?_)
  refine PyProof.Rows.callWith_type1 ?_ hs rfl
  rw [hs]
  show wpAny _ _ (spliced ((false, eval (.Call (.Attribute e "values" apos) [] [] cpos) X.env) :: backTo pos (starEach [] X.env))) _ _ s
  refine Calls.spliced_cons ?_
  refine wpAny_Call_method (T := "dict") (id := "dict.values") hbase rfl hline PySem.F.plainAttrs_dict PySem.F.slot_dict_values PySem.F.type_dict_values (thn (he.run pins s σ H _ I0 h0) fun u s1 ⟨x, H1, I1, rx, d, xs, ex, hd, q⟩ => ?_)
  subst ex
  cases (show u = Value.ref d from rx)
  obtain ⟨⟨z, hs0, ys, pr, o, es, ep, ho, hx, hdt, he0, _⟩, _, _⟩ := I1.hok d _ hd
  have raw : s1.heap.DictRaw d es ep := ⟨o, ho, hx, hdt⟩
  have I2 : Inv X pins σ H1 { s1 with heap := s1.heap.push { cls := .type "dict_values", data := .fields #[.ref d] } } := I1.kept (t' := s1.toks) fun b ob q => Heap.get?_push_of_some _ q
  have l1 : es.size = xs.length := by
    have a : es.toList.length = ys.length := by rw [he0, List.length_map]
    have b : xs.length = ys.length := Paired.length pr
    rw [Array.length_toList] at a
    omega
  refine ⟨raw.typeIs, fun b q => by cases q; exact ⟨o, ho, hx.2.1⟩, ?_⟩
  show wpAny _ _ (callWith cpos (.builtin "dict.values") [.ref d] [] []) _ X.xe s1
  refine method_meetsIn PySem.F.slot_dict_values PySem.F.entry_dict_values rfl (PySem.evalArgs_none ⟨rfl, raw.typeIs, PySem.F.args_dict_values_1 _, _, meets_dict_values_raw d hs0, ⟨es, ep, raw⟩, ?_⟩)
  refine Calls.spliced_nil ?_
  refine PySem.W.kdl_call (KdlSrc.rawValues (d := d) (es := es) (ep := ep)) (I1.ok.hd hc) ⟨⟨_, Heap.get?_push_size _ rfl, rfl, rfl⟩, raw.at fun o q => Heap.get?_push_of_some _ q⟩ (by omega) fun h' tk acc c hk hS hacc => ?_
  have ea : acc.toList = ys.map fun y => y.2.2 := by
    have b : xs.length = ys.length := Paired.length pr
    have hsz := hacc.1
    refine List.ext_getElem (by rw [Array.length_toList, List.length_map]; omega) fun j h1 h2 => ?_
    rw [Array.length_toList] at h1
    obtain ⟨hj, hv⟩ := hacc.2 j acc[j] (Array.getElem?_eq_getElem h1)
    rw [Array.getElem_toList, hv, List.getElem_map]
    have e1 : es.toList[j]? = (ys.map (entN X.w))[j]? := by rw [he0]
    have hy : j < ys.length := by omega
    rw [Array.getElem?_toList, Array.getElem?_eq_getElem hj, List.getElem?_map, List.getElem?_eq_getElem hy] at e1
    have e2 : es[j] = entN X.w ys[j] := Option.some.inj e1
    rw [e2]; rfl
  refine ⟨.ref _, _, I2.laid (t' := tk) (o := .lst (xs.map fun x => x.2.2)) (fun b u q => hk b u q) (Nat.le_refl _) ⟨by rw [List.length_map]; exact z, acc.toList, c, by rw [ea]; exact vals_prN pr, by simpa using hS⟩, rfl, q _ (I2.hok.fresh (Nat.le_refl _))⟩⟩
end
theorem RepN.vals {K : PySem.W.Frag} {M : Mp} {Z : Zn} {H H' : Hp} {M' : Mp} {Z' : Zn} (x : ExI M Z H M' Z' H') {xs : List (NestedKey × Addr × V)} {kvs : List (D × D)} (r : RepN K M Z H xs kvs) : Reps K M' Z' H' (xs.map fun y => y.2.2) (kvs.map (·.2)) := by
  induction r with
  | nil => exact .nil
  | cons hk dp rk r t ih => exact .cons (r.monoI x) ih
section
variable {X : Cx} {ρ : Rho} {M : Mp} {Φ : D → Mp → Prop} {e : Expr} {apos cpos p pos : Pos}
theorem we_listValsN (hm : X.mg "list" = none) (h : WE X ρ M e fun d M1 => ∃ q kvs, d = .ob q ∧ M1 q = some (.dN X.w kvs) ∧ Φ (.lst (kvs.map (·.2))) M1) (hc : X.calm = true := by rfl) (hg : Gl X "list" := by rfl)
    (hb : attributeBase e "values" X.env (eval e X.env) = eval e X.env := by rfl) (hline : (apos.endLine == cpos.line) = true := by rfl) (hs : starEach [.Call (.Attribute e "values" apos) [] [] cpos] X.env = (false, eval (.Call (.Attribute e "values" apos) [] [] cpos) X.env) :: starEach [] X.env := by rfl) :
    WE X ρ M (.Call (.Name "list" p) [.Call (.Attribute e "values" apos) [] [] cpos] [] pos) Φ := .mk fun {Z} σ H Q en w k =>
  eOf (pe_listValsN hc pe_sem hg hm (by decide +kernel) hb hline hs) (h.run σ H _ en w fun v d H1 M1 e1 w1 r1 hz => by
    obtain ⟨q, kvs, rfl, hq, hz⟩ := hz
    cases r1
    obtain ⟨xs, hx, rs⟩ := w1.1 q _ hq
    exact ⟨q, xs, rfl, hx, fun t ht => (k.step e1).new w1 ht (.lst upd_same (w1.fresh ht) (rs.vals (Ext.new w1 ht).i)) hz⟩)
end
end DL
namespace DL
open PySem PySem.Spec PyProof.Rows L2
section
variable {X : Cx} {ρ : Rho} {M : Mp} {Φ : D → Mp → Prop} {Θ : Bool → Mp → Prop} {a b e : Expr} {pos p : Pos}
theorem rd_notInD {x y : D} (h : ∃ p q, toPy x = some p ∧ toPy y = some (.list q) ∧ SeqAt.shaped p = true ∧ SeqAt.shaped (.list q) = true ∧ Φ (.bl (!q.any fun z => PyData.eqv z p)) M) : RD X.K (rNotInD X.K) x y M Φ := fun Z v u H Q w r1 r2 k => by
  obtain ⟨p, q, e1, e2, s1, s2, h⟩ := h
  exact ⟨p, q, r1.dp e1, r2.dp e2, s1, s2, k.now w (.bl _) h⟩
theorem wt_notInD (hu : X.A.units + 65 < cLine) (h : WE X ρ M a fun x M1 => WE X ρ M1 b fun y M2 => ∃ p q, toPy x = some p ∧ toPy y = some (.list q) ∧ SeqAt.shaped p = true ∧ SeqAt.shaped (.list q) = true ∧ Θ (!q.any fun z => PyData.eqv z p) M2) (hm : behindInMarks .NotIn b = false := by rfl) : WT X ρ M (.Compare a [.NotIn] [b] pos) Θ :=
  wt_cmp (op_notInD hu) hm (h.imp fun _ _ h => h.imp fun _ _ ⟨p, q, e1, e2, s1, s2, h⟩ => rd_notInD ⟨p, q, e1, e2, s1, s2, _, rfl, h⟩)
theorem we_anyB (hm : X.mg "any" = none) (h : WE X ρ M e fun d M1 => ∃ bs : List Bool, LstOf M1 d (bs.map D.bl) ∧ Φ (.bl (bs.any id)) M1) (hc : X.calm = true := by rfl) (hg : Gl X "any" := by rfl)
    (he : starEach [e] X.env = (false, eval e X.env) :: starEach [] X.env := by rfl) (hpl : (backTo pos (starEach [] X.env)).any (·.1) = false := by rfl) : WE X ρ M (.Call (.Name "any" p) [e] [] pos) Φ :=
  we_callB (cr_any hc) hm (by decide +kernel) (wa_cons (h.imp fun d M1 h => wa_nil fun Z vs H Q w rr k => by
    obtain ⟨v, rfl, r⟩ := rr.one
    obtain ⟨ns, hl, h⟩ := h
    obtain ⟨q, vs, rfl, hq, rs⟩ := r.asLst w hl
    rw [rs.bls] at hq
    exact ⟨q, ns, rfl, hq, k.now w (.bl _) h⟩) he) hg (he := he) (hpl := hpl)
end
end DL
namespace DL
open PySem PySem.Spec PyProof.Rows L2
theorem tuple_mul1 (l : Addr) (items : Array Value) (n : Nat) (dd : Option Addr) (sl : Array (Option Value)) (u : Tok) :
    Meets (Builtin.«tuple.__mul__» ⟨[.ref l, .int 1 u], []⟩) (fun _ R s => s.heap.get? l = some { cls := .type "tuple", dict := dd, data := .seq items n, slots := sl } ∧
      R (.ok (.ret (Value.ref l))) s) :=
  .of_wp fun prog w A R s h => by
    obtain ⟨hp, g, d, tk, os⟩ := s
    obtain ⟨hl, h⟩ := h
    have f1 := AutoSeq1.idx_int
    wp_walk using wpAny_loadPart' hl
    repeat (first
      | (refine wpAny_ite_false (decide_eq_false (by decide)) ?_; wp_walk using wpAny_loadPart' hl)
      | (refine wpAny_ite_true (decide_eq_true (by simp)) ?_; wp_walk using wpAny_loadPart' hl))
    exact ⟨_, rfl, h⟩
def rRepT1 (K : PySem.W.Frag) : R2 := fun x y H Q => ∃ l xs, x = .ref l ∧ y = .int 1 ∧ SqT K H l xs ∧ Q (.ref l) H
section
variable {X : Cx}
theorem op_repT1 : OpR X (binaryOp .Mult) (rRepT1 X.K) := by
  intro pins s σ H x y v u Q I rx ry h
  obtain ⟨l, xs, rfl, rfl, hT, q⟩ := h
  cases rx
  obtain ⟨t, rfl⟩ := ry
  obtain ⟨its, r, ⟨⟨cls, dd, data, sl⟩, ho, hc, n, hd⟩, hs⟩ := I.tuple hT
  simp only at hc hd
  subst hc hd
  refine wpAny_binaryOp_repeat_ref (T := "tuple") (U := "int") (by decide) ⟨_, ho, rfl⟩ (fun s' => typeIs_int s' 1 t) noFill_tuple_mul F.fills_int_mul F.slot_int_rmul repeat_tuple F.slot_int_index.lookup
    (call_meets F.slot_int_rmul (typeIs_int s 1 t) F.entry_int_rmul (F.args_int_rmul_2 _ _) (int_rmul_tuple 1 t l its.toArray n dd sl)
      ⟨ho, rfl, ⟨_, ho, rfl⟩, call_meets F.slot_tuple_mul ⟨_, ho, rfl⟩ F.entry_tuple_mul (F.args_tuple_mul_2 _ _) (tuple_mul1 l its.toArray n dd sl t) ⟨ho, ?_⟩⟩)
  exact ⟨.ref l, H, I, rfl, q⟩
theorem blIs {vs : List Value} {bs : List Bool} (r : Vals (bs.map V.bl) vs) (k : Bool) : (∀ y ∈ vs, ∀ (A : Around) (s : Shared), SeqAt.EqAt A s y (.bool k) (isBoolOf k y)) ∧ vs.countP (isBoolOf k) = bs.count k := by
  induction bs generalizing vs with
  | nil => cases r; exact ⟨fun y h => (by cases h), rfl⟩
  | cons b bs ih =>
    rw [List.map_cons] at r
    cases r with
    | cons h t =>
      cases h
      obtain ⟨i1, i2⟩ := ih t
      refine ⟨fun y hy A s => ?_, ?_⟩
      · rcases List.mem_cons.mp hy with rfl | hy
        · exact SeqAt.EqAt.bool_bool b k
        · exact i1 y hy A s
      · rw [List.countP_cons, List.count_cons, i2]; rfl
theorem mt_cntB : MtR X "list.count" (fun x xs H Q => ∃ (p : Addr) (ns : List Bool) (k : Bool), x = .ref p ∧ xs = [.bl k] ∧ SqL X.K H p (ns.map V.bl) ∧ Q (.int (ns.count k : Nat)) H) := by
  intro pins s σ H x xs v us Q I rx rxs h
  obtain ⟨p, ns, k, rfl, rfl, hs, q⟩ := h
  cases rx
  obtain ⟨u, rfl, ru⟩ := rxs.one
  cases ru
  obtain ⟨its, rv, ⟨⟨cls, dd, data, sl⟩, n, ho, hc, hdn, hd⟩, hlen⟩ := I.list hs
  simp only at hc hd
  subst hc hd
  obtain ⟨e1, e2⟩ := blIs rv k
  refine call_meets PySem.F.slot_list_count ⟨_, ho, rfl⟩ PySem.F.entry_list_count (PySem.F.args_list_count_2 _ _)
    (SeqAt.list_countAt p its.toArray n dd sl (.bool k) (isBoolOf k)) ⟨ho, fun y hy => e1 y (by simpa using hy) _ _, ?_⟩
  refine ⟨.int (ns.count k : Nat), H, I.tok _, ⟨s.toks, ?_⟩, q⟩
  show Value.int ((its.toArray.toList.countP (isBoolOf k) : Nat) : Int) s.toks = Value.int ((ns.count k : Nat) : Int) s.toks
  rw [← e2]
end
section
variable {X : Cx} {ρ : Rho} {M : Mp} {Φ : D → Mp → Prop} {a b o e : Expr} {pos apos : Pos}
theorem we_repT (h : WE X ρ M a fun x M1 => WE X ρ M1 b fun y M2 => ∃ (d : D) (n : Nat), x = .tup [d] ∧ y = .int (n : Nat) ∧ 1 ≤ n ∧ n ≤ 1000 ∧ Φ (.tup (List.replicate n d)) M2) : WE X ρ M (.BinOp a .Mult b pos) Φ := by
  refine we_op (r := fun x y H Q => rRepT1 X.K x y H Q ∨ rRepT X.K x y H Q) ?_ (h.imp fun _ _ h => h.imp fun _ _ h Z v u H Q w r1 r2 k => ?_)
  · intro pins s σ H x y v u Q I rx ry h
    rcases h with h | h
    · exact op_repT1 pins s σ H x y v u Q I rx ry h
    · exact op_repT pins s σ H x y v u Q I rx ry h
  · obtain ⟨d, n, rfl, rfl, n1, n2, h⟩ := h
    cases r2
    by_cases e : n = 1
    · subst e
      obtain ⟨q, vs, rfl, hq, rs⟩ := r1.tupKeep
      exact .inl ⟨q, vs, rfl, rfl, hq _ _ _ Ext.refl.i, k.now w r1 h⟩
    · obtain ⟨q, vs, rfl, hq, rs⟩ := r1.tupKeep
      cases rs with
      | cons r0 rn =>
        cases rn
        refine .inr ⟨q, (n : Int), [_], rfl, rfl, hq _ _ _ Ext.refl.i, List.cons_ne_nil _ _, by omega, by omega, by show 1 ≤ 1000; decide, fun p hp => ?_⟩
        rw [Int.toNat_natCast, flat_rep]
        exact k.new w hp (.tup (.inl upd_same) (w.fresh hp) ((reps_rep r0 n).mono (Ext.new w hp))) h
theorem we_cntB (h : WE X ρ M o fun d M1 => ∃ ns : List Bool, d = .lst (ns.map D.bl) ∧ WE X ρ M1 e fun y M2 => ∃ k, y = .bl k ∧ Φ (.int (ns.count k : Nat)) M2)
    (hbase : attributeBase o "count" X.env (eval o X.env) = eval o X.env := by rfl)
    (hfew : ((backTo pos (starEach (e :: []) X.env)).all (fun x => !x.1) && (backToKw pos (keywordEach [] X.env)).all (fun x => x.1.isSome)
      && decide ((e :: []).length + ([] : List Keyword).length + (if ([] : List Keyword).isEmpty then 0 else 1) < 30)) = true := by rfl)
    (hline : (apos.endLine == pos.line) = true := by rfl) (hs : starEach (e :: []) X.env = (false, eval e X.env) :: starEach [] X.env := by rfl) (hplain : (backTo pos (starEach [] X.env)).any (·.1) = false := by rfl) : WE X ρ M (.Call (.Attribute o "count" apos) [e] [] pos) Φ := .mk fun σ H Q en w k =>
  eOf (pe_bm PySem.F.plainAttrs_list PySem.F.slot_list_count PySem.F.type_list_count mt_cntB pe_sem (pa_cons pe_sem pa_nil hs) hbase hfew hline hs hplain) (h.run σ H _ en w fun v d H1 M1 e1 w1 r1 hz => by
    obtain ⟨ns, rfl, hz⟩ := hz
    obtain ⟨a, vs, rfl, hq1, _⟩ := r1.asLst w1 rfl
    refine ⟨.inl ⟨rfl, _, hq1⟩, hz.run σ H1 _ (en.mono e1) w1 fun u y H2 M2 e2 w2 r2 hy => ?_⟩
    obtain ⟨i, rfl, hy⟩ := hy
    cases r2
    obtain ⟨q, vs2, eq, hq, rs2⟩ := (r1.mono e2).asLst w2 rfl
    rw [rs2.bls] at hq
    exact ⟨_, ns, i, rfl, rfl, (V.ref.inj eq) ▸ hq, (k.step (e1.trans e2)).now w2 (.int _) hy⟩)
end
end DL
namespace W
open PySem PySem.Spec PyProof.Rows L2 DL SX PL SlX
def encA {κ : Type} (kD : κ → D) (es : List (κ × Nat)) : List (D × D) := es.map fun q => (kD q.1, D.int (q.2 : Nat))
/-- keys as data -/
structure KeyOk {κ : Type} (kD : κ → D) (kN : κ → NestedKey) : Prop where
  nk : ∀ g, nkD (kD g) = some (kN g)
  inj : ∀ g h, kN g = kN h → g = h
  tup : ∀ g, ∃ ds, kD g = .tup ds
  dep : ∀ g, (kN g).depth ≤ 8
section
variable {κ : Type} [DecidableEq κ] {kD : κ → D} {kN : κ → NestedKey}
theorem enc_len (es : List (κ × Nat)) : (encA kD es).length = es.length := by unfold encA; rw [List.length_map]
theorem enc_key (h : KeyOk kD kN) {q : κ × Nat} {g : κ} : decide (nkD (kD q.1, D.int (q.2 : Nat)).1 = some (kN g)) = decide (q.1 = g) := by
  show decide (nkD (kD q.1) = some (kN g)) = _
  rw [h.nk]
  exact decide_eq_decide.mpr ⟨fun e => h.inj _ _ (Option.some.inj e), fun e => by rw [e]⟩
theorem enc_val (h : KeyOk kD kN) (es : List (κ × Nat)) (g : κ) : valDN (encA kD es) (kN g) = (getA es g).map fun v => D.int (v : Nat) := by
  unfold valDN encA
  induction es with
  | nil => rfl
  | cons e es ih =>
    rw [List.map_cons, getA_cons]
    by_cases c : e.1 = g
    · rw [List.find?_cons_of_pos (by rw [enc_key h]; exact decide_eq_true c), if_pos c]; rfl
    · rw [List.find?_cons_of_neg (by rw [enc_key h, decide_eq_false c]; exact Bool.false_ne_true), if_neg c]; exact ih
theorem enc_any (h : KeyOk kD kN) (es : List (κ × Nat)) (g : κ) : ((encA kD es).any fun q => decide (nkD q.1 = some (kN g))) = es.any fun q => decide (q.1 = g) := by
  unfold encA
  rw [List.any_map]
  congr 1
  funext q
  exact enc_key h
theorem enc_put (h : KeyOk kD kN) (es : List (κ × Nat)) (g : κ) (v : Nat) : putDN (encA kD es) (kD g) (kN g) (.int (v : Nat)) = encA kD (putA es g v) := by
  unfold putDN putA
  rw [enc_any h]
  split
  · unfold encA
    rw [List.map_map, List.map_map]
    refine List.map_congr_left fun q _ => ?_
    show (if nkD (kD q.1) = some (kN g) then (kD q.1, D.int (v : Nat)) else (kD q.1, D.int (q.2 : Nat))) = _
    by_cases c : q.1 = g
    · rw [if_pos (by rw [h.nk, c])]
      show _ = (kD (if q.1 = g then (q.1, v) else q).1, D.int ((if q.1 = g then (q.1, v) else q).2 : Nat))
      rw [if_pos c]
    · rw [if_neg (by rw [h.nk]; exact fun e => c (h.inj _ _ (Option.some.inj e)))]
      show _ = (kD (if q.1 = g then (q.1, v) else q).1, D.int ((if q.1 = g then (q.1, v) else q).2 : Nat))
      rw [if_neg c]
  · unfold encA
    rw [List.map_append]; rfl
theorem enc_getD (h : KeyOk kD kN) (es : List (κ × Nat)) (g : κ) (n : Nat) : (valDN (encA kD es) (kN g)).getD (.int (n : Nat)) = .int (((getA es g).getD n : Nat) : Nat) := by
  rw [enc_val h]
  cases getA es g <;> rfl
theorem enc_at {es : List (κ × Nat)} {i : Nat} {x : D} (h : (itemsN (encA kD es))[i]? = some x) : ∃ q, es[i]? = some q ∧ x = .tup [kD q.1, .int (q.2 : Nat)] := by
  unfold itemsN encA at h
  rw [List.map_map, List.getElem?_map] at h
  obtain ⟨q, hq, rfl⟩ := Option.map_eq_some_iff.mp h
  exact ⟨q, hq, rfl⟩
theorem enc_items (es : List (κ × Nat)) : (itemsN (encA kD es)).length = es.length := by unfold itemsN encA; rw [List.length_map, List.length_map]
theorem enc_vals (es : List (κ × Nat)) : (encA kD es).map (·.2) = (es.map fun q => ((q.2 : Nat) : Int)).map D.int := by unfold encA; rw [List.map_map, List.map_map]; rfl
theorem mn_nat {es : List (κ × Nat)} {m : Int} (hm : m ∈ es.map fun q => ((q.2 : Nat) : Int)) (hmin : ∀ y ∈ es.map fun q => ((q.2 : Nat) : Int), m ≤ y) : ∃ k : Nat, m = k ∧ k ∈ es.map (·.2) ∧ ∀ y ∈ es.map (·.2), k ≤ y := by
  obtain ⟨r, hr, rfl⟩ := List.mem_map.mp hm
  refine ⟨_, rfl, List.mem_map.mpr ⟨r, hr, rfl⟩, fun y hy => ?_⟩
  obtain ⟨q, hq, rfl⟩ := List.mem_map.mp hy
  have := hmin ((q.2 : Nat) : Int) (List.mem_map.mpr ⟨q, hq, rfl⟩)
  omega
end
abbrev rowT (r : List Bool) : D := .tup (r.map D.bl)
def bitN (b : Bool) : NestedKey := .num (if b = true then 1 else 0)
def rowTN (r : List Bool) : NestedKey := .tup (r.map bitN)
theorem nk_bits : ∀ r : List Bool, nkDs (r.map D.bl) = some (r.map bitN)
  | [] => rfl
  | b :: r => by
    rw [List.map_cons, nkDs, nk_bits r]; rfl
theorem bit_inj : ∀ r s : List Bool, r.map bitN = s.map bitN → r = s
  | [], [], _ => rfl
  | [], b :: s, h => by cases h
  | a :: r, [], h => by cases h
  | a :: r, b :: s, h => by
    rw [List.map_cons, List.map_cons] at h
    injection h with h1 h2
    rw [bit_inj r s h2]
    unfold bitN at h1
    injection h1 with h1
    cases a <;> cases b <;> first | rfl | (exfalso; revert h1; decide)
theorem dep_bits : ∀ r : List Bool, NestedKey.depthAll (r.map bitN) = 0
  | [] => rfl
  | b :: r => by rw [List.map_cons, NestedKey.depthAll, dep_bits r]; rfl
theorem key_row : KeyOk rowT rowTN where
  nk := fun r => by
    show nkD (.tup (r.map D.bl)) = _
    rw [nkD, nk_bits]; rfl
  inj := fun r s h => by
    unfold rowTN at h
    injection h with h
    exact bit_inj r s h
  tup := fun r => ⟨_, rfl⟩
  dep := fun r => by
    unfold rowTN
    rw [NestedKey.depth, dep_bits]; decide
abbrev keyR (g : KR) : D := .tup [rowT g.1, .int (g.2 : Nat)]
def keyRN (g : KR) : NestedKey := .tup [rowTN g.1, .num (g.2 : Nat)]
theorem key_rows : KeyOk keyR keyRN where
  nk := fun g => by
    show nkD (.tup [rowT g.1, .int (g.2 : Nat)]) = _
    rw [nkD, nkDs, key_row.nk]; rfl
  inj := fun g h e => by
    unfold keyRN at e
    injection e with e
    injection e with e1 e2
    injection e2 with e2 _
    injection e2 with e2
    have := key_row.inj _ _ e1
    obtain ⟨a, b⟩ := g
    obtain ⟨c, d⟩ := h
    simp only at this e2
    rw [this, show b = d by omega]
  tup := fun g => ⟨_, rfl⟩
  dep := fun g => by
    unfold keyRN rowTN
    simp only [NestedKey.depth, NestedKey.depthAll, dep_bits]
    decide
theorem mdel_two {M : Mp} {q r : Addr} {x y : MO} (hq : M q = none) (hn : r ≠ q) : mdel (mset (mset M q x) r y) q = mset M r y := by
  funext b
  unfold mdel
  by_cases e : b = q
  · subst e
    rw [if_pos rfl, mset_ne (Ne.symm hn), hq]
  · rw [if_neg e]
    by_cases e2 : b = r
    · subst e2; rw [mset_same, mset_same]
    · rw [mset_ne e2, mset_ne e2, mset_ne e]
end W
namespace W
open PySem PySem.Spec PyProof.Rows L2 DL SX PL
section
variable {P : Program} {w : World} {K : PySem.W.Frag} {mg : Str → Option Value} {base : Heap} {C : Addr}
abbrev nInit : List Str := ["self", "text", "groups", "many", "part"]
theorem mul_ok {n p m : Nat} (h1 : n ≤ 10 ^ 30) (h2 : p < 16 ^ m) (h3 : m ≤ 100000) : CMulW (n : Nat) (p : Nat) := by
  show ((n : Int)).natAbs.log2 + ((p : Int)).natAbs.log2 < 1000000
  rw [Int.natAbs_natCast, Int.natAbs_natCast]
  have e1 := log16 h2
  have e2 : n < 16 ^ 26 := Nat.lt_of_le_of_lt h1 (by decide)
  have e3 := log16 e2
  omega
theorem sum_cast {α : Type} (f : α → Nat) : ∀ l : List α, (l.map fun q => ((f q : Nat) : Int)).sum = (((l.map f).sum : Nat) : Int)
  | [] => rfl
  | x :: l => by simp [sum_cast f l]
end
end W
namespace W
open PySem PySem.Spec PyProof.Rows L2 DL SX PL
section
variable {P : Program} {w : World} {K : PySem.W.Frag} {mg : Str → Option Value} {base : Heap} {C : Addr}
/-- what a question of the plan tells -/
def cGet (C : Addr) (g : T → D) : Con := fun ds M Φ => ∃ t, ds = [planD C t] ∧ Ok t ∧ Φ (g t) M
theorem insP {M : Mp} {t : T} (h : Told t) : InsOf M C (planD C t) (fldsD C t) := by rw [planD_told h]; exact ⟨rfl, rfl⟩
theorem ok_text (X : Px K mg C) : BodyOk P w K mg base "Plan.text" s_Plan_text ["self"] 1 0 (cGet C fun t => tS (txt t)) := by
  intro f cdv A outer s H E hr ds M Φ hl hc
  obtain ⟨t, rfl, ok, hc⟩ := hc
  exact wss_cons (ws_ret (we_fld (C := C) (we_var 0 rfl ⟨_, _, insP ok.2.1, X.cl, X.na _ (by decide +kernel), lk_text, Lets.of hc⟩)))
theorem ok_names (X : Px K mg C) : BodyOk P w K mg base "Plan.names" s_Plan_names ["self"] 1 0 (cGet C fun t => .tup []) := by
  intro f cdv A outer s H E hr ds M Φ hl hc
  obtain ⟨t, rfl, ok, hc⟩ := hc
  exact wss_cons (ws_ret (we_fld (C := C) (we_var 0 rfl ⟨_, _, insP ok.2.1, X.cl, X.na _ (by decide +kernel), lk_names, Lets.of hc⟩)))
theorem ok_word (X : Px K mg C) : BodyOk P w K mg base "Plan.word" s_Plan_word ["self"] 1 0 (cGet C fun t => .str (wordT t)) := by
  intro f cdv A outer s H E hr ds M Φ hl hc
  obtain ⟨t, rfl, ok, hc⟩ := hc
  exact wss_cons (ws_ret (we_fld (C := C) (we_var 0 rfl ⟨_, _, insP ok.2.1, X.cl, X.na _ (by decide +kernel), lk_word, Lets.of hc⟩)))
def cTold (C : Addr) : Con := fun ds M Φ => ∃ t, ds = [planD C t] ∧ Ok t ∧ Φ .non M
theorem ok_check_told (F1 : Pc P w K mg base C "names" 1 (cGet C fun t => .tup [])) : BodyOk P w K mg base "check_told" s_check_told ["plan"] 1 2 (cTold C) := by
  intro f cdv A outer s H E hr ds M Φ hl hc
  obtain ⟨t, rfl, ok, hc⟩ := hc
  exact wss_cons (ws_if (wt_neNilT hr.units (we_prop F1 (hr.mono (by decide)) (we_var 0 rfl ⟨_, insP ok.2.1, t, rfl, ok, [], [], 0, rfl, cmps_nil, by decide, wss_nil (wss_nil hc)⟩))))
/-- one sign turned -/
theorem turned (c : Nat) : (List.lookup (S [c]) turnedD).getD (.str (S [c])) = .str (S [PL.flip c]) := by
  have e : turnedD = [(S [43], tS [42]), (S [42], tS [43]), (S [91], tS [123]), (S [123], tS [91]), (S [93], tS [125]), (S [125], tS [93])] := by
    unfold turnedD
    rw [show ("+" : Str) = S [43] by decide +kernel, show ("*" : Str) = S [42] by decide +kernel, show ("[" : Str) = S [91] by decide +kernel, show ("{" : Str) = S [123] by decide +kernel, show ("]" : Str) = S [93] by decide +kernel, show ("}" : Str) = S [125] by decide +kernel]
  have b : ∀ d, (S [c] == S [d]) = decide (c = d) := fun d => by
    rw [S_beq_eq]
    exact decide_eq_decide.mpr ⟨fun h => by injection h, fun h => by rw [h]⟩
  rw [e]
  unfold PL.flip
  simp only [List.lookup_cons, b, List.lookup_nil]
  by_cases h1 : c = 43
  · subst h1; rfl
  by_cases h2 : c = 42
  · subst h2; rfl
  by_cases h3 : c = 91
  · subst h3; rfl
  by_cases h4 : c = 123
  · subst h4; rfl
  by_cases h5 : c = 93
  · subst h5; rfl
  by_cases h6 : c = 125
  · subst h6; rfl
  rw [if_neg h1, if_neg h2, if_neg h3, if_neg h4, if_neg h5, if_neg h6]
  simp [h1, h2, h3, h4, h5, h6]
end
end W
namespace W
open PySem PySem.Spec PyProof.Rows L2 DL SX PL
section
variable {P : Program} {w : World} {K : PySem.W.Frag} {mg : Str → Option Value} {base : Heap} {C : Addr}
abbrev potL (a c d : Int) : MO := .lst [.int a, .int c, .int d]
def cOk (c : Int) : Prop := 0 ≤ c ∧ c < 2305843009213693921
def cTake : Con := fun ds M Φ => ∃ p u a c d, ds = [.ob p, .int u] ∧ 1 ≤ u ∧ u ≤ 10 ^ 40 ∧ M p = some (potL a c d) ∧ cOk c ∧ 0 ≤ d ∧ d < 100000 ∧ ∀ r a' d', 0 ≤ r → r < u → d ≤ d' → d' ≤ d + 1 → Φ (.int r) (mset M p (potL a' c d'))
theorem at0 {a c d : Int} : atI [D.int a, D.int c, D.int d] 0 = some (.int a) := atI_nat (j := 0) rfl
theorem at1 {a c d : Int} : atI [D.int a, D.int c, D.int d] 1 = some (.int c) := atI_nat (j := 1) rfl
theorem at2 {a c d : Int} : atI [D.int a, D.int c, D.int d] 2 = some (.int d) := atI_nat (j := 2) rfl
def primes : List Int := [2147483647, 2147483629, 2147483587, 2147483579, 2147483563]
theorem prime_at {i : Int} (h0 : 0 ≤ i) (h5 : i < 5) : ∃ q, atI (primes.map D.int) i = some (.int q) ∧ 2147483563 ≤ q ∧ q ≤ 2147483647 := by
  obtain ⟨n, rfl⟩ := Int.eq_ofNat_of_zero_le h0
  have : n < 5 := by omega
  match n, this with
  | 0, _ => exact ⟨2147483647, atI_nat (j := 0) rfl, by decide, by decide⟩
  | 1, _ => exact ⟨2147483629, atI_nat (j := 1) rfl, by decide, by decide⟩
  | 2, _ => exact ⟨2147483587, atI_nat (j := 2) rfl, by decide, by decide⟩
  | 3, _ => exact ⟨2147483579, atI_nat (j := 3) rfl, by decide, by decide⟩
  | 4, _ => exact ⟨2147483563, atI_nat (j := 4) rfl, by decide, by decide⟩
theorem log40 {u : Int} (h1 : 1 ≤ u) (h2 : u ≤ 10 ^ 40) : u.natAbs.log2 < 9000 := by
  have e : u.natAbs < 16 ^ 40 := by
    have : (10 : Int) ^ 40 < 16 ^ 40 := by decide +kernel
    have e2 : ((16 ^ 40 : Nat) : Int) = 16 ^ 40 := by decide +kernel
    omega
  have := log16 e
  omega
abbrev nTake : List Str := ["_law_pot_here", "_law_upto", "_law_digit", "_law_prime", "_law_mixed"]
theorem sq_le {d : Int} (h0 : 0 ≤ d) (h : d ≤ 100000) : 0 ≤ 98123 * d * d ∧ 98123 * d * d ≤ 98123 * 100000 * 100000 := by
  have h1 : 0 ≤ d * d := Int.mul_nonneg h0 h0
  have h2 : d * d ≤ 100000 * 100000 := Int.mul_le_mul h h h0 (by decide)
  rw [Int.mul_assoc]
  omega
theorem ok_take (F : Fx w K mg) : BodyOk P w K mg base "_law_take" s__law_take nTake 2 0 cTake := by
  intro f cdv A outer s H E hr ds M Φ hl hc
  obtain ⟨p, u, a, c, d, rfl, hu, hu2, hM, ⟨c0, c1⟩, d0, d1, hc⟩ := hc
  have nd : nTake.Nodup := by decide +kernel
  refine wss_cons (ws_if (wt_gtI (we_ix (we_var 0 rfl (we_int ⟨0, _, rfl, ixO hM at0, we_int ⟨_, _, rfl, rfl, ?_⟩⟩)))))
  refine ite_dec (fun ha => ?_) fun ha => ?_
  · refine wss_cons (ws_set 2 nd (we_modI (we_intN (F.bn _ (by decide +kernel)) (we_ix (we_var 0 rfl (we_int ⟨0, _, rfl, ixO hM at0, .inl ⟨_, rfl, we_var 1 rfl ⟨_, _, rfl, rfl, by omega, ?_⟩⟩⟩))))))
    refine wss_cons (ws_asg (we_divI (we_ix (we_var 0 rfl (we_int ⟨0, _, rfl, ixO hM at0, we_var 1 rfl ⟨_, _, rfl, rfl, ⟨by omega, ?_⟩, ?_⟩⟩)))))
    · exact log40 hu hu2
    · refine wg_sub (we_var 0 rfl (we_int ⟨p, _, 0, 0, rfl, rfl, hM, rfl, ?_⟩))
      refine wss_cons (ws_ret (we_var 2 rfl (Lets.of ?_)))
      exact hc _ _ _ (Int.emod_nonneg _ (by omega)) (Int.emod_lt_of_pos _ (by omega)) (Int.le_refl _) (by omega)
  · refine wss_nil ?_
    refine wss_cons (ws_asg (we_addI (we_ix (we_var 0 rfl (we_int ⟨2, _, rfl, ixO hM at2, we_int ⟨_, _, rfl, rfl, ?_⟩⟩)))))
    refine wg_sub (we_var 0 rfl (we_int ⟨p, _, 2, 2, rfl, rfl, hM, rfl, ?_⟩))
    show WSs _ _ (mset M p (potL a c (d + 1))) _ _
    have hM2 : mset M p (potL a c (d + 1)) p = some (potL a c (d + 1)) := mset_same
    obtain ⟨q, hq, q1, q2⟩ := prime_at (i := (d + 1) % 5) (Int.emod_nonneg _ (by decide)) (Int.emod_lt_of_pos _ (by decide))
    refine wss_cons (ws_set 3 nd (we_ix (we_lst (wa_cons (we_int (wa_cons (we_int (wa_cons (we_int (wa_cons (we_int (wa_cons (we_int (wa_nil ⟨by show 5 ≤ sizeLine; decide, ?_⟩))))))))))))))
    refine we_modI (we_intN (F.bn _ (by decide +kernel)) (we_ix (we_var 0 rfl (we_int ⟨2, _, rfl, ixO hM2 at2, .inl ⟨_, rfl, we_int ⟨_, _, rfl, rfl, by decide, _, _, rfl, ixL hq, ?_⟩⟩⟩))))
    obtain ⟨s1, s2⟩ := sq_le (d := d + 1) (by omega) (by omega)
    refine wss_cons (ws_set 4 nd (we_modI (we_intN (F.bn _ (by decide +kernel)) (we_powI (we_intN (F.bn _ (by decide +kernel)) (we_addI (we_addI (we_ix (we_var 0 rfl (we_int ⟨1, _, rfl, ixO hM2 at1, ?_⟩))))))))))
    refine we_mulS (we_mulS (we_int (we_ix (we_var 0 rfl (we_int ⟨2, _, rfl, ixO hM2 at2, _, _, rfl, rfl, .inl ⟨by decide, by decide⟩, we_ix (we_var 0 rfl (we_int ⟨2, _, rfl, ixO hM2 at2, _, _, rfl, rfl, .inr ⟨by omega, by omega⟩, _, _, rfl, rfl, ?_⟩))⟩)))))
    refine we_int ⟨_, _, rfl, rfl, .inl ⟨_, rfl, we_int ⟨_, _, rfl, rfl, ⟨by decide, by decide, ?_⟩, .inl ⟨_, rfl, we_var 3 rfl ⟨_, _, rfl, rfl, by omega, ?_⟩⟩⟩⟩⟩
    · omega
    generalize hm : ((c + 98123 * (d + 1) * (d + 1) + 41) ^ (3 : Int).toNat) % q = m
    have m0 : 0 ≤ m := by rw [← hm]; exact Int.emod_nonneg _ (by omega)
    have m1 : m < q := by rw [← hm]; exact Int.emod_lt_of_pos _ (by omega)
    refine wss_cons (ws_set 4 nd (we_modI (we_intN (F.bn _ (by decide +kernel)) (we_mulS (we_var 4 rfl (we_addI (we_modI (we_intN (F.bn _ (by decide +kernel)) (we_var 4 rfl (.inl ⟨_, rfl, we_int ⟨_, _, rfl, rfl, by decide, ?_⟩⟩))))))))))
    refine we_mulS (we_int (we_ix (we_var 0 rfl (we_int ⟨2, _, rfl, ixO hM2 at2, _, _, rfl, rfl, .inl ⟨by decide, by decide⟩, _, _, rfl, rfl, _, _, rfl, rfl, .inl ⟨by omega, by omega⟩, .inl ⟨_, rfl, we_int ⟨_, _, rfl, rfl, by decide, ?_⟩⟩⟩))))
    refine wss_cons (ws_ret (we_modI (we_intN (F.bn _ (by decide +kernel)) (we_divI (we_var 4 rfl (we_int ⟨_, _, rfl, rfl, ⟨by decide, by decide⟩, .inl ⟨_, rfl, we_var 1 rfl ⟨_, _, rfl, rfl, by omega, Lets.of ?_⟩⟩⟩))))))
    exact hc _ _ _ (Int.emod_nonneg _ (by omega)) (Int.emod_lt_of_pos _ (by omega)) (by omega) (by omega)
end
end W
namespace DL
open PySem PySem.Spec PyProof.Rows L2
mutual
inductive FzN (M M' : Mp) : D → D → Prop where
  | of {d d' : D} (f : Fz M M' d d') : FzN M M' d d'
  | lst {ds ds' : List D} (f : FzNs M M' ds ds') : FzN M M' (.lst ds) (.lst ds')
inductive FzNs (M M' : Mp) : List D → List D → Prop where
  | nil : FzNs M M' [] []
  | cons {d d' : D} {ds ds' : List D} (f : FzN M M' d d') (t : FzNs M M' ds ds') : FzNs M M' (d :: ds) (d' :: ds')
end
section
variable {K : PySem.W.Frag} {M M' : Mp} {Z : Zn} {H : Hp}
mutual
theorem FzN.rep (l : Les M' M) (w : Wd K M Z H) : ∀ {v : V} {d d' : D}, FzN M M' d d' → Rep K M Z H v d → Rep K M' Z H v d'
  | _, _, _, .of f, r => f.rep l w r
  | _, _, _, .lst f, .lst h m r => .lst h (l.x _ _ h m).2 (FzNs.rep l w f r)
theorem FzNs.rep (l : Les M' M) (w : Wd K M Z H) : ∀ {vs : List V} {ds ds' : List D}, FzNs M M' ds ds' → Reps K M Z H vs ds → Reps K M' Z H vs ds'
  | _, _, _, .nil, .nil => .nil
  | _, _, _, .cons f t, .cons r u => .cons (FzN.rep l w f r) (FzNs.rep l w t u)
end
inductive FzG (M M' : Mp) : List (Str × D) → List (Str × D) → Prop where
  | nil : FzG M M' [] []
  | cons {k : Str} {d d' : D} {r r' : List (Str × D)} : FzN M M' d d' → FzG M M' r r' → FzG M M' ((k, d) :: r) ((k, d') :: r')
theorem FzG.same : ∀ {k : Str} {d : D} {r r' : List (Str × D)}, FzG M M' r r' → FzG M M' ((k, d) :: r) ((k, d) :: r') := fun h => .cons (.of (.same _)) h
theorem FzG.rep (l : Les M' M) (w : Wd K M Z H) : ∀ {vs : List (Str × V)} {fs fs' : List (Str × D)}, FzG M M' fs fs' → RepF K M Z H vs fs → RepF K M' Z H vs fs'
  | _, _, _, .nil, .nil => .nil
  | _, _, _, .cons f t, .cons r u => .cons (f.rep l w r) (FzG.rep l w t u)
end
end DL
namespace DL
open PySem PySem.Spec PyProof.Rows L2
inductive FzEN (M M' : Mp) : Rho → Rho → Prop where
  | nil : FzEN M M' [] []
  | val {d d' : D} {ρ ρ' : Rho} : FzN M M' d d' → FzEN M M' ρ ρ' → FzEN M M' (some d :: ρ) (some d' :: ρ')
  | drop {o : Option D} {ρ ρ' : Rho} : FzEN M M' ρ ρ' → FzEN M M' (o :: ρ) (none :: ρ')
theorem FzEN.env {K : PySem.W.Frag} {M M' : Mp} {Z : Zn} {H : Hp} (l : Les M' M) (w : Wd K M Z H) : ∀ {σ : L2.St} {ρ ρ' : Rho}, FzEN M M' ρ ρ' → EnvR K M Z H σ ρ → EnvR K M' Z H σ ρ'
  | _, _, _, .nil, .nil => .nil
  | _, _, _, .drop t, .any u => .any (FzEN.env l w t u)
  | _, _, _, .drop t, .val r u => .any (FzEN.env l w t u)
  | _, _, _, .val f t, .val r u => .val (f.rep l w r) (FzEN.env l w t u)
/-- go on with less, lists of objects let go -/
theorem wss_letN {X : Cx} {ρ ρ' : Rho} {M M' : Mp} {sts : List Stmt} {Ψ : DE} (l : Les M' M) (f : FzEN M M' ρ ρ') (h : WSs X ρ' M' sts Ψ) : WSs X ρ M sts Ψ := .mk fun σ H E en w k =>
  h.run σ H E (FzEN.env l w f en) (l.w w) (k.step (l.ext w))
/-- new objects stand at qs, all else is as it was -/
structure FamM (M M' : Mp) (qs : List Addr) (g : Nat → MO) : Prop where
  nd : qs.Nodup
  new : ∀ q ∈ qs, M q = none
  out : ∀ b, b ∉ qs → M' b = M b
  inn : ∀ i q, qs[i]? = some q → M' q = some (g i)
theorem FamM.nil {M : Mp} {g : Nat → MO} : FamM M M [] g := ⟨.nil, (by intro _ h; cases h), fun _ _ => rfl, (by intro i q h; simp at h)⟩
theorem FamM.snoc {M M' : Mp} {qs : List Addr} {g : Nat → MO} {q : Addr} {o : MO} (F : FamM M M' qs g) (hq : M' q = none) (hg : g qs.length = o) : FamM M (mset M' q o) (qs ++ [q]) g := by
  have hn : q ∉ qs := fun h => by
    obtain ⟨i, hi, e⟩ := List.getElem_of_mem h
    have := F.inn i q (by rw [List.getElem?_eq_getElem hi, e])
    rw [hq] at this; cases this
  refine ⟨List.nodup_append.mpr ⟨F.nd, List.pairwise_singleton _ _, fun x hx y hy e => hn (by rw [← List.mem_singleton.mp hy, ← e]; exact hx)⟩, fun x hx => ?_, fun b hb => ?_, fun i x hx => ?_⟩
  · rcases List.mem_append.mp hx with h | h
    · exact F.new x h
    · rw [List.mem_singleton.mp h, ← F.out q hn]; exact hq
  · rw [mset_ne (fun e => hb (by rw [e]; exact List.mem_append_right _ (List.mem_singleton.mpr rfl)))]
    exact F.out b fun h => hb (List.mem_append_left _ h)
  · rcases Nat.lt_or_ge i qs.length with hi | hi
    · rw [List.getElem?_append_left hi] at hx
      rw [mset_ne (fun e => hn (by rw [← e]; exact List.mem_of_getElem? hx))]
      exact F.inn i x hx
    · rw [List.getElem?_append_right hi] at hx
      obtain ⟨h0, e⟩ := List.getElem?_eq_some_iff.mp hx
      rw [List.length_singleton] at h0
      rw [List.getElem_singleton] at e
      rw [← e, mset_same, show i = qs.length by omega, hg]
theorem FamM.same {M M' : Mp} {qs : List Addr} {g : Nat → MO} (F : FamM M M' qs g) {i j : Nat} {q : Addr} (hi : qs[i]? = some q) (hj : qs[j]? = some q) : i = j := by
  obtain ⟨h1, e1⟩ := List.getElem?_eq_some_iff.mp hi
  obtain ⟨h2, e2⟩ := List.getElem?_eq_some_iff.mp hj
  exact (List.getElem_inj F.nd).mp (e1.trans e2.symm)
theorem FamM.put {M M' : Mp} {qs : List Addr} {g g' : Nat → MO} {i : Nat} {q : Addr} {o : MO} (F : FamM M M' qs g) (hq : qs[i]? = some q) (h1 : g' i = o) (h2 : ∀ j, j < qs.length → j ≠ i → g' j = g j) : FamM M (mset M' q o) qs g' := by
  refine ⟨F.nd, F.new, fun b hb => ?_, fun j x hx => ?_⟩
  · rw [mset_ne (fun e => hb (by rw [e]; exact List.mem_of_getElem? hq))]
    exact F.out b hb
  · by_cases e : j = i
    · subst e
      rw [hq] at hx; cases hx
      rw [mset_same, h1]
    · rw [mset_ne (fun z => e (F.same (by rw [hx, z]) hq)), h2 j (List.getElem?_eq_some_iff.mp hx).1 e]
      exact F.inn j x hx
theorem FamM.ext {M M' : Mp} {qs : List Addr} {g g' : Nat → MO} (F : FamM M M' qs g) (h : ∀ i, i < qs.length → g' i = g i) : FamM M M' qs g' := ⟨F.nd, F.new, F.out, fun i q hq => by rw [h i (List.getElem?_eq_some_iff.mp hq).1]; exact F.inn i q hq⟩
theorem FamM.les {M M' : Mp} {qs : List Addr} {g : Nat → MO} (F : FamM M M' qs g) : Les M M' := fun b => by
  rcases Classical.em (b ∈ qs) with h | h
  · exact .inr (F.new b h)
  · exact .inl (F.out b h).symm
/-- lists let go -/
theorem FamM.fzL {M M' : Mp} {g : Nat → List D} : ∀ {qs : List Addr} (k : Nat), (∀ i q, qs[i]? = some q → M' q = some (.lst (g (k + i)))) → (∀ q ∈ qs, M q = none) → FzNs M' M (qs.map D.ob) ((List.range' k qs.length).map fun i => D.lst (g i))
  | [], _, _, _ => .nil
  | q :: qs, k, h, hn => by
    rw [List.map_cons, List.length_cons, List.range'_succ, List.map_cons]
    exact .cons (.of (.lst (h 0 q rfl) (hn q List.mem_cons_self))) (FamM.fzL (k + 1) (fun i x hx => by have := h (i + 1) x hx; rwa [show k + (i + 1) = k + 1 + i by omega] at this) fun x hx => hn x (List.mem_cons_of_mem _ hx))
end DL
namespace W
open PySem PySem.Spec PyProof.Rows L2 DL SX PL SlX
theorem ixN_in {n k : Nat} (h : k < n) : ixN n ((k : Nat) : Int) = some k := by
  unfold ixN
  simp only [Int.toNat_natCast]
  rw [if_pos (by omega), if_pos (by omega)]
abbrev rowK (f : Nat → Nat → Bool) (n i : Nat) : List D := (List.range n).map fun j => D.bl (f i j)
abbrev kwD (f : Nat → Nat → Bool) (n : Nat) : D := .lst ((List.range n).map fun i => .lst (rowK f n i))
theorem rowK_at {f : Nat → Nat → Bool} {n i j : Nat} (h : j < n) : (rowK f n i)[j]? = some (.bl (f i j)) := by
  rw [List.getElem?_map, List.getElem?_range h]; rfl
theorem kw_at {f : Nat → Nat → Bool} {n i : Nat} {M : Mp} (h : i < n) : IxD M (kwD f n) (i : Int) (.lst (rowK f n i)) := ixL (atI_nat (by rw [List.getElem?_map, List.getElem?_range h]; rfl))
theorem kr_at {f : Nat → Nat → Bool} {n i j : Nat} {M : Mp} (h : j < n) : IxD M (.lst (rowK f n i)) (j : Int) (.bl (f i j)) := ixL (atI_nat (rowK_at h))
/-- one more tie -/
def tie (f : Nat → Nat → Bool) (a b i j : Nat) : Bool := if i = a ∧ j = b then true else f i j
theorem rowK_tie {f : Nat → Nat → Bool} {n a b : Nat} : (rowK f n a).set b (.bl true) = rowK (tie f a b) n a := by
  refine List.ext_getElem? fun j => ?_
  rw [List.getElem?_set]
  by_cases h : b = j
  · subst h
    rw [if_pos rfl, List.length_map, List.length_range]
    by_cases hb : b < n
    · rw [if_pos hb, rowK_at hb, tie, if_pos ⟨rfl, rfl⟩]
    · rw [if_neg hb, List.getElem?_eq_none (by rw [List.length_map, List.length_range]; omega)]
  · rw [if_neg h, List.getElem?_map, List.getElem?_map]
    cases hj : (List.range n)[j]? with
    | none => rfl
    | some k =>
      obtain ⟨_, e⟩ := List.getElem?_eq_some_iff.mp hj
      rw [List.getElem_range] at e
      show some (D.bl (f a k)) = some (D.bl (tie f a b a k))
      rw [tie, if_neg (by omega)]
theorem rowK_else {f : Nat → Nat → Bool} {n a b i : Nat} (h : i ≠ a) : rowK (tie f a b) n i = rowK f n i := List.map_congr_left fun j _ => by rw [tie, if_neg fun e => h e.1]
theorem rowK_ext {f g : Nat → Nat → Bool} (n i : Nat) (h : ∀ j, f i j = g i j) : rowK f n i = rowK g n i := List.map_congr_left fun j _ => by rw [h]
abbrev NIi (ns : List Nat) : List Int := ns.map fun (i : Nat) => (i : Int)
abbrev nsD (S : List Nat) : List D := (NIi S).map D.int
theorem nsD_get {S : List Nat} {i : Nat} {x : D} (h : (nsD S)[i]? = some x) : ∃ a, S[i]? = some a ∧ x = .int (a : Nat) := by
  rw [List.getElem?_map, List.getElem?_map] at h
  cases e : S[i]? with
  | none => rw [e] at h; cases h
  | some a => rw [e] at h; exact ⟨a, rfl, (Option.some.inj h).symm⟩
theorem nsD_len (S : List Nat) : (nsD S).length = S.length := by rw [List.length_map, List.length_map]
theorem nsD_app (S T : List Nat) : nsD (S ++ T) = nsD S ++ nsD T := by simp only [nsD, NIi, List.map_append]
end W
namespace W
open PySem PySem.Spec PyProof.Rows L2 DL SX PL SlX
abbrev pairD (q : Nat × Nat) : D := .tup [.int (q.1 : Nat), .int (q.2 : Nat)]
theorem eqv_nats : ∀ p q : List Nat, PyData.eqvAll (p.map fun (i : Nat) => PyData.int (i : Nat)) (q.map fun (i : Nat) => PyData.int (i : Nat)) = decide (p = q)
  | [], [] => by simp [PyData.eqvAll]
  | [], j :: q => by simp [PyData.eqvAll]
  | i :: p, [] => by simp [PyData.eqvAll]
  | i :: p, j :: q => by
    rw [List.map_cons, List.map_cons, PyData.eqvAll, eqv_nats p q, PyData.eqv]
    by_cases h : i = j
    · subst h; simp
    · have : ((i : Nat) : Int) ≠ (j : Nat) := by omega
      have h2 : (((i : Nat) : Int) == ((j : Nat) : Int)) = false := by simpa using this
      rw [h2]; simp [h]
theorem eqv_pair (a b : Nat × Nat) : PyData.eqv (.tuple [.int (a.1 : Nat), .int (a.2 : Nat)]) (.tuple [.int (b.1 : Nat), .int (b.2 : Nat)]) = decide (a = b) := by
  have e := eqv_nats [a.1, a.2] [b.1, b.2]
  simp only [PyData.eqv]
  rw [show PyData.eqvAll [PyData.int (a.1 : Nat), .int (a.2 : Nat)] [PyData.int (b.1 : Nat), .int (b.2 : Nat)] = _ from e]
  exact decide_eq_decide.mpr ⟨fun h => by simp at h; exact Prod.ext h.1 h.2, fun h => by rw [h]⟩
theorem cmp_pr (q : Nat × Nat) : CmpD (pairD q) (.tuple [.int (q.1 : Nat), .int (q.2 : Nat)]) 1 := cmp_tup (cmps_cons (cmp_int _) (Nat.le_refl _) (cmps_cons (cmp_int _) (Nat.le_refl _) cmps_nil))
theorem cmp_prL (ps : List (Nat × Nat)) : CmpD (.lst (ps.map pairD)) (.list (ps.map fun q => .tuple [.int (q.1 : Nat), .int (q.2 : Nat)])) 2 := cmp_lst (cmps_map (k := 1) (Nat.le_refl _) fun q _ => cmp_pr q)
end W
namespace PL
open PySem SX TL
/-- the one web can be laid on the other one -/
def Sim (kn kn' : Nat → Nat → Bool) (S S' : List Nat) : Prop := ∃ g : Nat → Nat, (S.map g).Perm S' ∧ ∀ x ∈ S, ∀ y ∈ S, x ≠ y → kn' (g x) (g y) = kn x y
theorem Sim.perm {kn kn' : Nat → Nat → Bool} {S S' S1 S1' : List Nat} (h : Sim kn kn' S S') (p : S1.Perm S) (p' : S'.Perm S1') : Sim kn kn' S1 S1' := by
  obtain ⟨g, h1, h2⟩ := h
  exact ⟨g, ((p.map g).trans h1).trans p', fun x hx y hy n => h2 x (p.mem_iff.mp hx) y (p.mem_iff.mp hy) n⟩
/-- who knows whom, people by their numbers -/
def kw (t : T) (i j : Nat) : Bool := knowsB t ((persL t).getD i []) ((persL t).getD j [])
theorem knows_sym : ∀ (p q : List Nat) (t : T), knowsB t p q = knowsB t q p
  | [], [], _ => rfl
  | [], _ :: _, _ => by simp [knowsB]
  | _ :: _, [], _ => by simp [knowsB]
  | i :: p, j :: q, t => by
    rw [knowsB, knowsB]
    by_cases e : i = j
    · subst e
      rw [if_pos rfl, if_pos rfl]
      cases piece t i with
      | none => rfl
      | some u => exact knows_sym p q u
    · rw [if_neg e, if_neg (Ne.symm e)]
end PL
namespace W
open PySem PySem.Spec PyProof.Rows L2 DL SX PL
section
variable {P : Program} {w : World} {K : PySem.W.Frag} {mg : Str → Option Value} {base : Heap} {C : Addr}
def cOf : Con := fun ds M Φ => ∃ p xs a c d, ds = [.ob p, .lst xs] ∧ xs ≠ [] ∧ xs.length ≤ 1000000 ∧ M p = some (potL a c d) ∧ cOk c ∧ 0 ≤ d ∧ d < 100000 ∧ ∀ x a' d', x ∈ xs → d ≤ d' → d' ≤ d + 1 → Φ x (mset M p (potL a' c d'))
theorem ok_of (F : Fx w K mg) (F1 : Fc P w K mg base "_law_take" [] 1 2 cTake) : BodyOk P w K mg base "_law_of" s__law_of ["_law_pot_here", "_law_some"] 2 1 cOf := by
  intro f cdv A outer s H E hr ds M Φ hl hc
  obtain ⟨p, xs, a, c, d, rfl, hx, hx2, hM, co, d0, d1, hc⟩ := hc
  have hpos : 0 < xs.length := List.length_pos_iff.mpr hx
  refine wss_cons (ws_ret (we_ix (we_var 1 rfl (we_call F1 (hr.mono (by decide)) (wa_cons (we_var 0 rfl (wa_cons (we_len (F.bn _ (by decide +kernel)) (we_var 1 rfl ⟨_, lenL, wa_nil ⟨rfl, p, _, a, c, d, rfl, by omega, ?_, hM, co, d0, d1, ?_⟩⟩)))))))))
  · have : (1000000 : Int) ≤ 10 ^ 40 := by decide +kernel
    omega
  · intro r a' d' r0 r1 h1 h2
    obtain ⟨n, rfl⟩ := Int.eq_ofNat_of_zero_le r0
    have hn : n < xs.length := by omega
    exact ⟨_, _, rfl, ixL (atI_nat (List.getElem?_eq_getElem hn)), Lets.of (hc _ _ _ (List.getElem_mem hn) h1 h2)⟩
/-- the script -/
abbrev scrD (ns : List Int) : D := .rol (ns.map D.int)
theorem bb (c : Bool) : -(2 ^ 64) < (if c = true then (1 : Int) else 0) ∧ (if c = true then (1 : Int) else 0) < 2 ^ 64 := by cases c <;> decide
theorem join_sum (b : Bool) : ∀ ps : List (List Nat), (ps.map (·.length)).sum + ps.length * 3 ≤ (TL.joinL (sep b) ps).length + 3
  | [] => by simp
  | [p] => by rw [TL.joinL]; simp
  | p :: q :: r => by
    have ih := join_sum b (q :: r)
    rw [TL.joinL, List.length_append, List.length_append, sep_len, List.map_cons, List.sum_cons, List.length_cons]
    omega
def cPot : Con := fun ds M Φ => ∃ ns pl, ds = [scrD ns, .int (pl : Nat)] ∧ pl ≤ 1000 ∧ ∀ q a c, M q = none → cOk c → Φ (.ob q) (mset M q (potL a c 0))
abbrev nPot : List Str := ["_law_script", "_law_place", "_law_cell", "_law_own", "_law_small_here"]
theorem ok_pot (F : Fx w K mg) : BodyOk P w K mg base "_law_pot" s__law_pot nPot 2 0 cPot := by
  intro f cdv A outer s H E hr ds M Φ hl hc
  obtain ⟨ns, pl, rfl, hpl, hc⟩ := hc
  have nd : nPot.Nodup := by decide +kernel
  have rest : ∀ cell : Int, WSs (bx P w K mg base nPot "_law_pot" (defScope s__law_pot) f cdv A outer s H E) [some (scrD ns), some (.int (pl : Nat)), some (.int cell), none, none] M ((defBody s__law_pot).drop 1) { nx := fun _ M' => Φ .non M', rt := Lets Φ } := fun cell => by
    refine wss_cons (ws_set 3 nd (we_mulS (we_modI (we_intN (F.bn _ (by decide +kernel)) (we_abs (F.bn _ (by decide +kernel)) (we_var 2 rfl ⟨_, rfl, .inl ⟨_, rfl, we_powW (we_powI (we_int (we_int ⟨_, _, rfl, rfl, ⟨by decide, by decide, by decide⟩, we_int ⟨_, _, rfl, rfl, ⟨by decide, by decide +kernel⟩, _, _, rfl, rfl, by decide +kernel, ?_⟩⟩)))⟩⟩))))))
    refine we_intN (F.bn _ (by decide +kernel)) (we_geI (we_abs (F.bn _ (by decide +kernel)) (we_var 2 rfl ⟨_, rfl, we_powI (we_int (we_int ⟨_, _, rfl, rfl, ⟨by decide, by decide, by decide⟩, _, _, rfl, rfl, .inr ⟨_, rfl, _, _, rfl, rfl, .inr ⟨?_, ?_⟩, ?_⟩⟩))⟩)))
    · exact (bb _).1
    · exact (bb _).2
    refine wss_cons (ws_set 4 nd (we_modI (we_intN (F.bn _ (by decide +kernel)) (we_var 2 rfl (.inl ⟨_, rfl, we_int ⟨_, _, rfl, rfl, by decide, ?_⟩⟩)))))
    have b0 : 0 ≤ cell % 2305843009213693951 := Int.emod_nonneg _ (by decide)
    have b1 : cell % 2305843009213693951 < 2305843009213693951 := Int.emod_lt_of_pos _ (by decide)
    refine wss_cons (ws_ret (we_lstM (wa_cons (we_var 3 rfl (wa_cons (we_modI (we_intN (F.bn _ (by decide +kernel)) (we_addI (we_addI (we_mulS (we_var 4 rfl (we_int ⟨_, _, rfl, rfl, .inl ⟨by omega, by omega⟩, we_mulS (we_mulS (we_int (we_var 1 rfl ⟨_, _, rfl, rfl, .inl ⟨by decide, by decide⟩, we_var 1 rfl ⟨_, _, rfl, rfl, .inr ⟨by omega, by omega⟩, _, _, rfl, rfl, we_int ⟨_, _, rfl, rfl, .inl ⟨_, rfl, we_int ⟨_, _, rfl, rfl, by decide, wa_cons (we_int (wa_nil ⟨sz3, fun q hq => Lets.of ?_⟩))⟩⟩⟩⟩⟩)))⟩))))))))))))
    exact hc q _ _ hq ⟨Int.emod_nonneg _ (by decide), Int.emod_lt_of_pos _ (by decide)⟩
  refine wss_cons (ws_set 2 nd (we_if (wt_ltI (we_var 1 rfl (we_len (F.bn _ (by decide +kernel)) (we_var 0 rfl ⟨_, lenR, _, _, rfl, rfl, ?_⟩))))))
  refine ite_dec (fun h => ?_) fun h => ?_
  · rw [List.length_map] at h
    have hq : (ns.map D.int)[pl]? = some (.int ns[pl]) := by rw [List.getElem?_map, List.getElem?_eq_getElem (by omega)]; rfl
    exact we_ix (we_var 0 rfl (we_var 1 rfl ⟨_, _, rfl, ixR (atI_nat hq), rest _⟩))
  · exact we_addI (we_mulS (we_int (we_var 1 rfl ⟨_, _, rfl, rfl, .inl ⟨by decide, by decide⟩, we_int ⟨_, _, rfl, rfl, rest _⟩⟩)))
def cCells : Con := fun ds M Φ => ∃ ns m, ds = [scrD ns, .int (m : Nat)] ∧ 1 ≤ m ∧ m ≤ 1000 ∧ ∀ n : Nat, n ≤ m → Φ (.lst (rngD 0 n)) M
theorem ok_cells (F : Fx w K mg) : BodyOk P w K mg base "_law_cells" s__law_cells ["_law_script", "_law_most_here"] 2 0 cCells := by
  intro f cdv A outer s H E hr ds M Φ hl hc
  obtain ⟨ns, m, rfl, h1, h2, hc⟩ := hc
  refine wss_cons (ws_ret (we_listRg1 (F.bn _ (by decide +kernel)) (F.bn _ (by decide +kernel)) (we_max2 (F.bn _ (by decide +kernel)) (we_int (we_min2 (F.bn _ (by decide +kernel)) (we_var 1 rfl (we_len (F.bn _ (by decide +kernel)) (we_var 0 rfl ⟨_, lenR, _, _, rfl, rfl, _, _, rfl, rfl, _, rfl, ?_, Lets.of (hc _ ?_)⟩))))))))
  · unfold RgOk; split <;> split <;> omega
  · split <;> split <;> omega
def firstS : T → Str
  | .one => "one"
  | .name _ => "name"
  | .cop s _ _ => S [opn s]
  | .row s _ => S [sgn s]
mutual
def loreD : T → D
  | .one => .tup [.str "one"]
  | .name x => .tup [.str "name", tS x]
  | .cop s n t => .tup [tS [opn s], .int (n : Nat), loreD t]
  | .row s ts => .tup [tS [sgn s], .tup (loresD ts)]
def loresD : List T → List D
  | [] => []
  | t :: ts => loreD t :: loresD ts
end
theorem loresD_map : ∀ ts : List T, loresD ts = ts.map loreD
  | [] => by rw [loresD]; rfl
  | t :: ts => by rw [loresD, loresD_map ts, List.map_cons]
theorem lore_tup (t : T) : ∃ r, loreD t = .tup (.str (firstS t) :: r) := by
  cases t with
  | one => exact ⟨_, by rw [loreD]; rfl⟩
  | name x => exact ⟨_, by rw [loreD]; rfl⟩
  | cop s n t => exact ⟨_, by rw [loreD]; rfl⟩
  | row s ts => exact ⟨_, by rw [loreD]; rfl⟩
theorem lore_at0 {M : Mp} (t : T) : IxD M (loreD t) 0 (.str (firstS t)) := by
  obtain ⟨r, e⟩ := lore_tup t
  rw [e]; exact ixT (atI_nat (j := 0) rfl)
theorem first_one {t : T} : decide (firstS t = ("one" : Str)) = isOne t := by
  cases t with
  | one => decide +kernel
  | name x => show decide (("name" : Str) = ("one" : Str)) = false; decide +kernel
  | cop s n u => show decide (S [opn s] = ("one" : Str)) = false; cases s <;> decide +kernel
  | row s ts => show decide (S [sgn s] = ("one" : Str)) = false; cases s <;> decide +kernel
theorem first_name {t : T} : decide (firstS t = ("name" : Str)) = isNm t := by
  cases t with
  | one => decide +kernel
  | name x => show decide (("name" : Str) = ("name" : Str)) = true; decide +kernel
  | cop s n u => show decide (S [opn s] = ("name" : Str)) = false; cases s <;> decide +kernel
  | row s ts => show decide (S [sgn s] = ("name" : Str)) = false; cases s <;> decide +kernel
theorem first_cop {t : T} : decide (firstS t ∈ (["[", "{"] : List Str)) = isCop t := by
  cases t with
  | one => decide +kernel
  | name x => show decide (("name" : Str) ∈ (["[", "{"] : List Str)) = false; decide +kernel
  | cop s n u => show decide (S [opn s] ∈ (["[", "{"] : List Str)) = true; cases s <;> decide +kernel
  | row s ts => show decide (S [sgn s] ∈ (["[", "{"] : List Str)) = false; cases s <;> decide +kernel
theorem first_leaf {t : T} : decide (firstS t ∈ (["one", "name"] : List Str)) = (isOne t || isNm t) := by
  cases t with
  | one => decide +kernel
  | name x => show decide (("name" : Str) ∈ (["one", "name"] : List Str)) = true; decide +kernel
  | cop s n u => show decide (S [opn s] ∈ (["one", "name"] : List Str)) = false; cases s <;> decide +kernel
  | row s ts => show decide (S [sgn s] ∈ (["one", "name"] : List Str)) = false; cases s <;> decide +kernel
def beside : T → Bool
  | .cop s _ _ => !s
  | .row s _ => !s
  | _ => false
theorem first_beside {t : T} : decide (firstS t ∈ (["+", "["] : List Str)) = beside t := by
  cases t with
  | one => decide +kernel
  | name x => show decide (("name" : Str) ∈ (["+", "["] : List Str)) = false; decide +kernel
  | cop s n u => show decide (S [opn s] ∈ (["+", "["] : List Str)) = !s; cases s <;> decide +kernel
  | row s ts => show decide (S [sgn s] ∈ (["+", "["] : List Str)) = !s; cases s <;> decide +kernel
def cText (h : Nat) : Con := fun ds M Φ => ∃ t, ds = [loreD t] ∧ Good t ∧ (txt t).length ≤ 100000 ∧ ht t ≤ h ∧ Φ (tS (txt t)) M
theorem ok_lawtext (h : Nat) (F : Fx w K mg) (F1 : ∀ j, h = j + 1 → Fc P w K mg base "_law_text" [] (j + 1) 1 (cText j)) : BodyOk P w K mg base "_law_text" s__law_text ["_law_lore", "_law_part"] 1 h (cText h) := by
  intro f cdv A outer s H E hr ds M Φ hl hc
  obtain ⟨t, rfl, hg, hl, hh, hc⟩ := hc
  have nd : (["_law_lore", "_law_part"] : List Str).Nodup := by decide +kernel
  refine wss_cons (ws_if (wt_eqS (we_ix (we_var 0 rfl (we_int ⟨0, _, rfl, lore_at0 t, we_str ⟨_, rfl, ?_⟩⟩)))))
  rw [first_one]
  cases h1 : isOne t with
  | true =>
    cases t with
    | one => exact wss_cons (ws_ret (we_str (Lets.of (by rw [show ("1" : Str) = S (txt .one) by rw [txt]; decide +kernel]; exact hc))))
    | _ => cases h1
  | false =>
  refine wss_nil (wss_cons (ws_if (wt_eqS (we_ix (we_var 0 rfl (we_int ⟨0, _, rfl, lore_at0 t, we_str ⟨_, rfl, ?_⟩⟩))))))
  rw [first_name]
  cases h2 : isNm t with
  | true =>
    cases t with
    | name x => exact wss_cons (ws_ret (we_ix (we_var 0 rfl (we_int ⟨1, _, rfl, by rw [loreD]; exact ixT (atI_nat (j := 1) rfl), Lets.of (by rw [txt] at hc; exact hc)⟩))))
    | _ => cases h2
  | false =>
  refine wss_nil (wss_cons (ws_if (wt_inS (we_ix (we_var 0 rfl (we_int ⟨0, _, rfl, lore_at0 t, we_txts ⟨_, _, rfl, .inl rfl, ?_⟩⟩))))))
  rw [first_cop]
  cases t with
  | one => cases h1
  | name x => cases h2
  | cop b n u =>
    obtain ⟨n1, n2, hu⟩ := hg
    obtain ⟨j, rfl⟩ : ∃ j, h = j + 1 := ⟨h - 1, by rw [ht] at hh; omega⟩
    have hl2 : (TL.numL n).length + (txt u).length + 3 ≤ 100000 := by rw [txt] at hl; simp at hl; omega
    have i1 : ∀ M, IxD M (loreD (.cop b n u)) 1 (.int (n : Nat)) := fun M => by rw [loreD]; exact ixT (atI_nat (j := 1) rfl)
    have i2 : ∀ M, IxD M (loreD (.cop b n u)) 2 (loreD u) := fun M => by rw [loreD]; exact ixT (atI_nat (j := 2) rfl)
    have e1 : ([("[", "]"), ("{", "}")] : List (Str × Str)).lookup (S [opn b]) = some (S [cls b]) := by cases b <;> decide +kernel
    refine wss_cons (ws_ret (we_addS (we_addS (we_addS (we_addS (we_ix (we_var 0 rfl (we_int ⟨0, _, rfl, lore_at0 _, we_strI (F.bn _ (by decide +kernel)) (we_ix (we_var 0 rfl (we_int ⟨1, _, rfl, i1 _, _, rfl, ?_, _, _, rfl, rfl, ?_, ?_⟩)))⟩))))))))
    · rw [Int.natAbs_natCast]
      have e2 : n < 16 ^ 26 := Nat.lt_of_le_of_lt n2 (by decide)
      have e3 := log16 e2
      omega
    · rw [num_S, show firstS (.cop b n u) = S [opn b] from rfl, S_len, S_len, sizeLine_eq]; simp; omega
    rw [num_S, show firstS (.cop b n u) = S [opn b] from rfl, S_cat]
    refine we_str ⟨_, _, rfl, rfl, ?_, we_call (F1 j rfl) (hr.mono (by omega)) (wa_cons (we_ix (we_var 0 rfl (we_int ⟨2, _, rfl, i2 _, wa_nil ⟨rfl, u, rfl, hu, by omega, by rw [ht] at hh; omega, _, _, rfl, rfl, ?_, ?_⟩⟩))))⟩
    · rw [show (" " : Str) = S [32] by decide +kernel, S_len, S_len, sizeLine_eq]; simp; omega
    · rw [show (" " : Str) = S [32] by decide +kernel, S_cat, S_len, S_len, sizeLine_eq]; simp; omega
    rw [show (" " : Str) = S [32] by decide +kernel, S_cat, S_cat]
    refine we_disp2 (hu_of hr) (by decide +kernel) (we_ix (we_var 0 rfl (we_int ⟨0, _, rfl, lore_at0 _, _, _, rfl, e1, _, _, rfl, rfl, ?_, Lets.of ?_⟩)))
    · rw [S_len, S_len, sizeLine_eq]; simp; omega
    · rw [S_cat]
      have e3 : ([opn b] ++ TL.numL n ++ [32] ++ txt u ++ [cls b]) = txt (.cop b n u) := by rw [txt]; simp
      rw [e3]; exact hc
  | row b ts =>
    have i1 : ∀ M, IxD M (loreD (.row b ts)) 1 (.tup (ts.map loreD)) := fun M => by rw [loreD, loresD_map]; exact ixT (atI_nat (j := 1) rfl)
    have hz := row_len b ts
    have hj := joins_len b (txts ts)
    rw [txts_len] at hj
    refine wss_nil (wss_cons (ws_ret (we_addS (we_addS (we_str (we_join (we_addS (we_addS (we_str (we_ix (we_var 0 rfl (we_int ⟨0, _, rfl, lore_at0 _, _, _, rfl, rfl, ?_, we_str ⟨_, _, rfl, rfl, ?_, _, rfl, ?_⟩⟩))))))))))))
    · rw [show firstS (.row b ts) = S [sgn b] from rfl, show (" " : Str) = S [32] by decide +kernel, S_len, S_len]; show 2 ≤ sizeLine; decide
    · rw [show firstS (.row b ts) = S [sgn b] from rfl, show (" " : Str) = S [32] by decide +kernel, S_cat, S_len, S_len]; show 3 ≤ sizeLine; decide
    rw [show firstS (.row b ts) = S [sgn b] from rfl, show (" " : Str) = S [32] by decide +kernel, S_cat, S_cat, show [32] ++ [sgn b] ++ [32] = sep b from rfl]
    refine we_lc nd (blkOk_by (N := ["_law_lore", "_law_part"]) (sc := defScope s__law_text) (own := [("_law_part", 1)]) (by decide +kernel)) (fun _ _ _ _ _ => pg_name (i := 1) nd rfl (Or.inl rfl)) (gt_name (by decide)) (fun _ _ _ _ _ => pts_nil) tk_nil (wi_tup (we_ix (we_var 0 rfl (we_int ⟨1, _, rfl, i1 _, _, rfl, ?_⟩))))
    refine ⟨by rw [List.length_map, sizeLine_eq]; omega, fun i acc M' => M' = M ∧ acc = (((ts.take i).map txt).map S).map D.str, ⟨rfl, rfl⟩, ?_, ?_⟩
    · rintro i x acc M' hx ⟨rfl, rfl⟩
      rw [List.getElem?_map] at hx
      obtain ⟨u, hu, rfl⟩ := Option.map_eq_some_iff.mp hx
      have hm : ((1, u) : Nat × T) ∈ kids (.row b ts) := by unfold kids; exact List.mem_map.mpr ⟨u, List.mem_of_getElem? hu, rfl⟩
      obtain ⟨g1, g2, g3, g4, g5⟩ := kids_ok hm hg
      have g2 : ht u < ht (.row b ts) := g2
      have g3 : (txt u).length < (txt (.row b ts)).length := g3
      obtain ⟨j, rfl⟩ : ∃ j, h = j + 1 := ⟨h - 1, by omega⟩
      intro s1 H1 C' cl fp
      refine we_call (F1 j rfl) (hr.mono (by omega)) (wa_cons (we_var 1 rfl (wa_nil ⟨rfl, u, rfl, g1, by omega, by omega, rfl, ?_⟩)))
      rw [take_snoc hu, List.map_append, List.map_append, List.map_append]; rfl
    · rintro acc M' ⟨rfl, rfl⟩
      rw [List.length_map, List.take_length]
      have hlen : ((txts ts).map (·.length)).sum + (txts ts).length * 3 ≤ (TL.joinL (sep b) (txts ts)).length + 3 := join_sum b _
      refine ⟨(ts.map txt).map S, .inl rfl, ?_, ?_⟩
      · rw [lens, ← txts_map, List.length_map, S_len, sep_len]; omega
      · rw [join_S, ← txts_map]
        refine ⟨_, _, rfl, rfl, ?_, we_str ⟨_, _, rfl, rfl, ?_, Lets.of ?_⟩⟩
        · rw [show ("(" : Str) = S [40] by decide +kernel, S_len, S_len, sizeLine_eq]; simp; omega
        · rw [show ("(" : Str) = S [40] by decide +kernel, show (")" : Str) = S [41] by decide +kernel, S_cat, S_len, S_len, sizeLine_eq]; simp; omega
        · rw [show ("(" : Str) = S [40] by decide +kernel, show (")" : Str) = S [41] by decide +kernel, S_cat, S_cat]
          have e3 : [40] ++ TL.joinL (sep b) (txts ts) ++ [41] = txt (.row b ts) := by rw [row_txt]; simp
          rw [e3]; exact hc
end
end W
namespace W
open PySem PySem.Spec PyProof.Rows L2 DL SX PL SlX
section
variable {P : Program} {w : World} {K : PySem.W.Frag} {mg : Str → Option Value} {base : Heap} {C G R O S U : Addr}
def cCount : Con := fun ds M Φ => ∃ t, ds = [loreD t] ∧ Φ (.int (cnt t : Nat)) M
theorem ok_count (F : Fx w K mg) : BodyOk P w K mg base "_law_count" s__law_count ["_law_lore"] 1 0 cCount := by
  intro f cdv A outer s H E hr ds M Φ hl hc
  obtain ⟨t, rfl, hc⟩ := hc
  refine wss_cons (ws_if (wt_inS (we_ix (we_var 0 rfl (we_int ⟨0, _, rfl, lore_at0 t, we_txts ⟨_, _, rfl, .inl rfl, ?_⟩⟩)))))
  rw [first_leaf]
  cases t with
  | one => exact wss_cons (ws_ret (we_int (Lets.of hc)))
  | name x => exact wss_cons (ws_ret (we_int (Lets.of hc)))
  | cop b n u =>
    have i1 : ∀ M, IxD M (loreD (.cop b n u)) 1 (.int (n : Nat)) := fun M => by rw [loreD]; exact ixT (atI_nat (j := 1) rfl)
    refine wss_nil (wss_cons (ws_ret (we_if (wt_inS (we_ix (we_var 0 rfl (we_int ⟨0, _, rfl, lore_at0 _, we_txts ⟨_, _, rfl, .inl rfl, ?_⟩⟩)))))))
    rw [first_cop]
    refine we_ix (we_var 0 rfl (we_int ⟨1, _, rfl, i1 _, Lets.of ?_⟩))
    rw [cnt_cop] at hc; exact hc
  | row b ts =>
    have i1 : ∀ M, IxD M (loreD (.row b ts)) 1 (.tup (ts.map loreD)) := fun M => by rw [loreD, loresD_map]; exact ixT (atI_nat (j := 1) rfl)
    refine wss_nil (wss_cons (ws_ret (we_if (wt_inS (we_ix (we_var 0 rfl (we_int ⟨0, _, rfl, lore_at0 _, we_txts ⟨_, _, rfl, .inl rfl, ?_⟩⟩)))))))
    rw [first_cop]
    refine we_len (F.bn _ (by decide +kernel)) (we_ix (we_var 0 rfl (we_int ⟨1, _, rfl, i1 _, _, lenT, Lets.of ?_⟩)))
    rw [cnt_row] at hc; rw [List.length_map]; exact hc
def cPiece : Con := fun ds M Φ => ∃ t i u, ds = [loreD t, .int (i : Nat)] ∧ piece t i = some u ∧ Φ (loreD u) M
theorem ok_piece : BodyOk P w K mg base "_law_piece" s__law_piece ["_law_lore", "_law_index"] 2 0 cPiece := by
  intro f cdv A outer s H E hr ds M Φ hl hc
  obtain ⟨t, i, u, rfl, hp, hc⟩ := hc
  refine wss_cons (ws_ret (we_if (wt_inS (we_ix (we_var 0 rfl (we_int ⟨0, _, rfl, lore_at0 t, we_txts ⟨_, _, rfl, .inl rfl, ?_⟩⟩))))))
  rw [first_cop]
  cases t with
  | one => cases hp
  | name x => cases hp
  | cop b n v =>
    obtain rfl : v = u := Option.some.inj hp
    have i2 : ∀ M, IxD M (loreD (.cop b n v)) 2 (loreD v) := fun M => by rw [loreD]; exact ixT (atI_nat (j := 2) rfl)
    exact we_ix (we_var 0 rfl (we_int ⟨2, _, rfl, i2 _, Lets.of hc⟩))
  | row b ts =>
    have i1 : ∀ M, IxD M (loreD (.row b ts)) 1 (.tup (ts.map loreD)) := fun M => by rw [loreD, loresD_map]; exact ixT (atI_nat (j := 1) rfl)
    have hq : (ts.map loreD)[i]? = some (loreD u) := by rw [List.getElem?_map, show ts[i]? = some u from hp]; rfl
    exact we_ix (we_ix (we_var 0 rfl (we_int ⟨1, _, rfl, i1 _, we_var 1 rfl ⟨_, _, rfl, ixT (atI_nat hq), Lets.of hc⟩⟩)))
def cBeside : Con := fun ds M Φ => ∃ t, ds = [loreD t] ∧ Φ (.bl (beside t)) M
theorem ok_beside : BodyOk P w K mg base "_law_is_beside" s__law_is_beside ["_law_lore"] 1 0 cBeside := by
  intro f cdv A outer s H E hr ds M Φ hl hc
  obtain ⟨t, rfl, hc⟩ := hc
  refine wss_cons (ws_ret (we_inS (we_ix (we_var 0 rfl (we_int ⟨0, _, rfl, lore_at0 t, we_txts ⟨_, _, rfl, .inl rfl, Lets.of ?_⟩⟩)))))
  rw [first_beside]; exact hc
end
end W
namespace W
open PySem PySem.Spec PyProof.Rows L2 DL SX PL SlX
structure WbL (t : T) (L : List (List Nat)) (ps : List (Nat × Nat)) : Prop where
  inn : ∀ q ∈ ps, q.1 < q.2 ∧ q.2 < L.length
  nd : ps.Nodup
  kno : ∀ i j, i < j → j < L.length → ((i, j) ∈ ps ↔ knowsB t (L.getD i []) (L.getD j []) = true)
abbrev Wb (t : T) (ps : List (Nat × Nat)) : Prop := WbL t (persL t) ps
def shP (n : Nat) (ps : List (Nat × Nat)) : List (Nat × Nat) := ps.map fun q => (n + q.1, n + q.2)
def crP (n m : Nat) : List (Nat × Nat) := (List.range n).flatMap fun i => (List.range m).map fun j => (i, n + j)
theorem shP_mem {n : Nat} {ps : List (Nat × Nat)} {i j : Nat} : (i, j) ∈ shP n ps ↔ ∃ a b, (a, b) ∈ ps ∧ i = n + a ∧ j = n + b := by
  unfold shP
  rw [List.mem_map]
  constructor
  · rintro ⟨⟨a, b⟩, h, e⟩
    injection e with e1 e2
    exact ⟨a, b, h, e1.symm, e2.symm⟩
  · rintro ⟨a, b, h, rfl, rfl⟩
    exact ⟨(a, b), h, rfl⟩
theorem crP_mem {n m i j : Nat} : (i, j) ∈ crP n m ↔ i < n ∧ ∃ b, b < m ∧ j = n + b := by
  unfold crP
  rw [List.mem_flatMap]
  constructor
  · rintro ⟨a, ha, h⟩
    obtain ⟨b, hb, e⟩ := List.mem_map.mp h
    injection e with e1 e2
    subst e1
    exact ⟨List.mem_range.mp ha, b, List.mem_range.mp hb, e2.symm⟩
  · rintro ⟨hi, b, hb, rfl⟩
    exact ⟨i, List.mem_range.mpr hi, List.mem_map.mpr ⟨b, List.mem_range.mpr hb, rfl⟩⟩
theorem crP_nd (n m : Nat) : (crP n m).Nodup := by
  unfold crP
  generalize hk : n = k
  have key : ∀ l : List Nat, l.Nodup → (l.flatMap fun i => (List.range m).map fun j => (i, k + j)).Nodup := by
    intro l
    induction l with
    | nil => intro _; exact .nil
    | cons a l ih =>
      intro h
      obtain ⟨h1, h2⟩ := List.nodup_cons.mp h
      rw [List.flatMap_cons]
      refine List.nodup_append.mpr ⟨?_, ih h2, ?_⟩
      · unfold List.Nodup; rw [List.pairwise_map]
        exact List.nodup_range.imp fun h e => by injection e with _ e; omega
      · rintro x hx y hy rfl
        obtain ⟨b, _, rfl⟩ := List.mem_map.mp hx
        obtain ⟨c, hc, h⟩ := List.mem_flatMap.mp hy
        obtain ⟨d, _, e⟩ := List.mem_map.mp h
        injection e with e _
        exact h1 (e ▸ hc)
  exact key _ List.nodup_range
theorem getD_left {α : Type} {A B : List α} {i : Nat} {d : α} (h : i < A.length) : (A ++ B).getD i d = A.getD i d := by
  rw [List.getD_eq_getElem?_getD, List.getD_eq_getElem?_getD, List.getElem?_append_left h]
theorem getD_right {α : Type} {A B : List α} {i : Nat} {d : α} : (A ++ B).getD (A.length + i) d = B.getD i d := by
  rw [List.getD_eq_getElem?_getD, List.getD_eq_getElem?_getD, List.getElem?_append_right (Nat.le_add_right _ _)]
  congr 2; omega
theorem getD_in {α : Type} {A : List α} {i : Nat} {d : α} (h : i < A.length) : A.getD i d ∈ A := by
  rw [List.getD_eq_getElem?_getD, List.getElem?_eq_getElem h]; exact List.getElem_mem h
theorem getD_map_cons {k i : Nat} {B : List (List Nat)} (h : i < B.length) : (B.map (k :: ·)).getD i [] = k :: B.getD i [] := by
  rw [List.getD_eq_getElem?_getD, List.getD_eq_getElem?_getD, List.getElem?_map, List.getElem?_eq_getElem h]; rfl
theorem WbL.step {t u : T} {k : Nat} {ps inner : List (Nat × Nat)} (hu : piece t k = some u) (h : WbL t (upTo t k) ps) (hi : Wb u inner) :
    WbL t (upTo t (k + 1)) (ps ++ shP (upTo t k).length inner ++ if intr t = true then crP (upTo t k).length (persL u).length else []) := by
  have hd : ∀ {i}, i < (upTo t k).length → ∃ j p, (upTo t k).getD i [] = j :: p ∧ j < k := fun {i} hi => by
    obtain ⟨j, _, q, hj, _, _, e⟩ := mem_upTo (getD_in (d := []) hi)
    exact ⟨j, q, e, hj⟩
  rw [upTo_succ hu]
  generalize upTo t k = A at h hd
  have mem : ∀ i j, (i, j) ∈ (ps ++ shP A.length inner ++ if intr t = true then crP A.length (persL u).length else []) ↔ (i, j) ∈ ps ∨ (∃ a b, (a, b) ∈ inner ∧ i = A.length + a ∧ j = A.length + b) ∨ (intr t = true ∧ i < A.length ∧ ∃ b, b < (persL u).length ∧ j = A.length + b) := fun i j => by
    rw [List.mem_append, List.mem_append, shP_mem, or_assoc]
    refine or_congr Iff.rfl (or_congr Iff.rfl ?_)
    by_cases e : intr t = true
    · rw [if_pos e, crP_mem]; exact ⟨fun h => ⟨e, h⟩, fun h => h.2⟩
    · rw [if_neg e]; exact ⟨fun h => (by cases h), fun h => absurd h.1 e⟩
  have len : (A ++ (persL u).map (k :: ·)).length = A.length + (persL u).length := by rw [List.length_append, List.length_map]
  refine ⟨fun q hq => ?_, ?_, fun i j hij hj => ?_⟩
  · obtain ⟨i, j⟩ := q
    rw [len]
    rcases (mem i j).mp hq with h1 | ⟨a, b, h1, rfl, rfl⟩ | ⟨_, h1, b, hb, rfl⟩
    · have := h.inn _ h1; exact ⟨this.1, by show j < _; have := this.2; omega⟩
    · have := hi.inn _ h1; exact ⟨by show A.length + a < A.length + b; have := this.1; omega, by show A.length + b < _; have := this.2; omega⟩
    · exact ⟨by show i < A.length + b; omega, by show A.length + b < _; omega⟩
  · rw [List.append_assoc]
    refine List.nodup_append.mpr ⟨h.nd, List.nodup_append.mpr ⟨?_, ?_, ?_⟩, ?_⟩
    · unfold shP List.Nodup; rw [List.pairwise_map]
      exact hi.nd.imp fun {a b} n e => n (by injection e with e1 e2; exact Prod.ext (by omega) (by omega))
    · split
      · exact crP_nd _ _
      · exact .nil
    · rintro ⟨i, j⟩ hx y hy rfl
      obtain ⟨a, b, _, rfl, _⟩ := shP_mem.mp hx
      split at hy
      · have := (crP_mem.mp hy).1; omega
      · cases hy
    · rintro ⟨i, j⟩ hx y hy rfl
      have := h.inn _ hx
      have e2 : j < A.length := this.2
      rcases List.mem_append.mp hy with hy | hy
      · obtain ⟨a, b, _, _, rfl⟩ := shP_mem.mp hy; omega
      · split at hy
        · obtain ⟨_, b, _, rfl⟩ := crP_mem.mp hy; omega
        · cases hy
  · rw [mem, len] at *
    by_cases hjA : j < A.length
    · rw [getD_left (by omega), getD_left hjA]
      constructor
      · rintro (h1 | ⟨a, b, _, _, rfl⟩ | ⟨_, _, b, _, rfl⟩)
        · exact (h.kno i j hij hjA).mp h1
        · omega
        · omega
      · exact fun h1 => .inl ((h.kno i j hij hjA).mpr h1)
    · obtain ⟨b, rfl⟩ : ∃ b, j = A.length + b := ⟨j - A.length, by omega⟩
      have hb : b < (persL u).length := by omega
      rw [getD_right, getD_map_cons hb]
      by_cases hiA : i < A.length
      · rw [getD_left hiA]
        obtain ⟨a, p, e, ha⟩ := hd hiA
        rw [e, knowsB, if_neg (by omega)]
        constructor
        · rintro (h1 | ⟨a, b, _, rfl, _⟩ | ⟨h1, _⟩)
          · have := (h.inn _ h1).2; simp at this; omega
          · omega
          · exact h1
        · exact fun h1 => .inr (.inr ⟨h1, hiA, b, hb, rfl⟩)
      · obtain ⟨a, rfl⟩ : ∃ a, i = A.length + a := ⟨i - A.length, by omega⟩
        rw [getD_right, getD_map_cons (by omega), knowsB, if_pos rfl, hu]
        show _ ↔ knowsB u _ _ = true
        rw [← hi.kno a b (by omega) hb]
        constructor
        · rintro (h1 | ⟨a', b', h1, e1, e2⟩ | ⟨_, h1, _⟩)
          · have := (h.inn _ h1).2; simp at this; omega
          · rw [show a = a' by omega, show b = b' by omega]; exact h1
          · omega
        · exact fun h1 => .inr (.inl ⟨a, b, h1, rfl, rfl⟩)
theorem wbL_nil (t : T) : WbL t (upTo t 0) [] := ⟨fun q h => (by cases h), .nil, fun i j _ hj => by simp [PL.upTo] at hj⟩
theorem wb_one : Wb .one [] := ⟨fun q h => (by cases h), .nil, fun i j hij hj => by rw [persL] at hj; simp at hj; omega⟩
theorem Wb.at_ {t : T} {ps : List (Nat × Nat)} (h : Wb t ps) {i j : Nat} (hij : i ≠ j) (hi : i < (persL t).length) (hj : j < (persL t).length) : decide ((i, j) ∈ ps ∨ (j, i) ∈ ps) = kw t i j := by
  rcases Nat.lt_or_gt_of_ne hij with hl | hl
  · have e := h.kno i j hl hj
    have n : (j, i) ∉ ps := fun m => by have := (h.inn _ m).1; simp at this; omega
    cases hk : kw t i j with
    | true => exact decide_eq_true (.inl (e.mpr hk))
    | false => exact decide_eq_false fun m => m.elim (fun m => by rw [show kw t i j = true from e.mp m] at hk; cases hk) n
  · have e := h.kno j i hl hi
    have n : (i, j) ∉ ps := fun m => by have := (h.inn _ m).1; simp at this; omega
    have sy : kw t i j = kw t j i := knows_sym _ _ _
    rw [sy]
    cases hk : kw t j i with
    | true => exact decide_eq_true (.inr (e.mpr hk))
    | false => exact decide_eq_false fun m => m.elim n (fun m => by rw [show kw t j i = true from e.mp m] at hk; cases hk)
theorem nd_leP {α : Type} [DecidableEq α] : ∀ (l m : List α), l.Nodup → (∀ x ∈ l, x ∈ m) → l.length ≤ m.length
  | [], _, _, _ => Nat.zero_le _
  | x :: l, m, nd, sub => by
    obtain ⟨hx, nd'⟩ := List.nodup_cons.mp nd
    have hm := sub x List.mem_cons_self
    have le := nd_leP l (m.erase x) nd' fun y hy => (List.mem_erase_of_ne fun e => hx (by rw [← e]; exact hy)).mpr (sub y (List.mem_cons_of_mem _ hy))
    have := List.length_erase_of_mem hm
    have := List.length_pos_of_mem hm
    simp only [List.length_cons]
    omega
end W
namespace DL
open PySem PySem.Spec PyProof.Rows L2
section
variable {X : Cx} {ρ : Rho} {M : Mp} {Φ : D → Mp → Prop} {a b : Expr} {pos : Pos}
theorem we_addOM (h : WE X ρ M a fun x M1 => WE X ρ M1 b fun y M2 => ∃ p xs ys, x = .ob p ∧ M2 p = some (.lst xs) ∧ y = .lst ys ∧ xs.length + ys.length ≤ sizeLine ∧ ∀ q, M2 q = none → Φ (.ob q) (mset M2 q (.lst (xs ++ ys)))) : WE X ρ M (.BinOp a .Add b pos) Φ :=
  we_op op_cat (h.imp fun _ _ h => h.imp fun _ M2 h Z v u H Q w r1 r2 k => by
    obtain ⟨p, xs, ys, rfl, hM, rfl, hz, h⟩ := h
    cases r1
    obtain ⟨vs, hv, rs⟩ := w.1 p _ hM
    cases r2 with
    | lst h2 m2 r2 =>
      exact ⟨_, _, _, _, rfl, rfl, hv, h2, by rw [rs.length, r2.length]; exact hz, fun q hq =>
        k _ (.ob q) _ (mset M2 q (.lst (xs ++ ys))) (Ext.newM w hq) (w.newM hq ⟨_, upd_same, (rs.append r2).mono (Ext.newM w hq)⟩) (.ob q) (h q (w.fresh hq).1)⟩)
end
end DL
namespace W
open PySem PySem.Spec PyProof.Rows L2 DL SX PL SlX
abbrev wbD (n : Nat) (ps : List (Nat × Nat)) : D := .tup [.int (n : Nat), .lst (ps.map pairD)]
theorem wbL_len {t : T} {L : List (List Nat)} {ps : List (Nat × Nat)} (h : WbL t L ps) : ps.length ≤ L.length * L.length := by
  have := nd_leP ps ((List.range L.length).flatMap fun i => (List.range L.length).map fun j => (i, j)) h.nd fun q hq => by
    have := h.inn q hq
    exact List.mem_flatMap.mpr ⟨q.1, List.mem_range.mpr (by omega), List.mem_map.mpr ⟨q.2, List.mem_range.mpr this.2, rfl⟩⟩
  refine Nat.le_trans this (Nat.le_of_eq ?_)
  generalize L.length = n
  rw [List.length_flatMap]
  have : ((List.range n).map fun i => ((List.range n).map fun j => (i, j)).length) = List.replicate n n := by
    refine List.ext_getElem (by simp) fun i h1 h2 => by simp
  rw [this, List.sum_replicate_nat]
theorem upTo_le {t : T} (h1 : isOneT t = false) {i : Nat} (h : i ≤ cnt t) : (PL.upTo t i).length ≤ (persL t).length := by
  rw [persL_upTo h1]
  obtain ⟨k, e⟩ : ∃ k, cnt t = i + k := ⟨cnt t - i, by omega⟩
  rw [e]
  unfold PL.upTo
  rw [List.range_add, List.flatMap_append, List.length_append]
  exact Nat.le_add_right _ _
theorem beside_wd {t : T} {s : Bool} (h : wd t = some s) : beside t = !intr t := by cases t <;> cases h <;> rfl
section
variable {P : Program} {w : World} {K : PySem.W.Frag} {mg : Str → Option Value} {base : Heap} {C R U V : Addr}
def cLWeb (h : Nat) : Con := fun ds M Φ => ∃ t d, ds = [loreD t, d] ∧ Good t ∧ Told t ∧ ht t ≤ h ∧ ppl t ≤ 30 ∧ ∀ ps, Wb t ps → Φ (wbD (ppl t) ps) M
abbrev nLWeb : List Str := ["_law_lore", "_law_webs", "_law_size", "_law_pairs", "_law_index", "_law_more", "_law_inner", "_law_one", "_law_other"]
theorem ok_lweb (h : Nat) (F : Fx w K mg) (F1 : Fc P w K mg base "_law_count" [] 1 1 cCount) (F2 : Fc P w K mg base "_law_piece" [] 1 2 cPiece) (F3 : Fc P w K mg base "_law_is_beside" [] 1 1 cBeside) (F4 : ∀ j, h = j + 1 → Fc P w K mg base "_law_web" [] (j + 2) 2 (cLWeb j)) :
    BodyOk P w K mg base "_law_web" s__law_web nLWeb 2 (h + 1) (cLWeb h) := by
  intro f cdv A outer s H E hr ds M Φ hl hc
  obtain ⟨t, d, rfl, g, tt, hh, p30, hc⟩ := hc
  have nd : nLWeb.Nodup := by decide +kernel
  have z2 : 2 ≤ sizeLine := by rw [sizeLine_eq]; decide
  refine wss_cons (ws_if (wt_eqS (we_ix (we_var 0 rfl (we_int ⟨0, _, rfl, lore_at0 t, we_str ⟨_, rfl, ?_⟩⟩)))))
  rw [first_one]
  cases h1 : isOne t with
  | true =>
    cases t with
    | one => exact wss_cons (ws_ret (we_tup (wa_cons (we_int (wa_cons (we_lst (wa_nil ⟨Nat.zero_le _, wa_nil ⟨z2, Lets.of (hc [] wb_one)⟩⟩)))))))
    | _ => cases h1
  | false =>
  refine wss_nil (wss_cons (ws_if (wt_eqS (we_ix (we_var 0 rfl (we_int ⟨0, _, rfl, lore_at0 t, we_str ⟨_, rfl, ?_⟩⟩))))))
  rw [first_name]
  cases h2 : isNm t with
  | true => cases t with
    | name x => exact tt.elim
    | _ => cases h2
  | false =>
  obtain ⟨s0, hw⟩ : ∃ s0, wd t = some s0 := by
    cases t with
    | one => cases h1
    | name x => cases h2
    | cop s n u => exact ⟨s, rfl⟩
    | row s ts => exact ⟨s, rfl⟩
  have i1 := wd_isOne hw
  have lp := persL_len tt
  have cle : cnt t ≤ 30 := by
    have : ∀ k, k ≤ cnt t → k ≤ (PL.upTo t k).length := by
      intro k
      induction k with
      | zero => intro _; exact Nat.zero_le _
      | succ k ih =>
        intro hk
        obtain ⟨u, hu, c, hcu⟩ := piece_of (t := t) (i := k) (by omega)
        rw [upTo_succ hu, List.length_append, List.length_map, persL_len (kids_told hcu tt)]
        have := ppl_pos (kids_ok hcu g).1
        have := ih (by omega)
        have e : ppl (c, u).2 = ppl u := rfl
        omega
    have := this _ (Nat.le_refl _)
    have := upTo_le i1 (Nat.le_refl (cnt t))
    omega
  refine wss_nil (wss_cons (ws_asg (we_tup (wa_cons (we_int (wa_cons (we_lstM (wa_nil ⟨Nat.zero_le _, fun q hq => wa_nil ⟨z2, wg_tup ⟨rfl, rfl, wgs_cons (wg_name 2 (wgs_cons (wg_name 3 (wgs_nil ⟨rfl, ?_⟩) nd)) nd)⟩⟩⟩))))))))
  refine wss_cons (ws_for PassesOwn.never (wi_range1 (F.bn _ (by decide +kernel)) (wa_cons (we_call F1 (hr.mono (by omega)) (wa_cons (we_var 0 rfl (wa_nil ⟨rfl, t, rfl, wa_nil ⟨_, rfl, by omega, by omega, ?_⟩⟩)))))))
  rw [show ((cnt t : Nat) : Int).toNat = cnt t by omega]
  refine ⟨fun i ρ' M2 => ∃ q o4 o5 o6 o7 o8 ps, ρ' = [some (loreD t), some d, some (.int ((PL.upTo t i).length : Nat)), some (.ob q), o4, o5, o6, o7, o8] ∧ M q = none ∧ M2 = mset M q (.lst (ps.map pairD)) ∧ WbL t (PL.upTo t i) ps, ⟨q, _, _, _, _, _, [], rfl, hq, rfl, wbL_nil t⟩, ?_, ?_⟩
  · rintro i x ρ' M2 hx ⟨q, o4, o5, o6, o7, o8, ps, rfl, hq, rfl, hps⟩
    obtain ⟨hi, rfl⟩ := rngD_get hx
    have hi : i < cnt t := hi
    rw [Int.zero_add]
    obtain ⟨u, hu, c, hcu⟩ := piece_of hi
    have hut : ht u < ht t := (kids_ok hcu g).2.1
    have gu : Good u := (kids_ok hcu g).1
    have tu : Told u := kids_told hcu tt
    obtain ⟨j, rfl⟩ : ∃ j, h = j + 1 := ⟨h - 1, by omega⟩
    have lu := persL_len tu
    have lsu := upTo_le i1 (show i + 1 ≤ cnt t from hi)
    rw [upTo_succ hu, List.length_append, List.length_map] at lsu
    generalize hN : (PL.upTo t i).length = N at lsu
    refine wg_name 4 ?_ nd
    refine wss_cons (ws_asg (we_call (F4 j rfl) (hr.mono (by omega)) (wa_cons (we_call F2 (hr.mono (by omega)) (wa_cons (we_var 0 rfl (wa_cons (we_var 4 rfl (wa_nil ⟨rfl, t, i, u, rfl, hu, wa_cons (we_var 1 rfl (wa_nil ⟨rfl, u, d, rfl, gu, tu, by omega, by omega, fun inner hin => ?_⟩))⟩)))))))))
    refine wg_tup ⟨rfl, rfl, wgs_cons (wg_name 5 (wgs_cons (wg_name 6 (wgs_nil ⟨rfl, ?_⟩) nd)) nd)⟩
    have step := hps.step hu hin
    rw [hN] at step
    have hl1 : (PL.upTo t (i + 1)).length = N + ppl u := by rw [upTo_succ hu, List.length_append, List.length_map, hN, lu]
    have b1 := wbL_len hps
    have b2 := wbL_len hin
    rw [hN] at b1
    have b3 : N * N ≤ 900 := Nat.le_trans (Nat.mul_le_mul (show N ≤ 30 by omega) (show N ≤ 30 by omega)) (by decide)
    have b4 : (persL u).length * (persL u).length ≤ 900 := Nat.le_trans (Nat.mul_le_mul (show _ ≤ 30 by omega) (show _ ≤ 30 by omega)) (by decide)
    refine wss_cons (ws_set 3 nd (we_addOM (we_var 3 rfl (we_lc nd (blkOk_by (N := nLWeb) (sc := defScope s__law_web) (own := [("_law_one", 7), ("_law_other", 8)]) (by decide +kernel)) (fun _ _ _ _ _ => pg_tup rfl (pgs_cons (pg_name (i := 7) nd rfl (Or.inl rfl)) (pgs_cons (pg_name (i := 8) nd rfl (Or.inl rfl)) pgs_nil)) rfl rfl) (gt_two (by decide) (by decide)) (fun _ _ _ _ _ => pts_nil) tk_nil (wi_list (we_var 6 rfl ⟨_, .inl rfl, ?_⟩))))))
    refine ⟨by rw [List.length_map, sizeLine_eq]; omega, fun k acc M' => M' = mset M q (.lst (ps.map pairD)) ∧ acc = (shP N (inner.take k)).map pairD, ⟨rfl, rfl⟩, ?_, ?_⟩
    · rintro k x acc M' hx ⟨rfl, rfl⟩
      rw [List.getElem?_map] at hx
      obtain ⟨r, hr2, rfl⟩ := Option.map_eq_some_iff.mp hx
      refine ⟨_, _, rfl, ?_⟩
      intro s1 H1 C1 cl1 fp1
      refine we_tup (wa_cons (we_addI (we_var 2 rfl (we_var 7 rfl ⟨_, _, rfl, rfl, wa_cons (we_addI (we_var 2 rfl (we_var 8 rfl ⟨_, _, rfl, rfl, wa_nil ⟨z2, rfl, ?_⟩⟩)))⟩))))
      unfold shP
      rw [take_snoc hr2, List.map_append, List.map_append, List.map_cons, List.map_nil]
      rfl
    rintro acc M' ⟨rfl, rfl⟩
    rw [List.length_map, List.take_length]
    refine ⟨q, _, _, rfl, mset_same, rfl, by rw [List.length_map, List.length_map]; unfold shP; rw [List.length_map, sizeLine_eq]; omega, fun q2 hq2 => ?_⟩
    rw [← List.map_append]
    have hqq : q2 ≠ q := fun e => by rw [e, mset_same] at hq2; cases hq2
    have hq2' : M q2 = none := by rw [mset_ne hqq] at hq2; exact hq2
    refine wss_let (M' := mset M q2 (.lst ((ps ++ shP N inner).map pairD))) (ρ' := [some (loreD t), some d, some (.int (N : Nat)), some (.ob q2), none, some (.int (ppl u : Nat)), none, none, none]) ?_ (.val (.same _) (.val (.same _) (.val (.same _) (.val (.same _) (.drop (.val (.same _) (.drop (.drop (.drop .nil))))))))) ?_
    · intro b
      by_cases e1 : b = q
      · subst e1; right; rw [mset_ne (Ne.symm hqq)]; exact hq
      · left
        by_cases e2 : b = q2
        · subst e2; rw [mset_same, mset_same]
        · rw [mset_ne e2, mset_ne e2, mset_ne e1]
    refine wss_cons (ws_if (wt_not (wt_val (we_call F3 (hr.mono (by omega)) (wa_cons (we_var 0 rfl (wa_nil ⟨rfl, t, rfl, _, rfl, ?_⟩)))))))
    rw [beside_wd hw, Bool.not_not]
    cases hI : intr t with
    | false =>
      rw [hI, if_neg (by decide), List.append_nil] at step
      refine wss_nil (wss_cons (ws_set 2 nd (we_addI (we_var 2 rfl (we_var 5 rfl ⟨_, _, rfl, rfl, wss_nil ?_⟩)))))
      exact ⟨q2, none, some (.int (ppl u : Nat)), none, none, none, ps ++ shP N inner, by rw [hl1]; rfl, hq2', rfl, step⟩
    | true =>
      rw [hI, if_pos rfl] at step
      refine wss_cons (ws_for PassesOwn.never (wi_range1 (F.bn _ (by decide +kernel)) (wa_cons (we_var 2 rfl (wa_nil ⟨_, rfl, by omega, by omega, ?_⟩)))))
      rw [show ((N : Nat) : Int).toNat = N by omega]
      refine ⟨fun k ρ' M3 => ∃ o7 o8, ρ' = [some (loreD t), some d, some (.int (N : Nat)), some (.ob q2), none, some (.int (ppl u : Nat)), none, o7, o8] ∧ M3 = mset M q2 (.lst ((ps ++ shP N inner ++ (List.range k).flatMap fun i => (List.range (persL u).length).map fun j => (i, N + j)).map pairD)), ⟨none, none, rfl, by simp⟩, ?_, ?_⟩
      · rintro k x ρ' M3 hx ⟨o7, o8, rfl, rfl⟩
        obtain ⟨hk, rfl⟩ := rngD_get hx
        rw [Int.zero_add]
        have hk : k < N := hk
        refine wg_name 7 ?_ nd
        refine wss_cons (ws_expr (we_extend (we_var 3 rfl ⟨q2, _, rfl, mset_same, we_lc nd (blkOk_by (N := nLWeb) (sc := defScope s__law_web) (own := [("_law_other", 8)]) (by decide +kernel)) (fun _ _ _ _ _ => pg_name (i := 8) nd rfl (Or.inl rfl)) (gt_name (by decide)) (fun _ _ _ _ _ => pts_nil) tk_nil (wi_range1 (F.bn _ (by decide +kernel)) (wa_cons (we_var 5 rfl (wa_nil ⟨_, rfl, by omega, by omega, ?_⟩))))⟩)))
        rw [show ((ppl u : Nat) : Int).toNat = ppl u by omega]
        generalize hB : (ps ++ shP N inner ++ (List.range k).flatMap fun i => (List.range (persL u).length).map fun j => (i, N + j)) = B
        have hBl : B.length ≤ 100000 := by
          rw [← hB, List.length_append, List.length_append]
          unfold shP
          rw [List.length_map]
          have : ∀ k, ((List.range k).flatMap fun i => (List.range (persL u).length).map fun j => (i, N + j)).length = k * (persL u).length := by
            intro k
            induction k with
            | zero => simp
            | succ k ih => rw [List.range_succ, List.flatMap_append, List.length_append, ih, List.flatMap_cons, List.flatMap_nil, List.append_nil, List.length_map, List.length_range, Nat.succ_mul]
          rw [this]
          have : k * (persL u).length ≤ 30 * 30 := Nat.mul_le_mul (by omega) (by omega)
          omega
        refine ⟨by rw [rngD_len, sizeLine_eq]; omega, fun m acc M' => M' = mset M q2 (.lst (B.map pairD)) ∧ acc = ((List.range m).map fun j => (k, N + j)).map pairD, ⟨rfl, rfl⟩, ?_, ?_⟩
        · rintro m x acc M' hx ⟨rfl, rfl⟩
          obtain ⟨hm, rfl⟩ := rngD_get hx
          rw [Int.zero_add]
          intro s1 H1 C1 cl1 fp1
          refine we_tup (wa_cons (we_var 7 rfl (wa_cons (we_addI (we_var 2 rfl (we_var 8 rfl ⟨_, _, rfl, rfl, wa_nil ⟨z2, rfl, ?_⟩⟩))))))
          rw [List.range_succ, List.map_append, List.map_append]
          rfl
        · rintro acc M' ⟨rfl, rfl⟩
          rw [rngD_len]
          refine ⟨_, _, mset_same, rfl, by rw [List.length_map, List.length_map, List.length_map, List.length_range, sizeLine_eq]; omega, ?_⟩
          rw [mset_mset, ← List.map_append]
          refine wss_nil ⟨_, _, rfl, ?_⟩
          rw [← hB, List.range_succ, List.flatMap_append, List.flatMap_cons, List.flatMap_nil, List.append_nil, lu, ← List.append_assoc]
      · rintro ρ' M3 ⟨o7, o8, rfl, rfl⟩
        rw [rngD_len]
        refine wss_nil (wss_cons (ws_set 2 nd (we_addI (we_var 2 rfl (we_var 5 rfl ⟨_, _, rfl, rfl, wss_nil ?_⟩)))))
        exact ⟨q2, none, some (.int (ppl u : Nat)), none, o7, o8, _, by rw [hl1]; rfl, hq2', rfl, step⟩
  · rintro ρ' M2 ⟨q, o4, o5, o6, o7, o8, ps, rfl, hq, rfl, hps⟩
    rw [rngD_len] at hps ⊢
    rw [← persL_upTo i1] at hps ⊢
    rw [lp]
    refine wss_let (M' := M) (ρ' := [some (loreD t), some d, some (.int (ppl t : Nat)), some (.lst (ps.map pairD)), none, none, none, none, none]) (les_new hq) (.val (.same _) (.val (.same _) (.val (.same _) (.val (.lst mset_same hq) (.drop (.drop (.drop (.drop (.drop .nil))))))))) ?_
    exact wss_cons (ws_ret (we_tup (wa_cons (we_var 2 rfl (wa_cons (we_var 3 rfl (wa_nil ⟨z2, Lets.of (hc ps hps)⟩)))))))
end
end W
namespace W
open PySem PySem.Spec PyProof.Rows L2 DL SX PL SlX
/-- who knows whom, by pairs in any sequence -/
def knL (ps : List (Nat × Nat)) (i j : Nat) : Bool := decide ((i, j) ∈ ps ∨ (j, i) ∈ ps)
theorem knL_tie {ps : List (Nat × Nat)} {q : Nat × Nat} (i j : Nat) : knL (ps ++ [q]) i j = tie (tie (knL ps) q.1 q.2) q.2 q.1 i j := by
  have key : ((i, j) ∈ ps ++ [q] ∨ (j, i) ∈ ps ++ [q]) ↔ (i = q.2 ∧ j = q.1) ∨ (i = q.1 ∧ j = q.2) ∨ ((i, j) ∈ ps ∨ (j, i) ∈ ps) := by
    rw [List.mem_append, List.mem_append, List.mem_singleton, List.mem_singleton]
    obtain ⟨x, y⟩ := q
    simp only [Prod.mk.injEq]
    constructor
    · rintro ((h | h) | (h | h))
      · exact .inr (.inr (.inl h))
      · exact .inr (.inl h)
      · exact .inr (.inr (.inr h))
      · exact .inl ⟨h.2, h.1⟩
    · rintro (h | h | h | h)
      · exact .inr (.inr ⟨h.2, h.1⟩)
      · exact .inl (.inr h)
      · exact .inl (.inl h)
      · exact .inr (.inl h)
  unfold tie
  by_cases h1 : i = q.2 ∧ j = q.1
  · rw [if_pos h1]; exact decide_eq_true (key.mpr (.inl h1))
  · rw [if_neg h1]
    by_cases h2 : i = q.1 ∧ j = q.2
    · rw [if_pos h2]; exact decide_eq_true (key.mpr (.inr (.inl h2)))
    · rw [if_neg h2]
      refine decide_eq_decide.mpr ⟨fun h => ?_, fun h => key.mpr (.inr (.inr h))⟩
      rcases key.mp h with h | h | h
      · exact absurd h h1
      · exact absurd h h2
      · exact h
theorem pt_bkM {X : Cx} {scope : Scope} {c : Expr} (s : Shared) (H0 : Hp) (C : Addr) (cl : List (Str × Addr)) (fp : List Addr) : PTs (X.blk s H0 scope (compEnvC scope cl C X.env) fp) [c] (tBlk X scope c) := pts_one ⟨fun pins s' σ' H' Q' I q => q s H0 C cl fp pins s' I⟩
section
variable {P : Program} {w : World} {K : PySem.W.Frag} {mg : Str → Option Value} {base : Heap} {C G R O S U : Addr}
def cTable : Con := fun ds M Φ => ∃ n ps, ds = [wbD n ps] ∧ n ≤ 30 ∧ ps.length ≤ 900 ∧ (∀ q ∈ ps, q.1 < q.2 ∧ q.2 < n) ∧ Φ (kwD (knL ps) n) M
abbrev nTable : List Str := ["_law_web_here", "_law_size", "_law_pairs", "_law_found", "_law_lap", "_law_one", "_law_other"]
theorem ok_table (F : Fx w K mg) : BodyOk P w K mg base "_law_table" s__law_table nTable 1 0 cTable := by
  intro f cdv A outer s H E hr ds M Φ hl hc
  obtain ⟨n, ps, rfl, n30, l900, hp, hc⟩ := hc
  have nd : nTable.Nodup := by decide +kernel
  refine wss_cons (ws_asg (we_var 0 rfl (wg_tup ⟨rfl, rfl, wgs_cons (wg_name 1 (wgs_cons (wg_name 2 (wgs_nil ⟨rfl, ?_⟩) nd)) nd)⟩)))
  refine wss_cons (ws_setLc 3 nd (blkOk_by (N := nTable) (sc := defScope s__law_table) (own := [("_law_lap", 4)]) (by decide +kernel)) (fun _ _ _ _ _ => pg_name (i := 4) nd rfl (Or.inl rfl)) (gt_name (by decide)) (fun _ _ _ _ _ => pts_nil) tk_nil (wi_range1 (F.bn _ (by decide +kernel)) (wa_cons (we_var 1 rfl (wa_nil ⟨_, rfl, by omega, by omega, ?_⟩)))) rfl)
  rw [show ((n : Nat) : Int).toNat = n by omega]
  refine ⟨by rw [rngD_len, sizeLine_eq]; omega, fun i acc M2 => ∃ qs : List Addr, qs.length = i ∧ acc = qs.map D.ob ∧ FamM M M2 qs (fun i => .lst (rowK (knL []) n i)), ⟨[], rfl, rfl, .nil⟩, ?_, ?_⟩
  · rintro i x acc M2 hx ⟨qs, hql, rfl, hF⟩
    intro s1 H1 C' cl fp
    refine we_repM (we_lst (wa_cons (we_bl (wa_nil ⟨by show 1 ≤ sizeLine; rw [sizeLine_eq]; decide, we_var 1 rfl ⟨.bl false, n, rfl, rfl, by rw [sizeLine_eq]; omega, fun q hq => ⟨qs ++ [q], by rw [List.length_append, hql]; rfl, by rw [List.map_append]; rfl, hF.snoc hq ?_⟩⟩⟩))))
    show MO.lst (rowK (knL []) n qs.length) = _
    congr 1
    refine List.ext_getElem (by rw [List.length_map, List.length_range, List.length_replicate]) fun j h1 h2 => ?_
    rw [List.getElem_map, List.getElem_replicate]; rfl
  rintro acc M2 ⟨qs, hql, rfl, hF⟩
  rw [rngD_len] at hql
  refine wss_cons (ws_for PassesOwn.never (wi_list (we_var 2 rfl ⟨_, .inl rfl, ?_⟩)))
  refine ⟨fun i ρ' M3 => ∃ o5 o6, ρ' = [some (wbD n ps), some (.int (n : Nat)), some (.lst (ps.map pairD)), some (.lst (qs.map D.ob)), none, o5, o6] ∧ FamM M M3 qs (fun j => .lst (rowK (knL (ps.take i)) n j)), ⟨_, _, rfl, hF⟩, ?_, ?_⟩
  · rintro i x ρ' M3 hx ⟨o5, o6, rfl, hF3⟩
    rw [List.getElem?_map] at hx
    obtain ⟨q, hq, rfl⟩ := Option.map_eq_some_iff.mp hx
    have hq2 := hp q (List.mem_of_getElem? hq)
    obtain ⟨x1, hx1⟩ : ∃ x1, qs[q.1]? = some x1 := ⟨_, List.getElem?_eq_getElem (by omega)⟩
    obtain ⟨x2, hx2⟩ : ∃ x2, qs[q.2]? = some x2 := ⟨_, List.getElem?_eq_getElem (by omega)⟩
    have ob : ∀ {M : Mp} {a : Nat} {y : Addr}, qs[a]? = some y → IxD M (.lst (qs.map D.ob)) (a : Int) (.ob y) := fun {M a y} h => ixL (atI_nat (by rw [List.getElem?_map, h]; rfl))
    have ixn : ∀ {f : Nat → Nat → Bool} {a b : Nat}, b < n → ixN (rowK f n a).length (b : Int) = some b := fun {f a b} h => by
      rw [List.length_map, List.length_range]; exact ixN_in h
    refine wg_tup ⟨rfl, rfl, wgs_cons (wg_name 5 (wgs_cons (wg_name 6 (wgs_nil ⟨rfl, ?_⟩) nd)) nd)⟩
    refine wss_cons (ws_asg (we_bl (wg_sub (we_ix (we_var 3 rfl (we_var 5 rfl ⟨_, _, rfl, ob hx1, we_var 6 rfl ⟨x1, _, _, q.2, rfl, rfl, hF3.inn _ _ hx1, ixn (by omega), ?_⟩⟩))))))
    rw [rowK_tie]
    have hF4 := hF3.put (o := .lst (rowK (tie (knL (ps.take i)) q.1 q.2) n q.1)) (g' := fun j => .lst (rowK (tie (knL (ps.take i)) q.1 q.2) n j)) hx1 rfl fun j _ hj => by rw [rowK_else hj]
    refine wss_cons (ws_asg (we_bl (wg_sub (we_ix (we_var 3 rfl (we_var 6 rfl ⟨_, _, rfl, ob hx2, we_var 5 rfl ⟨x2, _, _, q.1, rfl, rfl, hF4.inn _ _ hx2, ixn (by omega), ?_⟩⟩))))))
    rw [rowK_tie]
    have hF5 := hF4.put (o := .lst (rowK (tie (tie (knL (ps.take i)) q.1 q.2) q.2 q.1) n q.2)) (g' := fun j => .lst (rowK (tie (tie (knL (ps.take i)) q.1 q.2) q.2 q.1) n j)) hx2 rfl fun j _ hj => by rw [rowK_else hj]
    refine wss_nil ⟨_, _, rfl, hF5.ext fun j _ => ?_⟩
    rw [take_snoc hq, rowK_ext n j fun k => knL_tie j k]
  · rintro ρ' M3 ⟨o5, o6, rfl, hF3⟩
    rw [List.length_map, List.take_length] at hF3
    have fz := FamM.fzL (M := M) (M' := M3) (g := fun j => rowK (knL ps) n j) (qs := qs) 0 (fun i q hq => by rw [Nat.zero_add]; exact hF3.inn i q hq) hF3.new
    rw [hql, ← List.range_eq_range'] at fz
    refine wss_letN hF3.les (.val (.of (.same _)) (.val (.of (.same _)) (.val (.of (.same _)) (.val (.lst fz) (.drop (.drop (.drop .nil))))))) (wss_cons (ws_ret (we_var 3 rfl (Lets.of hc))))
end
end W
namespace W
open PySem PySem.Spec PyProof.Rows L2 DL SX PL SlX
theorem any_pairN (x : Nat × Nat) : ∀ ps : List (Nat × Nat), ((ps.map fun q => PyData.tuple [.int (q.1 : Nat), .int (q.2 : Nat)]).any fun z => PyData.eqv z (.tuple [.int (x.1 : Nat), .int (x.2 : Nat)])) = decide (x ∈ ps)
  | [] => by simp
  | q :: ps => by
    rw [List.map_cons, List.any_cons, any_pairN x ps, eqv_pair, ← Bool.decide_or]
    exact decide_eq_decide.mpr ⟨fun h => h.elim (fun e => by rw [e]; exact List.mem_cons_self) (List.mem_cons_of_mem _), fun h => by rcases List.mem_cons.mp h with e | e; exact .inl e.symm; exact .inr e⟩
theorem units65n {k : Nat} {A : Around} (r : Room k A) : A.units + 65 < cLine := by have := r.un; omega
theorem filt_snocN {α : Type} {l : List α} {p : α → Bool} {j : Nat} {x : α} (h : l[j]? = some x) : (l.take (j + 1)).filter p = (l.take j).filter p ++ if p x = true then [x] else [] := by
  rw [take_snoc h, List.filter_append, List.filter_cons, List.filter_nil]
abbrev trD' (r : List Bool) : D := .lst (r.map D.bl)
abbrev rsD (rs : List (List Bool)) : D := .lst (rs.map trD')
theorem tr_at {r : List Bool} {i : Nat} {M : Mp} (h : i < r.length) : IxD M (trD' r) (i : Int) (.bl (r.getD i false)) := ixL (atI_nat (by rw [List.getElem?_map, List.getD_eq_getElem?_getD, List.getElem?_eq_getElem h]; rfl))
theorem pow8 {n : Nat} (h : n ≤ 8) : 2 ^ n ≤ 256 := Nat.le_trans (Nat.pow_le_pow_right (by decide) h) (by decide)
/-- those who do not know one another, by pairs -/
def cmpP (ps : List (Nat × Nat)) (n i : Nat) : List (Nat × Nat) := ((List.range (n - (i + 1))).filter fun d => decide ((i, i + 1 + d) ∉ ps)).map fun d => (i, i + 1 + d)
def cmpPs (ps : List (Nat × Nat)) (n k : Nat) : List (Nat × Nat) := (List.range k).flatMap (cmpP ps n)
theorem cmpPs_mem {ps : List (Nat × Nat)} {n k i j : Nat} : (i, j) ∈ cmpPs ps n k ↔ i < k ∧ i < j ∧ j < n ∧ (i, j) ∉ ps := by
  unfold cmpPs cmpP
  rw [List.mem_flatMap]
  constructor
  · rintro ⟨a, ha, h⟩
    obtain ⟨d, hd, e⟩ := List.mem_map.mp h
    obtain ⟨h1, h2⟩ := List.mem_filter.mp hd
    have h1 := List.mem_range.mp h1
    have h2 := of_decide_eq_true h2
    injection e with e1 e2
    subst e1
    subst e2
    exact ⟨List.mem_range.mp ha, by omega, by omega, h2⟩
  · rintro ⟨h1, h2, h3, h4⟩
    refine ⟨i, List.mem_range.mpr h1, List.mem_map.mpr ⟨j - (i + 1), List.mem_filter.mpr ⟨List.mem_range.mpr (by omega), ?_⟩, ?_⟩⟩
    · rw [show i + 1 + (j - (i + 1)) = j by omega]; exact decide_eq_true h4
    · rw [show i + 1 + (j - (i + 1)) = j by omega]
theorem cmpP_len (ps : List (Nat × Nat)) (n i : Nat) : (cmpP ps n i).length ≤ n := by
  unfold cmpP
  rw [List.length_map]
  have := List.length_filter_le (fun d => decide ((i, i + 1 + d) ∉ ps)) (List.range (n - (i + 1)))
  rw [List.length_range] at this
  omega
theorem cmpPs_len (ps : List (Nat × Nat)) (n k : Nat) : (cmpPs ps n k).length ≤ k * n := by
  have := flat_le (f := cmpP ps n) (n := n) (List.range k) fun i _ => cmpP_len ps n i
  rwa [List.length_range] at this
theorem cmpPs_succ (ps : List (Nat × Nat)) (n k : Nat) : cmpPs ps n (k + 1) = cmpPs ps n k ++ cmpP ps n k := by
  unfold cmpPs
  rw [List.range_succ, List.flatMap_append, List.flatMap_cons, List.flatMap_nil, List.append_nil]
theorem mx_nat {rs : List (List Bool)} {m : Int} (hm : m ∈ rs.map fun r => ((r.count true : Nat) : Int)) : ∃ k : Nat, m = k ∧ k ∈ rs.map fun r => r.count true := by
  obtain ⟨r, hr, rfl⟩ := List.mem_map.mp hm
  exact ⟨_, rfl, List.mem_map.mpr ⟨r, hr, rfl⟩⟩
section
variable {P : Program} {w : World} {K : PySem.W.Frag} {mg : Str → Option Value} {base : Heap} {C G R : Addr}
def cSets : Con := fun ds M Φ => ∃ n : Nat, ds = [.int (n : Nat)] ∧ n ≤ 8 ∧ Φ (rsD (setsL n)) M
abbrev nSets : List Str := ["_law_size", "_law_found", "_law_lap", "_law_row"]
theorem ok_sets (F : Fx w K mg) : BodyOk P w K mg base "_law_sets" s__law_sets nSets 1 0 cSets := by
  intro f cdv A outer s H E hr ds M Φ hl hc
  obtain ⟨n, rfl, n8, hc⟩ := hc
  have nd : nSets.Nodup := by decide +kernel
  have z1 : 1 ≤ sizeLine := by rw [sizeLine_eq]; decide
  refine wss_cons (ws_set 1 nd (we_lst (wa_cons (we_lst (wa_nil ⟨Nat.zero_le _, wa_nil ⟨z1, ?_⟩⟩)))))
  refine wss_cons (ws_for PassesOwn.never (wi_range1 (F.bn _ (by decide +kernel)) (wa_cons (we_var 0 rfl (wa_nil ⟨_, rfl, by omega, by omega, ?_⟩)))))
  rw [show ((n : Nat) : Int).toNat = n by omega]
  refine ⟨fun i ρ' M2 => ∃ o2, ρ' = [some (.int (n : Nat)), some (rsD (setsL i)), o2, none] ∧ M2 = M, ⟨none, rfl, rfl⟩, ?_, ?_⟩
  · rintro i x ρ' M2 hx ⟨o2, rfl, hM2⟩
    obtain rfl : M = M2 := hM2.symm
    obtain ⟨hi, rfl⟩ := rngD_get hx
    have hi : i < n := hi
    have hp := pow8 (show i ≤ 8 by omega)
    have hsl := sets_len i
    refine wg_name 2 ?_ nd
    refine wss_cons (ws_set 1 nd (we_addL (we_lc nd (blkOk_by (N := nSets) (sc := defScope s__law_sets) (own := [("_law_row", 3)]) (by decide +kernel)) (fun _ _ _ _ _ => pg_name (i := 3) nd rfl (Or.inl rfl)) (gt_name (by decide)) (fun _ _ _ _ _ => pts_nil) tk_nil (wi_list (we_var 1 rfl ⟨_, .inl rfl, ?_⟩)))))
    refine ⟨by rw [List.length_map, sizeLine_eq]; omega, fun k acc M2 => M2 = M ∧ acc = ((setsL i).take k).map fun r => trD' (r ++ [false]), ⟨rfl, rfl⟩, ?_, ?_⟩
    · rintro k x acc M2 hx ⟨hM2, rfl⟩
      obtain rfl : M = M2 := hM2.symm
      rw [List.getElem?_map] at hx
      obtain ⟨r, hr2, rfl⟩ := Option.map_eq_some_iff.mp hx
      have hl2 := sets_mem.mp (List.mem_of_getElem? hr2)
      intro s1 H1 C1 cl1 fp1
      refine we_addL (we_var 3 rfl (we_lst (wa_cons (we_bl (wa_nil ⟨z1, _, _, rfl, rfl, by rw [List.length_map, sizeLine_eq, List.length_singleton]; omega, rfl, ?_⟩)))))
      rw [take_snoc hr2, List.map_append]
      show _ = _ ++ [D.lst ((r ++ [false]).map D.bl)]
      rw [List.map_append]; rfl
    rintro acc M2 ⟨hM2, rfl⟩
    obtain rfl : M = M2 := hM2.symm
    rw [List.length_map, List.take_length]
    refine we_lc nd (blkOk_by (N := nSets) (sc := defScope s__law_sets) (own := [("_law_row", 3)]) (by decide +kernel)) (fun _ _ _ _ _ => pg_name (i := 3) nd rfl (Or.inl rfl)) (gt_name (by decide)) (fun _ _ _ _ _ => pts_nil) tk_nil (wi_list (we_var 1 rfl ⟨_, .inl rfl, ?_⟩))
    refine ⟨by rw [List.length_map, sizeLine_eq]; omega, fun k acc M2 => M2 = M ∧ acc = ((setsL i).take k).map fun r => trD' (r ++ [true]), ⟨rfl, rfl⟩, ?_, ?_⟩
    · rintro k x acc M2 hx ⟨hM2, rfl⟩
      obtain rfl : M = M2 := hM2.symm
      rw [List.getElem?_map] at hx
      obtain ⟨r, hr2, rfl⟩ := Option.map_eq_some_iff.mp hx
      have hl2 := sets_mem.mp (List.mem_of_getElem? hr2)
      intro s1 H1 C1 cl1 fp1
      refine we_addL (we_var 3 rfl (we_lst (wa_cons (we_bl (wa_nil ⟨z1, _, _, rfl, rfl, by rw [List.length_map, sizeLine_eq, List.length_singleton]; omega, rfl, ?_⟩)))))
      rw [take_snoc hr2, List.map_append]
      show _ = _ ++ [D.lst ((r ++ [true]).map D.bl)]
      rw [List.map_append]; rfl
    rintro acc M2 ⟨hM2, rfl⟩
    obtain rfl : M = M2 := hM2.symm
    rw [List.length_map, List.take_length]
    refine ⟨_, _, rfl, rfl, by rw [List.length_map, List.length_map, sizeLine_eq]; omega, wss_nil ⟨some (.int (0 + (i : Nat))), ?_, rfl⟩⟩
    have e : rsD (setsL (i + 1)) = D.lst (((setsL i).map fun r => trD' (r ++ [false])) ++ (setsL i).map fun r => trD' (r ++ [true])) := by
      show D.lst ((setsL (i + 1)).map trD') = _
      rw [setsL, List.map_append, List.map_map, List.map_map]; rfl
    rw [e]; rfl
  · rintro ρ' M2 ⟨o2, rfl, hM2⟩
    obtain rfl : M = M2 := hM2.symm
    rw [rngD_len]
    exact wss_cons (ws_ret (we_var 1 rfl (Lets.of hc)))
def cMost : Con := fun ds M Φ => ∃ t ps n cw, ds = [wbD n ps, .bl cw] ∧ Ok t ∧ Wb t ps ∧ (persL t).length = n ∧ n ≤ 8 ∧ Φ (.int (numW cw t : Nat)) M
abbrev nMost : List Str := ["_law_web_here", "_law_is_circle", "_law_size", "_law_pairs", "_law_bars", "_law_one", "_law_other", "_law_fits", "_law_row"]
abbrev scMost : Scope := { kind := .function, names := [(".0", .local), ("_law_row", .cell), ("any", .globalImplicit), ("_law_bars", .free)], isGenerator := false, isCoroutine := false }
theorem ok_most (F : Fx w K mg) (Fa : mg "any" = none) (F1 : Fc P w K mg base "_law_sets" [] 1 1 cSets) : BodyOk P w K mg base "_law_most" s__law_most nMost 2 1 cMost := by
  intro f cdv A outer s H E hr ds M Φ hl hc
  obtain ⟨t, ps, n, cw, rfl, ok, hps, hn, n8, hc⟩ := hc
  have nd : nMost.Nodup := by decide +kernel
  have z2 : 2 ≤ sizeLine := by rw [sizeLine_eq]; decide
  have hin : ∀ q ∈ ps, q.1 < q.2 ∧ q.2 < n := fun q hq => by have := hps.inn q hq; rwa [hn] at this
  have hkno : ∀ i j, i < j → j < n → ((i, j) ∈ ps ↔ kT t i j = true) := fun i j h1 h2 => hps.kno i j h1 (by rw [hn]; exact h2)
  have hpl := wbL_len hps
  rw [hn] at hpl
  have hnn : n * n ≤ 64 := Nat.mul_le_mul n8 n8
  have rest : ∀ (bars : List (Nat × Nat)) (o5 : Option D), bars.length ≤ 64 → (∀ q ∈ bars, q.1 < q.2 ∧ q.2 < n) → (∀ i j, i < j → j < n → ((i, j) ∈ bars ↔ kT t i j ≠ cw)) → WSs (bx P w K mg base nMost "_law_most" (defScope s__law_most) f cdv A outer s H E) [some (wbD n ps), some (.bl cw), some (.int (n : Nat)), some (.lst (ps.map pairD)), some (.lst (bars.map pairD)), o5, none, none, none] M ((defBody s__law_most).drop 3) { nx := fun _ M' => Φ .non M', rt := Lets Φ } := fun bars o5 hb64 hbin hbk => by
    have hp := pow8 n8
    have hsl := sets_len n
    refine wss_cons (ws_setLc 7 nd (blkOk_by (N := nMost) (sc := defScope s__law_most) (own := [("_law_row", 8)]) (by decide +kernel)) (fun _ _ _ _ _ => pg_name (i := 8) nd rfl (Or.inr rfl)) (gt_name (by decide)) pt_bkM tk_one (wi_list (we_call F1 (hr.mono (by decide)) (wa_cons (we_var 2 rfl (wa_nil ⟨rfl, n, rfl, n8, _, .inl rfl, ?_⟩))))) rfl)
    refine ⟨by rw [List.length_map, sizeLine_eq]; omega, fun i acc M2 => M2 = M ∧ acc = (((setsL n).take i).filter fun r => !badR bars r).map trD', ⟨rfl, rfl⟩, ?_, ?_⟩
    · rintro i x acc M2 hx ⟨hM2, rfl⟩
      obtain rfl : M = M2 := hM2.symm
      rw [List.getElem?_map] at hx
      obtain ⟨r, hr2, rfl⟩ := Option.map_eq_some_iff.mp hx
      have hrl := sets_mem.mp (List.mem_of_getElem? hr2)
      intro s1 H1 C1 cl1 fp1
      refine wt_not (wt_val (we_anyB Fa (we_lc nd (blkOk_by (N := nMost) (sc := relS scMost (defScope s__law_most)) (own := [("_law_one", 5), ("_law_other", 6)]) (by decide +kernel)) (fun _ _ _ _ _ => pg_tup rfl (pgs_cons (pg_name (i := 5) nd rfl (Or.inl rfl)) (pgs_cons (pg_name (i := 6) nd rfl (Or.inl rfl)) pgs_nil)) rfl rfl) (gt_two (by decide) (by decide)) (fun _ _ _ _ _ => pts_nil) tk_nil (wi_list (we_var 4 rfl ⟨_, .inl rfl, ?_⟩)))))
      refine ⟨by rw [List.length_map, sizeLine_eq]; omega, fun k acc M3 => M3 = M ∧ acc = ((bars.take k).map fun q => r.getD q.1 false && r.getD q.2 false).map D.bl, ⟨rfl, rfl⟩, ?_, ?_⟩
      · rintro k x acc M3 hx ⟨hM3, rfl⟩
        obtain rfl : M = M3 := hM3.symm
        rw [List.getElem?_map] at hx
        obtain ⟨q, hq, rfl⟩ := Option.map_eq_some_iff.mp hx
        have hq2 := hbin q (List.mem_of_getElem? hq)
        refine ⟨_, _, rfl, ?_⟩
        intro s2 H2 C2 cl2 fp2
        refine we_and (we_ix (we_var 8 rfl (we_var 5 rfl ⟨_, _, rfl, tr_at (by omega), _, rfl, ?_⟩)))
        have et : ((bars.take (k + 1)).map fun q => r.getD q.1 false && r.getD q.2 false).map D.bl = ((bars.take k).map fun q => r.getD q.1 false && r.getD q.2 false).map D.bl ++ [D.bl (r.getD q.1 false && r.getD q.2 false)] := by
          rw [take_snoc hq, List.map_append, List.map_append]; rfl
        cases hb1 : r.getD q.1 false with
        | false => exact ⟨rfl, by rw [et, hb1]; rfl⟩
        | true => exact we_one (we_ix (we_var 8 rfl (we_var 6 rfl ⟨_, _, rfl, tr_at (by omega), rfl, by rw [et, hb1]; rfl⟩)))
      rintro acc M3 ⟨hM3, rfl⟩
      obtain rfl : M = M3 := hM3.symm
      rw [List.length_map, List.take_length]
      refine ⟨_, rfl, _, rfl, ?_⟩
      have eb : (bars.map fun q => r.getD q.1 false && r.getD q.2 false).any id = badR bars r := rfl
      rw [eb]
      cases hbr : badR bars r with
      | true => exact ⟨rfl, by rw [filt_snocN hr2, hbr]; simp⟩
      | false =>
        intro s2 H2 C2 cl2 fp2
        refine we_var 8 rfl ⟨rfl, ?_⟩
        rw [filt_snocN hr2, hbr, List.map_append]; rfl
    rintro acc M2 ⟨hM2, rfl⟩
    obtain rfl : M = M2 := hM2.symm
    rw [List.length_map, List.take_length]
    have hfl := List.length_filter_le (fun r => !badR bars r) (setsL n)
    refine wss_cons (ws_ret (we_maxL (F.bn _ (by decide +kernel)) (we_lc nd (blkOk_by (N := nMost) (sc := defScope s__law_most) (own := [("_law_row", 8)]) (by decide +kernel)) (fun _ _ _ _ _ => pg_name (i := 8) nd rfl (Or.inl rfl)) (gt_name (by decide)) (fun _ _ _ _ _ => pts_nil) tk_nil (wi_list (we_var 7 rfl ⟨_, .inl rfl, ?_⟩)))))
    refine ⟨by rw [List.length_map, sizeLine_eq]; omega, fun k acc M2 => M2 = M ∧ acc = ((((setsL n).filter fun r => !badR bars r).take k).map fun r => ((r.count true : Nat) : Int)).map D.int, ⟨rfl, rfl⟩, ?_, ?_⟩
    · rintro k x acc M2 hx ⟨hM2, rfl⟩
      obtain rfl : M = M2 := hM2.symm
      rw [List.getElem?_map] at hx
      obtain ⟨r, hr2, rfl⟩ := Option.map_eq_some_iff.mp hx
      intro s1 H1 C1 cl1 fp1
      refine we_cntB (we_var 8 rfl ⟨r, rfl, we_bl ⟨true, rfl, rfl, ?_⟩⟩)
      rw [take_snoc hr2, List.map_append, List.map_append]; rfl
    rintro acc M2 ⟨hM2, rfl⟩
    obtain rfl : M = M2 := hM2.symm
    rw [List.length_map, List.take_length]
    refine ⟨_, rfl, by rw [List.length_map]; exact most_ne ok hn, fun m hm hmax => Lets.of ?_⟩
    obtain ⟨k, rfl, hk⟩ := mx_nat hm
    rw [most_end ok hn hbk hbin hk fun y hy => by
      obtain ⟨r, hr3, rfl⟩ := List.mem_map.mp hy
      have := hmax ((r.count true : Nat) : Int) (List.mem_map.mpr ⟨r, hr3, rfl⟩)
      omega]
    exact hc
  refine wss_cons (ws_asg (we_var 0 rfl (wg_tup ⟨rfl, rfl, wgs_cons (wg_name 2 (wgs_cons (wg_name 3 (wgs_nil ⟨rfl, ?_⟩) nd)) nd)⟩)))
  refine wss_cons (ws_set 4 nd (we_var 3 rfl ?_))
  refine wss_cons (ws_if (wt_val (we_var 1 rfl ⟨cw, rfl, ?_⟩)))
  cases cw with
  | false =>
    exact wss_nil (rest ps none (by omega) hin fun i j h1 h2 => (hkno i j h1 h2).trans (by simp))
  | true =>
    refine wss_cons (ws_asg (we_lstM (wa_nil ⟨Nat.zero_le _, fun q hq => wg_name 4 ?_ nd⟩)))
    refine wss_cons (ws_for PassesOwn.never (wi_range1 (F.bn _ (by decide +kernel)) (wa_cons (we_var 2 rfl (wa_nil ⟨_, rfl, by omega, by omega, ?_⟩)))))
    rw [show ((n : Nat) : Int).toNat = n by omega]
    refine ⟨fun i ρ' M2 => ∃ o5, ρ' = [some (wbD n ps), some (.bl true), some (.int (n : Nat)), some (.lst (ps.map pairD)), some (.ob q), o5, none, none, none] ∧ M2 = mset M q (.lst ((cmpPs ps n i).map pairD)), ⟨none, rfl, rfl⟩, ?_, ?_⟩
    · rintro i x ρ' M2 hx ⟨o5, rfl, rfl⟩
      obtain ⟨hi, rfl⟩ := rngD_get hx
      have hi : i < n := hi
      rw [Int.zero_add]
      refine wg_name 5 ?_ nd
      refine wss_cons (ws_expr (we_extend (we_var 4 rfl ⟨q, _, rfl, mset_same, we_lc nd (blkOk_by (N := nMost) (sc := defScope s__law_most) (own := [("_law_other", 6)]) (by decide +kernel)) (fun _ _ _ _ _ => pg_name (i := 6) nd rfl (Or.inl rfl)) (gt_name (by decide)) pt_bkM tk_one (wi_range2 (F.bn _ (by decide +kernel)) (wa_cons (we_addI (we_var 5 rfl (we_int ⟨_, _, rfl, rfl, wa_cons (we_var 2 rfl (wa_nil ⟨_, _, rfl, ⟨by omega, by omega, by omega, by omega⟩, ?_⟩))⟩)))))⟩)))
      rw [show (((n : Nat) : Int) - ((i : Nat) + 1)).toNat = n - (i + 1) by omega]
      refine ⟨by rw [rngD_len, sizeLine_eq]; omega, fun k acc M' => M' = mset M q (.lst ((cmpPs ps n i).map pairD)) ∧ acc = (((List.range k).filter fun d => decide ((i, i + 1 + d) ∉ ps)).map fun d => (i, i + 1 + d)).map pairD, ⟨rfl, rfl⟩, ?_, ?_⟩
      · rintro k x acc M' hx ⟨rfl, rfl⟩
        obtain ⟨hk, rfl⟩ := rngD_get hx
        rw [show (((i : Nat) : Int) + 1) + (k : Nat) = ((i + 1 + k : Nat) : Int) by omega]
        intro s1 H1 C1 cl1 fp1
        refine wt_notInD (units65n hr) (we_tup (wa_cons (we_var 5 rfl (wa_cons (we_var 6 rfl (wa_nil ⟨z2, we_var 3 rfl ⟨_, _, (cmp_pr (i, i + 1 + k)).eq, (cmp_prL ps).eq, (cmp_pr (i, i + 1 + k)).shaped (by decide), (cmp_prL ps).shaped (by decide), ?_⟩⟩))))))
        rw [any_pairN]
        by_cases hm : (i, i + 1 + k) ∈ ps
        · rw [decide_eq_true hm]
          exact ⟨rfl, by rw [List.range_succ, List.filter_append, List.filter_cons, decide_eq_false (not_not_intro hm), List.filter_nil]; simp⟩
        · rw [decide_eq_false hm]
          intro s2 H2 C2 cl2 fp2
          refine we_tup (wa_cons (we_var 5 rfl (wa_cons (we_var 6 rfl (wa_nil ⟨z2, rfl, ?_⟩)))))
          rw [List.range_succ, List.filter_append, List.filter_cons, decide_eq_true hm, List.filter_nil, if_pos rfl, List.map_append, List.map_append]; rfl
      · rintro acc M' ⟨rfl, rfl⟩
        rw [rngD_len]
        have h1 := cmpPs_len ps n i
        have h2 := cmpP_len ps n i
        have h3 : i * n ≤ 8 * 8 := Nat.mul_le_mul (by omega) n8
        refine ⟨_, _, mset_same, rfl, ?_, ?_⟩
        · show ((cmpPs ps n i).map pairD).length + ((cmpP ps n i).map pairD).length ≤ _
          rw [List.length_map, List.length_map, sizeLine_eq]; omega
        rw [mset_mset]
        refine wss_nil ⟨_, rfl, ?_⟩
        rw [cmpPs_succ, List.map_append]; rfl
    · rintro ρ' M2 ⟨o5, rfl, rfl⟩
      rw [rngD_len]
      refine wss_nil (wss_let (M' := M) (ρ' := [some (wbD n ps), some (.bl true), some (.int (n : Nat)), some (.lst (ps.map pairD)), some (.lst ((cmpPs ps n n).map pairD)), none, none, none, none]) (les_new hq) (.val (.same _) (.val (.same _) (.val (.same _) (.val (.same _) (.val (.lst mset_same hq) (.drop (.drop (.drop (.drop .nil))))))))) ?_)
      refine rest _ none (Nat.le_trans (cmpPs_len ps n n) hnn) (fun q hq => ?_) fun i j h1 h2 => ?_
      · have := cmpPs_mem.mp hq
        exact ⟨this.2.1, this.2.2.1⟩
      · rw [cmpPs_mem]
        have := hkno i j h1 h2
        constructor
        · exact fun h e => h.2.2.2 (this.mpr e)
        · exact fun h => ⟨by omega, h1, h2, fun m => h (this.mp m)⟩
end
end W
namespace W
open PySem PySem.Spec PyProof.Rows L2 DL SX PL SlX
theorem units9n {k : Nat} {A : Around} (r : Room k A) : A.units + 9 < cLine := by have := r.un; omega
theorem knL_sym (ps : List (Nat × Nat)) (i j : Nat) : knL ps i j = knL ps j i := decide_eq_decide.mpr ⟨fun h => h.elim .inr .inl, fun h => h.elim .inr .inl⟩
theorem knL_kT {t : T} {ps : List (Nat × Nat)} {n : Nat} (h : Wb t ps) (hn : (persL t).length = n) : ∀ i j, i < n → j < n → i ≠ j → knL ps i j = kT t i j := fun i j hi hj hne => h.at_ hne (by rw [hn]; exact hi) (by rw [hn]; exact hj)
theorem row_atT {r : List Bool} {i : Nat} {M : Mp} (h : i < r.length) : IxD M (rowT r) (i : Int) (.bl (r.getD i false)) := ixT (atI_nat (by rw [List.getElem?_map, List.getD_eq_getElem?_getD, List.getElem?_eq_getElem h]; rfl))
theorem cut_lo {r : List Bool} {p : Nat} (h : p ≤ r.length) : DL.cutD (r.map D.bl) none (some (p : Int)) = (r.take p).map D.bl := by
  unfold DL.cutD
  have e1 : HT.sIx (r.map D.bl).length 0 none = 0 := rfl
  have e2 : HT.sIx (r.map D.bl).length (r.map D.bl).length (some (p : Int)) = p := by
    simp only [HT.sIx, List.length_map]
    split <;> omega
  rw [e1, e2, List.drop_zero, Nat.sub_zero, List.map_take]
theorem cut_hi {r : List Bool} {p : Nat} (h : p ≤ r.length) : DL.cutD (r.map D.bl) (some (p : Int)) none = (r.drop p).map D.bl := by
  unfold DL.cutD
  have e1 : HT.sIx (r.map D.bl).length 0 (some (p : Int)) = p := by
    simp only [HT.sIx, List.length_map]
    split <;> omega
  have e2 : HT.sIx (r.map D.bl).length (r.map D.bl).length none = (r.map D.bl).length := rfl
  rw [e1, e2, ← List.map_drop]
  refine List.take_of_length_le ?_
  rw [List.length_map, List.length_drop, List.length_map]; exact Nat.le_refl _
theorem pw8 {n i : Nat} (h : n ≤ 8) (hi : i ≤ 7) : n ^ i ≤ 2097152 := Nat.le_trans (Nat.pow_le_pow_left h i) (Nat.le_trans (Nat.pow_le_pow_right (by decide) hi) (by decide))
section
variable {P : Program} {w : World} {K : PySem.W.Frag} {mg : Str → Option Value} {base : Heap} {C G R : Addr}
def cRowsOf : Con := fun ds M Φ => ∃ t ps n, ds = [wbD n ps] ∧ Ok t ∧ Wb t ps ∧ (persL t).length = n ∧ n ≤ 8 ∧ Φ (.int (rws t : Nat)) M
abbrev nRowsOf : List Str := ["_law_web_here", "_law_known", "_law_size", "_law_best", "_law_person", "_law_one", "_law_lap", "_law_later", "_law_key", "_law_rows", "_law_row", "_law_last", "_law_goal", "_law_cost"]
theorem ok_rowsof (F : Fx w K mg) (F1 : Fc P w K mg base "_law_table" [] 1 1 cTable) : BodyOk P w K mg base "_law_rows_of" s__law_rows_of nRowsOf 1 1 cRowsOf := by
  intro f cdv A outer s H E hr ds M Φ hl hc
  obtain ⟨t, ps, n, rfl, ok, hps, hn, n8, hc⟩ := hc
  have nd : nRowsOf.Nodup := by decide +kernel
  have z2 : 2 ≤ sizeLine := by rw [sizeLine_eq]; decide
  have z1 : 1 ≤ sizeLine := by rw [sizeLine_eq]; decide
  have hin : ∀ q ∈ ps, q.1 < q.2 ∧ q.2 < n := fun q hq => by have := hps.inn q hq; rwa [hn] at this
  have hpl := wbL_len hps
  rw [hn] at hpl
  have hnn : n * n ≤ 64 := Nat.mul_le_mul n8 n8
  have n1 : 1 ≤ n := by rw [← hn, persL_len ok.2.1]; exact ppl_pos ok.1
  have hk := knL_kT hps hn
  have sy := knL_sym ps
  refine wss_cons (ws_par 1 2 nd (wa_cons (we_call F1 (hr.mono (by decide)) (wa_cons (we_var 0 rfl (wa_nil ⟨rfl, n, ps, rfl, by omega, by omega, hin, wa_cons (we_ix (we_var 0 rfl (we_int ⟨((0 : Nat) : Int), _, rfl, ixT (atI_nat rfl), wa_nil ⟨_, _, rfl, ?_⟩⟩)))⟩))))))
  refine wss_cons (ws_asg (we_dnewN fun q hq => wg_name 3 ?_ nd))
  refine wss_cons (ws_for PassesOwn.never (wi_range1 (F.bn _ (by decide +kernel)) (wa_cons (we_var 2 rfl (wa_nil ⟨_, rfl, by omega, by omega, ?_⟩)))))
  rw [show ((n : Nat) : Int).toNat = n by omega]
  refine ⟨fun i ρ' M2 => ∃ o4 es, ρ' = [some (wbD n ps), some (kwD (knL ps) n), some (.int (n : Nat)), some (.ob q), o4, none, none, none, none, none, none, none, none, none] ∧ M2 = mset M q (.dN w (encA keyR es)) ∧ Lat (SndR (knL ps) n 1) ((List.range i).map fun p => ((rowN n [p], p), 1)) es, ⟨none, [], rfl, rfl, .nil⟩, ?_, ?_⟩
  · rintro i x ρ' M2 hx ⟨o4, es, rfl, rfl, hes⟩
    obtain ⟨hi, rfl⟩ := rngD_get hx
    have hi : i < n := hi
    rw [Int.zero_add]
    have hel := hes.len
    rw [List.length_map, List.length_range] at hel
    refine wg_name 4 ?_ nd
    refine wss_cons (ws_asg (we_int (wg_dputN (units9n hr) (we_var 3 rfl (we_tup (wa_cons (we_tupleOf (F.bn _ (by decide +kernel)) (we_lc nd (blkOk_by (N := nRowsOf) (sc := defScope s__law_rows_of) (own := [("_law_one", 5)]) (by decide +kernel)) (fun _ _ _ _ _ => pg_name (i := 5) nd rfl (Or.inl rfl)) (gt_name (by decide)) (fun _ _ _ _ _ => pts_nil) tk_nil (wi_range1 (F.bn _ (by decide +kernel)) (wa_cons (we_var 2 rfl (wa_nil ⟨_, rfl, by omega, by omega, ?_⟩))))))))))))
    rw [show ((n : Nat) : Int).toNat = n by omega]
    refine ⟨by rw [rngD_len, sizeLine_eq]; omega, fun k acc M3 => M3 = mset M q (.dN w (encA keyR es)) ∧ acc = ((List.range k).map fun j => decide (j ∈ [i])).map D.bl, ⟨rfl, rfl⟩, ?_, ?_⟩
    · rintro k x acc M3 hx ⟨rfl, rfl⟩
      obtain ⟨hk2, rfl⟩ := rngD_get hx
      rw [Int.zero_add]
      intro s1 H1 C1 cl1 fp1
      refine we_eqS (we_var 5 rfl (we_var 4 rfl ⟨_, rfl, rfl, ?_⟩))
      rw [List.range_succ, List.map_append, List.map_append]
      show _ = _ ++ [D.bl (decide (k ∈ [i]))]
      congr 3
      exact decide_eq_decide.mpr ⟨fun e => List.mem_singleton.mpr (by omega), fun e => by rw [List.mem_singleton.mp e]⟩
    rintro acc M3 ⟨rfl, rfl⟩
    rw [rngD_len]
    have hg : nkD (keyR (rowN n [i], i)) = some (keyRN (rowN n [i], i)) := key_rows.nk _
    refine ⟨_, .inl rfl, wa_cons (we_var 4 rfl (wa_nil ⟨z2, q, _, _, keyRN (rowN n [i], i), rfl, rfl, hg, key_rows.dep _, mset_same, by rw [enc_len, sizeLine_eq]; omega, ?_⟩))⟩
    rw [mset_mset]
    have hput := enc_put key_rows es (rowN n [i], i) 1
    refine wss_nil ⟨_, putA es (rowN n [i], i) 1, rfl, ?_, ?_⟩
    · rw [← hput]; rfl
    · rw [List.range_succ, List.map_append]
      refine hes.step (rlx_put fun v hv => ?_) (sndR_one _ n hi)
      obtain ⟨M0, _, _, h1, _⟩ := hes.snd _ (getA_mem hv)
      have h1 : 1 + _ ≤ v := h1
      omega
  rintro ρ' M2 ⟨o4, es, rfl, rfl, hes⟩
  rw [rngD_len] at hes
  have T1 := tabR_one _ n hes
  refine wss_cons (ws_for PassesOwn.never (wi_range1 (F.bn _ (by decide +kernel)) (wa_cons (we_subI (we_var 2 rfl (we_int ⟨_, _, rfl, rfl, wa_nil ⟨_, rfl, by omega, by omega, ?_⟩⟩))))))
  rw [show (((n : Nat) : Int) - 1).toNat = n - 1 by omega]
  refine ⟨fun i ρ' M2 => ∃ q es o4 o6 o7 o8 o9 o10 o11 o12 o13, ρ' = [some (wbD n ps), some (kwD (knL ps) n), some (.int (n : Nat)), some (.ob q), o4, none, o6, o7, o8, o9, o10, o11, o12, o13] ∧ M q = none ∧ M2 = mset M q (.dN w (encA keyR es)) ∧ TabR (knL ps) n (i + 1) es, ⟨q, es, _, _, _, _, _, _, _, _, _, rfl, hq, rfl, T1⟩, ?_, ?_⟩
  · rintro i x ρ' M2 hx ⟨q, es, o4, o6, o7, o8, o9, o10, o11, o12, o13, rfl, hq, rfl, hT⟩
    obtain ⟨hi, rfl⟩ := rngD_get hx
    have hi : i < n - 1 := hi
    rw [Int.zero_add]
    refine wg_name 6 ?_ nd
    refine wss_cons (ws_asg (we_dnewN fun q2 hq2 => wg_name 7 ?_ nd))
    have hqq : q2 ≠ q := fun e => by rw [e, mset_same] at hq2; cases hq2
    have hq2' : M q2 = none := by rw [mset_ne hqq] at hq2; exact hq2
    have hel : es.length ≤ 2097152 := Nat.le_trans hT.len (pw8 n8 (by omega))
    refine wss_cons (ws_for PassesOwn.never (wi_itemsN (we_var 3 rfl ⟨q, _, rfl, by rw [mset_ne (Ne.symm hqq)]; exact mset_same, ?_⟩)))
    have em : mdel (mset (mset M q (.dN w (encA keyR es))) q2 (.dN w [])) q = mset M q2 (.dN w (encA keyR [])) := mdel_two hq hqq
    refine ⟨fun j ρ' M3 => ∃ fs o4 o8 o9 o10 o11 o12 o13, ρ' = [some (wbD n ps), some (kwD (knL ps) n), some (.int (n : Nat)), some (.ob q), o4, none, some (.int (i : Nat)), some (.ob q2), o8, o9, o10, o11, o12, o13] ∧ M3 = mset M q2 (.dN w (encA keyR fs)) ∧ Lat (SndR (knL ps) n (i + 2)) ((es.take j).flatMap (candsR (knL ps) n)) fs, ⟨[], _, _, _, _, _, _, _, rfl, em, .nil⟩, ?_, ?_⟩
    · rintro j x ρ' M3 hx ⟨fs, o4, o8, o9, o10, o11, o12, o13, rfl, rfl, hL⟩
      obtain ⟨e, he, rfl⟩ := enc_at hx
      have hj : j < es.length := (List.getElem?_eq_some_iff.mp he).1
      obtain ⟨M0, hs0, hr0, hv1, hv2⟩ := hT.snd e (List.mem_of_getElem? he)
      have hsd : SndR (knL ps) n (i + 1) e.1 e.2 := hT.snd e (List.mem_of_getElem? he)
      have hlast : e.1.2 < n := hs0.lt _ List.mem_cons_self
      have hrl : e.1.1.length = n := by rw [hr0, rowN_len]
      have hLl := hL.len
      have hfl := flat_le (f := candsR (knL ps) n) (n := n) (es.take j) fun e _ => candsR_len _ n e
      rw [List.length_take, Nat.min_eq_left (Nat.le_of_lt hj)] at hfl
      have hjn : j * n ≤ 2097151 * 8 := Nat.mul_le_mul (by omega) n8
      refine wg_tup ⟨rfl, rfl, wgs_cons (wg_name 8 (wgs_cons (wg_name 9 (wgs_nil ⟨rfl, ?_⟩) nd)) nd)⟩
      refine wss_cons (ws_asg (we_var 8 rfl (wg_tup ⟨rfl, rfl, wgs_cons (wg_name 10 (wgs_cons (wg_name 11 (wgs_nil ⟨rfl, ?_⟩) nd)) nd)⟩)))
      refine wss_cons (ws_for PassesOwn.never (wi_list (we_lc nd (blkOk_by (N := nRowsOf) (sc := defScope s__law_rows_of) (own := [("_law_one", 5)]) (by decide +kernel)) (fun _ _ _ _ _ => pg_name (i := 5) nd rfl (Or.inl rfl)) (gt_name (by decide)) pt_bkM tk_one (wi_range1 (F.bn _ (by decide +kernel)) (wa_cons (we_var 2 rfl (wa_nil ⟨_, rfl, by omega, by omega, ?_⟩)))))))
      rw [show ((n : Nat) : Int).toNat = n by omega]
      refine ⟨by rw [rngD_len, sizeLine_eq]; omega, fun k acc M4 => M4 = mset M q2 (.dN w (encA keyR fs)) ∧ acc = nsD ((List.range k).filter fun i => !(e.1.1.getD i false)), ⟨rfl, rfl⟩, ?_, ?_⟩
      · rintro k x acc M4 hx ⟨rfl, rfl⟩
        obtain ⟨hk2, rfl⟩ := rngD_get hx
        have hk2 : k < n := hk2
        rw [Int.zero_add]
        intro s1 H1 C1 cl1 fp1
        refine wt_not (wt_val (we_ix (we_var 10 rfl (we_var 5 rfl ⟨_, _, rfl, row_atT (by rw [hrl]; exact hk2), _, rfl, ?_⟩))))
        cases hb : e.1.1.getD k false with
        | true => exact ⟨rfl, by rw [List.range_succ, List.filter_append, List.filter_cons, hb]; simp⟩
        | false =>
          intro s2 H2 C2 cl2 fp2
          refine we_var 5 rfl ⟨rfl, ?_⟩
          rw [List.range_succ, List.filter_append, List.filter_cons, hb, List.filter_nil, nsD_app]; rfl
      rintro acc M4 ⟨rfl, rfl⟩
      rw [rngD_len]
      refine ⟨_, .inl rfl, ?_⟩
      refine ⟨fun m ρ' M4 => ∃ gs o4 o12 o13, ρ' = [some (wbD n ps), some (kwD (knL ps) n), some (.int (n : Nat)), some (.ob q), o4, none, some (.int (i : Nat)), some (.ob q2), some (keyR e.1), some (.int (e.2 : Nat)), some (rowT e.1.1), some (.int (e.1.2 : Nat)), o12, o13] ∧ M4 = mset M q2 (.dN w (encA keyR gs)) ∧ Lat (SndR (knL ps) n (i + 2)) ((es.take j).flatMap (candsR (knL ps) n) ++ ((outR n e.1.1).take m).map (candR (knL ps) e)) gs, ⟨fs, _, _, _, rfl, rfl, by rw [List.take_zero, List.map_nil, List.append_nil]; exact hL⟩, ?_, ?_⟩
      · rintro m x ρ' M4 hx ⟨gs, o4, o12, o13, rfl, rfl, hG⟩
        obtain ⟨p, hp, rfl⟩ := nsD_get hx
        have hp : (outR n e.1.1)[m]? = some p := hp
        have hpm := List.mem_of_getElem? hp
        have hpn : p < n := List.mem_range.mp (List.mem_filter.mp hpm).1
        have hml : m < (outR n e.1.1).length := (List.getElem?_eq_some_iff.mp hp).1
        have hol : (outR n e.1.1).length ≤ n := by
          have := List.length_filter_le (fun i => !(e.1.1.getD i false)) (List.range n)
          rwa [List.length_range] at this
        obtain ⟨hs2, hcn⟩ := snd_cand _ n sy hsd hpm
        have hGl := hG.len
        rw [List.length_append, List.length_map, List.length_take] at hGl
        refine wg_name 4 ?_ nd
        refine wss_cons (ws_set 12 nd (we_tup (wa_cons (we_addT (we_addT (we_slice (we_var 10 rfl ?_)))))))
        refine we_var 4 rfl ⟨_, rfl, _, .inr (.inl ⟨_, rfl, rfl⟩), we_tup (wa_cons (we_bl (wa_nil ⟨z1, _, _, rfl, rfl, ?_, ?_⟩)))⟩
        · rw [cut_lo (by omega), List.length_map, List.length_take, sizeLine_eq, List.length_singleton]; omega
        refine we_slice (we_var 10 rfl ?_)
        refine we_addI (we_var 4 rfl (we_int ⟨_, _, rfl, rfl, _, rfl, _, .inr (.inl ⟨_, rfl, rfl⟩), _, _, rfl, rfl, ?_, wa_cons (we_var 4 rfl (wa_nil ⟨z2, ?_⟩))⟩))
        · rw [show ((p : Nat) : Int) + 1 = ((p + 1 : Nat) : Int) by omega, cut_lo (by omega), cut_hi (by omega), List.length_append, List.length_map, List.length_map, List.length_take, List.length_drop, sizeLine_eq, List.length_singleton]; omega
        rw [show ((p : Nat) : Int) + 1 = ((p + 1 : Nat) : Int) by omega, cut_lo (by omega), cut_hi (by omega)]
        have eg : D.tup [.tup ((e.1.1.take p).map D.bl ++ [.bl true] ++ (e.1.1.drop (p + 1)).map D.bl), .int (p : Nat)] = keyR (candR (knL ps) e p).1 := by
          show _ = D.tup [rowT (e.1.1.take p ++ [true] ++ e.1.1.drop (p + 1)), .int (p : Nat)]
          unfold rowT
          rw [List.map_append, List.map_append]; rfl
        rw [eg]
        refine wss_cons (ws_set 13 nd (we_addI (we_var 9 rfl (we_intN (F.bn _ (by decide +kernel)) (we_not (we_ix (we_ix (we_var 1 rfl (we_var 11 rfl ⟨_, _, rfl, kw_at hlast, we_var 4 rfl ⟨_, _, rfl, kr_at hpn, _, rfl, .inr ⟨_, rfl, _, _, rfl, rfl, ?_⟩⟩⟩)))))))))
        have ec : ((e.2 : Nat) : Int) + (if (!knL ps e.1.2 p) = true then 1 else 0) = (((candR (knL ps) e p).2 : Nat) : Int) := by
          show _ = ((e.2 + (if knL ps e.1.2 p = true then 0 else 1) : Nat) : Int)
          cases knL ps e.1.2 p <;> simp
        rw [ec]
        generalize hg : (candR (knL ps) e p).1 = g at hs2 ⊢
        generalize hcc : (candR (knL ps) e p).2 = cst at hs2 hcn ⊢
        refine wss_cons (ws_if (wt_ltI (we_var 13 rfl (we_dgetN (units9n hr) (we_var 7 rfl ⟨q2, _, rfl, mset_same, we_var 12 rfl (we_addI (we_var 2 rfl (we_int ⟨_, _, rfl, rfl, _, _, keyRN g, rfl, key_rows.nk _, key_rows.dep _, mset_same, ?_⟩)))⟩)))))
        rw [show ((n : Nat) : Int) + 1 = ((n + 1 : Nat) : Int) by omega, enc_getD key_rows]
        refine ⟨_, _, rfl, rfl, ?_⟩
        have rl := rlx_less (es := gs) (g := g) (show cst < n + 1 by omega)
        have hfin := hG.step rl hs2
        have etk : (es.take j).flatMap (candsR (knL ps) n) ++ ((outR n e.1.1).take (m + 1)).map (candR (knL ps) e) = (es.take j).flatMap (candsR (knL ps) n) ++ ((outR n e.1.1).take m).map (candR (knL ps) e) ++ [(g, cst)] := by
          rw [take_snoc hp, List.map_append, List.append_assoc, ← hg, ← hcc]; rfl
        by_cases hlt : cst < (getA gs g).getD (n + 1)
        · rw [if_pos hlt] at hfin
          rw [decide_eq_true (show ((cst : Nat) : Int) < (((getA gs g).getD (n + 1) : Nat) : Int) by omega)]
          refine wss_cons (ws_asg (we_var 13 rfl (wg_dputN (units9n hr) (we_var 7 rfl (we_var 12 rfl ⟨q2, _, _, keyRN g, rfl, rfl, key_rows.nk _, key_rows.dep _, mset_same, ?_, ?_⟩)))))
          · rw [enc_len, sizeLine_eq]; omega
          rw [mset_mset]
          refine wss_nil (wss_nil ⟨putA gs g cst, _, _, _, rfl, ?_, ?_⟩)
          · rw [← enc_put key_rows gs g cst]; rfl
          · rw [etk]; exact hfin
        · rw [if_neg hlt] at hfin
          rw [decide_eq_false (show ¬ ((cst : Nat) : Int) < (((getA gs g).getD (n + 1) : Nat) : Int) by omega)]
          exact wss_nil (wss_nil ⟨gs, _, _, _, rfl, rfl, by rw [etk]; exact hfin⟩)
      · rintro ρ' M4 ⟨gs, o4, o12, o13, rfl, rfl, hG⟩
        rw [nsD_len] at hG
        refine wss_nil ⟨gs, _, _, _, _, _, _, _, rfl, rfl, ?_⟩
        rw [take_snoc he, List.flatMap_append, List.flatMap_cons, List.flatMap_nil, List.append_nil]
        rwa [show ((List.range n).filter fun i => !(e.1.1.getD i false)) = outR n e.1.1 from rfl, List.take_length] at hG
    · rintro ρ' M3 ⟨fs, o4, o8, o9, o10, o11, o12, o13, rfl, rfl, hL⟩
      rw [enc_items, List.take_length] at hL
      refine wss_cons (ws_set 3 nd (we_var 7 rfl (wss_nil ?_)))
      exact ⟨q2, fs, _, _, _, _, _, _, _, _, _, rfl, hq2', rfl, hT.step _ n sy (by omega) hL⟩
  · rintro ρ' M2 ⟨q, es, o4, o6, o7, o8, o9, o10, o11, o12, o13, rfl, hq, rfl, hT⟩
    rw [rngD_len, show n - 1 + 1 = n by omega] at hT
    refine wss_cons (ws_ret (we_minL (F.bn _ (by decide +kernel)) (we_listValsN (F.bn _ (by decide +kernel)) (we_var 3 rfl ⟨q, _, rfl, mset_same, _, (enc_vals es).symm, ?_, fun m hm hmin => ?_⟩))))
    · obtain ⟨x, hx⟩ : ∃ x M0, Seq n n (x :: M0) := ⟨0, (List.range n).tail, seq_of_perm (by
        cases n with
        | zero => omega
        | succ n => rw [List.range_succ_eq_map]; exact .refl _)⟩
      obtain ⟨M0, hx⟩ := hx
      obtain ⟨v, h1, _⟩ := hT.cov x M0 hx
      rw [List.length_map]
      exact List.length_pos_of_mem (getA_mem h1)
    · obtain ⟨k, rfl, h1, h2⟩ := mn_nat hm hmin
      rw [rows_end ok hn hk hT h1 h2]
      exact ⟨_, M, les_new hq, .same _, hc⟩
end
end W
namespace W
open PySem PySem.Spec PyProof.Rows L2 DL SX PL SlX
theorem row_nilT (n : Nat) : D.tup (List.replicate n (D.bl false)) = rowT (rowN n []) := by
  unfold rowT
  rw [rowN_nil, List.map_replicate]
theorem mx2 (a b : Nat) : (if ((b : Nat) : Int) > ((a : Nat) : Int) then ((b : Nat) : Int) else ((a : Nat) : Int)) = ((max a b : Nat) : Int) := by split <;> omega
theorem mn2 (a b : Nat) : (if ((b : Nat) : Int) < ((a : Nat) : Int) then ((b : Nat) : Int) else ((a : Nat) : Int)) = ((min a b : Nat) : Int) := by split <;> omega
section
variable {P : Program} {w : World} {K : PySem.W.Frag} {mg : Str → Option Value} {base : Heap} {C G R : Addr}
def cHallOf : Con := fun ds M Φ => ∃ t ps n, ds = [wbD n ps] ∧ Ok t ∧ Wb t ps ∧ (persL t).length = n ∧ n ≤ 8 ∧ Φ (.int (hal t : Nat)) M
abbrev nHallOf : List Str := ["_law_web_here", "_law_known", "_law_size", "_law_best", "_law_lap", "_law_later", "_law_row", "_law_hall", "_law_out", "_law_person", "_law_there", "_law_one", "_law_goal"]
abbrev scHall : Scope := { kind := .function, names := [(".0", .local), ("_law_person", .cell), ("any", .globalImplicit), ("_law_known", .free), ("_law_out", .free), ("_law_row", .free)], isGenerator := false, isCoroutine := false }
theorem ok_hallof (F : Fx w K mg) (Fa : mg "any" = none) (F1 : Fc P w K mg base "_law_table" [] 1 1 cTable) : BodyOk P w K mg base "_law_hall_of" s__law_hall_of nHallOf 1 1 cHallOf := by
  intro f cdv A outer s H E hr ds M Φ hl hc
  obtain ⟨t, ps, n, rfl, ok, hps, hn, n8, hc⟩ := hc
  have nd : nHallOf.Nodup := by decide +kernel
  have z2 : 2 ≤ sizeLine := by rw [sizeLine_eq]; decide
  have z1 : 1 ≤ sizeLine := by rw [sizeLine_eq]; decide
  have hin : ∀ q ∈ ps, q.1 < q.2 ∧ q.2 < n := fun q hq => by have := hps.inn q hq; rwa [hn] at this
  have hpl := wbL_len hps
  rw [hn] at hpl
  have hnn : n * n ≤ 64 := Nat.mul_le_mul n8 n8
  have n1 : 1 ≤ n := by rw [← hn, persL_len ok.2.1]; exact ppl_pos ok.1
  have hk := knL_kT hps hn
  refine wss_cons (ws_asg (we_tup (wa_cons (we_call F1 (hr.mono (by decide)) (wa_cons (we_var 0 rfl (wa_nil ⟨rfl, n, ps, rfl, by omega, by omega, hin, wa_cons (we_ix (we_var 0 rfl (we_int ⟨((0 : Nat) : Int), _, rfl, ixT (atI_nat rfl), wa_nil ⟨z2, ?_⟩⟩)))⟩)))))))
  refine wg_tup ⟨rfl, rfl, wgs_cons (wg_name 1 (wgs_cons (wg_name 2 (wgs_nil ⟨rfl, ?_⟩) nd)) nd)⟩
  refine wss_cons (ws_asg (we_disp1N (units9n hr) (we_repT (we_tup (wa_cons (we_bl (wa_nil ⟨z1, we_var 2 rfl ⟨_, n, rfl, rfl, n1, by omega, we_int ⟨_, rowTN (rowN n []), rfl, ?_, key_row.dep _, fun q hq => wg_name 3 ?_ nd⟩⟩⟩)))))))
  · rw [row_nilT]; exact key_row.nk _
  rw [row_nilT]
  have T0 := tabH_zero (knL ps) n
  refine wss_cons (ws_for PassesOwn.never (wi_range1 (F.bn _ (by decide +kernel)) (wa_cons (we_var 2 rfl (wa_nil ⟨_, rfl, by omega, by omega, ?_⟩)))))
  rw [show ((n : Nat) : Int).toNat = n by omega]
  refine ⟨fun i ρ' M2 => ∃ q es o4 o5 o6 o7 o8 o9 o10 o12, ρ' = [some (wbD n ps), some (kwD (knL ps) n), some (.int (n : Nat)), some (.ob q), o4, o5, o6, o7, o8, o9, o10, none, o12] ∧ M q = none ∧ M2 = mset M q (.dN w (encA rowT es)) ∧ TabH (knL ps) n i es, ⟨q, [(rowN n [], 0)], _, _, _, _, _, _, _, _, rfl, hq, rfl, T0⟩, ?_, ?_⟩
  · rintro i x ρ' M2 hx ⟨q, es, o4, o5, o6, o7, o8, o9, o10, o12, rfl, hq, rfl, hT⟩
    obtain ⟨hi, rfl⟩ := rngD_get hx
    have hi : i < n := hi
    rw [Int.zero_add]
    refine wg_name 4 ?_ nd
    refine wss_cons (ws_asg (we_dnewN fun q2 hq2 => wg_name 5 ?_ nd))
    have hqq : q2 ≠ q := fun e => by rw [e, mset_same] at hq2; cases hq2
    have hq2' : M q2 = none := by rw [mset_ne hqq] at hq2; exact hq2
    have hel : es.length ≤ 2097152 := Nat.le_trans hT.len (pw8 n8 (by omega))
    refine wss_cons (ws_for PassesOwn.never (wi_itemsN (we_var 3 rfl ⟨q, _, rfl, by rw [mset_ne (Ne.symm hqq)]; exact mset_same, ?_⟩)))
    have em : mdel (mset (mset M q (.dN w (encA rowT es))) q2 (.dN w [])) q = mset M q2 (.dN w (encA rowT [])) := mdel_two hq hqq
    refine ⟨fun j ρ' M3 => ∃ fs o6 o7 o8 o9 o10 o12, ρ' = [some (wbD n ps), some (kwD (knL ps) n), some (.int (n : Nat)), some (.ob q), some (.int (i : Nat)), some (.ob q2), o6, o7, o8, o9, o10, none, o12] ∧ M3 = mset M q2 (.dN w (encA rowT fs)) ∧ Lat (SndH (knL ps) n (i + 1)) ((es.take j).flatMap (candsH (knL ps) n)) fs, ⟨[], _, _, _, _, _, _, rfl, em, .nil⟩, ?_, ?_⟩
    · rintro j x ρ' M3 hx ⟨fs, o6, o7, o8, o9, o10, o12, rfl, rfl, hL⟩
      obtain ⟨e, he, rfl⟩ := enc_at hx
      have hj : j < es.length := (List.getElem?_eq_some_iff.mp he).1
      have hsd : SndH (knL ps) n i e.1 e.2 := hT.snd e (List.mem_of_getElem? he)
      obtain ⟨M0, hs0, hr0, hv1, hv2⟩ := hT.snd e (List.mem_of_getElem? he)
      have hrl : e.1.length = n := by rw [hr0, rowN_len]
      have hLl := hL.len
      have hfl := flat_le (f := candsH (knL ps) n) (n := n) (es.take j) fun e _ => candsH_len _ n e
      rw [List.length_take, Nat.min_eq_left (Nat.le_of_lt hj)] at hfl
      have hjn : j * n ≤ 2097151 * 8 := Nat.mul_le_mul (by omega) n8
      have hol : (outR n e.1).length ≤ n := by
        have := List.length_filter_le (fun i => !(e.1.getD i false)) (List.range n)
        rwa [List.length_range] at this
      have htl : (thereR (knL ps) n e.1).length ≤ n := by
        have := List.length_filter_le (fun i => e.1.getD i false && ((outR n e.1).map fun y => knL ps i y).any id) (List.range n)
        rwa [List.length_range] at this
      refine wg_tup ⟨rfl, rfl, wgs_cons (wg_name 6 (wgs_cons (wg_name 7 (wgs_nil ⟨rfl, ?_⟩) nd)) nd)⟩
      refine wss_cons (ws_set 8 nd (we_lc nd (blkOk_by (N := nHallOf) (sc := defScope s__law_hall_of) (own := [("_law_person", 9)]) (by decide +kernel)) (fun _ _ _ _ _ => pg_name (i := 9) nd rfl (Or.inl rfl)) (gt_name (by decide)) pt_bkM tk_one (wi_range1 (F.bn _ (by decide +kernel)) (wa_cons (we_var 2 rfl (wa_nil ⟨_, rfl, by omega, by omega, ?_⟩))))))
      rw [show ((n : Nat) : Int).toNat = n by omega]
      refine ⟨by rw [rngD_len, sizeLine_eq]; omega, fun k acc M4 => M4 = mset M q2 (.dN w (encA rowT fs)) ∧ acc = nsD ((List.range k).filter fun i => !(e.1.getD i false)), ⟨rfl, rfl⟩, ?_, ?_⟩
      · rintro k x acc M4 hx ⟨rfl, rfl⟩
        obtain ⟨hk2, rfl⟩ := rngD_get hx
        have hk2 : k < n := hk2
        rw [Int.zero_add]
        intro s1 H1 C1 cl1 fp1
        refine wt_not (wt_val (we_ix (we_var 6 rfl (we_var 9 rfl ⟨_, _, rfl, row_atT (by rw [hrl]; exact hk2), _, rfl, ?_⟩))))
        cases hb : e.1.getD k false with
        | true => exact ⟨rfl, by rw [List.range_succ, List.filter_append, List.filter_cons, hb]; simp⟩
        | false =>
          intro s2 H2 C2 cl2 fp2
          refine we_var 9 rfl ⟨rfl, ?_⟩
          rw [List.range_succ, List.filter_append, List.filter_cons, hb, List.filter_nil, nsD_app]; rfl
      rintro acc M4 ⟨rfl, rfl⟩
      rw [rngD_len]
      rw [show ((List.range n).filter fun i => !(e.1.getD i false)) = outR n e.1 from rfl]
      refine wss_cons (ws_setLc 10 nd (blkOk_by (N := nHallOf) (sc := defScope s__law_hall_of) (own := [("_law_person", 9)]) (by decide +kernel)) (fun _ _ _ _ _ => pg_name (i := 9) nd rfl (Or.inr rfl)) (gt_name (by decide)) pt_bkM tk_one (wi_range1 (F.bn _ (by decide +kernel)) (wa_cons (we_var 2 rfl (wa_nil ⟨_, rfl, by omega, by omega, ?_⟩)))) rfl)
      rw [show ((n : Nat) : Int).toNat = n by omega]
      refine ⟨by rw [rngD_len, sizeLine_eq]; omega, fun k acc M4 => M4 = mset M q2 (.dN w (encA rowT fs)) ∧ acc = nsD ((List.range k).filter fun i => e.1.getD i false && ((outR n e.1).map fun y => knL ps i y).any id), ⟨rfl, rfl⟩, ?_, ?_⟩
      · rintro k x acc M4 hx ⟨rfl, rfl⟩
        obtain ⟨hk2, rfl⟩ := rngD_get hx
        have hk2 : k < n := hk2
        rw [Int.zero_add]
        intro s1 H1 C1 cl1 fp1
        refine wt_ww (ww_and (wt_val (we_ix (we_var 6 rfl (we_var 9 rfl ⟨_, _, rfl, row_atT (by rw [hrl]; exact hk2), _, rfl, ?_⟩)))))
        cases hb : e.1.getD k false with
        | false => exact ⟨rfl, by rw [List.range_succ, List.filter_append, List.filter_cons, hb]; simp⟩
        | true =>
          refine ww_and1 (wt_val (we_anyB Fa (we_lc nd (blkOk_by (N := nHallOf) (sc := relS scHall (defScope s__law_hall_of)) (own := [("_law_one", 11)]) (by decide +kernel)) (fun _ _ _ _ _ => pg_name (i := 11) nd rfl (Or.inl rfl)) (gt_name (by decide)) (fun _ _ _ _ _ => pts_nil) tk_nil (wi_list (we_var 8 rfl ⟨_, .inl rfl, ?_⟩)))))
          refine ⟨by rw [nsD_len, sizeLine_eq]; omega, fun m acc M5 => M5 = mset M q2 (.dN w (encA rowT fs)) ∧ acc = (((outR n e.1).take m).map fun y => knL ps k y).map D.bl, ⟨rfl, rfl⟩, ?_, ?_⟩
          · rintro m x acc M5 hx ⟨rfl, rfl⟩
            obtain ⟨y, hy, rfl⟩ := nsD_get hx
            have hyn : y < n := List.mem_range.mp (List.mem_filter.mp (List.mem_of_getElem? hy)).1
            intro s2 H2 C2 cl2 fp2
            refine we_ix (we_ix (we_var 1 rfl (we_var 9 rfl ⟨_, _, rfl, kw_at hk2, we_var 11 rfl ⟨_, _, rfl, kr_at hyn, rfl, ?_⟩⟩)))
            rw [take_snoc hy, List.map_append, List.map_append]; rfl
          rintro acc M5 ⟨rfl, rfl⟩
          rw [nsD_len, List.take_length]
          refine ⟨_, rfl, _, rfl, ?_⟩
          cases hb2 : ((outR n e.1).map fun y => knL ps k y).any id with
          | false => exact ⟨rfl, by rw [List.range_succ, List.filter_append, List.filter_cons, hb2]; simp⟩
          | true =>
            intro s2 H2 C2 cl2 fp2
            refine we_var 9 rfl ⟨rfl, ?_⟩
            rw [List.range_succ, List.filter_append, List.filter_cons, hb, hb2, List.filter_nil, nsD_app]; rfl
      rintro acc M4 ⟨rfl, rfl⟩
      rw [rngD_len]
      rw [show ((List.range n).filter fun i => e.1.getD i false && ((outR n e.1).map fun y => knL ps i y).any id) = thereR (knL ps) n e.1 from rfl]
      refine wss_cons (ws_for PassesOwn.never (wi_list (we_var 8 rfl ⟨_, .inl rfl, ?_⟩)))
      refine ⟨fun m ρ' M4 => ∃ gs o9 o12, ρ' = [some (wbD n ps), some (kwD (knL ps) n), some (.int (n : Nat)), some (.ob q), some (.int (i : Nat)), some (.ob q2), some (rowT e.1), some (.int (e.2 : Nat)), some (.lst (nsD (outR n e.1))), o9, some (.lst (nsD (thereR (knL ps) n e.1))), none, o12] ∧ M4 = mset M q2 (.dN w (encA rowT gs)) ∧ Lat (SndH (knL ps) n (i + 1)) ((es.take j).flatMap (candsH (knL ps) n) ++ ((outR n e.1).take m).map (candH (knL ps) n e)) gs, ⟨fs, _, _, rfl, rfl, by rw [List.take_zero, List.map_nil, List.append_nil]; exact hL⟩, ?_, ?_⟩
      · rintro m x ρ' M4 hx ⟨gs, o9, o12, rfl, rfl, hG⟩
        obtain ⟨p, hp, rfl⟩ := nsD_get hx
        have hp : (outR n e.1)[m]? = some p := hp
        have hpm := List.mem_of_getElem? hp
        have hpn : p < n := List.mem_range.mp (List.mem_filter.mp hpm).1
        have hml : m < (outR n e.1).length := (List.getElem?_eq_some_iff.mp hp).1
        obtain ⟨hs2, hcn⟩ := snd_candH _ n hsd hpm
        have hGl := hG.len
        rw [List.length_append, List.length_map, List.length_take] at hGl
        refine wg_name 9 ?_ nd
        refine wss_cons (ws_set 12 nd (we_addT (we_addT (we_slice (we_var 6 rfl ?_)))))
        refine we_var 9 rfl ⟨_, rfl, _, .inr (.inl ⟨_, rfl, rfl⟩), we_tup (wa_cons (we_bl (wa_nil ⟨z1, _, _, rfl, rfl, ?_, ?_⟩)))⟩
        · rw [cut_lo (by omega), List.length_map, List.length_take, sizeLine_eq, List.length_singleton]; omega
        refine we_slice (we_var 6 rfl ?_)
        refine we_addI (we_var 9 rfl (we_int ⟨_, _, rfl, rfl, _, rfl, _, .inr (.inl ⟨_, rfl, rfl⟩), _, _, rfl, rfl, ?_, ?_⟩))
        · rw [show ((p : Nat) : Int) + 1 = ((p + 1 : Nat) : Int) by omega, cut_lo (by omega), cut_hi (by omega), List.length_append, List.length_map, List.length_map, List.length_take, List.length_drop, sizeLine_eq, List.length_singleton]; omega
        rw [show ((p : Nat) : Int) + 1 = ((p + 1 : Nat) : Int) by omega, cut_lo (by omega), cut_hi (by omega)]
        have eg : D.tup ((e.1.take p).map D.bl ++ [.bl true] ++ (e.1.drop (p + 1)).map D.bl) = rowT (candH (knL ps) n e p).1 := by
          show _ = rowT (e.1.take p ++ [true] ++ e.1.drop (p + 1))
          unfold rowT
          rw [List.map_append, List.map_append]; rfl
        rw [eg]
        have ec : (candH (knL ps) n e p).2 = max e.2 ((thereR (knL ps) n e.1).length + 1) := rfl
        generalize hg : (candH (knL ps) n e p).1 = g at hs2 ⊢
        generalize hcc : (candH (knL ps) n e p).2 = cst at hs2 hcn ec
        refine wss_cons (ws_asg (we_min2 (F.bn _ (by decide +kernel)) (we_max2 (F.bn _ (by decide +kernel)) (we_var 7 rfl (we_addI (we_len (F.bn _ (by decide +kernel)) (we_var 10 rfl ⟨_, lenL, we_int ⟨_, _, rfl, rfl, _, _, rfl, rfl, ?_⟩⟩)))))))
        rw [nsD_len, show (((thereR (knL ps) n e.1).length : Nat) : Int) + 1 = (((thereR (knL ps) n e.1).length + 1 : Nat) : Int) by omega, mx2, ← ec]
        refine we_dgetN (units9n hr) (we_var 5 rfl ⟨q2, _, rfl, mset_same, we_var 12 rfl (we_var 2 rfl ⟨_, _, rowTN g, rfl, key_row.nk _, key_row.dep _, mset_same, ?_⟩)⟩)
        rw [enc_getD key_row]
        refine ⟨_, _, rfl, rfl, ?_⟩
        rw [mn2]
        have rl := rlx_min (es := gs) (g := g) hcn
        have hfin := hG.step rl hs2
        have etk : (es.take j).flatMap (candsH (knL ps) n) ++ ((outR n e.1).take (m + 1)).map (candH (knL ps) n e) = (es.take j).flatMap (candsH (knL ps) n) ++ ((outR n e.1).take m).map (candH (knL ps) n e) ++ [(g, cst)] := by
          rw [take_snoc hp, List.map_append, List.append_assoc, ← hg, ← hcc]; rfl
        refine wg_dputN (units9n hr) (we_var 5 rfl (we_var 12 rfl ⟨q2, _, _, rowTN g, rfl, rfl, key_row.nk _, key_row.dep _, mset_same, ?_, ?_⟩))
        · rw [enc_len, sizeLine_eq]; omega
        rw [mset_mset]
        refine wss_nil ⟨putA gs g (min cst ((getA gs g).getD n)), _, _, rfl, ?_, ?_⟩
        · rw [← enc_put key_row gs g]; rfl
        · rw [etk]; exact hfin
      · rintro ρ' M4 ⟨gs, o9, o12, rfl, rfl, hG⟩
        rw [nsD_len] at hG
        refine wss_nil ⟨gs, _, _, _, _, _, _, rfl, rfl, ?_⟩
        rw [take_snoc he, List.flatMap_append, List.flatMap_cons, List.flatMap_nil, List.append_nil]
        rwa [List.take_length] at hG
    · rintro ρ' M3 ⟨fs, o6, o7, o8, o9, o10, o12, rfl, rfl, hL⟩
      rw [enc_items, List.take_length] at hL
      refine wss_cons (ws_set 3 nd (we_var 5 rfl (wss_nil ?_)))
      exact ⟨q2, fs, _, _, _, _, _, _, _, _, rfl, hq2', rfl, hT.step _ n hL⟩
  · rintro ρ' M2 ⟨q, es, o4, o5, o6, o7, o8, o9, o10, o12, rfl, hq, rfl, hT⟩
    rw [rngD_len] at hT
    refine wss_cons (ws_ret (we_minL (F.bn _ (by decide +kernel)) (we_listValsN (F.bn _ (by decide +kernel)) (we_var 3 rfl ⟨q, _, rfl, mset_same, _, (enc_vals es).symm, ?_, fun m hm hmin => ?_⟩))))
    · obtain ⟨v, h1, _⟩ := hT.cov (List.range n) (seq_of_perm (.refl _))
      rw [List.length_map]
      exact List.length_pos_of_mem (getA_mem h1)
    · obtain ⟨k, rfl, h1, h2⟩ := mn_nat hm hmin
      rw [hall_end ok hn hk hT h1 h2]
      exact ⟨_, M, les_new hq, .same _, hc⟩
end
end W
namespace W
open PySem PySem.Spec PyProof.Rows L2 DL SX PL SlX
abbrev figF : List Str := ["own_circle", "own_hall", "own_people", "own_rows", "own_strangers"]
def out5 : List Int → List Int
  | [p, c, s, r, h] => [c, h, p, r, s]
  | l => l
/-- what the written part says of Figures -/
structure Gx (K : PySem.W.Frag) (mg : Str → Option Value) (G : Addr) : Prop where
  at_ : mg "Figures" = some (.ref G)
  sl : SlC K G figF
  init : ∃ f fd, Mk K G f ∧ FunD K "__init__" "Figures.__init__" (defArgs s_Figures___init__) (defBody s_Figures___init__) (defScope s_Figures___init__) [.int 1, .int 1, .int 1, .int 1, .int 1] [] f fd
  copied : ∃ f, Meth K G "copied" f ∧ Md K G "copied" "Figures.copied" s_Figures_copied f
  joined : ∃ f, Meth K G "joined" f ∧ Md K G "joined" "Figures.joined" s_Figures_joined f
section
variable {P : Program} {w : World} {K : PySem.W.Frag} {mg : Str → Option Value} {base : Heap} {C G : Addr}
abbrev nFi : List Str := ["self", "people", "circle", "strangers", "rows", "hall"]
theorem fig_init {f : Addr} {fd : FuncData} (S : SlC K G figF) (F : FunD K "__init__" "Figures.__init__" (defArgs s_Figures___init__) (defBody s_Figures___init__) (defScope s_Figures___init__) [.int 1, .int 1, .int 1, .int 1, .int 1] [] f fd) : FnOk P w K mg base CX0 1 f fd nFi (spF G out5) := by
  refine F.ok (N := nFi) (ps := nFi) ⟨rfl, rfl, rfl, by decide +kernel, rfl, by decide +kernel, by decide +kernel⟩ (fun vs H Q E q => ?_) (fun cdv A outer s H vs Q E hr q => ?_)
  · obtain ⟨a, dx, ns, rfl, h5, _⟩ := q
    rw [List.length_cons, List.length_map, h5]; rfl
  · obtain ⟨a, dx, ns, rfl, h5, hH, ne, q⟩ := q
    match ns, h5 with
    | [p, c, st, r, h], _ =>
    obtain ⟨d0, t0⟩ := S.sl 0 _ rfl
    obtain ⟨d1, t1⟩ := S.sl 1 _ rfl
    obtain ⟨d2, t2⟩ := S.sl 2 _ rfl
    obtain ⟨d3, t3⟩ := S.sl 3 _ rfl
    obtain ⟨d4, t4⟩ := S.sl 4 _ rfl
    refine ⟨_, PSs.nox (pss_cons (ps_sl (pe_var (i := 0) rfl (Or.inl rfl)) (pe_var (i := 1) rfl (Or.inl rfl))) (pss_cons (ps_sl (pe_var (i := 0) rfl (Or.inl rfl)) (pe_var (i := 2) rfl (Or.inl rfl))) (pss_cons (ps_sl (pe_var (i := 0) rfl (Or.inl rfl)) (pe_var (i := 3) rfl (Or.inl rfl))) (pss_cons (ps_sl (pe_var (i := 0) rfl (Or.inl rfl)) (pe_var (i := 4) rfl (Or.inl rfl))) (pss_cons (ps_sl (pe_var (i := 0) rfl (Or.inl rfl)) (pe_var (i := 5) rfl (Or.inl rfl))) pss_nil))))), ?_⟩
    refine ⟨_, rfl, _, rfl, a, G, dx, d2, [], 2, rfl, .inl ⟨hH, rfl⟩, S.sc, t2, ?_⟩
    refine ⟨_, rfl, _, rfl, a, G, dx, d0, _, 0, rfl, slH_slt ne, S.sc, t0, ?_⟩
    refine ⟨_, rfl, _, rfl, a, G, dx, d4, _, 4, rfl, slH_slt ne, S.sc, t4, ?_⟩
    refine ⟨_, rfl, _, rfl, a, G, dx, d3, _, 3, rfl, slH_slt ne, S.sc, t3, ?_⟩
    refine ⟨_, rfl, _, rfl, a, G, dx, d1, _, 1, rfl, slH_slt ne, S.sc, t1, ?_⟩
    rw [slH_twice ne, slH_twice ne, slH_twice ne, slH_twice ne]
    exact q
theorem gk5 (X : Gx K mg G) : Gk P w K mg base "Figures" G 1 [] out5 ∧ Gk P w K mg base "Figures" G 1 [1, 1, 1, 1, 1] out5 := by
  obtain ⟨f, fd, mk, F⟩ := X.init
  have o := fig_init (P := P) (w := w) (mg := mg) (base := base) X.sl F
  obtain ⟨ds, hv, hB⟩ := F.binds1 (ps := nFi) 6 5 (by simp) rfl (fun _ _ _ _ _ _ _ us its h1 h2 => match us, its, h1, h2 with | [_, _, _, _, _, _], [_, _, _, _, _], _, _ => ⟨_, rfl, rfl⟩)
  obtain ⟨ds', hv', hB'⟩ := F.binds1 (ps := nFi) 1 0 (by simp) rfl (fun _ _ _ _ _ _ _ us its h1 h2 => match us, its, h1, h2 with | [_], [_, _, _, _, _], _, _ => ⟨_, rfl, rfl⟩)
  exact ⟨⟨X.at_, f, fd, nFi, ds, o, mk, hB, hv⟩, ⟨X.at_, f, fd, nFi, ds', o, mk, hB', hv'⟩⟩
end
end W
namespace W
open PySem PySem.Spec PyProof.Rows L2 DL SX PL SlX
def figD (G : Addr) (p c s r h : Nat) : D := .fig G [(c : Int), (h : Int), (p : Int), (r : Int), (s : Int)]
theorem wrd_beside (b : Bool) : decide (wrd b = ("beside" : Str)) = !b := by cases b <;> decide +kernel
section
variable {P : Program} {w : World} {K : PySem.W.Frag} {mg : Str → Option Value} {base : Heap} {C G : Addr}
def cCopied (G : Addr) : Con := fun ds M Φ => ∃ (p c s r h n m : Nat) (b : Bool), ds = [figD G p c s r h, .str (wrd b), .int (n : Nat)] ∧ 1 ≤ n ∧ n ≤ 10 ^ 30 ∧ 1 ≤ r ∧ r ≤ p ∧ c ≤ p ∧ s ≤ p ∧ h ≤ p ∧ p < 16 ^ m ∧ m ≤ 100000 ∧
  Φ (figD G (n * p) (if b = true then n * c else c) (if b = true then s else n * s) (if b = true then max 1 (r + p - n * p) else n * r) (if b = true then h + (n * p - p) else h)) M
abbrev nCopied : List Str := ["self", "word", "many", "people", "more", "rows"]
theorem ok_copied (F : Fx w K mg) (X : Gx K mg G) : BodyOk P w K mg base "Figures.copied" s_Figures_copied nCopied 3 2 (cCopied G) := by
  intro f cdv A outer s H E hr ds M Φ hl hc
  obtain ⟨p, c, st, r, h, n, m, b, rfl, n1, n30, r1, rp, cp, sp, hp, p16, m5, hc⟩ := hc
  have nd : nCopied.Nodup := by decide +kernel
  have G5 := (gk5 (P := P) (w := w) (base := base) X).1
  have np : p ≤ n * p := Nat.le_mul_of_pos_left _ (by omega)
  refine wss_cons (ws_set 3 nd (we_mulI (we_var 2 rfl (we_gfld X.sl (we_var 0 rfl ⟨_, 2, _, rfl, rfl, rfl, _, _, rfl, rfl, mul_ok n30 p16 m5, ?_⟩)))))
  rw [← Int.natCast_mul]
  refine wss_cons (ws_if (wt_eqS (we_var 1 rfl (we_gstr F.gBESIDE ⟨_, rfl, ?_⟩))))
  rw [wrd_beside]
  cases b with
  | false =>
    refine wss_cons (ws_ret (we_gmake G5 (hr.mono (by decide)) (wa_cons (we_var 3 rfl (wa_cons (we_gfld X.sl (we_var 0 rfl ⟨_, 0, _, rfl, rfl, rfl, wa_cons (we_mulI (we_var 2 rfl (we_gfld X.sl (we_var 0 rfl ⟨_, 4, _, rfl, rfl, rfl, _, _, rfl, rfl, mul_ok n30 (Nat.lt_of_le_of_lt sp p16) m5, wa_cons (we_mulI (we_var 2 rfl (we_gfld X.sl (we_var 0 rfl ⟨_, 3, _, rfl, rfl, rfl, _, _, rfl, rfl, mul_ok n30 (Nat.lt_of_le_of_lt rp p16) m5, wa_cons (we_gfld X.sl (we_var 0 rfl ⟨_, 1, _, rfl, rfl, rfl, wa_nil ⟨[_, _, _, _, _], rfl, rfl, Lets.of ?_⟩⟩))⟩))))⟩))))⟩)))))))
    have := hc
    change Φ (figD G (n * p) c (n * st) (n * r) h) M at this
    unfold figD at this
    rw [Int.natCast_mul n st, Int.natCast_mul n r] at this
    exact this
  | true =>
    have mle : n * c ≤ n * p := Nat.mul_le_mul_left _ cp
    refine wss_nil (wss_cons (ws_set 4 nd (we_subI (we_var 3 rfl (we_gfld X.sl (we_var 0 rfl ⟨_, 2, _, rfl, rfl, rfl, _, _, rfl, rfl, ?_⟩))))))
    refine wss_cons (ws_set 5 nd (we_maxL (F.bn _ (by decide +kernel)) (we_lst (wa_cons (we_int (wa_cons (we_subI (we_gfld X.sl (we_var 0 rfl ⟨_, 3, _, rfl, rfl, rfl, we_var 4 rfl ⟨_, _, rfl, rfl, wa_nil ⟨sz2, [_, _], rfl, by simp, fun mx h1 h2 => ?_⟩⟩⟩)))))))))
    have e : mx = ((max 1 (r + p - n * p) : Nat) : Int) := by
      have g1 := h2 1 (by simp)
      have g2 := h2 _ (List.mem_cons_of_mem _ List.mem_cons_self)
      simp only [List.mem_cons, List.not_mem_nil, or_false] at h1
      omega
    refine wss_cons (ws_ret (we_gmake G5 (hr.mono (by decide)) (wa_cons (we_var 3 rfl (wa_cons (we_mulI (we_var 2 rfl (we_gfld X.sl (we_var 0 rfl ⟨_, 0, _, rfl, rfl, rfl, _, _, rfl, rfl, mul_ok n30 (Nat.lt_of_le_of_lt cp p16) m5, wa_cons (we_gfld X.sl (we_var 0 rfl ⟨_, 4, _, rfl, rfl, rfl, wa_cons (we_var 5 rfl (wa_cons (we_addI (we_gfld X.sl (we_var 0 rfl ⟨_, 1, _, rfl, rfl, rfl, we_var 4 rfl ⟨_, _, rfl, rfl, wa_nil ⟨[_, _, _, _, _], rfl, rfl, Lets.of ?_⟩⟩⟩)))))⟩))⟩)))))))))
    have := hc
    change Φ (figD G (n * p) (n * c) st (max 1 (r + p - n * p)) (h + (n * p - p))) M at this
    unfold figD at this
    rw [Int.natCast_mul n c, show ((h + (n * p - p) : Nat) : Int) = (h : Int) + (((n * p : Nat) : Int) - (p : Nat)) by omega, ← e] at this
    exact this
def cJoined (G : Addr) : Con := fun ds M Φ => ∃ (p c s r h p2 c2 s2 r2 h2 : Nat) (b : Bool), ds = [figD G p c s r h, .str (wrd b), figD G p2 c2 s2 r2 h2] ∧ c ≤ p ∧ s ≤ p ∧ h ≤ p ∧ c2 ≤ p2 ∧ s2 ≤ p2 ∧ h2 ≤ p2 ∧
  Φ (figD G (p + p2) (if b = true then c + c2 else max c c2) (if b = true then max s s2 else s + s2) (if b = true then max 1 (max (r - p2) (r2 - p)) else r + r2) (if b = true then min (h + p2) (h2 + p) else max h h2)) M
abbrev nJoined : List Str := ["self", "word", "other", "people", "circle", "hall", "strangers", "rows"]
theorem max_of {x y : Nat} {m : Int} (h : m ∈ [(x : Int), (y : Int)]) (g : ∀ z, z ∈ [(x : Int), (y : Int)] → z ≤ m) : m = ((max x y : Nat) : Int) := by
  have g1 := g x List.mem_cons_self
  have g2 := g y (List.mem_cons_of_mem _ List.mem_cons_self)
  simp only [List.mem_cons, List.not_mem_nil, or_false] at h
  omega
theorem min_of {x y : Nat} {m : Int} (h : m ∈ [(x : Int), (y : Int)]) (g : ∀ z, z ∈ [(x : Int), (y : Int)] → m ≤ z) : m = ((min x y : Nat) : Int) := by
  have g1 := g x List.mem_cons_self
  have g2 := g y (List.mem_cons_of_mem _ List.mem_cons_self)
  simp only [List.mem_cons, List.not_mem_nil, or_false] at h
  omega
theorem ok_joined (F : Fx w K mg) (X : Gx K mg G) : BodyOk P w K mg base "Figures.joined" s_Figures_joined nJoined 3 2 (cJoined G) := by
  intro f cdv A outer s H E hr ds M Φ hl hc
  obtain ⟨p, c, st, r, h, p2, c2, s2, r2, h22, b, rfl, cp, sp, hp, cp2, sp2, hp2, hc⟩ := hc
  have nd : nJoined.Nodup := by decide +kernel
  have G5 := (gk5 (P := P) (w := w) (base := base) X).1
  refine wss_cons (ws_set 3 nd (we_addI (we_gfld X.sl (we_var 0 rfl ⟨_, 2, _, rfl, rfl, rfl, we_gfld X.sl (we_var 2 rfl ⟨_, 2, _, rfl, rfl, rfl, _, _, rfl, rfl, ?_⟩)⟩))))
  rw [← Int.natCast_add]
  refine wss_cons (ws_if (wt_eqS (we_var 1 rfl (we_gstr F.gBESIDE ⟨_, rfl, ?_⟩))))
  rw [wrd_beside]
  cases b with
  | false =>
    refine wss_cons (ws_par 4 5 nd (wa_cons (we_maxL (F.bn _ (by decide +kernel)) (we_lst (wa_cons (we_gfld X.sl (we_var 0 rfl ⟨_, 0, _, rfl, rfl, rfl, wa_cons (we_gfld X.sl (we_var 2 rfl ⟨_, 0, _, rfl, rfl, rfl, wa_nil ⟨sz2, [_, _], rfl, by simp, fun m1 g1 g1' => ?_⟩⟩))⟩)))))))
    obtain rfl := max_of g1 g1'
    refine wa_cons (we_maxL (F.bn _ (by decide +kernel)) (we_lst (wa_cons (we_gfld X.sl (we_var 0 rfl ⟨_, 1, _, rfl, rfl, rfl, wa_cons (we_gfld X.sl (we_var 2 rfl ⟨_, 1, _, rfl, rfl, rfl, wa_nil ⟨sz2, [_, _], rfl, by simp, fun m2 g2 g2' => ?_⟩⟩))⟩)))))
    obtain rfl := max_of g2 g2'
    refine wa_nil ⟨_, _, rfl, ?_⟩
    refine wss_cons (ws_par 6 7 nd (wa_cons (we_addI (we_gfld X.sl (we_var 0 rfl ⟨_, 4, _, rfl, rfl, rfl, we_gfld X.sl (we_var 2 rfl ⟨_, 4, _, rfl, rfl, rfl, _, _, rfl, rfl, wa_cons (we_addI (we_gfld X.sl (we_var 0 rfl ⟨_, 3, _, rfl, rfl, rfl, we_gfld X.sl (we_var 2 rfl ⟨_, 3, _, rfl, rfl, rfl, _, _, rfl, rfl, wa_nil ⟨_, _, rfl, ?_⟩⟩)⟩)))⟩)⟩)))))
    refine wss_cons (ws_ret (we_gmake G5 (hr.mono (by decide)) (wa_cons (we_var 3 rfl (wa_cons (we_var 4 rfl (wa_cons (we_var 6 rfl (wa_cons (we_var 7 rfl (wa_cons (we_var 5 rfl (wa_nil ⟨[_, _, _, _, _], rfl, rfl, Lets.of ?_⟩)))))))))))))
    have := hc
    change Φ (figD G (p + p2) (max c c2) (st + s2) (r + r2) (max h h22)) M at this
    unfold figD at this
    rw [Int.natCast_add st s2, Int.natCast_add r r2] at this
    exact this
  | true =>
    refine wss_nil (wss_cons (ws_set 7 nd (we_maxL (F.bn _ (by decide +kernel)) (we_lst (wa_cons (we_int (wa_cons (we_subI (we_gfld X.sl (we_var 0 rfl ⟨_, 3, _, rfl, rfl, rfl, we_gfld X.sl (we_var 2 rfl ⟨_, 2, _, rfl, rfl, rfl, _, _, rfl, rfl, wa_cons (we_subI (we_gfld X.sl (we_var 2 rfl ⟨_, 3, _, rfl, rfl, rfl, we_gfld X.sl (we_var 0 rfl ⟨_, 2, _, rfl, rfl, rfl, _, _, rfl, rfl, wa_nil ⟨sz3, [_, _, _], rfl, by simp, fun mx h1 h2 => ?_⟩⟩)⟩)))⟩)⟩))))))))))
    have e : mx = ((max 1 (max (r - p2) (r2 - p)) : Nat) : Int) := by
      have g1 := h2 1 (by simp)
      have g2 := h2 _ (List.mem_cons_of_mem _ List.mem_cons_self)
      have g3 := h2 _ (List.mem_cons_of_mem _ (List.mem_cons_of_mem _ List.mem_cons_self))
      simp only [List.mem_cons, List.not_mem_nil, or_false] at h1
      omega
    refine wss_cons (ws_set 5 nd (we_minL (F.bn _ (by decide +kernel)) (we_lst (wa_cons (we_addI (we_gfld X.sl (we_var 0 rfl ⟨_, 1, _, rfl, rfl, rfl, we_gfld X.sl (we_var 2 rfl ⟨_, 2, _, rfl, rfl, rfl, _, _, rfl, rfl, wa_cons (we_addI (we_gfld X.sl (we_var 2 rfl ⟨_, 1, _, rfl, rfl, rfl, we_gfld X.sl (we_var 0 rfl ⟨_, 2, _, rfl, rfl, rfl, _, _, rfl, rfl, wa_nil ⟨sz2, [_, _], rfl, by simp, fun m2 g2 g2' => ?_⟩⟩)⟩)))⟩)⟩)))))))
    rw [← Int.natCast_add, ← Int.natCast_add] at g2 g2'
    obtain rfl := min_of g2 g2'
    refine wss_cons (ws_set 6 nd (we_maxL (F.bn _ (by decide +kernel)) (we_lst (wa_cons (we_gfld X.sl (we_var 0 rfl ⟨_, 4, _, rfl, rfl, rfl, wa_cons (we_gfld X.sl (we_var 2 rfl ⟨_, 4, _, rfl, rfl, rfl, wa_nil ⟨sz2, [_, _], rfl, by simp, fun m3 g3 g3' => ?_⟩⟩))⟩))))))
    obtain rfl := max_of g3 g3'
    refine wss_cons (ws_ret (we_gmake G5 (hr.mono (by decide)) (wa_cons (we_var 3 rfl (wa_cons (we_addI (we_gfld X.sl (we_var 0 rfl ⟨_, 0, _, rfl, rfl, rfl, we_gfld X.sl (we_var 2 rfl ⟨_, 0, _, rfl, rfl, rfl, _, _, rfl, rfl, wa_cons (we_var 6 rfl (wa_cons (we_var 7 rfl (wa_cons (we_var 5 rfl (wa_nil ⟨[_, _, _, _, _], rfl, rfl, Lets.of ?_⟩))))))⟩)⟩))))))))
    have := hc
    change Φ (figD G (p + p2) (c + c2) (max st s2) (max 1 (max (r - p2) (r2 - p))) (min (h + p2) (h22 + p))) M at this
    unfold figD at this
    rw [Int.natCast_add c c2, ← e] at this
    exact this
end
end W
namespace W
open PySem PySem.Spec PyProof.Rows L2 DL SX PL SlX
/-- rows of some parts -/
def rr (b : Bool) (l : List T) : Nat := if b = true then max 1 (exs l - ppls l) else rwss l
theorem exs_snoc : ∀ (l : List T) (u : T), exs (l ++ [u]) = max (exs l) (rws u + ppl u)
  | [], u => by simp [exs]
  | t :: l, u => by rw [List.cons_append, exs, exs, exs_snoc l u, Nat.max_assoc]
theorem ppls_snoc : ∀ (l : List T) (u : T), ppls (l ++ [u]) = ppls l + ppl u
  | [], u => by simp [ppls]
  | t :: l, u => by rw [List.cons_append, ppls, ppls, ppls_snoc l u]; omega
theorem rwss_snoc : ∀ (l : List T) (u : T), rwss (l ++ [u]) = rwss l + rws u
  | [], u => by simp [rwss]
  | t :: l, u => by rw [List.cons_append, rwss, rwss, rwss_snoc l u]; omega
theorem rr_snoc {b : Bool} {l : List T} {u : T} (h : 1 ≤ rws u) (hp : 1 ≤ ppl u) : (if b = true then max 1 (max (rr b l - ppl u) (rws u - ppls l)) else rr b l + rws u) = rr b (l ++ [u]) := by
  unfold rr
  rw [exs_snoc, ppls_snoc, rwss_snoc]
  by_cases hb : b = true
  · rw [if_pos hb, if_pos hb, if_pos hb]; omega
  · rw [if_neg hb, if_neg hb, if_neg hb]
theorem rr_one {b : Bool} {u : T} (h : 1 ≤ rws u) : rr b [u] = rws u := by
  unfold rr
  rw [exs, exs, ppls, ppls, rwss, rwss]
  split <;> omega
theorem cop1 {b : Bool} {u : T} (h : 1 ≤ rws u) : (if b = true then max 1 (rws u + ppl u - 1 * ppl u) else 1 * rws u) = rws u := by split <;> omega
def cc (b : Bool) (l : List T) : Nat := if b = true then crcS l else crcM l
def sg (b : Bool) (l : List T) : Nat := if b = true then stgM l else stgS l
def hlf (b : Bool) (l : List T) : Nat := if b = true then ppls l - hdf l else halM l
theorem stgS_snoc : ∀ (l : List T) (u : T), stgS (l ++ [u]) = stgS l + stg u
  | [], u => by simp [stgS]
  | t :: l, u => by rw [List.cons_append, stgS, stgS, stgS_snoc l u]; omega
theorem stgM_snoc : ∀ (l : List T) (u : T), stgM (l ++ [u]) = max (stgM l) (stg u)
  | [], u => by simp [stgM]
  | t :: l, u => by rw [List.cons_append, stgM, stgM, stgM_snoc l u, Nat.max_assoc]
theorem halM_snoc : ∀ (l : List T) (u : T), halM (l ++ [u]) = max (halM l) (hal u)
  | [], u => by simp [halM]
  | t :: l, u => by rw [List.cons_append, halM, halM, halM_snoc l u, Nat.max_assoc]
theorem hdf_snoc : ∀ (l : List T) (u : T), hdf (l ++ [u]) = max (hdf l) (ppl u - hal u)
  | [], u => by simp [hdf]
  | t :: l, u => by rw [List.cons_append, hdf, hdf, hdf_snoc l u, Nat.max_assoc]
theorem hdf_le : ∀ (l : List T), hdf l ≤ ppls l
  | [] => by rw [hdf]; exact Nat.zero_le _
  | t :: l => by have := hdf_le l; rw [hdf, ppls]; omega
theorem cc_snoc {b : Bool} {l : List T} {u : T} : (if b = true then cc b l + crc u else max (cc b l) (crc u)) = cc b (l ++ [u]) := by
  unfold cc
  rw [crcS_snoc, crcM_snoc]
  cases b <;> rfl
theorem sg_snoc {b : Bool} {l : List T} {u : T} : (if b = true then max (sg b l) (stg u) else sg b l + stg u) = sg b (l ++ [u]) := by
  unfold sg
  rw [stgS_snoc, stgM_snoc]
  cases b <;> rfl
theorem hlf_snoc {b : Bool} {l : List T} {u : T} (h : hal u ≤ ppl u) : (if b = true then min (hlf b l + ppl u) (hal u + ppls l) else max (hlf b l) (hal u)) = hlf b (l ++ [u]) := by
  have h2 := hdf_le l
  unfold hlf
  rw [halM_snoc, hdf_snoc, ppls_snoc]
  cases b with
  | false => rfl
  | true => simp only [if_true]; omega
theorem cc_one {b : Bool} {u : T} : cc b [u] = crc u := by
  unfold cc
  rw [crcS, crcS, crcM, crcM]
  split <;> omega
theorem sg_one {b : Bool} {u : T} : sg b [u] = stg u := by
  unfold sg
  rw [stgS, stgS, stgM, stgM]
  split <;> omega
theorem hlf_one {b : Bool} {u : T} (h : hal u ≤ ppl u) : hlf b [u] = hal u := by
  unfold hlf
  rw [hdf, hdf, halM, halM, ppls, ppls]
  split <;> omega
theorem cop1c {b : Bool} {u : T} : (if b = true then 1 * crc u else crc u) = crc u := by split <;> omega
theorem cop1s {b : Bool} {u : T} : (if b = true then stg u else 1 * stg u) = stg u := by split <;> omega
theorem cop1h {b : Bool} {u : T} : (if b = true then hal u + (1 * ppl u - ppl u) else hal u) = hal u := by split <;> omega
section
variable {P : Program} {w : World} {K : PySem.W.Frag} {mg : Str → Option Value} {base : Heap} {C G : Addr}
def cFigs (C G : Addr) (h : Nat) : Con := fun ds M Φ => ∃ t, ds = [planD C t, .dK []] ∧ Ok t ∧ ht t ≤ h ∧ Φ (figD G (ppl t) (crc t) (stg t) (rws t) (hal t)) M
abbrev nFigs : List Str := ["plan", "known", "found", "many", "part", "here"]
theorem name_word {t : T} (h : Told t) : decide (wordT t = ("name" : Str)) = false := wordT_told h
theorem one_wordT {t : T} (h : Told t) : decide (wordT t = ("one" : Str)) = isOneT t := by
  cases t with
  | one => decide +kernel
  | name x => exact h.elim
  | cop s n u =>
    show decide (wrd s = ("one" : Str)) = false
    cases s <;> decide +kernel
  | row s ts =>
    show decide (wrd s = ("one" : Str)) = false
    cases s <;> decide +kernel
theorem ok_figures (h : Nat) (F : Fx w K mg) (Y : Px K mg C) (X : Gx K mg G) (F1 : Pc P w K mg base C "word" 1 (cGet C fun t => .str (wordT t))) (F2 : Mg P w K mg base G "copied" 3 3 (cCopied G)) (F3 : Mg P w K mg base G "joined" 3 3 (cJoined G)) (F4 : ∀ j, h = j + 1 → Fc P w K mg base "figures" [] (j + 4) 2 (cFigs C G j)) :
    BodyOk P w K mg base "figures" s_figures nFigs 2 (h + 3) (cFigs C G h) := by
  intro f cdv A outer s H E hr ds M Φ hl hc
  obtain ⟨t, rfl, ok, hh, hc⟩ := hc
  have nd : nFigs.Nodup := by decide +kernel
  have hk := kids_len ok.1
  have hlen := ok.2.2
  refine wss_cons (ws_if (wt_eqS (we_prop F1 (hr.mono (by omega)) (we_var 0 rfl ⟨_, insP ok.2.1, t, rfl, ok, we_gstr F.gONE ⟨_, rfl, ?_⟩⟩))))
  rw [one_wordT ok.2.1]
  cases h1 : isOneT t with
  | true =>
    cases t with
    | one =>
      refine wss_cons (ws_ret (we_gmake0 (gk5 (P := P) (w := w) (base := base) X).2 rfl (hr.mono (by omega)) (Lets.of ?_)))
      rw [ppl, rws, crc, stg, hal] at hc
      exact hc
    | _ => cases h1
  | false =>
  refine wss_nil (wss_cons (ws_if (wt_eqS (we_prop F1 (hr.mono (by omega)) (we_var 0 rfl ⟨_, insP ok.2.1, t, rfl, ok, we_gstr F.gNAME ⟨_, rfl, ?_⟩⟩)))))
  rw [name_word ok.2.1]
  refine wss_nil (wss_cons (ws_set 2 nd (we_non ?_)))
  refine wss_cons (ws_for PassesOwn.never (wi_list (we_fld (C := C) (we_var 0 rfl ⟨_, _, insP ok.2.1, Y.cl, Y.na _ (by decide +kernel), lk_groups, _, .inl rfl, ?_⟩))))
  cases t with
  | one => cases h1
  | name x => exact ok.2.1.elim
  | cop b n u =>
    have okv : Ok u := kids_Ok (q := (n, u)) (by simp [kids]) ok
    have hu := piece_ht (t := .cop b n u) (i := 0) (u := u) rfl
    obtain ⟨j, rfl⟩ : ∃ j, h = j + 1 := ⟨h - 1, by omega⟩
    have oc := crc_ok okv.1
    have os := stg_ok okv.1
    have oh := hal_ok okv.1
    refine ⟨fun i ρ' M' => M' = M ∧ ((i = 0 ∧ ρ' = [some (planD C (.cop b n u)), some (.dK []), some .non, none, none, none]) ∨ (i = 1 ∧ ∃ (o3 o4 o5 : Option D), ρ' = [some (planD C (.cop b n u)), some (.dK []), some (figD G (ppl (.cop b n u)) (crc (.cop b n u)) (stg (.cop b n u)) (rws (.cop b n u)) (hal (.cop b n u))), o3, o4, o5])), ⟨rfl, .inl ⟨rfl, rfl⟩⟩, ?_, ?_⟩
    · rintro i x ρ' M' hx ⟨rfl, hρ⟩
      have hi : i = 0 := by
        have := (List.getElem?_eq_some_iff.mp hx).1
        simpa [subsD, kids] using this
      subst hi
      rcases hρ with ⟨_, rfl⟩ | ⟨z, _⟩
      · have hx : x = .tup [.int (n : Nat), planD C u] := by simpa [subsD, kids] using hx.symm
        subst hx
        refine wg_tup ⟨rfl, rfl, wgs_cons (wg_name 3 (wgs_cons (wg_name 4 (wgs_nil ⟨rfl, ?_⟩) nd)) nd)⟩
        refine wss_cons (ws_set 5 nd (we_gmeth F2 (hr.mono (by omega)) (we_call (F4 j rfl) (hr.mono (by omega)) (wa_cons (we_var 4 rfl (wa_cons (we_var 1 rfl (wa_nil ⟨rfl, u, rfl, okv, by omega, ⟨_, rfl, ?_⟩⟩))))))))
        refine wa_cons (we_prop F1 (hr.mono (by omega)) (we_var 0 rfl ⟨_, insP ok.2.1, _, rfl, ok, wa_cons (we_var 3 rfl (wa_nil ⟨rfl, ppl u, crc u, stg u, rws u, hal u, n, (txt u).length, b, rfl, by have := ok.1.1; omega, ok.1.2.1, rws_pos okv.1, rws_le okv.1, oc.2, os.2, oh.2, ppl_lt okv.1, okv.2.2, ?_⟩))⟩))
        refine wss_cons (ws_set 2 nd (we_if (wt_isN (we_var 2 rfl ?_))))
        refine we_var 5 rfl (wss_nil ⟨rfl, .inr ⟨rfl, some (.int (n : Nat)), some (planD C u), some (figD G (ppl (.cop b n u)) (crc (.cop b n u)) (stg (.cop b n u)) (rws (.cop b n u)) (hal (.cop b n u))), ?_⟩⟩)
        rw [ppl, crc, stg, rws, hal]; rfl
      · omega
    · rintro ρ' M' ⟨rfl, hρ⟩
      rcases hρ with ⟨z, _⟩ | ⟨_, o3, o4, o5, rfl⟩
      · simp [subsD, kids] at z
      · exact wss_cons (ws_ret (we_var 2 rfl (Lets.of hc)))
  | row b ts =>
    have h2 := ok.1.1
    refine ⟨fun i ρ' M' => M' = M ∧ i ≤ ts.length ∧ ((i = 0 ∧ ρ' = [some (planD C (.row b ts)), some (.dK []), some .non, none, none, none]) ∨ (1 ≤ i ∧ ∃ (o3 o4 o5 : Option D), ρ' = [some (planD C (.row b ts)), some (.dK []), some (figD G (ppls (ts.take i)) (cc b (ts.take i)) (sg b (ts.take i)) (rr b (ts.take i)) (hlf b (ts.take i))), o3, o4, o5])), ⟨rfl, Nat.zero_le _, .inl ⟨rfl, rfl⟩⟩, ?_, ?_⟩
    · rintro i x ρ' M' hx ⟨rfl, hi, hρ⟩
      have hx2 : ∃ u, ts[i]? = some u ∧ x = .tup [.int ((1 : Nat) : Int), planD C u] := by
        have e : subsD C (.row b ts) = ts.map fun u => D.tup [.int ((1 : Nat) : Int), planD C u] := by
          show ((ts.map fun t => (1, t)).map fun q : Nat × T => D.tup [.int (q.1 : Nat), planD C q.2]) = _
          rw [List.map_map]; rfl
        rw [e, List.getElem?_map] at hx
        obtain ⟨u, hu, rfl⟩ := Option.map_eq_some_iff.mp hx
        exact ⟨u, hu, rfl⟩
      obtain ⟨u, hu, rfl⟩ := hx2
      have hilt := (List.getElem?_eq_some_iff.mp hu).1
      have okv : Ok u := kids_Ok (q := (1, u)) (by unfold kids; exact List.mem_map.mpr ⟨u, List.mem_of_getElem? hu, rfl⟩) ok
      have hut := piece_ht (t := .row b ts) (i := i) (u := u) hu
      obtain ⟨j, rfl⟩ : ∃ j, h = j + 1 := ⟨h - 1, by omega⟩
      have rp := rws_pos okv.1
      have pp := ppl_pos okv.1
      have oc := crc_ok okv.1
      have os := stg_ok okv.1
      have oh := hal_ok okv.1
      have tk : ts.take (i + 1) = ts.take i ++ [u] := take_snoc hu
      have tg : Goods (ts.take i) := goods_all.mpr fun x hx => goods_all.mp ok.1.2 x (List.mem_of_mem_take hx)
      have c1 : cc b (ts.take i) ≤ ppls (ts.take i) := by
        obtain ⟨_, g2, g3, _⟩ := crcs_ok tg
        unfold cc; split
        · exact g2
        · exact g3
      have c2 : sg b (ts.take i) ≤ ppls (ts.take i) := by
        obtain ⟨_, g2, g3, _⟩ := crcs_ok (mirs_good tg)
        rw [(stgs_mir _).1, mirs_ppl] at g2
        rw [(stgs_mir _).2, mirs_ppl] at g3
        unfold sg; split
        · exact g3
        · exact g2
      have c3 : hlf b (ts.take i) ≤ ppls (ts.take i) := by
        obtain ⟨_, g2, _⟩ := hals_ok tg
        unfold hlf; split
        · omega
        · exact g2
      have hstart : ∃ (y : D) (o3 o4 o5 : Option D), ρ' = [some (planD C (.row b ts)), some (.dK []), some y, o3, o4, o5] ∧ ((i = 0 ∧ y = .non) ∨ (1 ≤ i ∧ y = figD G (ppls (ts.take i)) (cc b (ts.take i)) (sg b (ts.take i)) (rr b (ts.take i)) (hlf b (ts.take i)))) := by
        rcases hρ with ⟨z, rfl⟩ | ⟨z, o3, o4, o5, rfl⟩
        · exact ⟨_, _, _, _, rfl, .inl ⟨z, rfl⟩⟩
        · exact ⟨_, _, _, _, rfl, .inr ⟨z, rfl⟩⟩
      obtain ⟨y, o3, o4, o5, rfl, hy⟩ := hstart
      refine wg_tup ⟨rfl, rfl, wgs_cons (wg_name 3 (wgs_cons (wg_name 4 (wgs_nil ⟨rfl, ?_⟩) nd)) nd)⟩
      refine wss_cons (ws_set 5 nd (we_gmeth F2 (hr.mono (by omega)) (we_call (F4 j rfl) (hr.mono (by omega)) (wa_cons (we_var 4 rfl (wa_cons (we_var 1 rfl (wa_nil ⟨rfl, u, rfl, okv, by omega, ⟨_, rfl, ?_⟩⟩))))))))
      refine wa_cons (we_prop F1 (hr.mono (by omega)) (we_var 0 rfl ⟨_, insP ok.2.1, _, rfl, ok, wa_cons (we_var 3 rfl (wa_nil ⟨rfl, ppl u, crc u, stg u, rws u, hal u, 1, (txt u).length, b, rfl, Nat.le_refl _, by decide, rp, rws_le okv.1, oc.2, os.2, oh.2, ppl_lt okv.1, okv.2.2, ?_⟩))⟩))
      rw [cop1 rp, cop1c, cop1s, cop1h, Nat.one_mul]
      refine wss_cons (ws_set 2 nd (we_if (wt_isN (we_var 2 rfl ?_))))
      rcases hy with ⟨z, rfl⟩ | ⟨z, rfl⟩
      · subst z
        refine we_var 5 rfl (wss_nil ⟨rfl, by omega, .inr ⟨by omega, some (.int ((1 : Nat) : Int)), some (planD C u), some (figD G (ppl u) (crc u) (stg u) (rws u) (hal u)), ?_⟩⟩)
        rw [tk, List.take_zero, List.nil_append, rr_one rp, cc_one, sg_one, hlf_one oh.2, show ppls [u] = ppl u by rw [ppls, ppls]; omega]; rfl
      · refine we_gmeth F3 (hr.mono (by omega)) (we_var 2 rfl ⟨_, rfl, wa_cons (we_prop F1 (hr.mono (by omega)) (we_var 0 rfl ⟨_, insP ok.2.1, _, rfl, ok, wa_cons (we_var 5 rfl (wa_nil ⟨rfl, _, _, _, _, _, _, _, _, _, _, b, rfl, c1, c2, c3, oc.2, os.2, oh.2, ?_⟩))⟩))⟩)
        rw [rr_snoc rp pp, cc_snoc, sg_snoc, hlf_snoc oh.2]
        refine wss_nil ⟨rfl, by omega, .inr ⟨by omega, some (.int ((1 : Nat) : Int)), some (planD C u), some (figD G (ppl u) (crc u) (stg u) (rws u) (hal u)), ?_⟩⟩
        rw [tk, ppls_snoc]; rfl
    · rintro ρ' M' ⟨rfl, hi, hρ⟩
      have hlen2 : (subsD C (.row b ts)).length = ts.length := by unfold subsD kids; rw [List.length_map, List.length_map]
      rw [hlen2] at hρ
      rcases hρ with ⟨z, _⟩ | ⟨_, o3, o4, o5, rfl⟩
      · omega
      · refine wss_cons (ws_ret (we_var 2 rfl (Lets.of ?_)))
        rw [List.take_length]
        rw [ppl, crc, stg, rws, hal] at hc
        exact hc
end
end W
namespace W
open PySem PySem.Spec PyProof.Rows L2 DL SX PL SlX
theorem units1 {k : Nat} {A : Around} (r : Room k A) : A.units + 1 < cLine := by have := r.un; omega
def wordsL : List Str := ["people", "circle", "strangers", "rows", "hall"]
section
variable {P : Program} {w : World} {K : PySem.W.Frag} {mg : Str → Option Value} {base : Heap} {C G : Addr}
def cIsW : Con := fun ds M Φ => ∃ (z : Str) (zs : List Str), ds = [.str z, .tup (zs.map D.str)] ∧ Φ (.bl (decide (z ∈ zs))) M
theorem ok_is_word (F : Fx w K mg) : BodyOk P w K mg base "is_word" s_is_word ["value", "words"] 2 0 cIsW := by
  intro f cdv A outer s H E hr ds M Φ hl hc
  obtain ⟨z, zs, rfl, hc⟩ := hc
  refine wss_cons (ws_ret (we_and (we_isi (F.bn _ (by decide +kernel)) (we_var 0 rfl (we_bty (F.bn _ (by decide +kernel)) rfl ⟨_, _, true, rfl, rfl, (by intro C h; cases h), rfl, true, rfl, ?_⟩)))))
  exact we_one (we_inS (we_var 0 rfl (we_var 1 rfl ⟨z, zs, rfl, .inl rfl, Lets.of hc⟩)))
end
end W
namespace W
open PySem PySem.Spec PyProof.Rows L2 DL SX PL SlX
section
variable {P : Program} {w : World} {K : PySem.W.Frag} {mg : Str → Option Value} {base : Heap} {C G : Addr}
def cChkW : Con := fun ds M Φ => ∃ z, ds = [.str z, .tup (wordsL.map D.str)] ∧ z ∈ wordsL ∧ Φ .non M
theorem ok_check_word (F1 : Fc P w K mg base "is_word" [] 1 2 cIsW) : BodyOk P w K mg base "check_word" s_check_word ["value", "words"] 2 1 cChkW := by
  intro f cdv A outer s H E hr ds M Φ hl hc
  obtain ⟨z, rfl, hz, hc⟩ := hc
  refine wss_cons (ws_if (wt_not (wt_val (we_call F1 (hr.mono (by decide)) (wa_cons (we_var 0 rfl (wa_cons (we_var 1 rfl (wa_nil ⟨rfl, _, _, rfl, _, rfl, ?_⟩)))))))))
  rw [decide_eq_true hz]
  exact wss_nil (wss_nil hc)
/-- the five numbers by their words -/
def numV (c h p r s : Int) : List (Str × Int) := [("people", p), ("circle", c), ("strangers", s), ("rows", r), ("hall", h)]
def cToldFor (G : Addr) : Con := fun ds M Φ => ∃ (c h p r s : Int) (z : Str) (v : Int), ds = [.fig G [c, h, p, r, s], .str z] ∧ (z, v) ∈ numV c h p r s ∧ Φ (.int v) M
theorem ok_told_for (X : Gx K mg G) (gPE : ∃ t, mg "PEOPLE" = some (.str "people" t)) (gCI : ∃ t, mg "CIRCLE" = some (.str "circle" t)) (gST : ∃ t, mg "STRANGERS" = some (.str "strangers" t)) (gRO : ∃ t, mg "ROWS" = some (.str "rows" t)) (gHA : ∃ t, mg "HALL" = some (.str "hall" t)) : BodyOk P w K mg base "Figures.told_for" s_Figures_told_for ["self", "word", "numbers"] 2 1 (cToldFor G) := by
  intro f cdv A outer s H E hr ds M Φ hl hc
  obtain ⟨c, h, p, r, s', z, v, rfl, hz, hc⟩ := hc
  have nd : (["self", "word", "numbers"] : List Str).Nodup := by decide +kernel
  have s5 : ∀ n : Nat, n ≤ 10 → n < sizeLine := fun n h => by rw [sizeLine_eq]; omega
  refine wss_cons (ws_set 2 nd (we_disp3I (we_gstr gPE (we_gfld X.sl (we_var 0 rfl ⟨_, 2, _, rfl, rfl, rfl, we_gstr gCI (we_gfld X.sl (we_var 0 rfl ⟨_, 0, _, rfl, rfl, rfl, we_gstr gST (we_gfld X.sl (we_var 0 rfl ⟨_, 4, _, rfl, rfl, rfl, _, _, _, _, _, _, rfl, rfl, rfl, rfl, rfl, rfl, by decide +kernel, by decide +kernel, by decide +kernel, fun q hq => ?_⟩))⟩))⟩)))))
  refine wss_cons (ws_asg (we_tup (wa_cons (we_gfld X.sl (we_var 0 rfl ⟨_, 3, _, rfl, rfl, rfl, wa_cons (we_gfld X.sl (we_var 0 rfl ⟨_, 1, _, rfl, rfl, rfl, wa_nil ⟨sz2, ?_⟩⟩))⟩)))))
  have e1 : putKD [((.inr "people" : Key), D.int p), (.inr "circle", .int c), (.inr "strangers", .int s')] (.inr "rows") (.int r) = [(.inr "people", .int p), (.inr "circle", .int c), (.inr "strangers", .int s'), (.inr "rows", .int r)] := rfl
  have e2 : putKD [((.inr "people" : Key), D.int p), (.inr "circle", .int c), (.inr "strangers", .int s'), (.inr "rows", .int r)] (.inr "hall") (.int h) = [(.inr "people", .int p), (.inr "circle", .int c), (.inr "strangers", .int s'), (.inr "rows", .int r), (.inr "hall", .int h)] := rfl
  have e3 : valK [((.inr "people" : Key), D.int p), (.inr "circle", .int c), (.inr "strangers", .int s'), (.inr "rows", .int r), (.inr "hall", .int h)] (.inr z) = some (.int v) := by
    unfold numV at hz
    simp only [List.mem_cons, List.not_mem_nil, or_false, Prod.mk.injEq] at hz
    rcases hz with ⟨rfl, rfl⟩ | ⟨rfl, rfl⟩ | ⟨rfl, rfl⟩ | ⟨rfl, rfl⟩ | ⟨rfl, rfl⟩ <;> rfl
  refine wg_tup ⟨rfl, rfl, wgs_cons (wg_dputK (units1 hr) (we_var 2 rfl (we_gstr gRO ⟨q, _, _, rfl, rfl, mset_same, s5 3 (by decide), ?_⟩)))⟩
  rw [mset_mset, e1]
  refine wgs_cons (wg_dputK (units1 hr) (we_var 2 rfl (we_gstr gHA ⟨q, _, _, rfl, rfl, mset_same, s5 4 (by decide), wgs_nil ⟨rfl, ?_⟩⟩)))
  rw [mset_mset, e2]
  exact wss_cons (ws_ret (we_dKgetO (units1 hr) (we_var 2 rfl (we_var 1 rfl ⟨q, _, _, _, rfl, mset_same, rfl, e3, ⟨_, M, les_new hq, .same _, hc⟩⟩))))
/-- the five numbers of a plan -/
def numL (t : T) : List (Str × Nat) := [("people", ppl t), ("circle", crc t), ("strangers", stg t), ("rows", rws t), ("hall", hal t)]
theorem numL_word {t : T} {z : Str} {v : Nat} (h : (z, v) ∈ numL t) : z ∈ wordsL := by
  unfold numL at h
  simp only [List.mem_cons, List.not_mem_nil, or_false, Prod.mk.injEq] at h
  rcases h with ⟨rfl, _⟩ | ⟨rfl, _⟩ | ⟨rfl, _⟩ | ⟨rfl, _⟩ | ⟨rfl, _⟩ <;> decide +kernel
theorem numL_V {t : T} {z : Str} {v : Nat} (h : (z, v) ∈ numL t) : (z, (v : Int)) ∈ numV (crc t : Nat) (hal t : Nat) (ppl t : Nat) (rws t : Nat) (stg t : Nat) := by
  have := List.mem_map_of_mem (f := fun q : Str × Nat => (q.1, (q.2 : Int))) h
  exact this
def cNum5 (C : Addr) (h : Nat) : Con := fun ds M Φ => ∃ t z v, ds = [planD C t, .str z] ∧ Ok t ∧ ht t ≤ h ∧ (z, v) ∈ numL t ∧ Φ (.int (v : Nat)) M
theorem ok_number (h : Nat) (X : Gx K mg G) (F1 : Fc P w K mg base "check_told" [] 3 1 (cTold C)) (F2 : Fc P w K mg base "check_word" [.tup (wordsL.map D.str)] 2 2 cChkW) (F3 : Fc P w K mg base "figures" [] (h + 4) 2 (cFigs C G h)) (F4 : Mg P w K mg base G "told_for" 2 2 (cToldFor G)) : BodyOk P w K mg base "number" s_number ["plan", "word"] 2 (h + 4) (cNum5 C h) := by
  intro f cdv A outer s H E hr ds M Φ hl hc
  obtain ⟨t, z, v, rfl, ok, hh, hz, hc⟩ := hc
  refine wss_cons (ws_expr (we_call F1 (hr.mono (by omega)) (wa_cons (we_var 0 rfl (wa_nil ⟨rfl, t, rfl, ok, ?_⟩)))))
  refine wss_cons (ws_expr (we_call F2 (hr.mono (by omega)) (wa_cons (we_var 1 rfl (wa_nil ⟨rfl, z, rfl, numL_word hz, ?_⟩)))))
  exact wss_cons (ws_ret (we_gmeth F4 (hr.mono (by omega)) (we_call F3 (hr.mono (by omega)) (wa_cons (we_var 0 rfl (wa_cons (we_dict0 (wa_nil ⟨rfl, t, rfl, ok, hh, ⟨_, rfl, wa_cons (we_var 1 rfl (wa_nil ⟨rfl, _, _, _, _, _, z, v, rfl, numL_V hz, Lets.of hc⟩))⟩⟩))))))))
end
end W
namespace PL
open PySem SX TL
mutual
/-- its names are among these -/
def NI (ns : List (List Nat)) : T → Prop
  | .one => True
  | .name x => x ∈ ns
  | .cop _ _ t => NI ns t
  | .row _ ts => NIs ns ts
def NIs (ns : List (List Nat)) : List T → Prop
  | [] => True
  | t :: ts => NI ns t ∧ NIs ns ts
end
/-- a drawn plan of s people, dp deep -/
def Btn (ns : List (List Nat)) (t : T) (s dp : Nat) : Prop := Good t ∧ NI ns t ∧ ppl t = s ∧ ht t ≤ dp + 1 ∧ (txt t).length ≤ 40 * (s * (dp + 2))
def Btns (ns : List (List Nat)) : List T → List Nat → Nat → Prop
  | [], [], _ => True
  | t :: ts, z :: zs, dp => Btn ns t z dp ∧ Btns ns ts zs dp
  | _, _, _ => False
theorem btns_snoc {ns : List (List Nat)} {t : T} {z dp : Nat} (h : Btn ns t z dp) : ∀ {ts : List T} {zs : List Nat}, Btns ns ts zs dp → Btns ns (ts ++ [t]) (zs ++ [z]) dp
  | [], [], _ => ⟨h, trivial⟩
  | _ :: _, _ :: _, g => ⟨g.1, btns_snoc h g.2⟩
  | [], _ :: _, g => g.elim
  | _ :: _, [], g => g.elim
theorem btns_len {ns : List (List Nat)} {dp : Nat} : ∀ {ts : List T} {zs : List Nat}, Btns ns ts zs dp → ts.length = zs.length
  | [], [], _ => rfl
  | _ :: _, _ :: _, g => by rw [List.length_cons, List.length_cons, btns_len g.2]
  | [], _ :: _, g => g.elim
  | _ :: _, [], g => g.elim
theorem btns_all {ns : List (List Nat)} {dp : Nat} (b : Bool) : ∀ {ts : List T} {zs : List Nat}, Btns ns ts zs dp → Goods ts ∧ NIs ns ts ∧ ppls ts = zs.sum ∧ hts ts ≤ dp + 1 ∧ (joinL (sep b) (txts ts)).length ≤ 40 * (zs.sum * (dp + 2)) + 3 * ts.length
  | [], [], _ => ⟨trivial, trivial, rfl, Nat.zero_le _, by rw [txts, joinL]; simp⟩
  | [t], [z], g => by
    obtain ⟨⟨g1, g2, g3, g4, g5⟩, _⟩ := g
    refine ⟨⟨g1, trivial⟩, ⟨g2, trivial⟩, by rw [ppls, ppls, g3]; simp, by rw [hts, hts]; simp; exact g4, ?_⟩
    rw [txts, txts, joinL]
    simp; omega
  | t :: u :: ts, z :: y :: zs, g => by
    obtain ⟨⟨g1, g2, g3, g4, g5⟩, r⟩ := g
    obtain ⟨h1, h2, h3, h4, h5⟩ := btns_all b r
    refine ⟨⟨g1, h1⟩, ⟨g2, h2⟩, by rw [ppls, g3, h3]; simp, by rw [hts]; omega, ?_⟩
    have e1 : joinL (sep b) (txts (t :: u :: ts)) = txt t ++ (sep b ++ joinL (sep b) (txts (u :: ts))) := by rw [txts, txts, joinL]
    rw [e1, List.length_append, List.length_append, sep_len, List.length_cons]
    have e2 : (z :: y :: zs).sum * (dp + 2) = z * (dp + 2) + (y :: zs).sum * (dp + 2) := by rw [List.sum_cons, Nat.add_mul]
    rw [e2]
    omega
  | [], _ :: _, g => g.elim
  | _ :: _, [], g => g.elim
  | [_], _ :: _ :: _, g => g.2.elim
  | _ :: _ :: _, [_], g => g.2.elim
theorem btn_one {ns : List (List Nat)} (dp : Nat) : Btn ns .one 1 dp := ⟨trivial, trivial, by rw [ppl], by rw [ht]; omega, by rw [txt]; simp; omega⟩
theorem btn_row {ns : List (List Nat)} {ts : List T} {zs : List Nat} {dp s : Nat} (b : Bool) (h : Btns ns ts zs dp) (h2 : 2 ≤ zs.length) (h3 : zs.length ≤ 3) (hs : zs.sum = s) (h1 : 2 ≤ s) : Btn ns (.row b ts) s (dp + 1) := by
  obtain ⟨g1, g2, g3, g4, g5⟩ := btns_all b h
  have hl := btns_len h
  refine ⟨⟨by omega, g1⟩, g2, by rw [ppl, g3, hs], by rw [ht]; omega, ?_⟩
  rw [txt]
  simp only [List.length_cons, List.length_append, List.length_nil]
  rw [hs] at g5
  have e : s * (dp + 1 + 2) = s * (dp + 2) + s := by rw [show dp + 1 + 2 = (dp + 2) + 1 by omega, Nat.mul_succ]
  rw [e]
  omega
theorem btn_cop {ns : List (List Nat)} {t : T} {n s' s dp dp' : Nat} (b : Bool) (h : Btn ns t s' dp') (hn : 2 ≤ n) (hn2 : n ≤ 10 ^ 30) (hs : n * s' = s) (h1 : 1 ≤ s') (hd : dp' + 1 ≤ dp ∨ (s' = 1 ∧ dp = 0 ∧ dp' = 0 ∧ ht t = 0)) : Btn ns (.cop b n t) s dp := by
  obtain ⟨g1, g2, g3, g4, g5⟩ := h
  have hlen : (numL n).length ≤ 31 := numL_len (by decide) (Nat.lt_of_le_of_lt hn2 (by decide))
  have hss : 2 * s' ≤ s := by rw [← hs]; exact Nat.mul_le_mul_right _ hn
  refine ⟨⟨hn, hn2, g1⟩, g2, by rw [ppl, g3, hs], by rw [ht]; omega, ?_⟩
  rw [txt]
  simp only [List.length_cons, List.length_append, List.length_nil]
  have key : s' * (dp' + 2) + 1 ≤ s * (dp + 2) := by
    rcases hd with hd | ⟨rfl, rfl, rfl, _⟩
    · have e1 : s' * (dp' + 2) ≤ s' * (dp + 2) := Nat.mul_le_mul_left _ (by omega)
      have e2 : 2 * s' * (dp + 2) ≤ s * (dp + 2) := Nat.mul_le_mul_right _ hss
      have e3 : 2 * s' * (dp + 2) = s' * (dp + 2) + s' * (dp + 2) := by rw [Nat.mul_assoc]; omega
      have e4 : 1 ≤ s' * (dp + 2) := Nat.mul_pos h1 (by omega)
      omega
    · omega
  omega
theorem btn_name {ns : List (List Nat)} {x : List Nat} (dp : Nat) (h : x ∈ ns) (g : Good (.name x)) : Btn ns (.name x) 1 dp := ⟨g, h, by rw [ppl], by rw [ht]; omega, by rw [txt]; have := g.2.1; omega⟩
end PL
namespace W
open PySem PySem.Spec PyProof.Rows L2 DL SX PL
def ifThen : Stmt → List Stmt
  | .If _ a _ _ => a
  | _ => []
def nth (st : Stmt) (i : Nat) : Stmt := (defBody st).getD i (.Pass ⟨0, 0, 0, 0⟩)
section
variable {P : Program} {w : World} {K : PySem.W.Frag} {mg : Str → Option Value} {base : Heap} {C : Addr}
theorem mset_self {M : Mp} {p : Addr} {o : MO} (h : M p = some o) : mset M p o = M := by
  funext b
  unfold mset
  split
  · rename_i e; rw [e, h]
  · rfl
abbrev nBuilt : List Str := ["_law_pot_here", "_law_size", "_law_deep", "_law_names", "_law_sign", "_law_fits", "_law_copies", "_law_first", "_law_sizes", "_law_second", "_law_index", "_law_part"]
def cost (s dp : Nat) : Nat := 5 * (s * (dp + 2))
def cBuiltN (m : Nat) : Con := fun ds M Φ => ∃ ns p s dp a c d, ds = [.ob p, .int (s : Nat), .int (dp : Nat), .lst (ns.map tS)] ∧ 1 ≤ s ∧ s ≤ 1000 ∧ dp ≤ 20 ∧ (s = 1 ∨ dp + 1 ≤ m) ∧ ns.length ≤ 3 ∧ (∀ x ∈ ns, Good (.name x)) ∧ M p = some (potL a c d) ∧ cOk c ∧ 0 ≤ d ∧ d + (cost s dp : Nat) < 100000 ∧
  ∀ t a' d', Btn ns t s dp → d ≤ d' → d' ≤ d + (cost s dp : Nat) → Φ (loreD t) (mset M p (potL a' c d'))
theorem sign_at {r : Int} (h0 : 0 ≤ r) (h1 : r < 2) {x y : Str} (g : Bool → D) (hx : g false = .str x) (hy : g true = .str y) : atI [D.str x, D.str y] r = some (g (decide (r = 1))) := by
  obtain ⟨n, rfl⟩ := Int.eq_ofNat_of_zero_le h0
  have : n < 2 := by omega
  match n, this with
  | 0, _ => rw [show decide (((0 : Nat) : Int) = 1) = false from rfl, hx]; exact atI_nat (j := 0) rfl
  | 1, _ => rw [show decide (((1 : Nat) : Int) = 1) = true from rfl, hy]; exact atI_nat (j := 1) rfl
theorem open_eq : tS [opn false] = .str "[" ∧ tS [opn true] = .str "{" := by
  refine ⟨?_, ?_⟩ <;> (show D.str _ = D.str _; congr 1)
theorem sgn_eq : tS [sgn false] = .str "+" ∧ tS [sgn true] = .str "*" := by
  refine ⟨?_, ?_⟩ <;> (show D.str _ = D.str _; congr 1)
def retOf : List Stmt → Expr
  | .Return (some e) _ :: _ => e
  | _ => .Constant .none 0 ⟨0, 0, 0, 0⟩
def elseOf : Expr → Expr
  | .IfExp _ _ e _ => e
  | e => e
theorem names_lt {x : List Nat} (h : Good (.name x)) : ∀ c ∈ (S x).cps.toList, c < 0x110000 := fun c hc => by
  have := h.2.2 c hc
  simp [letter] at this
  omega
theorem ok_built_n (m : Nat) (F : Fx w K mg) (F1 : Fc P w K mg base "_law_take" [] 1 2 cTake) (F2 : Fc P w K mg base "_law_of" [] 2 2 cOf) (F3 : ∀ j, m = j + 1 → Fc P w K mg base "_law_built" [] (j + 3) 4 (cBuiltN j)) :
    BodyOk P w K mg base "_law_built" s__law_built nBuilt 4 (m + 2) (cBuiltN m) := by
  intro f cdv A outer st H E hr ds M Φ hl hc
  obtain ⟨ns, p, s, dp, a, c, d, rfl, s1, s2, dp2, hm, hns, hng, hM, co, d0, d1, hc⟩ := hc
  have nd : nBuilt.Nodup := by decide +kernel
  have big : ∀ n : Int, n ≤ 1000000 → n ≤ 10 ^ 40 := fun n h => by
    have : (1000000 : Int) ≤ 10 ^ 40 := by decide +kernel
    omega
  refine wss_cons (ws_if (wt_eqS (we_var 1 rfl (we_int ⟨_, rfl, ?_⟩))))
  by_cases hs1 : s = 1
  · subst hs1
    have hcost1 : cost 1 dp = 5 * (1 * (dp + 2)) := rfl
    refine wss_cons (ws_ret (we_if (wt_ww (ww_and (wt_neNil hr.units (we_var 3 rfl ⟨_, ns.map fun x => PyData.str (S x), 0, rfl, cmps_map (j := 0) (Nat.le_refl _) (fun x hx => cmp_str (names_lt (hng x hx))), by decide, ?_⟩))))))
    have one : ∀ a2 e2, d ≤ e2 → e2 ≤ d + 1 → DL.WE (bx P w K mg base nBuilt "_law_built" (defScope s__law_built) f cdv A outer st H E) [some (.ob p), some (.int ((1 : Nat) : Int)), some (.int (dp : Nat)), some (.lst (ns.map tS)), none, none, none, none, none, none, none, none] (mset M p (potL a2 c e2)) ((elseOf (retOf (ifThen (nth s__law_built 0)))) ) (Lets Φ) := fun a2 e2 j1 j2 => by
      refine we_tup (wa_cons (we_str (wa_nil ⟨sz1, Lets.of ?_⟩)))
      have := hc .one a2 e2 (btn_one dp) (by omega) (by omega)
      rw [loreD] at this
      exact this
    cases ns with
    | nil =>
      have := one a d (by omega) (by omega)
      rw [mset_self hM] at this
      exact this
    | cons y r =>
      refine ww_and1 (wt_eqS (we_call F1 (hr.mono (by omega)) (wa_cons (we_var 0 rfl (wa_cons (we_int (wa_nil ⟨rfl, p, 3, a, c, d, rfl, by decide, by decide +kernel, hM, co, d0, by omega, ?_⟩)))))))
      intro r1 a1 e1 _ _ k1 k2
      refine we_int ⟨_, rfl, ?_⟩
      by_cases hr1 : r1 = 0
      · rw [decide_eq_true hr1]
        refine we_tup (wa_cons (we_str (wa_cons (we_call F2 (hr.mono (by omega)) (wa_cons (we_var 0 rfl (wa_cons (we_var 3 rfl (wa_nil ⟨rfl, p, _, a1, c, e1, rfl, by simp, by rw [List.length_map]; omega, mset_same, co, by omega, by omega, ?_⟩)))))))))
        intro x a2 e2 hx k3 k4
        obtain ⟨z, hz, rfl⟩ := List.mem_map.mp hx
        rw [mset_mset]
        refine wa_nil ⟨sz2, Lets.of ?_⟩
        have := hc (.name z) a2 e2 (btn_name dp hz (hng z hz)) (by omega) (by omega)
        rw [loreD] at this
        exact this
      · rw [decide_eq_false hr1]
        exact one a1 e1 (by omega) (by omega)
  rw [decide_eq_false (show ¬ ((s : Nat) : Int) = 1 by omega)]
  have hm : dp + 1 ≤ m := hm.resolve_left hs1
  obtain ⟨j, rfl⟩ : ∃ j, m = j + 1 := ⟨m - 1, by omega⟩
  have B := F3 j rfl
  have hcost : cost s dp = 5 * (s * (dp + 2)) := rfl
  have hsd : 2 * (dp + 2) ≤ s * (dp + 2) := Nat.mul_le_mul_right _ (by omega)
  refine wss_nil ?_
  -- sign and fits
  refine wss_cons (ws_par 4 5 nd (wa_cons (we_call F1 (hr.mono (by omega)) (wa_cons (we_var 0 rfl (wa_cons (we_int (wa_nil ⟨rfl, p, 2, a, c, d, rfl, by decide, by decide +kernel, hM, co, d0, by omega, ?_⟩))))))))
  intro sg a1 e1 g0 g1 k1 k2
  refine wa_cons (we_lc nd (blkOk_by (N := nBuilt) (sc := defScope s__law_built) (own := [("_law_index", 10)]) (by decide +kernel)) (fun _ _ _ _ _ => pg_name (i := 10) nd rfl (Or.inl rfl)) (gt_name (by decide)) (fun s' H' C' cl' fp' => pts_one ⟨fun pins s3 σ' H3 Q' I q => q s' H' C' cl' fp' pins s3 I⟩) tk_one (wi_range2 (F.bn _ (by decide +kernel)) (wa_cons (we_int (wa_cons (we_addI (we_var 1 rfl (we_int ⟨_, _, rfl, rfl, wa_nil ⟨_, _, rfl, ⟨by decide, by decide, by omega, by omega⟩, ?_⟩⟩))))))))
  refine ⟨by rw [rngD_len, sizeLine_eq]; omega, fun i acc M' => M' = mset M p (potL a1 c e1) ∧ acc.length ≤ i ∧ (∀ x ∈ acc, ∃ n : Nat, x = .int (n : Nat) ∧ 2 ≤ n ∧ n ≤ s ∧ s % n = 0) ∧ (s < 2 + i → acc ≠ []), ⟨rfl, Nat.zero_le _, (by intro x hx; simp at hx), by omega⟩, ?_, ?_⟩
  · rintro i x acc M' hx ⟨rfl, h1, h2, h3⟩
    obtain ⟨hi, rfl⟩ := rngD_get hx
    intro s' H' C' cl' fp'
    refine wt_eqS (we_modI (we_intN (F.bn _ (by decide +kernel)) (we_var 1 rfl (.inl ⟨_, rfl, we_var 10 rfl ⟨_, _, rfl, rfl, by omega, we_int ⟨_, rfl, ?_⟩⟩⟩))))
    have hmod : ((s : Nat) : Int) % (2 + (i : Nat)) = ((s % (2 + i) : Nat) : Int) := by
      rw [show (2 : Int) + (i : Nat) = ((2 + i : Nat) : Int) by omega]; exact (Int.natCast_emod s (2 + i)).symm
    rw [hmod]
    by_cases hz : s % (2 + i) = 0
    · rw [decide_eq_true (show ((s % (2 + i) : Nat) : Int) = 0 by omega)]
      intro s' H' C' cl' fp'
      refine we_var 10 rfl ⟨rfl, by rw [List.length_append, List.length_singleton]; omega, fun y hy => ?_, fun _ => by simp⟩
      rcases List.mem_append.mp hy with hy | hy
      · exact h2 y hy
      · have : y = .int (2 + (i : Nat)) := by simpa using hy
        exact ⟨2 + i, by rw [this]; congr 1, by omega, by omega, hz⟩
    · rw [decide_eq_false (show ¬ ((s % (2 + i) : Nat) : Int) = 0 by omega)]
      refine ⟨rfl, by omega, h2, fun hlt => ?_⟩
      by_cases he : s = 2 + i
      · exact absurd (by rw [← he]; exact Nat.mod_self s) hz
      · exact h3 (by omega)
  rintro fits M' ⟨rfl, fl, fh, fne⟩
  rw [rngD_len] at fl fne
  have fne : fits ≠ [] := fne (by omega)
  refine wa_nil ⟨_, _, rfl, ?_⟩
  have hM1 : ∀ a2 e2, mset (mset M p (potL a1 c e1)) p (potL a2 c e2) = mset M p (potL a2 c e2) := fun _ _ => mset_mset
  -- copies
  have brC : ∀ (nx : Rho → Mp → Prop) a2 e2, d ≤ e2 → e2 ≤ d + 2 → WSs (bx P w K mg base nBuilt "_law_built" (defScope s__law_built) f cdv A outer st H E) [some (.ob p), some (.int (s : Nat)), some (.int (dp : Nat)), some (.lst (ns.map tS)), some (.int sg), some (.lst fits), none, none, none, none, none, none] (mset M p (potL a2 c e2))
      (ifThen (nth s__law_built 2)) { nx := nx, rt := Lets Φ } := fun nx a2 e2 j1 j2 => by
    have fin : ∀ (n : Nat) a3 e3, 2 ≤ n → n ≤ s → s % n = 0 → (dp = 0 → n = s) → d ≤ e3 → e3 ≤ d + 3 → WSs (bx P w K mg base nBuilt "_law_built" (defScope s__law_built) f cdv A outer st H E) [some (.ob p), some (.int (s : Nat)), some (.int (dp : Nat)), some (.lst (ns.map tS)), some (.int sg), some (.lst fits), some (.int (n : Nat)), none, none, none, none, none] (mset M p (potL a3 c e3))
        ((ifThen (nth s__law_built 2)).drop 1) { nx := nx, rt := Lets Φ } := fun n a3 e3 n1 n2 n3 n4 j1 j2 => by
      have hdiv : n * (s / n) = s := by have := Nat.div_add_mod s n; omega
      have hpos : 1 ≤ s / n := by
        rcases Nat.eq_zero_or_pos (s / n) with h | h
        · rw [h] at hdiv; omega
        · exact h
      have hle : 2 * (s / n) ≤ s := by
        have := Nat.mul_le_mul_right (s / n) n1
        omega
      have hone : dp = 0 → s / n = 1 := fun h => by rw [n4 h]; exact Nat.div_self (by omega)
      have hch : cost (s / n) (dp - 1) + 3 ≤ cost s dp := by
        unfold cost
        by_cases hd : dp = 0
        · rw [hone hd, hd]; rw [hd] at hsd; omega
        · have h1 : (s / n) * (dp - 1 + 2) ≤ (s / n) * (dp + 2) := Nat.mul_le_mul_left _ (by omega)
          have h2 : 2 * (s / n) * (dp + 2) ≤ s * (dp + 2) := Nat.mul_le_mul_right _ hle
          have h3 : 2 * (s / n) * (dp + 2) = (s / n) * (dp + 2) + (s / n) * (dp + 2) := by rw [Nat.mul_assoc]; omega
          have h4 : 1 ≤ (s / n) * (dp + 2) := Nat.mul_pos hpos (by omega)
          omega
      refine wss_cons (ws_ret (we_tup (wa_cons (we_ix (we_lst (wa_cons (we_str (wa_cons (we_str (wa_nil ⟨sz2, we_var 4 rfl ⟨sg, _, rfl, ixL (sign_at g0 g1 (fun b => tS [opn b]) open_eq.1 open_eq.2), wa_cons (we_var 6 rfl (wa_cons (we_call B (hr.mono (by omega)) (wa_cons (we_var 0 rfl (wa_cons (we_intN (F.bn _ (by decide +kernel)) (we_divI (we_var 1 rfl (we_var 6 rfl ⟨_, _, rfl, rfl, ⟨by omega, log40 (by omega) (big _ (by omega))⟩, .inl ⟨_, rfl, ?_⟩⟩))))))))))⟩⟩))))))))))
      refine wa_cons (we_max2 (F.bn _ (by decide +kernel)) (we_int (we_subI (we_var 2 rfl (we_int ⟨_, _, rfl, rfl, _, _, rfl, rfl, wa_cons (we_var 3 rfl (wa_nil ⟨rfl, ns, p, s / n, dp - 1, a3, c, e3, ?_, hpos, by omega, by omega, ?_, hns, hng, mset_same, co, by omega, by omega, ?_⟩))⟩)))))
      · have q1 : ((s : Nat) : Int) / (n : Nat) = ((s / n : Nat) : Int) := (Int.natCast_ediv s n).symm
        have q2 : (if ((dp : Nat) : Int) - 1 > 0 then ((dp : Nat) : Int) - 1 else 0) = ((dp - 1 : Nat) : Int) := by split <;> omega
        show [_, D.int _, D.int _, _] = _
        rw [q1, q2]
      · by_cases hd : dp = 0
        · exact .inl (hone hd)
        · exact .inr (by omega)
      intro u a' d' hb b1 b2
      rw [mset_mset]
      refine wa_nil ⟨sz3, Lets.of ?_⟩
      have hu : Btn ns (.cop (decide (sg = 1)) n u) s dp := by
        refine btn_cop _ hb n1 (Nat.le_trans n2 (Nat.le_trans s2 (by decide))) hdiv hpos ?_
        by_cases hd : dp = 0
        · refine .inr ⟨hone hd, hd, by omega, ?_⟩
          obtain ⟨u1, u2, u3, u4, u5⟩ := hb
          rw [hone hd] at u3
          exact ht_one u1 u3
        · exact .inl (by omega)
      have := hc _ a' d' hu (by omega) (by omega)
      rw [loreD] at this
      exact this
    refine wss_cons (ws_set 6 nd (we_if (wt_eqS (we_var 2 rfl (we_int ⟨_, rfl, ?_⟩)))))
    by_cases hd : dp = 0
    · rw [decide_eq_true (show ((dp : Nat) : Int) = 0 by omega)]
      exact we_var 1 rfl (fin s a2 e2 (by omega) (Nat.le_refl _) (Nat.mod_self s) (fun _ => rfl) (by omega) (by omega))
    · rw [decide_eq_false (show ¬ ((dp : Nat) : Int) = 0 by omega)]
      refine we_call F2 (hr.mono (by omega)) (wa_cons (we_var 0 rfl (wa_cons (we_var 5 rfl (wa_nil ⟨rfl, p, fits, a2, c, e2, rfl, fne, by omega, mset_same, co, by omega, by omega, ?_⟩)))))
      intro x a3 e3 hx k3 k4
      obtain ⟨n, rfl, n1, n2, n3⟩ := fh x hx
      rw [mset_mset]
      exact fin n a3 e3 n1 n2 n3 (fun h => absurd h hd) (by omega) (by omega)
  have ret : ∀ (zs : List Nat) o6 o7 o9 a2 e2, zs.sum = s → (∀ z ∈ zs, 1 ≤ z) → 2 ≤ zs.length → zs.length ≤ 3 → 1 ≤ dp → d ≤ e2 → e2 ≤ d + 5 →
      WSs (bx P w K mg base nBuilt "_law_built" (defScope s__law_built) f cdv A outer st H E) [some (.ob p), some (.int (s : Nat)), some (.int (dp : Nat)), some (.lst (ns.map tS)), some (.int sg), some (.lst fits), o6, o7, some (.lst (zs.map fun (z : Nat) => D.int (z : Nat))), o9, none, none] (mset M p (potL a2 c e2))
        ((defBody s__law_built).drop 6) { nx := fun _ M' => Φ .non M', rt := Lets Φ } := fun zs o6 o7 o9 a2 e2 hsum hz1 z2 z3 hdp j1 j2 => by
    refine wss_cons (ws_ret (we_tup (wa_cons (we_ix (we_lst (wa_cons (we_str (wa_cons (we_str (wa_nil ⟨sz2, we_var 4 rfl ⟨sg, _, rfl, ixL (sign_at g0 g1 (fun b => tS [sgn b]) sgn_eq.1 sgn_eq.2), wa_cons (we_tupleOf (F.bn _ (by decide +kernel)) ?_)⟩⟩))))))))))
    refine we_lc nd (blkOk_by (N := nBuilt) (sc := defScope s__law_built) (own := [("_law_part", 11)]) (by decide +kernel)) (fun _ _ _ _ _ => pg_name (i := 11) nd rfl (Or.inl rfl)) (gt_name (by decide)) (fun _ _ _ _ _ => pts_nil) tk_nil (wi_list (we_var 8 rfl ⟨_, .inl rfl, ?_⟩))
    refine ⟨by rw [List.length_map, sizeLine_eq]; omega, fun i acc M' => ∃ ts a' d', M' = mset M p (potL a' c d') ∧ acc = ts.map loreD ∧ Btns ns ts (zs.take i) (dp - 1) ∧ d ≤ d' ∧ d' ≤ d + 5 + (5 * ((zs.take i).sum * (dp + 1)) : Nat), ⟨[], a2, e2, rfl, rfl, trivial, j1, by simp; omega⟩, ?_, ?_⟩
    · rintro i x acc M' hx ⟨ts, a', d', rfl, rfl, hb, b1, b2⟩
      rw [List.getElem?_map] at hx
      obtain ⟨z, hz, rfl⟩ := Option.map_eq_some_iff.mp hx
      have hz0 := hz1 z (List.mem_of_getElem? hz)
      have htk : zs.take (i + 1) = zs.take i ++ [z] := take_snoc hz
      have hsm : (zs.take i).sum + z ≤ s := by
        rw [← hsum]
        have : zs.sum = (zs.take (i + 1)).sum + (zs.drop (i + 1)).sum := by rw [← List.sum_append, List.take_append_drop]
        rw [this, htk, List.sum_append]; simp
      have hmul : ((zs.take i).sum + z) * (dp + 1) ≤ s * (dp + 1) := Nat.mul_le_mul_right _ hsm
      have hmul2 : ((zs.take i).sum + z) * (dp + 1) = (zs.take i).sum * (dp + 1) + z * (dp + 1) := Nat.add_mul _ _ _
      have hsd1 : s * (dp + 2) = s * (dp + 1) + s := by rw [show dp + 2 = dp + 1 + 1 by omega, Nat.mul_succ]
      have hcz : cost z (dp - 1) = 5 * (z * (dp + 1)) := by unfold cost; rw [show dp - 1 + 2 = dp + 1 by omega]
      intro s' H' C' cl' fp'
      refine we_call B (hr.mono (by omega)) (wa_cons (we_var 0 rfl (wa_cons (we_var 11 rfl (wa_cons (we_subI (we_var 2 rfl (we_int ⟨_, _, rfl, rfl, wa_cons (we_var 3 rfl (wa_nil ⟨rfl, ns, p, z, dp - 1, a', c, d', ?_, hz0, by omega, by omega, .inr (by omega), hns, hng, mset_same, co, by omega, by omega, ?_⟩))⟩))))))))
      · show [_, _, D.int _, _] = _
        rw [show ((dp : Nat) : Int) - 1 = ((dp - 1 : Nat) : Int) by omega]
      intro t a3 d3 ht3 b3 b4
      rw [mset_mset]
      refine ⟨ts ++ [t], a3, d3, rfl, by rw [List.map_append]; rfl, by rw [htk]; exact btns_snoc ht3 hb, by omega, ?_⟩
      rw [htk, List.sum_append, show [z].sum = z by simp, hmul2]
      omega
    · rintro acc M' ⟨ts, a', d', rfl, rfl, hb, b1, b2⟩
      rw [List.length_map, List.take_length] at hb b2
      rw [hsum] at b2
      have hsd1 : s * (dp + 2) = s * (dp + 1) + s := by rw [show dp + 2 = dp + 1 + 1 by omega, Nat.mul_succ]
      refine ⟨_, .inl rfl, wa_nil ⟨sz2, Lets.of ?_⟩⟩
      have hu : Btn ns (.row (decide (sg = 1)) ts) s (dp - 1 + 1) := btn_row _ hb z2 z3 hsum (by omega)
      rw [show dp - 1 + 1 = dp by omega] at hu
      have := hc _ a' d' hu b1 (by omega)
      rw [loreD, loresD_map] at this
      exact this
  refine wss_cons (ws_if (wt_ww (ww_or (wt_eqS (we_var 2 rfl (we_int ⟨_, rfl, ?_⟩))))))
  by_cases hd : dp = 0
  · rw [decide_eq_true (show ((dp : Nat) : Int) = 0 by omega)]
    exact brC _ a1 e1 (by omega) (by omega)
  rw [decide_eq_false (show ¬ ((dp : Nat) : Int) = 0 by omega)]
  refine ww_or1 (wt_eqS (we_call F1 (hr.mono (by omega)) (wa_cons (we_var 0 rfl (wa_cons (we_int (wa_nil ⟨rfl, p, 3, a1, c, e1, rfl, by decide, by decide +kernel, mset_same, co, by omega, by omega, ?_⟩)))))))
  intro r2 a2 e2 _ _ k3 k4
  rw [mset_mset]
  refine we_int ⟨_, rfl, ?_⟩
  by_cases hr2 : r2 = 0
  · rw [decide_eq_true hr2]
    exact brC _ a2 e2 (by omega) (by omega)
  rw [decide_eq_false hr2]
  refine wss_nil ?_
  -- first
  refine wss_cons (ws_set 7 nd (we_addI (we_int (we_call F1 (hr.mono (by omega)) (wa_cons (we_var 0 rfl (wa_cons (we_subI (we_var 1 rfl (we_int ⟨_, _, rfl, rfl, wa_nil ⟨rfl, p, _, a2, c, e2, rfl, by omega, big _ (by omega), mset_same, co, by omega, by omega, ?_⟩⟩))))))))))
  intro r3 a3 e3 r30 r31 k5 k6
  rw [mset_mset]
  obtain ⟨n1, rfl⟩ := Int.eq_ofNat_of_zero_le r30
  refine ⟨_, _, rfl, rfl, ?_⟩
  rw [show (1 : Int) + ((n1 : Nat) : Int) = ((1 + n1 : Nat) : Int) by omega]
  refine wss_cons (ws_set 8 nd (we_lst (wa_cons (we_var 7 rfl (wa_cons (we_subI (we_var 1 rfl (we_var 7 rfl ⟨_, _, rfl, rfl, wa_nil ⟨sz2, ?_⟩⟩))))))))
  rw [show ((s : Nat) : Int) - ((1 + n1 : Nat) : Int) = ((s - (1 + n1) : Nat) : Int) by omega]
  refine wss_cons (ws_if (wt_ww (ww_and (wt_gtI (we_subI (we_var 1 rfl (we_var 7 rfl ⟨_, _, rfl, rfl, we_int ⟨_, _, rfl, rfl, ?_⟩⟩)))))))
  refine ite_dec (fun hgt => ?_) fun hgt => ?_
  · refine ww_and1 (wt_eqS (we_call F1 (hr.mono (by omega)) (wa_cons (we_var 0 rfl (wa_cons (we_int (wa_nil ⟨rfl, p, 2, a3, c, e3, rfl, by decide, by decide +kernel, mset_same, co, by omega, by omega, ?_⟩)))))))
    intro r4 a4 e4 _ _ k7 k8
    rw [mset_mset]
    refine we_int ⟨_, rfl, ?_⟩
    by_cases hr4 : r4 = 0
    · rw [decide_eq_true hr4]
      refine wss_cons (ws_set 9 nd (we_addI (we_int (we_call F1 (hr.mono (by omega)) (wa_cons (we_var 0 rfl (wa_cons (we_subI (we_subI (we_var 1 rfl (we_var 7 rfl ⟨_, _, rfl, rfl, we_int ⟨_, _, rfl, rfl, wa_nil ⟨rfl, p, _, a4, c, e4, rfl, by omega, big _ (by omega), mset_same, co, by omega, by omega, ?_⟩⟩⟩)))))))))))
      intro r5 a5 e5 r50 r51 k9 k10
      rw [mset_mset]
      obtain ⟨n2, rfl⟩ := Int.eq_ofNat_of_zero_le r50
      refine ⟨_, _, rfl, rfl, ?_⟩
      rw [show (1 : Int) + ((n2 : Nat) : Int) = ((1 + n2 : Nat) : Int) by omega]
      refine wss_cons (ws_set 8 nd (we_lst (wa_cons (we_var 7 rfl (wa_cons (we_var 9 rfl (wa_cons (we_subI (we_subI (we_var 1 rfl (we_var 7 rfl ⟨_, _, rfl, rfl, we_var 9 rfl ⟨_, _, rfl, rfl, wa_nil ⟨sz3, ?_⟩⟩⟩)))))))))))
      rw [show ((s : Nat) : Int) - ((1 + n1 : Nat) : Int) - ((1 + n2 : Nat) : Int) = ((s - (1 + n1) - (1 + n2) : Nat) : Int) by omega]
      refine wss_nil ?_
      exact ret [1 + n1, 1 + n2, s - (1 + n1) - (1 + n2)] _ _ _ a5 e5 (by simp; omega) (by intro z hz; simp at hz; omega) (by simp) (by simp) (by omega) (by omega) (by omega)
    · rw [decide_eq_false hr4]
      refine wss_nil ?_
      exact ret [1 + n1, s - (1 + n1)] _ _ _ a4 e4 (by simp; omega) (by intro z hz; simp at hz; omega) (by simp) (by simp) (by omega) (by omega) (by omega)
  · refine wss_nil ?_
    exact ret [1 + n1, s - (1 + n1)] _ _ _ a3 e3 (by simp; omega) (by intro z hz; simp at hz; omega) (by simp) (by simp) (by omega) (by omega) (by omega)
end
end W
namespace W
open PySem PySem.Spec PyProof.Rows L2 DL SX PL
section
variable {P : Program} {w : World} {K : PySem.W.Frag} {mg : Str → Option Value} {base : Heap}
def cNamesN (h : Nat) : Con := fun ds M Φ => ∃ t, ds = [tS (txt t)] ∧ Good t ∧ (lv t).length < 1000 ∧ (txt t).length ≤ 1000000 ∧ ht t ≤ h ∧ Φ (.lst ((nmT t).map D.str)) M
theorem wordT_nn {t : T} (h : ∀ x, t ≠ .name x) : decide (wordT t = ("name" : Str)) = false := by
  cases t with
  | one => decide +kernel
  | name x => exact absurd rfl (h x)
  | cop s n u =>
    show decide (wrd s = ("name" : Str)) = false
    cases s <;> decide +kernel
  | row s ts =>
    show decide (wrd s = ("name" : Str)) = false
    cases s <;> decide +kernel
theorem nmT_name (x : List Nat) : nmT (.name x) = [S x] := by
  unfold nmT
  rw [lv]; rfl
abbrev nNin : List Str := ["text", "word", "groups", "found", "many", "part", "name"]
theorem ok_names_n (h : Nat) (F : Fx w K mg) (F1 : Fc P w K mg base "groups_in" [] 3 1 cGroupsIn) (F2 : ∀ j, h = j + 1 → Fc P w K mg base "names_in" [] (j + 4) 1 (cNamesN j)) :
    BodyOk P w K mg base "names_in" s_names_in nNin 1 (h + 3) (cNamesN h) := by
  intro f cdv A outer s H E hr ds M Φ hl hc
  obtain ⟨t, rfl, hg, hlv, hl, hh, hc⟩ := hc
  have nd : nNin.Nodup := by decide +kernel
  refine wss_cons (ws_asg (we_call F1 (hr.mono (by omega)) (wa_cons (we_var 0 rfl (wa_nil ⟨rfl, _, rfl, hg, hl, ?_⟩)))))
  refine wg_tup ⟨rfl, rfl, wgs_cons (wg_name 1 (wgs_cons (wg_name 2 (wgs_nil ⟨rfl, ?_⟩) nd)) nd)⟩
  refine wss_cons (ws_if (wt_eqS (we_var 1 rfl (we_gstr F.gNAME ⟨_, rfl, ?_⟩))))
  by_cases hn : ∃ x, t = .name x
  · obtain ⟨x, rfl⟩ := hn
    rw [show decide (wordT (.name x) = ("name" : Str)) = true from rfl]
    rw [nmT_name] at hc
    exact wss_cons (ws_ret (we_lst (wa_cons (we_var 0 rfl (wa_nil ⟨sz1, Lets.of (by rw [txt] at *; exact hc)⟩)))))
  have hn : ∀ x, t ≠ .name x := fun x e => hn ⟨x, e⟩
  rw [wordT_nn hn]
  have hk := kids_len hg
  have tot : ∀ i, (((kids t).take i).flatMap fun q => nmT q.2).length < 1000 := fun i => by
    have h1 := flat_len (fun q : Nat × T => nmT q.2) (fun q => lv q.2) (fun q => nmT_len q.2) (kids t)
    rw [← lv_kids hn] at h1
    have h2 : (((kids t).take i).flatMap fun q => nmT q.2).length ≤ ((kids t).flatMap fun q => nmT q.2).length := by
      conv => rhs; rw [← List.take_append_drop i (kids t)]
      rw [List.flatMap_append, List.length_append]
      omega
    omega
  refine wss_nil (wss_cons (ws_set 3 nd (we_lstM (wa_nil ⟨Nat.zero_le _, fun p hp => ?_⟩))))
  refine wss_cons (ws_for PassesOwn.never (wi_list (we_var 2 rfl ⟨_, .inl rfl, ?_⟩)))
  refine ⟨fun i ρ' M' => ∃ o1 o2, ρ' = [some (tS (txt t)), some (.str (wordT t)), some (.lst (grpD t)), some (.ob p), o1, o2, none] ∧ M' = mset M p (.lst ((((kids t).take i).flatMap fun q => nmT q.2).map D.str)), ⟨_, _, rfl, rfl⟩, ?_, ?_⟩
  · rintro i x ρ' M' hx ⟨o1, o2, rfl, rfl⟩
    rw [grpD, List.getElem?_map] at hx
    obtain ⟨q, hq, rfl⟩ := Option.map_eq_some_iff.mp hx
    have hm := List.mem_of_getElem? hq
    obtain ⟨g1, g2, g3, g4, g5⟩ := kids_ok hm hg
    obtain ⟨n1, n2⟩ := kid_names hm
    refine wg_tup ⟨rfl, rfl, wgs_cons (wg_name 4 (wgs_cons (wg_name 5 (wgs_nil ⟨rfl, ?_⟩) nd)) nd)⟩
    obtain ⟨j, rfl⟩ : ∃ j, h = j + 1 := ⟨h - 1, by omega⟩
    have e : ((kids t).take (i + 1)).flatMap (fun q => nmT q.2) = ((kids t).take i).flatMap (fun q => nmT q.2) ++ nmT q.2 := by
      rw [take_snoc hq, List.flatMap_append]; simp
    have h1000 := tot (i + 1)
    rw [e, List.length_append] at h1000
    refine wss_cons (ws_expr (we_extend (we_var 3 rfl ⟨p, _, rfl, mset_same, we_call (F2 j rfl) (hr.mono (by omega)) (wa_cons (we_var 5 rfl (wa_nil ⟨rfl, q.2, rfl, g1, by omega, by omega, by omega, _, _, mset_same, rfl, ?_, ?_⟩)))⟩)))
    · rw [List.length_map, List.length_map, sizeLine_eq]; omega
    rw [mset_mset, ← List.map_append, ← e]
    exact wss_nil ⟨_, _, rfl, rfl⟩
  · rintro ρ' M' ⟨o1, o2, rfl, rfl⟩
    have el : (grpD t).length = (kids t).length := by rw [grpD, List.length_map]
    rw [el, List.take_length]
    have h1000 := tot (kids t).length
    rw [List.take_length] at h1000
    refine wss_let (M' := M) (ρ' := [some (tS (txt t)), some (.str (wordT t)), some (.lst (grpD t)), some (.lst (((kids t).flatMap fun q => nmT q.2).map D.str)), none, none, none]) (les_new hp) ?_ ?_
    · exact .val (.same _) (.val (.same _) (.val (.same _) (.val (.lst mset_same hp) (.drop (.drop (.drop .nil))))))
    refine wss_cons (ws_ret (we_sortedSetS (F.bn _ (by decide +kernel)) (F.bn _ (by decide +kernel)) (we_lc nd (blkOk_by (N := nNin) (sc := defScope s_names_in) (own := [("name", 6)]) (by decide +kernel)) (fun _ _ _ _ _ => pg_name (i := 6) nd rfl (Or.inl rfl)) (gt_name (by decide)) (fun _ _ _ _ _ => pts_nil) tk_nil
      (wi_list (we_var 3 rfl ⟨_, .inl rfl, ?_⟩)))))
    refine ⟨by rw [List.length_map, sizeLine_eq]; omega, fun i acc M' => M' = M ∧ acc = (((kids t).flatMap fun q => nmT q.2).take i).map D.str, ⟨rfl, rfl⟩, ?_, ?_⟩
    · rintro i x acc M' hx ⟨rfl, rfl⟩
      rw [List.getElem?_map] at hx
      obtain ⟨z, hz, rfl⟩ := Option.map_eq_some_iff.mp hx
      intro s1 H1 C' cl fp
      refine we_strS (F.bn _ (by decide +kernel)) (we_var 6 rfl ⟨z, rfl, rfl, ?_⟩)
      rw [take_snoc hz, List.map_append]; rfl
    · rintro acc M' ⟨rfl, rfl⟩
      refine ⟨(kids t).flatMap fun q => nmT q.2, by rw [List.length_map, List.take_length]; rfl, by omega, fun ys hy hs => Lets.of ?_⟩
      rw [nmsOf_uniq hy hs, nmT_kids hn]
      exact hc
end
mutual
/-- the plan as an instance of the class at C, with its names -/
def planN (C : Addr) : T → D
  | .one => .ins C (six (tS (txt .one)) (.tup []) (.str (wordT .one)) (.lst []) (.bl false) (.int (ppl .one : Nat)))
  | .name x => .ins C (six (tS (txt (.name x))) (.tup ((nmT (.name x)).map D.str)) (.str (wordT (.name x))) (.lst []) (.bl false) (.int (ppl (.name x) : Nat)))
  | .cop s n t => .ins C (six (tS (txt (.cop s n t))) (.tup ((nmT (.cop s n t)).map D.str)) (.str (wordT (.cop s n t))) (.lst [.tup [.int (n : Nat), planN C t]]) (.bl true) (.int (ppl (.cop s n t) : Nat)))
  | .row s ts => .ins C (six (tS (txt (.row s ts))) (.tup ((nmT (.row s ts)).map D.str)) (.str (wordT (.row s ts))) (.lst (plansN C ts)) (.bl false) (.int (ppl (.row s ts) : Nat)))
def plansN (C : Addr) : List T → List D
  | [] => []
  | t :: ts => .tup [.int ((1 : Nat) : Int), planN C t] :: plansN C ts
end
theorem plansN_map (C : Addr) : ∀ ts : List T, plansN C ts = ts.map fun t => .tup [.int ((1 : Nat) : Int), planN C t]
  | [] => by rw [plansN]; rfl
  | t :: ts => by rw [plansN, plansN_map C ts, List.map_cons]
def subsN (C : Addr) (t : T) : List D := (kids t).map fun q => .tup [.int (q.1 : Nat), planN C q.2]
def fldsN (C : Addr) (t : T) : List (Str × D) := six (tS (txt t)) (.tup ((nmT t).map D.str)) (.str (wordT t)) (.lst (subsN C t)) (.bl (isCop t)) (.int (ppl t : Nat))
theorem planN_ins (C : Addr) (t : T) : planN C t = .ins C (fldsN C t) := by
  cases t with
  | one =>
    rw [planN]; unfold fldsN
    rw [nmT_told (t := .one) trivial]; rfl
  | name x => rw [planN]; rfl
  | cop s n t => rw [planN]; rfl
  | row s ts =>
    rw [planN, plansN_map]
    unfold fldsN subsN kids
    rw [List.map_map]; rfl
mutual
theorem planN_told (C : Addr) : ∀ {t : T}, Told t → planN C t = planD C t
  | .one, _ => by rw [planN, planD]
  | .name x, h => h.elim
  | .cop s n t, h => by
    have h' : Told t := h
    rw [planN, planD, planN_told C h', nmT_told (t := .cop s n t) h]; rfl
  | .row s ts, h => by
    have h' : Tolds ts := h
    rw [planN, planD, plansN_told C h', nmT_told (t := .row s ts) h]; rfl
theorem plansN_told (C : Addr) : ∀ {ts : List T}, Tolds ts → plansN C ts = plansD C ts
  | [], _ => by rw [plansN, plansD]
  | t :: ts, h => by rw [plansN, plansD, planN_told C h.1, plansN_told C h.2]
end
end W
namespace W
open PySem PySem.Spec PyProof.Rows L2 DL SX PL
section
variable {P : Program} {w : World} {K : PySem.W.Frag} {mg : Str → Option Value} {base : Heap} {C : Addr}
def cInitN (C : Addr) (h : Nat) : Con := fun ds M Φ => ∃ a t, ds = [.ob a, tS (txt t)] ∧ Good t ∧ (lv t).length < 1000 ∧ (nmT t).length ≤ 3 ∧ (txt t).length ≤ 100000 ∧ ht t ≤ h ∧ ht t ≤ 60 ∧ M a = some (.ins C []) ∧ Φ .non (mset M a (.ins C (fldsN C t)))
/-- Plan(e) -/
theorem we_plan_n {X : Cx} {ρ : Rho} {M : Mp} {Φ : D → Mp → Prop} {e : Expr} {p pos : Pos} {h k : Nat} (F : Kc X.prog X.w X.K X.mg X.base "Plan" C [] k 2 (cInitN C h)) (hr : Room (k + 1) X.A)
    (q : WE X ρ M e fun d M1 => ∃ t, d = tS (txt t) ∧ Good t ∧ (lv t).length < 1000 ∧ (nmT t).length ≤ 3 ∧ (txt t).length ≤ 100000 ∧ ht t ≤ h ∧ ht t ≤ 60 ∧ Φ (planN C t) M1) (hg : Gl X "Plan" := by rfl)
    (he : starEach [e] X.env = (false, eval e X.env) :: starEach [] X.env := by rfl) (hpl : (backTo pos (starEach [] X.env)).any (·.1) = false := by rfl) : WE X ρ M (.Call (.Name "Plan" p) [e] [] pos) Φ :=
  we_make F hr (wa_cons (q.imp fun d M1 ⟨t, e1, h1, h2, h3, h4, h5, h6, h7⟩ => wa_nil fun a ha => ⟨rfl, a, t, by rw [e1]; rfl, h1, h2, h3, h4, h5, h6, mset_same, rfl, by
    rw [mset_mset]
    exact ⟨_, M1, les_new ha, .ins mset_same ha, by rw [← planN_ins]; exact h7⟩⟩) he) hg (he := he) (hpl := hpl)
theorem ok_init_n (h : Nat) (F : Fx w K mg) (X : Px K mg C) (F1 : Fc P w K mg base "is_plan_text" [] (h + 4) 2 (cPlanText h)) (F2 : Fc P w K mg base "names_in" [] (h + 4) 1 (cNamesN h)) (F3 : Fc P w K mg base "groups_in" [] 3 1 cGroupsIn)
    (F4 : ∀ j, h = j + 1 → Kc P w K mg base "Plan" C [] (2 * j + 6) 2 (cInitN C j)) : BodyOk P w K mg base "Plan.__init__" s_Plan___init__ nInit 2 (2 * h + 5) (cInitN C h) := by
  intro f cdv A outer s H E hr ds M Φ hl hc
  obtain ⟨a, t, rfl, hg, hlv, hn3, hl, hh, h60, hM, hc⟩ := hc
  have nd : nInit.Nodup := by decide +kernel
  have hk := kids_len hg
  obtain ⟨ps, hcmp⟩ := grp_cmp hg
  -- nothing is wrong
  refine wss_cons (ws_if (wt_ww (ww_or (wt_not (wt_val (we_isi (F.bn _ (by decide +kernel)) (we_var 1 rfl (we_bty (F.bn _ (by decide +kernel)) rfl ⟨_, _, true, rfl, rfl, (by intro C h; cases h), rfl, _, rfl, ?_⟩))))))))
  refine ww_or (wt_not (wt_val (we_call F1 (hr.mono (by omega)) (wa_cons (we_var 1 rfl (wa_cons (we_int (wa_nil ⟨rfl, t, 0, rfl, hg, by omega, hh, by omega, _, rfl, ?_⟩))))))))
  refine ww_or1 (wt_gtI (we_len (F.bn _ (by decide +kernel)) (we_call F2 (hr.mono (by omega)) (wa_cons (we_var 1 rfl (wa_nil ⟨rfl, t, rfl, hg, hlv, by omega, hh, _, lenL, we_gint F.gMOST_NAMES ⟨_, _, rfl, rfl, ?_⟩⟩))))))
  rw [decide_eq_false (show ¬ (3 : Int) < ((((nmT t).map D.str).length : Nat) : Int) by rw [List.length_map]; omega)]
  refine wss_nil ?_
  -- the fields
  refine wss_cons (ws_fld (C := C) (we_var 1 rfl (we_var 0 rfl ⟨a, _, rfl, hM, X.cl, X.na _ (by decide +kernel), by decide, ?_⟩)))
  rw [put1]
  refine wss_cons (ws_fld (C := C) (we_tupleOf (F.bn _ (by decide +kernel)) (we_call F2 (hr.mono (by omega)) (wa_cons (we_var 1 rfl (wa_nil ⟨rfl, t, rfl, hg, hlv, by omega, hh, _, .inl rfl, we_var 0 rfl ⟨a, _, rfl, mset_same, X.cl, X.na _ (by decide +kernel), sl1, ?_⟩⟩))))))
  rw [mset_mset, put2]
  refine wss_cons (ws_asg (we_call F3 (hr.mono (by omega)) (wa_cons (we_var 1 rfl (wa_nil ⟨rfl, t, rfl, hg, by omega, ?_⟩)))))
  refine wg_tup ⟨rfl, rfl, wgs_cons (wg_fld (C := C) (we_var 0 rfl ⟨a, _, rfl, mset_same, X.cl, X.na _ (by decide +kernel), sl2, wgs_cons (wg_name 2 (wgs_nil ⟨rfl, ?_⟩) nd)⟩))⟩
  rw [mset_mset, put3]
  refine wss_cons (ws_fld (C := C) (we_lc nd (blkOk_by (N := nInit) (sc := defScope s_Plan___init__) (own := [("many", 3), ("part", 4)]) (by decide +kernel)) (fun _ _ _ _ _ => pg_tup rfl (pgs_cons (pg_name (i := 3) nd rfl (Or.inl rfl)) (pgs_cons (pg_name (i := 4) nd rfl (Or.inl rfl)) pgs_nil)) rfl rfl) (gt_two (by decide) (by decide)) (fun _ _ _ _ _ => pts_nil) tk_nil
    (wi_list (we_var 2 rfl ⟨_, .inl rfl, ?_⟩))))
  refine ⟨by rw [grpD, List.length_map, sizeLine_eq]; omega, fun i acc M' => M' = mset M a (.ins C (f3 (tS (txt t)) (.tup ((nmT t).map D.str)) (.str (wordT t)))) ∧ acc = ((kids t).take i).map fun q => .tup [.int (q.1 : Nat), planN C q.2], ⟨rfl, rfl⟩, ?_, ?_⟩
  · rintro i x acc M' hx ⟨rfl, rfl⟩
    rw [grpD, List.getElem?_map] at hx
    obtain ⟨q, hq, rfl⟩ := Option.map_eq_some_iff.mp hx
    have hm := List.mem_of_getElem? hq
    obtain ⟨g1, g2, g3, g4, g5⟩ := kids_ok hm hg
    obtain ⟨n1, n2⟩ := kid_names hm
    refine ⟨_, _, rfl, ?_⟩
    intro s1 H1 C' cl fp
    obtain ⟨j, rfl⟩ : ∃ j, h = j + 1 := ⟨h - 1, by omega⟩
    refine we_tup (wa_cons (we_var 3 rfl (wa_cons (we_plan_n (F4 j rfl) (hr.mono (by omega)) (we_var 4 rfl ⟨q.2, rfl, g1, by omega, by omega, by omega, by omega, by omega, wa_nil ⟨sz2, rfl, ?_⟩⟩)))))
    rw [take_snoc hq, List.map_append]; rfl
  rintro acc M' ⟨rfl, rfl⟩
  refine we_var 0 rfl ⟨a, _, rfl, mset_same, X.cl, X.na _ (by decide +kernel), sl3, ?_⟩
  have el : (grpD t).length = (kids t).length := by rw [grpD, List.length_map]
  rw [mset_mset, put4, el, List.take_length]
  obtain ⟨c, r, ec, hcop⟩ := cop_in hg
  refine wss_cons (ws_fld (C := C) (we_inS (we_slice (we_var 1 rfl (we_int ⟨1, rfl, _, .inr (.inr ⟨_, rfl, by rw [S_len, sizeLine_eq]; omega, rfl⟩), we_txts ⟨_, _, rfl, .inl rfl, we_var 0 rfl ⟨a, _, rfl, mset_same, X.cl, X.na _ (by decide +kernel), sl4, ?_⟩⟩⟩)))))
  rw [mset_mset, put5, show cutS (S (txt t)) none (some 1) = S [c] by rw [ec, cut_1], hcop]
  -- people
  have fin : ∀ n : Int, n = (ppl t : Nat) → Φ .non (mset (mset M a (.ins C (f5 (tS (txt t)) (.tup ((nmT t).map D.str)) (.str (wordT t)) (.lst (subsN C t)) (.bl (isCop t))))) a (.ins C (putD "own_people" (.int n) (f5 (tS (txt t)) (.tup ((nmT t).map D.str)) (.str (wordT t)) (.lst (subsN C t)) (.bl (isCop t)))))) := fun n hn => by
    rw [mset_mset, put6, hn]
    exact hc
  refine wss_cons (ws_fld (C := C) (we_if (wt_neNil hr.units (we_var 2 rfl ⟨_, ps, 1, rfl, hcmp, by decide, ?_⟩))))
  by_cases hk0 : kids t = []
  · 
    have e1 : (grpD t).isEmpty = true := by unfold grpD; rw [hk0]; rfl
    rw [e1]
    refine we_int (we_var 0 rfl ⟨a, _, rfl, mset_same, X.cl, X.na _ (by decide +kernel), sl5, ?_⟩)
    exact wss_nil (fin 1 (by rw [ppl_none hk0 hg]; rfl))
  · have e1 : (grpD t).isEmpty = false := by
      unfold grpD
      cases hh2 : kids t with
      | nil => exact absurd hh2 hk0
      | cons q qs => rfl
    rw [e1]
    refine we_sum (F.bn _ (by decide +kernel)) (we_lc nd (blkOk_by (N := nInit) (sc := defScope s_Plan___init__) (own := [("many", 3), ("part", 4)]) (by decide +kernel)) (fun _ _ _ _ _ => pg_tup rfl (pgs_cons (pg_name (i := 3) nd rfl (Or.inl rfl)) (pgs_cons (pg_name (i := 4) nd rfl (Or.inl rfl)) pgs_nil)) rfl rfl) (gt_two (by decide) (by decide)) (fun _ _ _ _ _ => pts_nil) tk_nil
      (wi_list (we_fld (C := C) (we_var 0 rfl ⟨_, _, mset_same, X.cl, X.na _ (by decide +kernel), lk5_groups, _, .inl rfl, ?_⟩))))
    refine ⟨by rw [List.length_map, sizeLine_eq]; omega, fun i acc M' => M' = mset M a (.ins C (f5 (tS (txt t)) (.tup ((nmT t).map D.str)) (.str (wordT t)) (.lst (subsN C t)) (.bl (isCop t)))) ∧ acc = (((kids t).take i).map fun q => ((q.1 * ppl q.2 : Nat) : Int)).map D.int, ⟨rfl, rfl⟩, ?_, ?_⟩
    · rintro i x acc M' hx ⟨rfl, rfl⟩
      rw [List.getElem?_map] at hx
      obtain ⟨q, hq, rfl⟩ := Option.map_eq_some_iff.mp hx
      have hm := List.mem_of_getElem? hq
      obtain ⟨g1, g2, g3, g4, g5⟩ := kids_ok hm hg
      refine ⟨_, _, rfl, ?_⟩
      intro s1 H1 C' cl fp
      refine we_mulI (we_var 3 rfl (we_fld (C := C) (we_var 4 rfl ⟨_, _, by rw [planN_ins]; exact ⟨rfl, rfl⟩, X.cl, X.na _ (by decide +kernel), lk_people, _, _, rfl, rfl, mul_ok g5 (ppl_lt g1) (by omega), rfl, ?_⟩)))
      rw [take_snoc hq, List.map_append, List.map_append, ← Int.natCast_mul]; rfl
    · rintro acc M' ⟨rfl, rfl⟩
      refine ⟨_, rfl, we_var 0 rfl ⟨a, _, rfl, mset_same, X.cl, X.na _ (by decide +kernel), sl5, ?_⟩⟩
      rw [List.length_map, List.take_length]
      refine wss_nil (fin _ ?_)
      rw [ppl_kids hk0, sum_cast]
end
end W
namespace W
open PySem PySem.Spec PyProof.Rows L2 DL SX PL SlX
section
variable {P : Program} {w : World} {K : PySem.W.Frag} {mg : Str → Option Value} {base : Heap} {C G R O S U : Addr}
def cPlanL (C : Addr) (h : Nat) : Con := fun ds M Φ => ∃ t, ds = [loreD t] ∧ Good t ∧ (lv t).length < 1000 ∧ (nmT t).length ≤ 3 ∧ (txt t).length ≤ 100000 ∧ ht t ≤ h ∧ ht t ≤ 60 ∧ Φ (planN C t) M
theorem ok_planl (h : Nat) (F1 : Fc P w K mg base "_law_text" [] (h + 1) 1 (cText h)) (F2 : Kc P w K mg base "Plan" C [] (2 * h + 6) 2 (cInitN C h)) : BodyOk P w K mg base "_law_plan" s__law_plan ["_law_lore"] 1 (2 * h + 7) (cPlanL C h) := by
  intro f cdv A outer s H E hr ds M Φ hl hc
  obtain ⟨t, rfl, g, h1, h2, h3, h4, h5, hc⟩ := hc
  exact wss_cons (ws_ret (we_plan_n F2 (hr.mono (by omega)) (we_call F1 (hr.mono (by omega)) (wa_cons (we_var 0 rfl (wa_nil ⟨rfl, t, rfl, g, h3, h4, t, rfl, g, h1, h2, h3, h4, h5, Lets.of hc⟩))))))
end
end W
namespace PL
open PySem PySem.Spec SX TL PyProof.Rows DL
mutual
def putT (x : List Nat) (u : T) : T → T
  | .one => .one
  | .name y => if y = x then u else .name y
  | .cop s n t => .cop s n (putT x u t)
  | .row s ts => .row s (putTs x u ts)
def putTs (x : List Nat) (u : T) : List T → List T
  | [] => []
  | t :: ts => putT x u t :: putTs x u ts
end
mutual
theorem ni_told : ∀ {t : T}, NI [] t → Told t
  | .one, _ => trivial
  | .name x, h => by
    have h : x ∈ ([] : List (List Nat)) := h
    cases h
  | .cop s n t, h => ni_told (t := t) h
  | .row s ts, h => nis_tolds (ts := ts) h
theorem nis_tolds : ∀ {ts : List T}, NIs [] ts → Tolds ts
  | [], _ => trivial
  | t :: ts, h => ⟨ni_told h.1, nis_tolds h.2⟩
end
end PL
namespace DL
open PySem PySem.Spec PyProof.Rows L2
theorem keyD_inv {K : PySem.W.Frag} {M : Mp} {Z : Zn} {H : Hp} {v : V} {k : Key} (r : Rep K M Z H v (keyD k)) : v = kV k := by
  cases k with
  | inl i => cases r; rfl
  | inr x => cases r; rfl
end DL
namespace DL
open PySem PySem.Spec PyProof.Rows L2
section
variable {X : Cx} {ρ : Rho} {M : Mp} {Φ : D → Mp → Prop} {a b : Expr} {pos : Pos}
theorem we_ixKO (hu : X.A.units + 1 < cLine) (h : WE X ρ M a fun x M1 => WE X ρ M1 b fun y M2 => ∃ q kvs k d, x = .ob q ∧ M2 q = some (.dK kvs) ∧ y = keyD k ∧ valK kvs k = some d ∧ Φ d M2) (hs : NoSl b := by exact fun _ _ => rfl) : WE X ρ M (.Subscript a b pos) Φ := .mk fun {Z} σ H Q en w k =>
  eOf (pe_dget hu pe_sem pe_sem hs) (bind2 h en w fun v u x y H2 M2 e2 w2 r1 r2 hz => by
    obtain ⟨q, kvs, z, d, rfl, hM, rfl, hv, hz⟩ := hz
    have ev := keyD_inv r2
    cases r1
    obtain ⟨vs, hq, rs⟩ := w2.1 q _ hM
    obtain ⟨v, h1, rv⟩ := rs.val hv
    exact ⟨_, v, rfl, by rw [ev, ← h1]; exact DGet.k hq, (k.step e2).now w2 rv hz⟩)
end
end DL
namespace W
open PySem PySem.Spec PyProof.Rows L2 DL SX PL SlX
/-- the five numbers of a plan as a dict -/
def fivK (t : T) : List (Key × D) := [(.inr "people", .int (ppl t : Nat)), (.inr "circle", .int (crc t : Nat)), (.inr "strangers", .int (stg t : Nat)), (.inr "rows", .int (rws t : Nat)), (.inr "hall", .int (hal t : Nat))]
theorem fivK_at {t : T} {z : Str} (h : z ∈ wordsL) : ∃ v, (z, v) ∈ numL t ∧ valK (fivK t) (.inr z) = some (.int (v : Nat)) := by
  unfold wordsL at h
  simp only [List.mem_cons, List.not_mem_nil, or_false] at h
  unfold numL fivK
  rcases h with rfl | rfl | rfl | rfl | rfl
  · exact ⟨ppl t, by simp, rfl⟩
  · exact ⟨crc t, by simp, rfl⟩
  · exact ⟨stg t, by simp, rfl⟩
  · exact ⟨rws t, by simp, rfl⟩
  · exact ⟨hal t, by simp, rfl⟩
theorem numL_le8 {t : T} (ok : Ok t) (p : ppl t ≤ 8) {z : Str} {v : Nat} (h : (z, v) ∈ numL t) : v ≤ 8 := by
  have h1 := (crc_ok ok.1).2
  have h2 := (stg_ok ok.1).2
  have h3 := rws_le ok.1
  have h4 := (hal_ok ok.1).2
  unfold numL at h
  simp only [List.mem_cons, List.not_mem_nil, or_false, Prod.mk.injEq] at h
  rcases h with ⟨rfl, rfl⟩ | ⟨rfl, rfl⟩ | ⟨rfl, rfl⟩ | ⟨rfl, rfl⟩ | ⟨rfl, rfl⟩ <;> omega
section
variable {P : Program} {w : World} {K : PySem.W.Frag} {mg : Str → Option Value} {base : Heap} {C G R : Addr}
def cFivs : Con := fun ds M Φ => ∃ t ps n, ds = [wbD n ps] ∧ Ok t ∧ Wb t ps ∧ (persL t).length = n ∧ n ≤ 8 ∧ ∀ q, M q = none → Φ (.ob q) (mset M q (.dK (fivK t)))
theorem ok_fivs (F1 : Fc P w K mg base "_law_most" [] 2 2 cMost) (F2 : Fc P w K mg base "_law_rows_of" [] 2 1 cRowsOf) (F3 : Fc P w K mg base "_law_hall_of" [] 2 1 cHallOf) : BodyOk P w K mg base "_law_figures" s__law_figures ["_law_web_here", "_law_found"] 1 2 cFivs := by
  intro f cdv A outer s H E hr ds M Φ hl hc
  obtain ⟨t, ps, n, rfl, ok, hps, hn, n8, hc⟩ := hc
  have nd : (["_law_web_here", "_law_found"] : List Str).Nodup := by decide +kernel
  have z2 : 2 ≤ sizeLine := by rw [sizeLine_eq]; decide
  have s5 : ∀ n : Nat, n ≤ 10 → n < sizeLine := fun n h => by rw [sizeLine_eq]; omega
  have en : ppl t = n := by rw [← persL_len ok.2.1]; exact hn
  refine wss_cons (ws_asg (we_disp3I (we_str (we_ix (we_var 0 rfl (we_int ⟨((0 : Nat) : Int), _, rfl, ixT (atI_nat rfl), ?_⟩))))))
  refine we_str (we_call F1 (hr.mono (by decide)) (wa_cons (we_var 0 rfl (wa_cons (we_bl (wa_nil ⟨rfl, t, ps, n, true, rfl, ok, hps, hn, n8, ?_⟩))))))
  refine we_str (we_call F1 (hr.mono (by decide)) (wa_cons (we_var 0 rfl (wa_cons (we_bl (wa_nil ⟨rfl, t, ps, n, false, rfl, ok, hps, hn, n8, ?_⟩))))))
  refine ⟨_, _, _, _, _, _, rfl, rfl, rfl, rfl, rfl, rfl, by decide +kernel, by decide +kernel, by decide +kernel, fun q hq => wg_name 1 ?_ nd⟩
  refine wss_cons (ws_asg (we_tup (wa_cons (we_call F2 (hr.mono (by decide)) (wa_cons (we_var 0 rfl (wa_nil ⟨rfl, t, ps, n, rfl, ok, hps, hn, n8, ?_⟩)))))))
  refine wa_cons (we_call F3 (hr.mono (by decide)) (wa_cons (we_var 0 rfl (wa_nil ⟨rfl, t, ps, n, rfl, ok, hps, hn, n8, wa_nil ⟨z2, ?_⟩⟩))))
  refine wg_tup ⟨rfl, rfl, wgs_cons (wg_dputK (units1 hr) (we_var 1 rfl (we_str ⟨q, _, _, rfl, rfl, mset_same, s5 3 (by decide), ?_⟩)))⟩
  rw [mset_mset]
  refine wgs_cons (wg_dputK (units1 hr) (we_var 1 rfl (we_str ⟨q, _, _, rfl, rfl, mset_same, s5 4 (by decide), wgs_nil ⟨rfl, ?_⟩⟩)))
  rw [mset_mset]
  subst en
  exact wss_cons (ws_ret (we_var 1 rfl (Lets.of (hc q hq))))
def cWordsR : Con := fun ds M Φ => ds = [] ∧ Φ (.lst (wordsL.map D.str)) M
theorem ok_wordsr : BodyOk P w K mg base "_law_words" s__law_words [] 0 0 cWordsR := by
  intro f cdv A outer s H E hr ds M Φ hl hc
  obtain ⟨rfl, hc⟩ := hc
  exact wss_cons (ws_ret (we_lst (wa_cons (we_str (wa_cons (we_str (wa_cons (we_str (wa_cons (we_str (wa_cons (we_str (wa_nil ⟨by show 5 ≤ sizeLine; rw [sizeLine_eq]; decide, Lets.of hc⟩)))))))))))))
structure Lo8 (t : T) : Prop where
  g : Good t
  tl : Told t
  p : ppl t ≤ 8
  h : ht t ≤ 4
  x : (txt t).length ≤ 2000
theorem lo8_of {t : T} {s : Nat} (h : Btn [] t s 3) (hs : s ≤ 8) : Lo8 t := by
  obtain ⟨h1, h2, h3, h4, h5⟩ := h
  refine ⟨h1, ni_told h2, by omega, h4, Nat.le_trans h5 ?_⟩
  have : s * (3 + 2) ≤ 8 * 5 := Nat.mul_le_mul_right _ hs
  omega
def cSmall8 : Con := fun ds M Φ => ∃ (p : Addr) (a c d : Int), ds = [.ob p, .int (8 : Nat), .lst []] ∧ M p = some (potL a c d) ∧ cOk c ∧ 0 ≤ d ∧ d ≤ 1000 ∧ ∀ t a' d', Lo8 t → d ≤ d' → d' ≤ d + 300 → Φ (loreD t) (mset M p (potL a' c d'))
theorem ok_small8 (F1 : Fc P w K mg base "_law_take" [] 1 2 cTake) (F2 : Fc P w K mg base "_law_built" [] 7 4 (cBuiltN 4)) : BodyOk P w K mg base "_law_small" s__law_small ["_law_pot_here", "_law_most_here", "_law_names"] 3 7 cSmall8 := by
  intro f cdv A outer s H E hr ds M Φ hl hc
  obtain ⟨p, a, c, d, rfl, hM, co, d0, d1, hc⟩ := hc
  refine wss_cons (ws_ret (we_call F2 (hr.mono (by decide)) (wa_cons (we_var 0 rfl (wa_cons (we_addI (we_int (we_call F1 (hr.mono (by decide)) (wa_cons (we_var 0 rfl (wa_cons (we_var 1 rfl (wa_nil ⟨rfl, p, _, a, c, d, rfl, by decide, by decide +kernel, hM, co, d0, by omega, fun r a1 e1 r0 r1 j1 j2 => ?_⟩)))))))))))))
  obtain ⟨k0, rfl⟩ := Int.eq_ofNat_of_zero_le r0
  refine ⟨_, _, rfl, rfl, ?_⟩
  rw [show (1 : Int) + (k0 : Nat) = ((1 + k0 : Nat) : Int) by omega]
  generalize hn : 1 + k0 = n
  have n8 : n ≤ 8 := by omega
  have cst : cost n 3 ≤ 200 := by unfold cost; omega
  refine wa_cons (we_int (wa_cons (we_var 2 rfl (wa_nil ⟨rfl, [], p, n, 3, a1, c, e1, rfl, by omega, by omega, by decide, .inr (by decide), by decide, fun x h => (by cases h), mset_same, co, by omega, by omega, fun t a' e' hb k1 k2 => ?_⟩))))
  rw [mset_mset]
  exact Lets.of (hc t a' e' (lo8_of hb n8) (by omega) (by omega))
def cRight14 : Con := fun ds M Φ => ∃ (p : Addr) (a c d : Int), ds = [.ob p] ∧ M p = some (potL a c d) ∧ cOk c ∧ 0 ≤ d ∧ d ≤ 1000 ∧ ∀ a' d', d ≤ d' → d' ≤ d + 300 → Φ (.bl true) (mset M p (potL a' c d'))
abbrev nRight14 : List Str := ["_law_pot_here", "_law_lore", "_law_plan_here", "_law_due", "_law_word"]
theorem ok_right14 (F : Fx w K mg) (gR : mg "repr" = none) (F1 : Fc P w K mg base "_law_small" [] 8 3 cSmall8) (F2 : Fc P w K mg base "_law_plan" [] 16 1 (cPlanL C 4)) (F3 : Fc P w K mg base "_law_web" [] 6 2 (cLWeb 4)) (F4 : Fc P w K mg base "_law_figures" [] 3 1 cFivs) (F5 : Fc P w K mg base "_law_words" [] 1 0 cWordsR)
    (F6 : Fc P w K mg base "number" [] 9 2 (cNum5 C 4)) : BodyG P w K mg base "_law_right" s__law_right nRight14 1 17 cRight14 := by
  intro f cdv A outer s H E hgd hr ds M Φ hl hc
  obtain ⟨p, a, c, d, rfl, hM, co, d0, d1, hc⟩ := hc
  have nd : nRight14.Nodup := by decide +kernel
  have z2 : 2 ≤ sizeLine := by rw [sizeLine_eq]; decide
  refine wss_cons (ws_set 1 nd (we_call F1 (hr.mono (by decide)) (wa_cons (we_var 0 rfl (wa_cons (we_int (wa_cons (we_lst (wa_nil ⟨Nat.zero_le _, wa_nil ⟨rfl, p, a, c, d, rfl, hM, co, d0, d1, fun t a' e' lt k1 k2 => ?_⟩⟩)))))))))
  generalize hM2 : mset M p (potL a' c e') = M2
  have hM2p := hc a' e' k1 k2
  rw [hM2] at hM2p
  have ok : Ok t := ⟨lt.g, lt.tl, by have := lt.x; omega⟩
  have hn := persL_len lt.tl
  refine wss_cons (ws_asg (we_tup (wa_cons (we_call F2 (hr.mono (by decide)) (wa_cons (we_var 1 rfl (wa_nil ⟨rfl, t, rfl, lt.g, by rw [lv_told lt.tl]; decide, by rw [nmT_told lt.tl]; decide, by have := lt.x; omega, lt.h, by have := lt.h; omega, ?_⟩)))))))
  refine wa_cons (we_call F4 (hr.mono (by decide)) (wa_cons (we_call F3 (hr.mono (by decide)) (wa_cons (we_var 1 rfl (wa_cons (we_dict0 (wa_nil ⟨rfl, t, _, rfl, lt.g, lt.tl, lt.h, by have := lt.p; omega, fun ps hps => wa_nil ⟨rfl, t, ps, ppl t, rfl, ok, hps, hn, lt.p, fun q hq => wa_nil ⟨z2, ?_⟩⟩⟩))))))))
  refine wg_tup ⟨rfl, rfl, wgs_cons (wg_name 2 (wgs_cons (wg_name 3 (wgs_nil ⟨rfl, ?_⟩) nd)) nd)⟩
  refine wss_cons (ws_ret (we_all (F.bn _ (by decide +kernel)) (we_lc nd (blkOk_by (N := nRight14) (sc := defScope s__law_right) (own := [("_law_word", 4)]) (by decide +kernel)) (fun _ _ _ _ _ => pg_name (i := 4) nd rfl (Or.inl rfl)) (gt_name (by decide)) (fun _ _ _ _ _ => pts_nil) tk_nil (wi_list ?_))))
  refine we_addL (we_call0 F5 (hr.mono (by decide)) ⟨rfl, rfl, we_call0 F5 (hr.mono (by decide)) ⟨rfl, rfl, ?_⟩⟩)
  refine ⟨_, _, rfl, rfl, ?_, _, .inl rfl, ?_⟩
  · rw [List.length_map, sizeLine_eq]; decide
  rw [← List.map_append]
  have hw : ∀ z ∈ wordsL ++ wordsL, z ∈ wordsL := fun z hz => (List.mem_append.mp hz).elim id id
  refine ⟨by rw [List.length_map, sizeLine_eq]; decide, fun i acc M' => M' = mset M2 q (.dK (fivK t)) ∧ acc = (List.replicate i true).map D.bl, ⟨rfl, rfl⟩, ?_, ?_⟩
  · rintro i x acc M' hx ⟨rfl, rfl⟩
    rw [List.getElem?_map] at hx
    obtain ⟨z, hz, rfl⟩ := Option.map_eq_some_iff.mp hx
    obtain ⟨v, hv1, hv2⟩ := fivK_at (t := t) (hw z (List.mem_of_getElem? hz))
    have q2 := sh_nat (n := v) (Nat.lt_of_le_of_lt (numL_le8 ok lt.p hv1) (by decide))
    have qz : (PyData.int (v : Nat)).shown.length ≤ sizeLine := Nat.le_trans q2.le (by rw [sizeLine_eq]; decide)
    intro s1 H1 C1 cl1 fp1
    refine we_eqS (we_reprD gR hgd hr.units (we_call F6 (hr.mono (by decide)) (wa_cons (we_var 2 rfl (wa_cons (we_var 4 rfl (wa_nil ⟨rfl, t, z, v, by rw [planN_told C lt.tl]; rfl, ok, lt.h, hv1, _, 0, cmp_int _, by decide, q2.ok, qz, ?_⟩)))))))
    refine we_reprD gR hgd hr.units (we_ixKO (units1 hr) (we_var 3 rfl (we_var 4 rfl ⟨q, _, (.inr z), _, rfl, mset_same, rfl, hv2, _, 0, cmp_int _, by decide, q2.ok, qz, ?_⟩)))
    refine ⟨true, ?_, rfl, ?_⟩
    · exact (decide_eq_true rfl).symm
    · show (List.replicate i true).map D.bl ++ [D.bl true] = (List.replicate (i + 1) true).map D.bl
      rw [List.replicate_succ', List.map_append]; rfl
  · rintro acc M' ⟨rfl, rfl⟩
    refine ⟨_, rfl, ?_⟩
    rw [List.all_eq_true.mpr fun b hb => by rw [List.eq_of_mem_replicate hb]; rfl]
    exact ⟨_, M2, les_new hq, .same _, hM2p⟩
abbrev nLaw : List Str := ["_law_script", "_law_place", "_law_pot_here", "_law_lap"]
def cLaw : Con := fun ds M Φ => ∃ ns, ds = [scrD ns] ∧ ∀ M', Φ (.bl true) M'
theorem ok_law14 (F : Fx w K mg) (F1 : Fc P w K mg base "_law_cells" [] 1 2 cCells) (F2 : Fc P w K mg base "_law_pot" [] 1 2 cPot) (F3 : Gc P w K mg base "_law_right" 18 1 cRight14) : BodyG P w K mg base "law" s_law nLaw 1 18 cLaw := by
  intro f cdv A outer s H E hgd hr ds M Φ hl hc
  obtain ⟨ns, rfl, hc⟩ := hc
  have nd : nLaw.Nodup := by decide +kernel
  refine wss_cons (ws_for PassesOwn.never (wi_list (we_call F1 (hr.mono (by decide)) (wa_cons (we_var 0 rfl (wa_cons (we_int (wa_nil ⟨rfl, ns, 3, rfl, by decide, by decide, fun n hn => ⟨_, .inl rfl, ?_⟩⟩))))))))
  refine ⟨fun i ρ' M' => ∃ o1 o2 o3, ρ' = [some (scrD ns), o1, o2, o3], ⟨none, none, none, rfl⟩, ?_, ?_⟩
  · rintro i x ρ' M' hx ⟨o1, o2, o3, rfl⟩
    obtain ⟨hi, rfl⟩ := rngD_get hx
    refine wg_name 1 ?_ nd
    refine wss_cons (ws_set 2 nd (we_call F2 (hr.mono (by decide)) (wa_cons (we_var 0 rfl (wa_cons (we_var 1 rfl (wa_nil ⟨rfl, ns, i, by rw [Int.zero_add]; rfl, by omega, ?_⟩)))))))
    intro p a c hp co
    refine wss_cons (ws_if (wt_not (wt_val (we_all (F.bn _ (by decide +kernel)) (we_lc nd (blkOk_by (N := nLaw) (sc := defScope s_law) (own := [("_law_lap", 3)]) (by decide +kernel)) (fun _ _ _ _ _ => pg_name (i := 3) nd rfl (Or.inl rfl)) (gt_name (by decide)) (fun _ _ _ _ _ => pts_nil) tk_nil (wi_range1 (F.bn _ (by decide +kernel)) (wa_cons (we_int (wa_nil ⟨_, rfl, by decide, by decide, ?_⟩)))))))))
    refine ⟨by rw [rngD_len]; decide, fun k acc M2 => k ≤ 3 ∧ acc = (List.replicate k true).map D.bl ∧ ∃ a' d', M2 p = some (potL a' c d') ∧ 0 ≤ d' ∧ d' ≤ 300 * (k : Nat), ⟨by decide, rfl, a, 0, mset_same, by decide, by decide⟩, ?_, ?_⟩
    · rintro k x acc M2 hx ⟨k3, rfl, a', d', hM2, q0, q1⟩
      obtain ⟨hk, rfl⟩ := rngD_get hx
      have hk : k < 3 := hk
      intro s' H' C' cl' fp'
      refine we_callG F3 hgd (hr.mono (by decide)) (wa_cons (we_var 2 rfl (wa_nil ⟨rfl, p, a', c, d', rfl, hM2, co, q0, by omega, ?_⟩)))
      intro a2 d2 j1 j2
      exact ⟨hk, by rw [List.replicate_succ', List.map_append]; rfl, a2, d2, mset_same, by omega, by omega⟩
    · rintro acc M2 ⟨k3, rfl, a', d', hM2, q0, q1⟩
      rw [rngD_len]
      refine ⟨_, rfl, _, rfl, ?_⟩
      rw [List.all_eq_true.mpr fun b hb => by rw [List.eq_of_mem_replicate hb]; rfl]
      exact wss_nil (wss_nil ⟨_, _, _, rfl⟩)
  · rintro ρ' M' ⟨o1, o2, o3, rfl⟩
    exact wss_cons (ws_ret (we_bl (Lets.of (hc _))))
end
end W
namespace DL
open PySem PySem.Spec PyProof.Rows L2 SlX
section
variable {P : Program} {w : World} {K : PySem.W.Frag} {mg : Str → Option Value} {base : Heap} {x qual : Str} {st : Stmt} {N ps : List Str} {j k n : Nat} {c : Con} {dd : List D} {C : Addr} {m : Str} {f p : Addr}
theorem Md.sm (D : Md K C m qual st f) (cl : SCls K C) (me : Meth K C m f) (S : FnScope N ps (defScope st))
    (hb : ∀ (kV doc pm : Value) (an : Option Addr) (cdv ct : Value) (us : List Value), us.length = ps.length → bindArgs (PySem.W.fnOf m qual (defArgs st) (defBody st) (defScope st) .none kV doc pm an cdv ct) ⟨us, []⟩ = pure (ps.zip us))
    (h : BodyOk P w K mg base qual st N ps.length k c) : Mg P w K mg base C m (k + 1) ps.length c := by
  obtain ⟨fd, F⟩ := D.ex
  exact ⟨cl, f, fd, ps, fn_ok F S (h f), me, F.bindsN hb⟩
end
end DL
namespace W
open PySem PySem.Spec PyProof.Rows L2 DL He HK
section
variable {P : Program} {w : World} {K : PySem.W.Frag} {mg : Str → Option Value} {base h : Heap}
theorem mkFx (X : K.In h) (G : h.Ns mainGlobals mg) (c : Says spec w K) : Fx w K mg where
  bn := fun x hx => free_ok X G (c.fa (mem_bn hx))
  gONE := str_ok X G (c.fa (f := .str "ONE" "one") (mem_co 0 rfl))
  gNAME := str_ok X G (c.fa (f := .str "NAME" "name") (mem_co 1 rfl))
  gBESIDE := str_ok X G (c.fa (f := .str "BESIDE" "beside") (mem_co 2 rfl))
  gINTRODUCED := str_ok X G (c.fa (f := .str "INTRODUCED" "introduced") (mem_co 3 rfl))
  gBLANK := str_ok X G (c.fa (f := .str "BLANK" " ") (mem_co 4 rfl))
  gLETTERS := str_ok X G (c.fa (f := .str "LETTERS" "abcdefghijklmnopqrstuvwxyz") (mem_co 5 rfl))
  gFIGURES := str_ok X G (c.fa (f := .str "FIGURES" "0123456789") (mem_co 6 rfl))
  gMOST_LETTERS := int_ok X G (c.fa (f := .int "MOST_LETTERS" 8) (mem_co 7 rfl))
  gPERSON := str_ok X G (c.fa (f := .str "PERSON" "1") (mem_co 8 rfl))
  gLEAST_MANY := int_ok X G (c.fa (f := .int "LEAST_MANY" 2) (mem_co 9 rfl))
  gMOST_MANY := int_ok X G (c.fa (f := .int "MOST_MANY" (10 ^ 30)) (mem_co 10 rfl))
  gMOST_NAMES := int_ok X G (c.fa (f := .int "MOST_NAMES" 3) (mem_co 11 rfl))
  gMOST_DEPTH := int_ok X G (c.fa (f := .int "MOST_DEPTH" 60) (mem_co 12 rfl))
  gSIGNS := let ⟨kvs, h1, h2⟩ := c.ta 0 (x := "SIGNS") (qs := tSigns) rfl (by decide +kernel); ⟨_, kvs, glo_ok X G (c.fa (f := .glo "SIGNS") (mem_glo (by decide +kernel))), h1, h2⟩
  gAROUND := let ⟨kvs, h1, h2⟩ := c.ta 1 (x := "AROUND") (qs := tAround) rfl (by decide +kernel); ⟨_, kvs, glo_ok X G (c.fa (f := .glo "AROUND") (mem_glo (by decide +kernel))), h1, h2⟩
  gTURNED := let ⟨kvs, h1, h2⟩ := c.ta 2 (x := "TURNED") (qs := tTurned) rfl (by decide +kernel); ⟨_, kvs, glo_ok X G (c.fa (f := .glo "TURNED") (mem_glo (by decide +kernel))), h1, h2⟩
theorem mkPx (X : K.In h) (G : h.Ns mainGlobals mg) (c : Says spec w K) : Px K mg (ga K "Plan") where
  at_ := glo_ok X G (c.fa (f := .glo "Plan") (mem_glo (by decide +kernel)))
  cl := cls_ok (c.fa (f := .cls "Plan") (mem_co 13 rfl))
  na := fun f hf => noat_ok (c.fa (mem_na hf))
  init := ⟨_, mkr_ok (c.fa (f := .mkr "Plan") (mem_co 15 rfl)), ⟨c.dd 1 rfl⟩⟩
  text := ⟨_, _, propB_ok (c.pr (q := ("Plan", "text")) (by decide +kernel)), ⟨c.dd 2 rfl⟩⟩
  names := ⟨_, _, propB_ok (c.pr (q := ("Plan", "names")) (by decide +kernel)), ⟨c.dd 3 rfl⟩⟩
  word := ⟨_, _, propB_ok (c.pr (q := ("Plan", "word")) (by decide +kernel)), ⟨c.dd 4 rfl⟩⟩
  many := ⟨_, _, propB_ok (c.pr (q := ("Plan", "many")) (by decide +kernel)), ⟨c.dd 5 rfl⟩⟩
  invert := ⟨_, meth_ok (c.fa (f := .meth "Plan" "__invert__") (mem_co 14 rfl)), ⟨c.dd 6 rfl⟩⟩
theorem mkDf (X : K.In h) (G : h.Ns mainGlobals mg) (c : Says spec w K) (i : Nat) {x : Str} {st : Stmt} (hd : dds[i]? = some (gl x st)) (hx : x ∈ globsA) : Df K mg x st [] :=
  let ⟨fd, F⟩ := c.dd i hd
  ⟨_, fd, F, glo_ok X G (c.fa (mem_glo hx))⟩
theorem mkGx (X : K.In h) (G : h.Ns mainGlobals mg) (c : Says spec w K) : Gx K mg (ga K "Figures") where
  at_ := glo_ok X G (c.fa (f := .glo "Figures") (mem_glo (by decide +kernel)))
  sl := c.sl (List.mem_singleton.mpr rfl)
  init := let ⟨fd, F⟩ := c.dd 10 rfl; ⟨_, fd, mkr_ok (c.fa (f := .mkr "Figures") (mem_co 16 rfl)), F⟩
  copied := ⟨_, meth_ok (c.fa (f := .meth "Figures" "copied") (mem_co 17 rfl)), ⟨c.dd 7 rfl⟩⟩
  joined := ⟨_, meth_ok (c.fa (f := .meth "Figures" "joined") (mem_co 18 rfl)), ⟨c.dd 8 rfl⟩⟩
theorem chain {C : Addr} {f : Addr} {fd : FuncData} (F : Fx w K mg) (X : Px K mg C) {GF : Addr} (XF : Gx K mg GF) (XT : ∃ f, Meth K GF "told_for" f ∧ Md K GF "told_for" "Figures.told_for" s_Figures_told_for f) {aWo : Addr} (DW : Df K mg "check_word" s_check_word [V.ref aWo]) (rW : ∀ M Z H, Rep K M Z H (.ref aWo) (.tup (wordsL.map DL.D.str))) (gA : mg "any" = none) (gPE : ∃ t, mg "PEOPLE" = some (.str "people" t)) (gCI : ∃ t, mg "CIRCLE" = some (.str "circle" t)) (gST : ∃ t, mg "STRANGERS" = some (.str "strangers" t)) (gRO : ∃ t, mg "ROWS" = some (.str "rows" t)) (gHA : ∃ t, mg "HALL" = some (.str "hall" t)) (DI : Df K mg "is_integer" s_is_integer [.non, .non]) (D : ∀ (i : Nat) {x : Str} {st : Stmt}, dds[i]? = some (gl x st) → x ∈ globsA → Df K mg x st [])
    (L : FunD K "law" "law" (defArgs s_law) (defBody s_law) (defScope s_law) [] [] f fd) : FnG P w K mg base 19 f fd ["_law_script"] (spD K 1 cLaw) := by
  have FI : Fc P w K mg base "is_integer" [] 1 3 cIsInt := DI.fcD (N := ["value", "low", "high"]) (ps := ["value", "low", "high"]) ⟨rfl, rfl, rfl, by decide +kernel, rfl, by decide +kernel, by decide +kernel⟩ 3 2 (by simp) rfl (fun _ _ _ => .nil) (fun _ _ _ _ _ _ _ us its h1 h2 => match us, its, h1, h2 with | [_, _, _], [_, _], _, _ => ⟨_, rfl, rfl⟩) (ok_is_integer F)
  have fName : Fc P w K mg base "is_name" [] 1 1 cIsName := (D 11 rfl (by decide +kernel)).fc (N := ["value", "letter"]) (ps := ["value"]) ⟨rfl, rfl, rfl, by decide +kernel, rfl, by decide +kernel, by decide +kernel⟩ (fun _ _ _ _ _ _ us hl => match us, hl with | [_], _ => rfl) (ok_is_name F)
  have fNum : Fc P w K mg base "number_in" [] 1 1 cNumberIn := (D 12 rfl (by decide +kernel)).fc (N := ["text", "figure"]) (ps := ["text"]) ⟨rfl, rfl, rfl, by decide +kernel, rfl, by decide +kernel, by decide +kernel⟩ (fun _ _ _ _ _ _ us hl => match us, hl with | [_], _ => rfl) (ok_number_in F)
  have fPar : Fc P w K mg base "parted" [] 1 2 cParted := (D 13 rfl (by decide +kernel)).fc (N := ["text", "sign", "found", "depth", "begin", "at", "letter"]) (ps := ["text", "sign"]) ⟨rfl, rfl, rfl, by decide +kernel, rfl, by decide +kernel, by decide +kernel⟩ (fun _ _ _ _ _ _ us hl => match us, hl with | [_, _], _ => rfl) (ok_parted F)
  have fCop : Fc P w K mg base "copies_in" [] 2 1 cCopiesIn := (D 14 rfl (by decide +kernel)).fc (N := ["text", "word", "head", "end", "number", "blank", "rest", "many"]) (ps := ["text"]) ⟨rfl, rfl, rfl, by decide +kernel, rfl, by decide +kernel, by decide +kernel⟩ (fun _ _ _ _ _ _ us hl => match us, hl with | [_], _ => rfl) (ok_copies_in F fNum)
  have fRow : Fc P w K mg base "row_in" [] 2 1 cRowIn := (D 15 rfl (by decide +kernel)).fc (N := ["text", "word", "sign", "parts", "part"]) (ps := ["text"]) ⟨rfl, rfl, rfl, by decide +kernel, rfl, by decide +kernel, by decide +kernel⟩ (fun _ _ _ _ _ _ us hl => match us, hl with | [_], _ => rfl) (ok_row_in F fPar)
  have fGrp : Fc P w K mg base "groups_in" [] 3 1 cGroupsIn := (D 16 rfl (by decide +kernel)).fc (N := ["text", "found"]) (ps := ["text"]) ⟨rfl, rfl, rfl, by decide +kernel, rfl, by decide +kernel, by decide +kernel⟩ (fun _ _ _ _ _ _ us hl => match us, hl with | [_], _ => rfl) (ok_groups_in F fName fCop fRow)
  have fPt : ∀ h, Fc P w K mg base "is_plan_text" [] (h + 4) 2 (cPlanText h) := by
    intro h
    induction h with
    | zero => exact (D 17 rfl (by decide +kernel)).fc (N := ["text", "depth", "found", "many", "part"]) (ps := ["text", "depth"]) ⟨rfl, rfl, rfl, by decide +kernel, rfl, by decide +kernel, by decide +kernel⟩ (fun _ _ _ _ _ _ us hl => match us, hl with | [_, _], _ => rfl) (ok_is_plan_text 0 F fGrp (fun j hj => by omega))
    | succ h ih => exact (D 17 rfl (by decide +kernel)).fc (N := ["text", "depth", "found", "many", "part"]) (ps := ["text", "depth"]) ⟨rfl, rfl, rfl, by decide +kernel, rfl, by decide +kernel, by decide +kernel⟩ (fun _ _ _ _ _ _ us hl => match us, hl with | [_, _], _ => rfl) (ok_is_plan_text (h + 1) F fGrp (fun j hj => by cases hj; exact ih))
  have fNm : ∀ h, Fc P w K mg base "names_in" [] (h + 4) 1 (cNamesN h) := by
    intro h
    induction h with
    | zero => exact (D 18 rfl (by decide +kernel)).fc (N := nNin) (ps := ["text"]) ⟨rfl, rfl, rfl, by decide +kernel, rfl, by decide +kernel, by decide +kernel⟩ (fun _ _ _ _ _ _ us hl => match us, hl with | [_], _ => rfl) (ok_names_n 0 F fGrp (fun j hj => by omega))
    | succ h ih => exact (D 18 rfl (by decide +kernel)).fc (N := nNin) (ps := ["text"]) ⟨rfl, rfl, rfl, by decide +kernel, rfl, by decide +kernel, by decide +kernel⟩ (fun _ _ _ _ _ _ us hl => match us, hl with | [_], _ => rfl) (ok_names_n (h + 1) F fGrp (fun j hj => by cases hj; exact ih))
  obtain ⟨fi, mk, mi⟩ := X.init
  have kPlan : ∀ h, Kc P w K mg base "Plan" C [] (2 * h + 6) 2 (cInitN C h) := by
    intro h
    induction h with
    | zero => exact mi.kc X.at_ mk (N := nInit) (ps := ["self", "text"]) ⟨rfl, rfl, rfl, by decide +kernel, rfl, by decide +kernel, by decide +kernel⟩ (fun _ _ _ _ _ _ us hl => match us, hl with | [_, _], _ => rfl) (ok_init_n 0 F X (fPt 0) (fNm 0) fGrp (fun j hj => by omega))
    | succ h ih => exact mi.kc X.at_ mk (N := nInit) (ps := ["self", "text"]) ⟨rfl, rfl, rfl, by decide +kernel, rfl, by decide +kernel, by decide +kernel⟩ (fun _ _ _ _ _ _ us hl => match us, hl with | [_, _], _ => rfl) (ok_init_n (h + 1) F X (fPt (h + 1)) (fNm (h + 1)) fGrp (fun j hj => by cases hj; exact ih))
  obtain ⟨p1, g1, pr1, m1⟩ := X.text
  obtain ⟨p2, g2, pr2, m2⟩ := X.names
  obtain ⟨p3, g3, pr3, m3⟩ := X.word
  have pText : Pc P w K mg base C "text" 1 (cGet C fun t => tS (PL.txt t)) := m1.pc X.cl pr1 (N := ["self"]) ⟨rfl, rfl, rfl, by decide +kernel, rfl, by decide +kernel, by decide +kernel⟩ (fun _ _ _ _ _ _ us hl => match us, hl with | [_], _ => rfl) (ok_text X)
  have pNames : Pc P w K mg base C "names" 1 (cGet C fun t => .tup []) := m2.pc X.cl pr2 (N := ["self"]) ⟨rfl, rfl, rfl, by decide +kernel, rfl, by decide +kernel, by decide +kernel⟩ (fun _ _ _ _ _ _ us hl => match us, hl with | [_], _ => rfl) (ok_names X)
  have pWord : Pc P w K mg base C "word" 1 (cGet C fun t => .str (wordT t)) := m3.pc X.cl pr3 (N := ["self"]) ⟨rfl, rfl, rfl, by decide +kernel, rfl, by decide +kernel, by decide +kernel⟩ (fun _ _ _ _ _ _ us hl => match us, hl with | [_], _ => rfl) (ok_word X)
  have fTold : Fc P w K mg base "check_told" [] 3 1 (cTold C) := (D 19 rfl (by decide +kernel)).fc (N := ["plan"]) (ps := ["plan"]) ⟨rfl, rfl, rfl, by decide +kernel, rfl, by decide +kernel, by decide +kernel⟩ (fun _ _ _ _ _ _ us hl => match us, hl with | [_], _ => rfl) (ok_check_told pNames)
  obtain ⟨gCopf, gCopm, gCopd⟩ := XF.copied
  have gCop : Mg P w K mg base GF "copied" 3 3 (cCopied GF) := gCopd.sm XF.sl.sc gCopm (N := nCopied) (ps := ["self", "word", "many"]) ⟨rfl, rfl, rfl, by decide +kernel, rfl, by decide +kernel, by decide +kernel⟩ (fun _ _ _ _ _ _ us hl => match us, hl with | [_, _, _], _ => rfl) (ok_copied F XF)
  obtain ⟨gJoif, gJoim, gJoid⟩ := XF.joined
  have gJoi : Mg P w K mg base GF "joined" 3 3 (cJoined GF) := gJoid.sm XF.sl.sc gJoim (N := nJoined) (ps := ["self", "word", "other"]) ⟨rfl, rfl, rfl, by decide +kernel, rfl, by decide +kernel, by decide +kernel⟩ (fun _ _ _ _ _ _ us hl => match us, hl with | [_, _, _], _ => rfl) (ok_joined F XF)
  obtain ⟨gTff, gTfm, gTfd⟩ := XT
  have gTf : Mg P w K mg base GF "told_for" 2 2 (cToldFor GF) := gTfd.sm XF.sl.sc gTfm (N := ["self", "word", "numbers"]) (ps := ["self", "word"]) ⟨rfl, rfl, rfl, by decide +kernel, rfl, by decide +kernel, by decide +kernel⟩ (fun _ _ _ _ _ _ us hl => match us, hl with | [_, _], _ => rfl) (ok_told_for XF gPE gCI gST gRO gHA)
  have fFg : ∀ h, Fc P w K mg base "figures" [] (h + 4) 2 (cFigs C GF h) := by
    intro h
    induction h with
    | zero => exact (D 20 rfl (by decide +kernel)).fc (N := nFigs) (ps := ["plan", "known"]) ⟨rfl, rfl, rfl, by decide +kernel, rfl, by decide +kernel, by decide +kernel⟩ (fun _ _ _ _ _ _ us hl => match us, hl with | [_, _], _ => rfl) (ok_figures 0 F X XF pWord gCop gJoi (fun j hj => by omega))
    | succ h ih => exact (D 20 rfl (by decide +kernel)).fc (N := nFigs) (ps := ["plan", "known"]) ⟨rfl, rfl, rfl, by decide +kernel, rfl, by decide +kernel, by decide +kernel⟩ (fun _ _ _ _ _ _ us hl => match us, hl with | [_, _], _ => rfl) (ok_figures (h + 1) F X XF pWord gCop gJoi (fun j hj => by cases hj; exact ih))
  have fIw : Fc P w K mg base "is_word" [] 1 2 cIsW := (D 21 rfl (by decide +kernel)).fc (N := ["value", "words"]) (ps := ["value", "words"]) ⟨rfl, rfl, rfl, by decide +kernel, rfl, by decide +kernel, by decide +kernel⟩ (fun _ _ _ _ _ _ us hl => match us, hl with | [_, _], _ => rfl) (ok_is_word F)
  have fCw : Fc P w K mg base "check_word" [.tup (wordsL.map DL.D.str)] 2 2 cChkW := DW.fcD (N := ["value", "words"]) (ps := ["value", "words"]) ⟨rfl, rfl, rfl, by decide +kernel, rfl, by decide +kernel, by decide +kernel⟩ 1 0 (by simp) rfl (fun M Z H => .cons (rW M Z H) .nil) (fun _ _ _ _ _ _ _ us its h1 h2 => match us, its, h1, h2 with | [_], [_], _, _ => ⟨_, rfl, rfl⟩) (ok_check_word fIw)
  have fNr : Fc P w K mg base "number" [] 9 2 (cNum5 C 4) := (D 22 rfl (by decide +kernel)).fc (N := ["plan", "word"]) (ps := ["plan", "word"]) ⟨rfl, rfl, rfl, by decide +kernel, rfl, by decide +kernel, by decide +kernel⟩ (fun _ _ _ _ _ _ us hl => match us, hl with | [_, _], _ => rfl) (ok_number 4 XF fTold fCw (fFg 4) gTf)
  have fTk : Fc P w K mg base "_law_take" [] 1 2 cTake := (D 23 rfl (by decide +kernel)).fc (N := nTake) (ps := ["_law_pot_here", "_law_upto"]) ⟨rfl, rfl, rfl, by decide +kernel, rfl, by decide +kernel, by decide +kernel⟩ (fun _ _ _ _ _ _ us hl => match us, hl with | [_, _], _ => rfl) (ok_take F)
  have fOf : Fc P w K mg base "_law_of" [] 2 2 cOf := (D 24 rfl (by decide +kernel)).fc (N := ["_law_pot_here", "_law_some"]) (ps := ["_law_pot_here", "_law_some"]) ⟨rfl, rfl, rfl, by decide +kernel, rfl, by decide +kernel, by decide +kernel⟩ (fun _ _ _ _ _ _ us hl => match us, hl with | [_, _], _ => rfl) (ok_of F fTk)
  have fPot : Fc P w K mg base "_law_pot" [] 1 2 cPot := (D 25 rfl (by decide +kernel)).fc (N := nPot) (ps := ["_law_script", "_law_place"]) ⟨rfl, rfl, rfl, by decide +kernel, rfl, by decide +kernel, by decide +kernel⟩ (fun _ _ _ _ _ _ us hl => match us, hl with | [_, _], _ => rfl) (ok_pot F)
  have fCe : Fc P w K mg base "_law_cells" [] 1 2 cCells := (D 26 rfl (by decide +kernel)).fc (N := ["_law_script", "_law_most_here"]) (ps := ["_law_script", "_law_most_here"]) ⟨rfl, rfl, rfl, by decide +kernel, rfl, by decide +kernel, by decide +kernel⟩ (fun _ _ _ _ _ _ us hl => match us, hl with | [_, _], _ => rfl) (ok_cells F)
  have fTx : ∀ h, Fc P w K mg base "_law_text" [] (h + 1) 1 (cText h) := by
    intro h
    induction h with
    | zero => exact (D 27 rfl (by decide +kernel)).fc (N := ["_law_lore", "_law_part"]) (ps := ["_law_lore"]) ⟨rfl, rfl, rfl, by decide +kernel, rfl, by decide +kernel, by decide +kernel⟩ (fun _ _ _ _ _ _ us hl => match us, hl with | [_], _ => rfl) (ok_lawtext 0 F (fun j hj => by omega))
    | succ h ih => exact (D 27 rfl (by decide +kernel)).fc (N := ["_law_lore", "_law_part"]) (ps := ["_law_lore"]) ⟨rfl, rfl, rfl, by decide +kernel, rfl, by decide +kernel, by decide +kernel⟩ (fun _ _ _ _ _ _ us hl => match us, hl with | [_], _ => rfl) (ok_lawtext (h + 1) F (fun j hj => by cases hj; exact ih))
  have fBe : Fc P w K mg base "_law_is_beside" [] 1 1 cBeside := (D 28 rfl (by decide +kernel)).fc (N := ["_law_lore"]) (ps := ["_law_lore"]) ⟨rfl, rfl, rfl, by decide +kernel, rfl, by decide +kernel, by decide +kernel⟩ (fun _ _ _ _ _ _ us hl => match us, hl with | [_], _ => rfl) (ok_beside)
  have fCn : Fc P w K mg base "_law_count" [] 1 1 cCount := (D 29 rfl (by decide +kernel)).fc (N := ["_law_lore"]) (ps := ["_law_lore"]) ⟨rfl, rfl, rfl, by decide +kernel, rfl, by decide +kernel, by decide +kernel⟩ (fun _ _ _ _ _ _ us hl => match us, hl with | [_], _ => rfl) (ok_count F)
  have fPc : Fc P w K mg base "_law_piece" [] 1 2 cPiece := (D 30 rfl (by decide +kernel)).fc (N := ["_law_lore", "_law_index"]) (ps := ["_law_lore", "_law_index"]) ⟨rfl, rfl, rfl, by decide +kernel, rfl, by decide +kernel, by decide +kernel⟩ (fun _ _ _ _ _ _ us hl => match us, hl with | [_, _], _ => rfl) (ok_piece)
  have fPl : Fc P w K mg base "_law_plan" [] 16 1 (cPlanL C 4) := (D 31 rfl (by decide +kernel)).fc (N := ["_law_lore"]) (ps := ["_law_lore"]) ⟨rfl, rfl, rfl, by decide +kernel, rfl, by decide +kernel, by decide +kernel⟩ (fun _ _ _ _ _ _ us hl => match us, hl with | [_], _ => rfl) (ok_planl 4 (fTx 4) (kPlan 4))
  have fBu : ∀ h, Fc P w K mg base "_law_built" [] (h + 3) 4 (cBuiltN h) := by
    intro h
    induction h with
    | zero => exact (D 32 rfl (by decide +kernel)).fc (N := nBuilt) (ps := ["_law_pot_here", "_law_size", "_law_deep", "_law_names"]) ⟨rfl, rfl, rfl, by decide +kernel, rfl, by decide +kernel, by decide +kernel⟩ (fun _ _ _ _ _ _ us hl => match us, hl with | [_, _, _, _], _ => rfl) (ok_built_n 0 F fTk fOf (fun j hj => by omega))
    | succ h ih => exact (D 32 rfl (by decide +kernel)).fc (N := nBuilt) (ps := ["_law_pot_here", "_law_size", "_law_deep", "_law_names"]) ⟨rfl, rfl, rfl, by decide +kernel, rfl, by decide +kernel, by decide +kernel⟩ (fun _ _ _ _ _ _ us hl => match us, hl with | [_, _, _, _], _ => rfl) (ok_built_n (h + 1) F fTk fOf (fun j hj => by cases hj; exact ih))
  have fWb : ∀ h, Fc P w K mg base "_law_web" [] (h + 2) 2 (cLWeb h) := by
    intro h
    induction h with
    | zero => exact (D 33 rfl (by decide +kernel)).fc (N := nLWeb) (ps := ["_law_lore", "_law_webs"]) ⟨rfl, rfl, rfl, by decide +kernel, rfl, by decide +kernel, by decide +kernel⟩ (fun _ _ _ _ _ _ us hl => match us, hl with | [_, _], _ => rfl) (ok_lweb 0 F fCn fPc fBe (fun j hj => by omega))
    | succ h ih => exact (D 33 rfl (by decide +kernel)).fc (N := nLWeb) (ps := ["_law_lore", "_law_webs"]) ⟨rfl, rfl, rfl, by decide +kernel, rfl, by decide +kernel, by decide +kernel⟩ (fun _ _ _ _ _ _ us hl => match us, hl with | [_, _], _ => rfl) (ok_lweb (h + 1) F fCn fPc fBe (fun j hj => by cases hj; exact ih))
  have fTa : Fc P w K mg base "_law_table" [] 1 1 cTable := (D 34 rfl (by decide +kernel)).fc (N := nTable) (ps := ["_law_web_here"]) ⟨rfl, rfl, rfl, by decide +kernel, rfl, by decide +kernel, by decide +kernel⟩ (fun _ _ _ _ _ _ us hl => match us, hl with | [_], _ => rfl) (ok_table F)
  have fSe : Fc P w K mg base "_law_sets" [] 1 1 cSets := (D 35 rfl (by decide +kernel)).fc (N := nSets) (ps := ["_law_size"]) ⟨rfl, rfl, rfl, by decide +kernel, rfl, by decide +kernel, by decide +kernel⟩ (fun _ _ _ _ _ _ us hl => match us, hl with | [_], _ => rfl) (ok_sets F)
  have fMo : Fc P w K mg base "_law_most" [] 2 2 cMost := (D 36 rfl (by decide +kernel)).fc (N := nMost) (ps := ["_law_web_here", "_law_is_circle"]) ⟨rfl, rfl, rfl, by decide +kernel, rfl, by decide +kernel, by decide +kernel⟩ (fun _ _ _ _ _ _ us hl => match us, hl with | [_, _], _ => rfl) (ok_most F gA fSe)
  have fRo : Fc P w K mg base "_law_rows_of" [] 2 1 cRowsOf := (D 37 rfl (by decide +kernel)).fc (N := nRowsOf) (ps := ["_law_web_here"]) ⟨rfl, rfl, rfl, by decide +kernel, rfl, by decide +kernel, by decide +kernel⟩ (fun _ _ _ _ _ _ us hl => match us, hl with | [_], _ => rfl) (ok_rowsof F fTa)
  have fHa : Fc P w K mg base "_law_hall_of" [] 2 1 cHallOf := (D 38 rfl (by decide +kernel)).fc (N := nHallOf) (ps := ["_law_web_here"]) ⟨rfl, rfl, rfl, by decide +kernel, rfl, by decide +kernel, by decide +kernel⟩ (fun _ _ _ _ _ _ us hl => match us, hl with | [_], _ => rfl) (ok_hallof F gA fTa)
  have fFv : Fc P w K mg base "_law_figures" [] 3 1 cFivs := (D 39 rfl (by decide +kernel)).fc (N := ["_law_web_here", "_law_found"]) (ps := ["_law_web_here"]) ⟨rfl, rfl, rfl, by decide +kernel, rfl, by decide +kernel, by decide +kernel⟩ (fun _ _ _ _ _ _ us hl => match us, hl with | [_], _ => rfl) (ok_fivs fMo fRo fHa)
  have fWd : Fc P w K mg base "_law_words" [] 1 0 cWordsR := (D 40 rfl (by decide +kernel)).fc (N := ([] : List Str)) (ps := []) ⟨rfl, rfl, rfl, by decide +kernel, rfl, by decide +kernel, by decide +kernel⟩ (fun _ _ _ _ _ _ us hl => match us, hl with | [], _ => rfl) (ok_wordsr)
  have fSm : Fc P w K mg base "_law_small" [] 8 3 cSmall8 := (D 41 rfl (by decide +kernel)).fc (N := ["_law_pot_here", "_law_most_here", "_law_names"]) (ps := ["_law_pot_here", "_law_most_here", "_law_names"]) ⟨rfl, rfl, rfl, by decide +kernel, rfl, by decide +kernel, by decide +kernel⟩ (fun _ _ _ _ _ _ us hl => match us, hl with | [_, _, _], _ => rfl) (ok_small8 fTk (fBu 4))
  have fRi : Gc P w K mg base "_law_right" 18 1 cRight14 := (D 42 rfl (by decide +kernel)).gc (N := nRight14) (ps := ["_law_pot_here"]) ⟨rfl, rfl, rfl, by decide +kernel, rfl, by decide +kernel, by decide +kernel⟩ (fun _ _ _ _ _ _ us hl => match us, hl with | [_], _ => rfl) (ok_right14 F (F.bn _ (by decide +kernel)) fSm fPl (fWb 4) fFv fWd fNr)
  exact fnG_ok (N := nLaw) (ps := ["_law_script"]) L ⟨rfl, rfl, rfl, by decide +kernel, rfl, by decide +kernel, by decide +kernel⟩ (ok_law14 F fCe fPot fRi)
theorem spLaw_ok {H : Hp} {a : Addr} {ns : List Int} {E : XK} (hS : SqL K H a (ns.map V.int)) : spD K 1 cLaw [.ref a] H (fun v _ => v = .bl true) E := by
  refine ⟨[scrD ns], fun _ => none, fun _ => False, fun d _ => d = .bl true, rfl, .cons ?_ .nil, ⟨fun b o e => (by cases e), fun b z => z.elim⟩, ⟨ns, rfl, fun _ => rfl⟩, fun v d H' M' x w' r e => ?_⟩
  · rcases hS with h1 | h1
    · exact .rol h1 ⟨rfl, id⟩ (Reps.ofInts ns)
    · exact .rolK h1 (Reps.ofInts ns)
  · subst e; cases r; rfl
theorem facts {f : Addr} (X : K.In h) (G : h.Ns mainGlobals mg) (hfa : mg ("law" : Str) = some (.ref f)) (c : Says spec w K) :
    ∃ fd : FuncData, (∀ (s : Shared) (v : Value), BindsTo s fd ⟨[v], []⟩ [("_law_script", v)]) ∧ ∀ base : Heap, K.In base → base.Ns mainGlobals mg → FnG P w K mg base 19 f fd ["_law_script"] (spD K 1 cLaw) := by
  obtain ⟨fd, L⟩ := c.dd 44 (d := gl "law" s_law) rfl
  have e := hfa.symm.trans (glo_ok X G (c.fa (f := .glo "law") (mem_glo (by decide +kernel))))
  cases e
  have b := FunD.bindsA (ps := ["_law_script"]) L fun _ _ _ _ _ _ us hl => match us, hl with | [_], _ => rfl
  obtain ⟨fi, DI⟩ := c.dd 0 rfl
  exact ⟨fd, fun s v => b s [v] rfl, fun base _ _ => chain (mkFx X G c) (mkPx X G c) (mkGx X G c) ⟨_, meth_ok (c.fa (f := .meth "Figures" "told_for") (mem_co 19 rfl)), ⟨c.dd 9 rfl⟩⟩ (let ⟨fd, F⟩ := c.dd 43 rfl; ⟨_, fd, F, glo_ok X G (c.fa (f := .glo "check_word") (mem_glo (by decide +kernel)))⟩) (c.txs (x := "WORDS") (zs := wordsL) (List.mem_singleton.mpr rfl)) (free_ok X G (c.fa (f := .free "any") (mem_co 25 rfl))) (str_ok X G (c.fa (f := .str "PEOPLE" "people") (mem_co 20 rfl))) (str_ok X G (c.fa (f := .str "CIRCLE" "circle") (mem_co 21 rfl))) (str_ok X G (c.fa (f := .str "STRANGERS" "strangers") (mem_co 22 rfl))) (str_ok X G (c.fa (f := .str "ROWS" "rows") (mem_co 23 rfl))) (str_ok X G (c.fa (f := .str "HALL" "hall") (mem_co 24 rfl))) ⟨_, fi, DI, glo_ok X G (c.fa (f := .glo "is_integer") (mem_glo (by decide +kernel)))⟩ (fun i {x st} hd hx => mkDf X G c i hd hx) L⟩
end
end W
open PySem PySem.W PySem.Calls PyProof.Rows
theorem PySem.Challenge.cw_greetall_k14_numbers_by_trying_holds : PySem.Challenge.rw_greetall_k14_numbers_by_trying.Holds := by
  w_on; o_law
  refine HandSHeadRun.head_any (r := W.R) (q := view W.R.prog [74]) (H := W.hk) (ob := W.ob) (M := 9000) (loose := W.names0 ++ W.names1 ++ W.names2) (d := HandSHeadRun.topDef W.R.prog 74) (kwd := []) W.ob_eq
    (by kernel_rfl) (fun s => by kernel_rfl) W.run (by kernel_rfl) (by kernel_rfl) (by kernel_rfl) (by rfl) (by first | assumption | decide +kernel) (by decide +kernel) ⟨rfl, rfl, rfl, rfl, rfl, by decide +kernel⟩ ?hw ?hc
  case hw => w_witness2
  case hc =>
    refine DL.walk_ofG (l := PySem.Challenge.rw_greetall_k14_numbers_by_trying) (n := 63) (k := 19) (x := "_law_script") rfl (by decide) (by kernel_rfl) ⟨rfl, by decide, by decide⟩ ?F
    intro w mg fa h Y G hmg0
    obtain ⟨K, KX, c⟩ := Y
    have hmg : mg ("law" : PySem.Str) = some (.ref fa) := by
      have e : (HandSHeadRun.topDef W.R.prog 74).name = ("law" : PySem.Str) := by kernel_rfl
      rw [← e]
      exact hmg0
    obtain ⟨fd, hb, hF⟩ := W.facts (P := (PySem.Challenge.rw_greetall_k14_numbers_by_trying).prog) (w := w) KX G hmg c
    exact ⟨K, fd, DL.spD K 1 W.cLaw, KX, hb, fun H a ns hl _ hS => W.spLaw_ok hS, hF⟩
